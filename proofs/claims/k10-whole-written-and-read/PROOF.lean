import PyProof.Rows.All
import Wide.All
import OpenK.AllK
import Wide.FinOn
import HandS.ForMost
import HandS.IsInst
import HandS.SetKeys
import HandS.Deep
import HandS.More
import HandS.Wide
import HandS.Style
import HandS.Defaults
import HandS.Evl
import HandS.Rev
import KE.KItemsList
import HandS.Zip
import HandS.Walk
import KE.GoesEnum
import KE.GoesMore
import HandS.Text
import KE.IntTextLaws
import HandS.ExcInit
import HandS.ExcField
import HandS.ClsMeth
import HandS.CallSlots
import PyProof.StrOps2
import PyProof.StrLawsChain
import KE.IntTextText
import HandS.SetFor
import HandS.TupAny
import KE.DataFind
import HandS.ForExc
import HandS.ExcOwn
import HandS.ExcIs
import HandS.ExcValue
import HandS.TryOnly
import HandS.TryMany
import HandS.WordsExc
import KE.KDictList
import HandS.Sort
import PySem.Challenge.RW_pegrise_k10_whole_written_and_read
set_option Elab.async false
set_option linter.all false
set_option maxRecDepth 100000
set_option maxHeartbeats 4000000
/-! PegU: readings that compute. -/
namespace U
open PySem PySem.Spec PyProof.Rows L2

/-! ### weaker readings -/
theorem pe_imp {X : Cx} {e : Expr} {t t' : TE} (h : PE X e t) (w : ∀ σ H Q, t' σ H Q → t σ H Q) : PE X e t' := ⟨fun pins s σ H Q I q => h.run pins s σ H Q I (w σ H Q q)⟩
theorem pt_imp {X : Cx} {e : Expr} {t t' : TT} (h : PT X e t) (w : ∀ σ H Q, t' σ H Q → t σ H Q) : PT X e t' := ⟨fun pins s σ H Q I q => h.run pins s σ H Q I (w σ H Q q)⟩
theorem op_imp {X : Cx} {f : Value → Value → Sem Value} {r r' : R2} (h : OpR X f r) (w : ∀ x y H Q, r' x y H Q → r x y H Q) : OpR X f r' := fun pins s σ H x y v u Q I rx ry q => h pins s σ H x y v u Q I rx ry (w x y H Q q)
theorem un_imp {X : Cx} {f : Value → Sem Value} {r r' : V → Hp → VK → Prop} (h : UnR X f r) (w : ∀ x H Q, r' x H Q → r x H Q) : UnR X f r' := fun pins s σ H x v Q I rx q => h pins s σ H x v Q I rx (w x H Q q)
theorem ix_imp {X : Cx} {r r' : R2} (h : IxR X r) (w : ∀ x y H Q, r' x y H Q → r x y H Q) : IxR X r' := fun value slice pins s σ H x y v u Q I rx ry q hs => h value slice pins s σ H x y v u Q I rx ry (w x y H Q q) hs
theorem call_imp {X : Cx} {f : Value} {r r' : List V → Hp → VK → Prop} (h : CallR X f r) (w : ∀ xs H Q, r' xs H Q → r xs H Q) : CallR X f r' := fun pins s σ H xs us Q I rx q => h pins s σ H xs us Q I rx (w xs H Q q)
theorem mt_imp {X : Cx} {id : String} {r r' : V → List V → Hp → VK → Prop} (h : MtR X id r) (w : ∀ x xs H Q, r' x xs H Q → r x xs H Q) : MtR X id r' := fun pins s σ H x xs v us Q I rx rxs q => h pins s σ H x xs v us Q I rx rxs (w x xs H Q q)
theorem sl_imp {X : Cx} {r r' : V → Option Int → Option Int → Hp → VK → Prop} (h : SlR X r) (w : ∀ x l u H Q, r' x l u H Q → r x l u H Q) : SlR X r' := fun pins s σ H x v vl vu lo hi sl Q I rx a b c q => h pins s σ H x v vl vu lo hi sl Q I rx a b c (w x lo hi H Q q)

/-! ### what is new, what is changed: the heap behind is a letter -/
def Chd (p : Addr) (H H' : Hp) : Prop := ∀ b o, b ≠ p → H b = some o → H' b = some o
abbrev New (H : Hp) (o : HO) (k : Addr → Hp → Prop) : Prop := ∀ (p : Addr) (H2 : Hp), H p = none → Same H H2 → H2 p = some o → k p H2
abbrev Chg (p : Addr) (H : Hp) (o : HO) (k : Hp → Prop) : Prop := ∀ (H2 : Hp), Chd p H H2 → H2 p = some o → k H2
theorem same_upd {H : Hp} {p : Addr} {o : HO} (h : H p = none) : Same H (upd H p o) := fun a u e => by
  rw [upd_ne (ne_of_none e h)]
  exact e
theorem chd_upd {H : Hp} {p : Addr} {o : HO} : Chd p H (upd H p o) := fun a u ne e => by
  rw [upd_ne ne]
  exact e
theorem New.at {H : Hp} {o : HO} {k : Addr → Hp → Prop} (h : New H o k) : ∀ p, H p = none → k p (upd H p o) := fun p hp => h p _ hp (same_upd hp) upd_same
theorem Chg.at {H : Hp} {p : Addr} {o : HO} {k : Hp → Prop} (h : Chg p H o k) : k (upd H p o) := h _ chd_upd upd_same

/-! ### slots -/
def uVar (i : Nat) : TE := fun σ H Q => match σ[i]? with
  | some (some v) => Q v H
  | _ => False
theorem var_imp {i : Nat} {σ : L2.St} {H : Hp} {Q : VK} (h : uVar i σ H Q) : tVar i σ H Q := by
  unfold uVar at h
  split at h
  · exact ⟨_, by assumption, h⟩
  · exact h.elim
theorem uv {X : Cx} (i : Nat) {x : Str} {pos : Pos} (hN : X.N[i]? = some x := by rfl) (hv : Vis X.env.scope x := by first | exact Or.inl rfl | exact Or.inr (Or.inl rfl) | exact Or.inr (Or.inr rfl)) (hd : (x == ("__debug__" : Str)) = false := by decide)
    (hcd : (x == ("__classdict__" : Str)) = false := by decide) : PE X (.Name x pos) (uVar i) := pe_imp (pe_var hN hv hd hcd) fun _ _ _ => var_imp

/-! ### two ints, two texts, two truths -/
def cII (g : Int → Int → V) : R2 := fun x y H Q => match x, y with
  | .int i, .int j => Q (g i j) H
  | _, _ => False
def cIIc (C : Int → Int → Prop) (g : Int → Int → V) : R2 := fun x y H Q => match x, y with
  | .int i, .int j => C i j ∧ Q (g i j) H
  | _, _ => False
/-- a bound on the second one alone -/
def cIJ (C : Int → Prop) (g : Int → Int → V) : R2 := fun x y H Q => match x, y with
  | .int i, .int j => C j ∧ Q (g i j) H
  | _, _ => False
def cSS (g : Str → Str → V) : R2 := fun x y H Q => match x, y with
  | .str i, .str j => Q (g i j) H
  | _, _ => False
def cBB (g : Bool → Bool → V) : R2 := fun x y H Q => match x, y with
  | .bl i, .bl j => Q (g i j) H
  | _, _ => False
theorem cII_ok {X : Cx} {f : Value → Value → Sem Value} {g : Int → Int → V} (h : OpR X f (rI0 g)) : OpR X f (cII g) := op_imp h fun x y H Q q => by
  cases x <;> cases y <;> first | exact ⟨_, _, rfl, rfl, q⟩ | exact False.elim q
theorem cIIc_ok {X : Cx} {f : Value → Value → Sem Value} {C : Int → Int → Prop} {g : Int → Int → V} (h : OpR X f (rI C g)) : OpR X f (cIIc C g) := op_imp h fun x y H Q q => by
  cases x <;> cases y <;> first | exact ⟨_, _, rfl, rfl, q⟩ | exact False.elim q
def kAdd : R2 := fun x y H Q => match x, y with
  | .int i, .int j => Q (.int (i + j)) H
  | _, _ => False
def kSub : R2 := fun x y H Q => match x, y with
  | .int i, .int j => Q (.int (i - j)) H
  | _, _ => False
def kMul : R2 := fun x y H Q => match x, y with
  | .int i, .int j => CMul i j ∧ Q (.int (i * j)) H
  | _, _ => False
def kMulW : R2 := fun x y H Q => match x, y with
  | .int i, .int j => CMulW i j ∧ Q (.int (i * j)) H
  | _, _ => False
def kMod : R2 := fun x y H Q => match x, y with
  | .int i, .int j => (0 < j) ∧ Q (.int (i % j)) H
  | _, _ => False
def kDiv : R2 := fun x y H Q => match x, y with
  | .int i, .int j => (0 < j ∧ j < 1073741824) ∧ Q (.int (i / j)) H
  | _, _ => False
def kPow : R2 := fun x y H Q => match x, y with
  | .int i, .int j => CPow i j ∧ Q (.int (i ^ j.toNat)) H
  | _, _ => False
def kLt : R2 := fun x y H Q => match x, y with
  | .int i, .int j => Q (.bl (decide (i < j))) H
  | _, _ => False
def kLe : R2 := fun x y H Q => match x, y with
  | .int i, .int j => Q (.bl (decide (i ≤ j))) H
  | _, _ => False
def kGt : R2 := fun x y H Q => match x, y with
  | .int i, .int j => Q (.bl (decide (j < i))) H
  | _, _ => False
def kGe : R2 := fun x y H Q => match x, y with
  | .int i, .int j => Q (.bl (decide (j ≤ i))) H
  | _, _ => False
def kEqI : R2 := fun x y H Q => match x, y with
  | .int i, .int j => Q (.bl (decide (i = j))) H
  | _, _ => False
def kNeI : R2 := fun x y H Q => match x, y with
  | .int i, .int j => Q (.bl (!decide (i = j))) H
  | _, _ => False
def kEqS : R2 := fun x y H Q => match x, y with
  | .str i, .str j => Q (.bl (decide (i = j))) H
  | _, _ => False
def kNeS : R2 := fun x y H Q => match x, y with
  | .str i, .str j => Q (.bl (!decide (i = j))) H
  | _, _ => False
def kEqB : R2 := fun x y H Q => match x, y with
  | .bl i, .bl j => Q (.bl (decide (i = j))) H
  | _, _ => False
def kNeB : R2 := fun x y H Q => match x, y with
  | .bl i, .bl j => Q (.bl (!decide (i = j))) H
  | _, _ => False
def kLtS : R2 := fun x y H Q => match x, y with
  | .str i, .str j => Q (.bl (decide (i.cps.toList < j.cps.toList))) H
  | _, _ => False
theorem cIJ_ok {X : Cx} {f : Value → Value → Sem Value} {C : Int → Int → Prop} {C' : Int → Prop} {g : Int → Int → V} (h : OpR X f (rI C g)) (w : ∀ i j, C' j → C i j) : OpR X f (cIJ C' g) := op_imp h fun x y H Q q => by
  cases x <;> cases y <;> first | exact ⟨_, _, rfl, rfl, w _ _ q.1, q.2⟩ | exact False.elim q
section
variable {X : Cx}
theorem o_add : OpR X (binaryOp .Add) kAdd := op_imp op_add fun x y H Q q => by
  cases x <;> cases y <;> first | exact ⟨_, _, rfl, rfl, q⟩ | exact False.elim q
theorem o_sub : OpR X (binaryOp .Sub) kSub := op_imp op_sub fun x y H Q q => by
  cases x <;> cases y <;> first | exact ⟨_, _, rfl, rfl, q⟩ | exact False.elim q
theorem o_mul : OpR X (binaryOp .Mult) kMul := op_imp op_mul fun x y H Q q => by
  cases x <;> cases y <;> first | exact ⟨_, _, rfl, rfl, q⟩ | exact False.elim q
theorem o_mulW : OpR X (binaryOp .Mult) kMulW := op_imp op_mulW fun x y H Q q => by
  cases x <;> cases y <;> first | exact ⟨_, _, rfl, rfl, q⟩ | exact False.elim q
theorem o_mod : OpR X (binaryOp .Mod) kMod := op_imp op_mod fun x y H Q q => by
  cases x <;> cases y <;> first | exact ⟨_, _, rfl, rfl, q⟩ | exact False.elim q
theorem o_div : OpR X (binaryOp .FloorDiv) kDiv := op_imp op_fdiv fun x y H Q q => by
  cases x <;> cases y <;> first | exact ⟨_, _, rfl, rfl, q⟩ | exact False.elim q
def kDivW : R2 := fun x y H Q => match x, y with
  | .int i, .int j => CDivW i j ∧ Q (.int (i / j)) H
  | _, _ => False
theorem o_divW : OpR X (binaryOp .FloorDiv) kDivW := op_imp op_fdivW fun x y H Q q => by
  cases x <;> cases y <;> first | exact ⟨_, _, rfl, rfl, q⟩ | exact False.elim q
theorem o_pow : OpR X (binaryOp .Pow) kPow := op_imp op_pow fun x y H Q q => by
  cases x <;> cases y <;> first | exact ⟨_, _, rfl, rfl, q⟩ | exact False.elim q
theorem o_lt : OpR X (compareOp .Lt) kLt := op_imp op_lt fun x y H Q q => by
  cases x <;> cases y <;> first | exact ⟨_, _, rfl, rfl, q⟩ | exact False.elim q
theorem o_le : OpR X (compareOp .LtE) kLe := op_imp op_le fun x y H Q q => by
  cases x <;> cases y <;> first | exact ⟨_, _, rfl, rfl, q⟩ | exact False.elim q
theorem o_gt : OpR X (compareOp .Gt) kGt := op_imp op_gt fun x y H Q q => by
  cases x <;> cases y <;> first | exact ⟨_, _, rfl, rfl, q⟩ | exact False.elim q
theorem o_ge : OpR X (compareOp .GtE) kGe := op_imp op_ge fun x y H Q q => by
  cases x <;> cases y <;> first | exact ⟨_, _, rfl, rfl, q⟩ | exact False.elim q
theorem o_eqI : OpR X (compareOp .Eq) kEqI := op_imp op_eq fun x y H Q q => by
  cases x <;> cases y <;> first
    | (refine ⟨rfl, ?_⟩; rw [dec_int, Bool.beq_eq_decide_eq]; exact q)
    | exact False.elim q
theorem o_neI : OpR X (compareOp .NotEq) kNeI := op_imp op_ne fun x y H Q q => by
  cases x <;> cases y <;> first
    | (refine ⟨rfl, ?_⟩; rw [dec_int, Bool.beq_eq_decide_eq]; exact q)
    | exact False.elim q
theorem o_eqS : OpR X (compareOp .Eq) kEqS := op_imp op_eq fun x y H Q q => by
  cases x <;> cases y <;> first
    | (refine ⟨rfl, ?_⟩; rw [dec_str, Bool.beq_eq_decide_eq]; exact q)
    | exact False.elim q
theorem o_neS : OpR X (compareOp .NotEq) kNeS := op_imp op_ne fun x y H Q q => by
  cases x <;> cases y <;> first
    | (refine ⟨rfl, ?_⟩; rw [dec_str, Bool.beq_eq_decide_eq]; exact q)
    | exact False.elim q
theorem o_eqB : OpR X (compareOp .Eq) kEqB := op_imp op_eq fun x y H Q q => by
  cases x <;> cases y <;> first
    | (refine ⟨rfl, ?_⟩; rw [dec_bl, Bool.beq_eq_decide_eq]; exact q)
    | exact False.elim q
theorem o_neB : OpR X (compareOp .NotEq) kNeB := op_imp op_ne fun x y H Q q => by
  cases x <;> cases y <;> first
    | (refine ⟨rfl, ?_⟩; rw [dec_bl, Bool.beq_eq_decide_eq]; exact q)
    | exact False.elim q
theorem o_ltS : OpR X (compareOp .Lt) kLtS := op_imp op_lt_str fun x y H Q q => by
  cases x <;> cases y <;> first | exact ⟨_, _, rfl, rfl, q⟩ | exact False.elim q
def cAddS : R2 := fun x y H Q => match x, y with
  | .str i, .str j => i.length + j.length ≤ sizeLine ∧ Q (.str (i ++ j)) H
  | _, _ => False
theorem o_addS : OpR X (binaryOp .Add) cAddS := op_imp op_add_str fun x y H Q q => by
  cases x <;> cases y <;> first | exact ⟨_, _, rfl, rfl, q⟩ | exact False.elim q
def cNon (b : Bool) : R2 := fun x y H Q => match y with
  | .non => Q (.bl (match x with | .non => b | _ => !b)) H
  | _ => False
theorem o_isN : OpR X (compareOp .Is) (cNon true) := op_imp op_isN fun x y H Q q => by
  cases y <;> first
    | (refine ⟨rfl, ?_⟩; cases x <;> exact q)
    | exact False.elim q
theorem o_notN : OpR X (compareOp .IsNot) (cNon false) := op_imp op_notN fun x y H Q q => by
  cases y <;> first
    | (refine ⟨rfl, ?_⟩; cases x <;> exact q)
    | exact False.elim q
/-- one sign in a text -/
def cSign (b : Bool) : R2 := fun x y H Q => match x, y with
  | .str i, .str z => ∃ c, i = ⟨#[c]⟩ ∧ Q (.bl (if b then decide (c ∈ z.cps.toList) else !decide (c ∈ z.cps.toList))) H
  | _, _ => False
theorem o_inSign : OpR X (compareOp .In) (cSign true) := op_imp op_in_sign fun x y H Q q => by
  cases x <;> cases y <;> first
    | (obtain ⟨c, e, q⟩ := q; subst e; exact ⟨_, _, rfl, rfl, q⟩)
    | exact False.elim q
theorem o_notInSign : OpR X (compareOp .NotIn) (cSign false) := op_imp op_notIn_sign fun x y H Q q => by
  cases x <;> cases y <;> first
    | (obtain ⟨c, e, q⟩ := q; subst e; exact ⟨_, _, rfl, rfl, q⟩)
    | exact False.elim q
def cI (g : Int → V) : V → Hp → VK → Prop := fun x H Q => match x with
  | .int i => Q (g i) H
  | _ => False
def kNeg : V → Hp → VK → Prop := fun x H Q => match x with
  | .int i => Q (.int (-i)) H
  | _ => False
theorem n_neg : UnR X (unaryOp .USub) kNeg := un_imp un_neg fun x H Q q => by
  cases x <;> first | exact ⟨_, rfl, q⟩ | exact False.elim q

/-! ### subscripts -/
def cIxL (K : PySem.W.Frag) : R2 := fun x y H Q => match x, y with
  | .ref p, .int i => ∃ xs v, SqL K H p xs ∧ atI xs i = some v ∧ Q v H
  | _, _ => False
def cIxT (K : PySem.W.Frag) : R2 := fun x y H Q => match x, y with
  | .ref p, .int i => ∃ xs v, SqT K H p xs ∧ atI xs i = some v ∧ Q v H
  | _, _ => False
def cIxS : R2 := fun x y H Q => match x, y with
  | .str z, .int i => ∃ c, z.length ≤ sizeLine ∧ atI z.cps.toList i = some c ∧ Q (.str ⟨#[c]⟩) H
  | _, _ => False
theorem x_list : IxR X (cIxL X.K) := ix_imp ix_list fun x y H Q q => by
  cases x <;> cases y <;> first
    | (obtain ⟨xs, v, a, b, q⟩ := q; exact ⟨_, _, _, _, rfl, rfl, a, b, q⟩)
    | exact False.elim q
theorem x_tup : IxR X (cIxT X.K) := ix_imp ix_tup fun x y H Q q => by
  cases x <;> cases y <;> first
    | (obtain ⟨xs, v, a, b, q⟩ := q; exact ⟨_, _, _, _, rfl, rfl, a, b, q⟩)
    | exact False.elim q
theorem x_str : IxR X cIxS := ix_imp ix_str fun x y H Q q => by
  cases x <;> cases y <;> first
    | (obtain ⟨c, a, b, q⟩ := q; exact ⟨_, _, _, rfl, rfl, a, b, q⟩)
    | exact False.elim q
theorem plainIx {b : Expr} (h : ∀ o i, subscripted b false o i = operate [o, i] (getItem o i) := by intro _ _; rfl) : PlainIx b := h
/-- a dict's item -/
def uDGet (td ty : TE) : TE := fun σ H Q => td σ H fun x H1 => ty σ H1 fun y H2 => match x with
  | .ref a => ∃ v, DGet H2 a y (some v) ∧ Q v H2
  | _ => False
theorem u_dget {o i : Expr} {td ty : TE} {pos : Pos} (hu : X.A.units + 1 < cLine) (ho : PE X o td) (hi : PE X i ty) (hs : NoSl i := by intro _ _; rfl) : PE X (.Subscript o i pos) (uDGet td ty) := by
  refine ⟨fun pins s σ H Q I h => ?_⟩
  refine subD_of PySem.F.slot_dict_getitem.lookup hs (thn (ho.run pins s σ H _ I h) fun u s1 ⟨x, H1, I1, rx, q1⟩ => thn (hi.run pins s1 σ H1 _ I1 q1) fun iv s2 ⟨y, H2, I2, ry, q2⟩ => ?_)
  cases x with
  | ref a =>
    obtain ⟨v, g, q2⟩ := q2
    obtain rfl : u = Value.ref a := rx
    exact ⟨dict_typeIs I2 g, d_getItem hu I2 g ry fun w' s3 I3 rw' => ⟨v, H2, I3, rw', q2⟩⟩
  | _ => exact False.elim q2
/-! ### comparisons -/
theorem c_op {a b : Expr} {op : CmpOp} {r : R2} {ta tb : TE} (ho : OpR X (compareOp op) r) (ha : PE X a ta) (hb : PE X b tb) : PC X op a b (tOp r ta tb) :=
  ⟨fun pins s σ H Q I h => binT ha hb I h fun v u s2 x y H2 I2 rx ry q => ho pins s2 σ H2 x y v u Q I2 rx ry q⟩
/-- a key in a dict -/
def uDIn (b : Bool) (ty td : TE) : TE := fun σ H Q => ty σ H fun y H1 => td σ H1 fun x H2 => match x with
  | .ref a => ∃ o, DGet H2 a y o ∧ Q (.bl (if b then o.isSome else !o.isSome)) H2
  | _ => False
theorem c_din {o i : Expr} {td ty : TE} (hu : X.A.units + 1 < cLine) (hi : PE X i ty) (ho : PE X o td) : PC X .In i o (uDIn true ty td) := by
  refine ⟨fun pins s σ H Q I h => ?_⟩
  refine thn (hi.run pins s σ H _ I h) fun iv s1 ⟨y, H1, I1, ry, q1⟩ => thn (ho.run pins s1 σ H1 _ I1 q1) fun u s2 ⟨x, H2, I2, rx, q2⟩ => ?_
  cases x with
  | ref a =>
    obtain ⟨o, g, q2⟩ := q2
    obtain rfl : u = Value.ref a := rx
    exact d_in hu I2 g ry fun s3 I3 => ⟨.bl o.isSome, H2, I3, rfl, q2⟩
  | _ => exact False.elim q2
theorem c_dnotin {o i : Expr} {td ty : TE} (hu : X.A.units + 1 < cLine) (hi : PE X i ty) (ho : PE X o td) : PC X .NotIn i o (uDIn false ty td) := by
  refine ⟨fun pins s σ H Q I h => ?_⟩
  refine thn (hi.run pins s σ H _ I h) fun iv s1 ⟨y, H1, I1, ry, q1⟩ => thn (ho.run pins s1 σ H1 _ I1 q1) fun u s2 ⟨x, H2, I2, rx, q2⟩ => ?_
  cases x with
  | ref a =>
    obtain ⟨o, g, q2⟩ := q2
    obtain rfl : u = Value.ref a := rx
    exact d_notIn hu I2 g ry fun s3 I3 => ⟨.bl (!o.isSome), H2, I3, rfl, q2⟩
  | _ => exact False.elim q2
/-- as a value -/
theorem e_cmp {a b : Expr} {op : CmpOp} {t : TE} {pos : Pos} (h : PC X op a b t) (hm : behindInMarks op b = false := by first | exact nobehind _ (by decide) (by decide) | rfl) : PE X (.Compare a [op] [b] pos) t := pe_cmp h hm

/-! ### tests -/
structure Br (b : Bool) (A B : Prop) : Prop where
  tt : b = true → A
  ff : b = false → B
theorem br_t {A B : Prop} (h : A) : Br true A B := ⟨fun _ => h, fun z => nomatch z⟩
theorem br_f {A B : Prop} (h : B) : Br false A B := ⟨(fun z => nomatch z), fun _ => h⟩
/-- the answer is known -/
theorem br_tt {b : Bool} {A B : Prop} (e : b = true) (h : A) : Br b A B := by subst e; exact br_t h
theorem br_ff {b : Bool} {A B : Prop} (e : b = false) (h : B) : Br b A B := by subst e; exact br_f h
def uT (t : TE) : TT := fun σ H Q => t σ H fun x H1 => match x with
  | .bl k => Q k H1
  | _ => False
/-- an expression with a truth for a value, as a test: any one but a comparison, and, or, not -/
theorem t_val {e : Expr} {t : TE} (h : PE X e t) (he : ∀ whole, isTrue e X.env whole = (do let v ← whole; standAt e.pos; holding [v] (truthy v)) := by intro _; rfl) : PT X e (uT t) := by
  refine ⟨fun pins s σ H Q I hw => ?_⟩
  refine isTrue_plain (thn (h.run pins s σ H _ I hw) fun v s1 ⟨x, H1, I1, r1, q1⟩ => ?_) (he _)
  cases x with
  | bl k =>
    cases r1
    exact wpAny_truthy_bool ⟨H1, I1, q1⟩
  | _ => exact False.elim q1
/-- a comparison as a test -/
theorem t_cmp {a b : Expr} {op : CmpOp} {t : TE} {pos : Pos} (h : PC X op a b t) (h1 : behindInMarks op b = false := by first | exact nobehind _ (by decide) (by decide) | rfl) : PT X (.Compare a [op] [b] pos) (uT t) := by
  refine ⟨fun pins s σ H Q I hw => ?_⟩
  refine wpAny_isTrue_Compare1 (thn (h.run pins s σ H _ I hw) fun v s1 h1 => thn h1 fun u s2 h2 => thn h2 fun c s3 ⟨x, H1, I1, r1, q1⟩ => ?_) h1
  cases x with
  | bl k =>
    cases r1
    exact wpAny_truthy_bool ⟨H1, I1, q1⟩
  | _ => exact False.elim q1
def uAnd (t u : TT) : TT := fun σ H Q => t σ H fun c H1 => Br c (u σ H1 Q) (Q false H1)
def uOr (t u : TT) : TT := fun σ H Q => t σ H fun c H1 => Br c (Q true H1) (u σ H1 Q)
def uNot (t : TT) : TT := fun σ H Q => t σ H fun c H1 => Q (!c) H1
section
variable {a b : Expr} {rest : List Expr} {tA tB' : TT} {ta tb : TE} {pos : Pos}
theorem w_and (ha : PT X a tA) (hb : PW X (.BoolOp .And (b :: rest) pos) tB') : PW X (.BoolOp .And (a :: b :: rest) pos) (uAnd tA tB') := by
  refine ⟨fun wh pins s σ H Q I h => ?_⟩
  refine isTrue_and (thn (ha.run pins s σ H _ I h) fun c s1 ⟨H1, I1, q1⟩ => ?_)
  cases c with
  | true => exact hb.run wh pins s1 σ H1 Q I1 (q1.tt rfl)
  | false => exact ⟨H1, I1, q1.ff rfl⟩
theorem w_or (ha : PT X a tA) (hb : PW X (.BoolOp .Or (b :: rest) pos) tB') : PW X (.BoolOp .Or (a :: b :: rest) pos) (uOr tA tB') := by
  refine ⟨fun wh pins s σ H Q I h => ?_⟩
  refine isTrue_or (thn (ha.run pins s σ H _ I h) fun c s1 ⟨H1, I1, q1⟩ => ?_)
  cases c with
  | true => exact ⟨H1, I1, q1.tt rfl⟩
  | false => exact hb.run wh pins s1 σ H1 Q I1 (q1.ff rfl)
theorem t_not (ha : PT X a tA) : PT X (.UnaryOp .Not a pos) (uNot tA) := pt_not ha
def uAndV (ta tb : TE) : TE := fun σ H Q => ta σ H fun x H1 => match x with
  | .bl c => Br c (tb σ H1 Q) (Q (.bl false) H1)
  | _ => False
def uOrV (ta tb : TE) : TE := fun σ H Q => ta σ H fun x H1 => match x with
  | .bl c => Br c (Q (.bl true) H1) (tb σ H1 Q)
  | _ => False
def uNotV (ta : TE) : TE := fun σ H Q => ta σ H fun x H1 => match x with
  | .bl c => Q (.bl (!c)) H1
  | _ => False
theorem v_and (ha : PE X a ta) (hb : PE X (.BoolOp .And (b :: rest) pos) tb) : PE X (.BoolOp .And (a :: b :: rest) pos) (uAndV ta tb) := by
  refine ⟨fun pins s σ H Q I h => ?_⟩
  refine BoolOp_and (thn (ha.run pins s σ H _ I h) fun v s1 ⟨x, H1, I1, r1, q1⟩ => ?_)
  cases x with
  | bl c =>
    cases r1
    refine wpAny_truthy_bool ?_
    cases c with
    | true => exact hb.run pins s1 σ H1 Q I1 (q1.tt rfl)
    | false => exact ⟨.bl false, H1, I1, rfl, q1.ff rfl⟩
  | _ => exact False.elim q1
theorem v_or (ha : PE X a ta) (hb : PE X (.BoolOp .Or (b :: rest) pos) tb) : PE X (.BoolOp .Or (a :: b :: rest) pos) (uOrV ta tb) := by
  refine ⟨fun pins s σ H Q I h => ?_⟩
  refine BoolOp_or (thn (ha.run pins s σ H _ I h) fun v s1 ⟨x, H1, I1, r1, q1⟩ => ?_)
  cases x with
  | bl c =>
    cases r1
    refine wpAny_truthy_bool ?_
    cases c with
    | false => exact hb.run pins s1 σ H1 Q I1 (q1.ff rfl)
    | true => exact ⟨.bl true, H1, I1, rfl, q1.tt rfl⟩
  | _ => exact False.elim q1
theorem v_not (ha : PE X a ta) : PE X (.UnaryOp .Not a pos) (uNotV ta) := by
  refine ⟨fun pins s σ H Q I h => ?_⟩
  refine UnaryOp_ (thn (ha.run pins s σ H _ I h) fun v s1 ⟨x, H1, I1, r1, q1⟩ => ?_)
  cases x with
  | bl c =>
    cases r1
    exact not_of (wpAny_truthy_bool ⟨.bl (!c), H1, I1, rfl, q1⟩)
  | _ => exact False.elim q1
def uIf (t : TT) (ta tb : TE) : TE := fun σ H Q => t σ H fun c H1 => Br c (ta σ H1 Q) (tb σ H1 Q)
theorem v_if {c : Expr} (hc : PT X c tA) (ha : PE X a ta) (hb : PE X b tb) : PE X (.IfExp c a b pos) (uIf tA ta tb) := by
  refine ⟨fun pins s σ H Q I h => ?_⟩
  refine wpAny_IfExp (thn (hc.run pins s σ H _ I h) fun d s1 ⟨H1, I1, q1⟩ => ?_)
  cases d with
  | true => exact ha.run pins s1 σ H1 Q I1 (q1.tt rfl)
  | false => exact hb.run pins s1 σ H1 Q I1 (q1.ff rfl)
def uIfS (c : TT) (t u : TS) : TS := fun D σ H => c σ H fun b H1 => Br b (t D σ H1) (u D σ H1)
theorem s_if {c : Expr} {sa sb : List Stmt} {tc : TT} {t u : TS} (hc : PT X c tc) (ha : PSs X sa t) (hb : PSs X sb u) : PS X (.If c sa sb pos) (uIfS tc t u) := by
  refine ⟨fun pins s σ H D I h => ?_⟩
  refine wpAny_If (thn (hc.run pins s σ H _ I h) fun d s1 ⟨H1, I1, q1⟩ => ?_)
  cases d with
  | true => exact ha.run pins s1 σ H1 D I1 (q1.tt rfl)
  | false => exact hb.run pins s1 σ H1 D I1 (q1.ff rfl)
end

/-! ### readings closed upward -/
def upE (t : TE) : TE := fun σ H R => ∃ S : VK, t σ H S ∧ ∀ v H1, S v H1 → R v H1
def upA (t : TA) : TA := fun σ H R => ∃ S : List V → Hp → Prop, t σ H S ∧ ∀ v H1, S v H1 → R v H1
theorem pe_up {e : Expr} {t : TE} (h : PE X e t) : PE X e (upE t) := ⟨fun pins s σ H Q I ⟨S, q, w⟩ => thn (h.run pins s σ H S I q) fun u s1 ⟨v, H1, I1, r1, q1⟩ => ⟨v, H1, I1, r1, w v H1 q1⟩⟩
theorem pa_up {es : List Expr} {t : TA} (h : PA X es t) : PA X es (upA t) := ⟨fun pos pins s σ H Q I ⟨S, q, w⟩ => thn (h.run pos pins s σ H S I q) fun u s1 ⟨v, H1, I1, r1, q1⟩ => ⟨v, H1, I1, r1, w v H1 q1⟩⟩
theorem ps_imp {st : Stmt} {t t' : TS} (h : PS X st t) (w : ∀ D σ H, t' D σ H → t D σ H) : PS X st t' := ⟨fun pins s σ H D I q => h.run pins s σ H D I (w D σ H q)⟩
theorem upE.of {t : TE} {σ : L2.St} {H : Hp} {S R : VK} (q : t σ H S) (w : ∀ v H1, S v H1 → R v H1) : upE t σ H R := ⟨S, q, w⟩

/-! ### displays -/
def uTup (t : TA) : TE := fun σ H Q => t σ H fun xs H1 => xs.length ≤ sizeLine ∧ New H1 (.tup xs) fun p H2 => Q (.ref p) H2
def uLst (t : TA) : TE := fun σ H Q => t σ H fun xs H1 => xs.length ≤ sizeLine ∧ New H1 (.lst xs) fun p H2 => Q (.ref p) H2
theorem e_tup {es : List Expr} {t : TA} {x1} {pos : Pos} (h : PA X es t) : PE X (.Tuple es x1 pos) (uTup t) := pe_imp (pe_tup (pa_up h)) fun σ H Q q => ⟨_, q, fun xs H1 k => ⟨k.1, New.at k.2⟩⟩
theorem e_lst {es : List Expr} {t : TA} {pos : Pos} (h : PA X es t) : PE X (.List es pos) (uLst t) := pe_imp (pe_lst (pa_up h)) fun σ H Q q => ⟨_, q, fun xs H1 k => ⟨k.1, New.at k.2⟩⟩
def uDNew : TE := fun _ H Q => New H (.dK []) fun p H2 => Q (.ref p) H2
theorem e_dnew {pos : Pos} : PE X (.Dict [] [] pos) uDNew := pe_imp pe_dnewK fun σ H Q q => New.at q
/-- a dict of one pair, its key a text or a number -/
def uDisp1 (tk tv : TE) : TE := fun σ H Q => New H (.dK []) fun p H1 => tk σ H1 fun k H2 => tv σ H2 fun v H3 => ∃ key : Key, k = kV key ∧ H3 p = some (.dK []) ∧ Chg p H3 (.dK [(key, v)]) fun H4 => Q (.ref p) H4
theorem e_disp1 {k v : Expr} {tk tv : TE} {pos : Pos} (hk : PE X k tk) (hv : PE X v tv) : PE X (.Dict [some k] [v] pos) (uDisp1 tk tv) :=
  pe_imp (pe_disp (pps_cons (pe_up hk) (pe_up hv) pps_nil) (by rfl) (by rfl) (fun z => by cases z) (show 1 ≤ 15 by decide)) fun σ H Q q p hp =>
    ⟨_, q p _ hp (same_upd hp) upd_same, fun kv H2 q2 => ⟨_, q2, fun vv H3 q3 => by
      obtain ⟨key, e1, e2, q4⟩ := q3
      exact ⟨e2, [(key, vv)], by rw [e1]; rfl, show 1 ≤ 15 by decide, q4.at⟩⟩⟩

/-! ### dicts changed -/
def uDPut (td ty tv : TE) : TS := fun D σ H => tv σ H fun v H1 => td σ H1 fun x H2 => ty σ H2 fun y H3 => match x with
  | .ref a => ∃ kvs k, H3 a = some (.dK kvs) ∧ y = kV k ∧ kvs.length < sizeLine ∧ Chg a H3 (.dK (putK kvs k v)) fun H4 => D.nx σ H4
  | _ => False
theorem s_dput {o i value : Expr} {td ty tv : TE} {pos pos' : Pos} (hu : X.A.units + 1 < cLine) (ho : PE X o td) (hi : PE X i ty) (hv : PE X value tv) (hs : swapsWith value (some (.Subscript o i pos')) pos.line X.env = pure false) : PS X (.Assign [.Subscript o i pos'] value pos) (uDPut td ty tv) :=
  ps_imp (ps_dput hu (pe_up ho) (pe_up hi) (pe_up hv) hs) fun D σ H q => ⟨_, q, fun v H1 q1 => ⟨_, q1, fun x H2 q2 => ⟨_, q2, fun y H3 q3 => by
    cases x with
    | ref a =>
      obtain ⟨kvs, k, h1, h2, h3, q4⟩ := q3
      subst h2
      exact ⟨a, _, rfl, DPut.k h1 h3, q4.at⟩
    | _ => exact False.elim q3⟩⟩⟩
def uDSetd (td ty tx : TE) : TE := fun σ H Q => td σ H fun x H1 => match x with
  | .ref a => (∃ kvs, H1 a = some (.dK kvs)) ∧ ty σ H1 fun y H2 => tx σ H2 fun z H3 => ∃ (kvs : List (Key × V)) (k : Key), H3 a = some (.dK kvs) ∧ y = kV k ∧ kvs.length < sizeLine ∧
      (∀ v, valV kvs k = some v → Q v H3) ∧ (valV kvs k = none → Chg a H3 (.dK (putK kvs k z)) fun H4 => Q z H4)
  | _ => False
theorem e_dsetd {o e f : Expr} {td ty tx : TE} {apos cpos : Pos} (ho : PE X o td) (he : PE X e ty) (hf : PE X f tx) (m : M2 X o "setdefault" apos e f cpos) : PE X (.Call (.Attribute o "setdefault" apos) [e, f] [] cpos) (uDSetd td ty tx) :=
  pe_imp (pe_dsetd (pe_up ho) (pe_up he) (pe_up hf) m) fun σ H Q q => ⟨_, q, fun x H1 q1 => by
    cases x with
    | ref a =>
      obtain ⟨⟨kv0, h0⟩, q1⟩ := q1
      exact ⟨a, rfl, .inl ⟨kv0, .inl h0⟩, _, q1, fun y H2 q2 => ⟨_, q2, fun z H3 ⟨kvs, k, h1, h2, h3, q3, q4⟩ => ⟨kvs, k, h1, h2, h3, q3, fun n => (q4 n).at⟩⟩⟩
    | _ => exact False.elim q1⟩
def uDGet2 (td ty tx : TE) : TE := fun σ H Q => td σ H fun x H1 => match x with
  | .ref a => (∃ kvs, H1 a = some (.dK kvs)) ∧ ty σ H1 fun y H2 => tx σ H2 fun z H3 => ∃ (kvs : List (Key × V)) (k : Key), H3 a = some (.dK kvs) ∧ y = kV k ∧ Q ((valV kvs k).getD z) H3
  | _ => False
theorem e_dget2 {o e f : Expr} {td ty tx : TE} {apos cpos : Pos} (hu : X.A.units + 1 < cLine) (ho : PE X o td) (he : PE X e ty) (hf : PE X f tx) (m : M2 X o "get" apos e f cpos) : PE X (.Call (.Attribute o "get" apos) [e, f] [] cpos) (uDGet2 td ty tx) :=
  pe_imp (pe_dget2 hu (pe_up ho) (pe_up he) (pe_up hf) m) fun σ H Q q => ⟨_, q, fun x H1 q1 => by
    cases x with
    | ref a =>
      obtain ⟨⟨kv0, h0⟩, q1⟩ := q1
      exact ⟨a, rfl, .inl ⟨kv0, .inl h0⟩, _, q1, fun y H2 q2 => ⟨_, q2, fun z H3 ⟨kvs, k, h1, h2, q3⟩ => ⟨_, by rw [h2]; exact DGet.k h1, q3⟩⟩⟩
    | _ => exact False.elim q1⟩
def uDPop1 (td ty : TE) : TE := fun σ H Q => td σ H fun x H1 => match x with
  | .ref a => (∃ kvs, H1 a = some (.dK kvs)) ∧ ty σ H1 fun y H2 => ∃ (kvs : List (Key × V)) (k : Key) (v : V), H2 a = some (.dK kvs) ∧ y = kV k ∧ valV kvs k = some v ∧ Chg a H2 (.dK (dropK kvs k)) fun H3 => Q v H3
  | _ => False
theorem e_dpop1 {o e : Expr} {td ty : TE} {apos cpos : Pos} (ho : PE X o td) (he : PE X e ty) (m : M1 X o "pop" apos e cpos) : PE X (.Call (.Attribute o "pop" apos) [e] [] cpos) (uDPop1 td ty) :=
  pe_imp (pe_dpop1 (pe_up ho) (pe_up he) m) fun σ H Q q => ⟨_, q, fun x H1 q1 => by
    cases x with
    | ref a =>
      obtain ⟨⟨kv0, h0⟩, q1⟩ := q1
      exact ⟨a, rfl, .inl ⟨kv0, .inl h0⟩, _, q1, fun y H2 ⟨kvs, k, v, h1, h2, h3, q3⟩ => ⟨kvs, k, v, h1, h2, h3, q3.at⟩⟩
    | _ => exact False.elim q1⟩

/-! ### lists changed, fields -/
def cApp : V → List V → Hp → VK → Prop := fun x xs H Q => match x, xs with
  | .ref l, [y] => ∃ zs, H l = some (.lst zs) ∧ zs.length < sizeLine ∧ Chg l H (.lst (zs ++ [y])) fun H2 => Q .non H2
  | _, _ => False
theorem m_append : MtR X "list.append" cApp := mt_imp mt_append fun x xs H Q q => by
  match x, xs, q with
  | .ref l, [y], q =>
    obtain ⟨zs, h1, h2, q⟩ := q
    exact ⟨l, zs, y, rfl, rfl, h1, h2, q.at⟩
def cClear : V → List V → Hp → VK → Prop := fun x xs H Q => match x, xs with
  | .ref l, [] => ∃ zs, H l = some (.lst zs) ∧ Chg l H (.lst []) fun H2 => Q .non H2
  | _, _ => False
theorem m_clear : MtR X "list.clear" cClear := mt_imp mt_clear fun x xs H Q q => by
  match x, xs, q with
  | .ref l, [], q =>
    obtain ⟨zs, h1, q⟩ := q
    exact ⟨l, zs, rfl, rfl, h1, q.at⟩
def cSetL : TSet := fun o i v H Q => match o, i with
  | .ref p, .int k => ∃ xs j, H p = some (.lst xs) ∧ ixN xs.length k = some j ∧ Chg p H (.lst (xs.set j v)) fun H2 => Q H2
  | _, _ => False
theorem p_setL : PSet X cSetL := fun pins s σ H o i v ov iv u Q I ro ri rv h => set_list pins s σ H o i v ov iv u Q I ro ri rv (by
  cases o <;> cases i <;> first
    | (obtain ⟨xs, j, h1, h2, q⟩ := h; exact ⟨_, xs, _, j, rfl, rfl, h1, h2, q.at⟩)
    | exact False.elim h)
def uFldS (K : PySem.W.Frag) (ta tv : TE) (f : Str) : TS := fun D σ H => tv σ H fun y H1 => ta σ H1 fun x H2 => match x with
  | .ref a => ∃ C dx fs, H2 a = some (.ins C dx fs) ∧ Cls K C ∧ NoAttr K C f ∧ fs.length < 1000 ∧ Chg a H2 (.ins C dx (putF f y fs)) fun H3 => D.nx σ H3
  | _ => False
theorem s_fld {o value : Expr} {ta tv : TE} {f : Str} {pos pos' : Pos} (ha : PE X o ta) (hv : PE X value tv) (hs : swapsWith value (some (.Attribute o f pos')) pos.line X.env = pure false) : PS X (.Assign [.Attribute o f pos'] value pos) (uFldS X.K ta tv f) :=
  ps_imp (ps_fld (pe_up ha) (pe_up hv) hs) fun D σ H q => ⟨_, q, fun y H1 q1 => ⟨_, q1, fun x H2 q2 => by
    cases x with
    | ref a =>
      obtain ⟨C, dx, fs, h1, h2, h3, h4, q⟩ := q2
      exact ⟨a, C, dx, fs, rfl, h1, h2, h3, h4, q.at⟩
    | _ => exact False.elim q2⟩⟩
def uFld (K : PySem.W.Frag) (ta : TE) (f : Str) : TE := fun σ H Q => ta σ H fun x H1 => match x with
  | .ref a => ∃ C dx fs v, H1 a = some (.ins C dx fs) ∧ Cls K C ∧ NoAttr K C f ∧ fs.lookup f = some v ∧ Q v H1
  | _ => False
theorem e_fld {e : Expr} {ta : TE} {f : Str} {pos : Pos} (he : PE X e ta) (hb : attributeBase e f X.env (eval e X.env) = eval e X.env) : PE X (.Attribute e f pos) (uFld X.K ta f) :=
  pe_imp (pe_fld (pe_up he) hb) fun σ H Q q => ⟨_, q, fun x H1 q1 => by
    cases x with
    | ref a =>
      obtain ⟨C, dx, fs, v, h1, h2, h3, h4, q⟩ := q1
      exact ⟨a, C, dx, fs, v, rfl, h1, h2, h3, h4, q⟩
    | _ => exact False.elim q1⟩
/-! ### calls of built-ins -/
def cLenS : List V → Hp → VK → Prop := fun xs H Q => match xs with
  | [.str z] => z.length ≤ sizeLine ∧ Q (.int z.length) H
  | _ => False
theorem l_str : CallR X (.builtin "len") cLenS := call_imp call_len_str fun xs H Q q => by
  match xs, q with
  | [.str z], q => exact ⟨z, rfl, q⟩
def cLenQ (K : PySem.W.Frag) : List V → Hp → VK → Prop := fun xs H Q => match xs with
  | [.ref p] => ∃ ys, (SqL K H p ys ∨ SqT K H p ys) ∧ Q (.int ys.length) H
  | _ => False
theorem l_seq : CallR X (.builtin "len") (cLenQ X.K) := call_imp call_len_seq fun xs H Q q => by
  match xs, q with
  | [.ref p], q =>
    obtain ⟨ys, h, q⟩ := q
    exact ⟨p, ys, rfl, h, q⟩
def cLenD : List V → Hp → VK → Prop := fun xs H Q => match xs with
  | [.ref p] => ∃ kvs, H p = some (.dK kvs) ∧ Q (.int kvs.length) H
  | _ => False
theorem l_dict : CallR X (.builtin "len") cLenD := call_imp call_lenD fun xs H Q q => by
  match xs, q with
  | [.ref p], q =>
    obtain ⟨ys, h, q⟩ := q
    exact ⟨p, ys, rfl, h, q⟩
def cAbs : List V → Hp → VK → Prop := fun xs H Q => match xs with
  | [.int i] => Q (.int (if i < 0 then -i else i)) H
  | _ => False
theorem b_abs : CallR X (.builtin "abs") cAbs := call_imp call_abs fun xs H Q q => by
  match xs, q with
  | [.int i], q => exact ⟨i, rfl, q⟩
def cMin : List V → Hp → VK → Prop := fun xs H Q => match xs with
  | [.int i, .int j] => Q (.int (if j < i then j else i)) H
  | _ => False
theorem b_min (hc : X.calm = true) : CallR X (.builtin "min") cMin := call_imp (call_min2 hc) fun xs H Q q => by
  match xs, q with
  | [.int i, .int j], q => exact ⟨i, j, rfl, q⟩
def cStrI : List V → Hp → VK → Prop := fun xs H Q => match xs with
  | [.int i] => i.natAbs.log2 < 1920 ∧ Q (.str (toString i)) H
  | _ => False
theorem b_str : CallR X (.type "str") cStrI := call_imp call_str_int fun xs H Q q => by
  match xs, q with
  | [.int i], q => exact ⟨i, rfl, q⟩
def cIntB : List V → Hp → VK → Prop := fun xs H Q => match xs with
  | [.bl k] => Q (.int (if k then 1 else 0)) H
  | _ => False
theorem b_intB : CallR X (.type "int") cIntB := call_imp call_int1 fun xs H Q q => by
  match xs, q with
  | [.bl k], q => exact .inr ⟨k, rfl, q⟩
def cIntS : List V → Hp → VK → Prop := fun xs H Q => match xs with
  | [.str a] => ∃ n, PySem.intText? a = some n ∧ a.length ≤ 640 ∧ Q (.int n) H
  | _ => False
theorem b_intS : CallR X (.type "int") cIntS := call_imp call_int_str fun xs H Q q => by
  match xs, q with
  | [.str a], q =>
    obtain ⟨n, h1, h2, q⟩ := q
    exact ⟨a, n, rfl, h1, h2, q⟩
/-- isinstance of a built-in class -/
def cIsi (K : PySem.W.Frag) : List V → Hp → VK → Prop := fun xs H Q => match xs with
  | [x, .ty n] => ∃ t b, TyX K H x (.type t) ∧ kitB t n = some b ∧ Q (.bl b) H
  | _ => False
theorem b_isi : CallR X (.builtin "isinstance") (cIsi X.K) := call_imp call_isi fun xs H Q q => by
  match xs, q with
  | [x, .ty n], q =>
    obtain ⟨t, b, h1, h2, q⟩ := q
    exact ⟨x, .ty n, .type t, .type n, b, rfl, .ty n, h1, kit_ty h2, q⟩

/-! ### more built-ins -/
def cList (K : PySem.W.Frag) : List V → Hp → VK → Prop := fun xs H Q => match xs with
  | [.ref p] => ∃ ys, (SqL K H p ys ∨ SqT K H p ys) ∧ New H (.lst ys) fun l H2 => Q (.ref l) H2
  | _ => False
theorem b_list : CallR X (.type "list") (cList X.K) := call_imp call_list_of fun xs H Q q => by
  match xs, q with
  | [.ref p], q =>
    obtain ⟨ys, h, q⟩ := q
    exact ⟨p, ys, rfl, h, New.at q⟩
def cListD : List V → Hp → VK → Prop := fun xs H Q => match xs with
  | [.ref p] => ∃ kvs, Rd H p (.dK kvs) ∧ New H (.lst (kvs.map fun kv => kV kv.1)) fun l H2 => Q (.ref l) H2
  | _ => False
theorem b_listD (hc : X.calm = true) : CallR X (.type "list") cListD := call_imp (call_listD hc) fun xs H Q q => by
  match xs, q with
  | [.ref p], q =>
    obtain ⟨ys, h, q⟩ := q
    exact ⟨p, ys, rfl, h, New.at q⟩
def cSum (K : PySem.W.Frag) : List V → Hp → VK → Prop := fun xs H Q => match xs with
  | [.ref p] => ∃ ns : List Int, SqL K H p (ns.map V.int) ∧ Q (.int ns.sum) H
  | _ => False
theorem b_sum (hc : X.calm = true) : CallR X (.builtin "sum") (cSum X.K) := call_imp (cr_sum hc) fun xs H Q q => by
  match xs, q with
  | [.ref p], q =>
    obtain ⟨ys, h, q⟩ := q
    exact ⟨p, ys, rfl, h, q⟩
def cSortedS (K : PySem.W.Frag) : List V → Hp → VK → Prop := fun xs H Q => match xs with
  | [.ref p] => ∃ ss : List Str, SqL K H p (ss.map V.str) ∧ ss.length < 64 ∧ ∀ (ys : List Str), ys.Perm ss → sortedS ys = true → New H (.lst (ys.map V.str)) fun p H2 => Q (.ref p) H2
  | _ => False
theorem b_sortedS : CallR X (.builtin "sorted") (cSortedS X.K) := call_imp cr_sortedS fun xs H Q q => by
  match xs, q with
  | [.ref p], q =>
    obtain ⟨ss, h, h2, q⟩ := q
    exact ⟨p, ss, rfl, h, h2, fun ys p h3 h4 => New.at (q ys h3 h4) p⟩
def cSortedD : List V → Hp → VK → Prop := fun xs H Q => match xs with
  | [.ref p] => ∃ (kvs : List (Key × V)) (ks : List Str), Rd H p (.dK kvs) ∧ kvs.map (·.1) = ks.map Sum.inr ∧ ks.length < 64 ∧ ∀ (ys : List Str), ys.Perm ks → sortedS ys = true → New H (.lst (ys.map V.str)) fun p H2 => Q (.ref p) H2
  | _ => False
theorem b_sortedD (hc : X.calm = true) : CallR X (.builtin "sorted") cSortedD := call_imp (call_sortedD hc) fun xs H Q q => by
  match xs, q with
  | [.ref p], q =>
    obtain ⟨kvs, ks, h, h1, h2, q⟩ := q
    exact ⟨p, kvs, ks, rfl, h, h1, h2, fun ys p h3 h4 => New.at (q ys h3 h4) p⟩
def uRev (K : PySem.W.Frag) (te : TE) : TE := fun σ H Q => te σ H fun x H1 => match x with
  | .ref a => ∃ xs, SqL K H1 a xs ∧ New H1 (.lst xs.reverse) fun p H2 => Q (.ref p) H2
  | _ => False
theorem e_rev {e : Expr} {te : TE} {k : Nat} {p1 p2 p3 pos : Pos} (he : PE X e te) : PE X (.Subscript e (.Slice none none (some (.UnaryOp .USub (.Constant (.int 1) k p1) p2)) p3) pos) (uRev X.K te) :=
  pe_imp (pe_revL (pe_up he)) fun σ H Q q => ⟨_, q, fun x H1 q1 => by
    cases x with
    | ref a =>
      obtain ⟨xs, h1, q⟩ := q1
      exact ⟨a, xs, rfl, h1, New.at q⟩
    | _ => exact False.elim q1⟩
def cCat : R2 := fun x y H Q => match x, y with
  | .ref a, .ref b => ∃ xs zs, H a = some (.lst xs) ∧ H b = some (.lst zs) ∧ xs.length + zs.length ≤ sizeLine ∧ New H (.lst (xs ++ zs)) fun p H2 => Q (.ref p) H2
  | _, _ => False
theorem o_cat : OpR X (binaryOp .Add) cCat := op_imp op_cat fun x y H Q q => by
  cases x <;> cases y <;> first
    | (obtain ⟨xs, zs, a, b, c, q⟩ := q; exact ⟨_, _, _, _, rfl, rfl, a, b, c, New.at q⟩)
    | exact False.elim q

/-! ### slices -/
def uPart (t : TE) : TO := fun σ H Q => t σ H fun x H1 => match x with
  | .int i => Q (some i) H1
  | _ => False
theorem p_some {e : Expr} {te : TE} (h : PE X e te) : PO X (some e) (uPart te) := by
  refine ⟨fun pins s σ H Q I hw => ?_⟩
  rw [evalPart_some]
  refine thn (h.run pins s σ H _ I hw) fun u s1 ⟨x, H1, I1, r1, q1⟩ => ?_
  cases x with
  | int i =>
    obtain ⟨t, rfl⟩ := r1
    exact ⟨some i, H1, I1, .int i t, q1⟩
  | _ => exact False.elim q1
def cSlS : V → Option Int → Option Int → Hp → VK → Prop := fun x lo hi H Q => match x with
  | .str z => z.length ≤ sizeLine ∧ Q (.str (cutS z lo hi)) H
  | _ => False
theorem s_str : SlR X cSlS := sl_imp sl_str fun x l u H Q q => by
  cases x <;> first
    | exact ⟨_, rfl, q⟩
    | exact False.elim q
def cSlL (K : PySem.W.Frag) : V → Option Int → Option Int → Hp → VK → Prop := fun x lo hi H Q => match x with
  | .ref a => ∃ xs, SqL K H a xs ∧ New H (.lst (cutV xs lo hi)) fun p H2 => Q (.ref p) H2
  | _ => False
theorem s_list : SlR X (cSlL X.K) := sl_imp sl_list fun x l u H Q q => by
  cases x <;> first
    | (obtain ⟨xs, h, q⟩ := q; exact ⟨_, _, rfl, h, New.at q⟩)
    | exact False.elim q

/-! ### comprehensions -/
@[irreducible] def uLc (wi : TI) (g : TG) (tt : TT) (te : TE) (vs : List Nat) : TE := tLc wi g tt te vs
theorem uLc_of {wi : TI} {g : TG} {tt : TT} {te : TE} {vs : List Nat} {σ : L2.St} {H : Hp} {Q : VK} (h : tLc wi g tt te vs σ H Q) : uLc wi g tt te vs σ H Q := by
  unfold uLc
  exact h
theorem u_lc {elt tg iter : Expr} {ifs : List Expr} {scope : Scope} {own : List (Str × Nat)} {pos : Pos} {wi : TI} {g : TG} {tt : TT} {te : TE} (hc : X.calm = true) (hN : X.N.Nodup) (hi : PI X tg iter wi) (ok : BlkOk X.N X.env.scope scope own)
    (hg : ∀ (s : Shared) (H : Hp) (C : Addr) (cl : List (Str × Addr)) (fp : List Addr), PG (X.blk s H scope (compEnvC scope cl C X.env) fp) tg g) (ht : ∀ (s : Shared) (H : Hp) (C : Addr) (cl : List (Str × Addr)) (fp : List Addr), PTs (X.blk s H scope (compEnvC scope cl C X.env) fp) ifs tt)
    (he : ∀ (s : Shared) (H : Hp) (C : Addr) (cl : List (Str × Addr)) (fp : List Addr), PE (X.blk s H scope (compEnvC scope cl C X.env) fp) elt te) (hs : ∀ x, foldedSetIterable iter X.env x = pure x := by intro _; rfl) :
    PE X (.ListComp elt [⟨tg, iter, ifs, 0⟩] scope pos) (uLc wi g tt te (own.map (·.2))) := by
  unfold uLc
  exact pe_lc hc hN hi ok hg ht he hs
theorem u_setLc {i : Nat} {y : Str} {py : Pos} {elt tg iter : Expr} {ifs : List Expr} {scope : Scope} {own : List (Str × Nat)} {pos spos : Pos} {wi : TI} {g : TG} {tt : TT} {te : TE} (hc : X.calm = true) (hN : X.N.Nodup) (hy : X.N[i]? = some y) (hyl : X.env.scope.names.lookup y = some .local)
    (hsw : swapsWith (.ListComp elt [⟨tg, iter, ifs, 0⟩] scope pos) (some (.Name y py)) spos.line X.env = pure true) (hi : PI X tg iter wi) (ok : BlkOk X.N X.env.scope scope own)
    (hg : ∀ (s : Shared) (H : Hp) (C : Addr) (cl : List (Str × Addr)) (fp : List Addr), PG (X.blk s H scope (compEnvC scope cl C X.env) fp) tg g) (ht : ∀ (s : Shared) (H : Hp) (C : Addr) (cl : List (Str × Addr)) (fp : List Addr), PTs (X.blk s H scope (compEnvC scope cl C X.env) fp) ifs tt)
    (he : ∀ (s : Shared) (H : Hp) (C : Addr) (cl : List (Str × Addr)) (fp : List Addr), PE (X.blk s H scope (compEnvC scope cl C X.env) fp) elt te) (hs : ∀ x, foldedSetIterable iter X.env x = pure x := by intro _; rfl) :
    PS X (.Assign [.Name y py] (.ListComp elt [⟨tg, iter, ifs, 0⟩] scope pos) spos) (tAsg (uLc wi g tt te (own.map (·.2))) (gName i)) := by
  unfold uLc
  exact ps_setLc hc hN hy hyl hsw hi ok hg ht he hs

/-! ### while -/
def uWhile (c : TT) (tb : TS) : TS := fun D σ H => ∃ W : Nat → L2.St → Hp → Prop, (∃ m, W m σ H) ∧ ∀ m σ H, W m σ H →
  c σ H fun b H1 => Br b (∃ N : L2.St → Hp → Prop, (∀ σ' H', N σ' H' → ∃ m', m' < m ∧ W m' σ' H') ∧ tb { D with nx := N, ct := N, bk := D.nx } σ H1) (D.nx σ H1)
theorem s_while {c : Expr} {body : List Stmt} {tc : TT} {tb : TS} {pos : Pos} (hp : PassesOwn (model X.prog X.w) X.A X.env X.xe) (hc : PT X c tc) (hb : PSs X body tb) : PS X (.While c body [] pos) (uWhile tc tb) := by
  refine ⟨fun pins s σ H D I h => ?_⟩
  obtain ⟨W, ⟨m0, w0⟩, turn⟩ := h
  refine wpAny_While (codeAny_whileLoop (fun n s' => ∃ σ' H', Inv X pins σ' H' s' ∧ W n σ' H') ?_ m0 ⟨σ, H, I, w0⟩)
  rintro n s1 ⟨σ1, H1, I1, w1⟩
  refine wpAny_passesOwn hp (thn (hc.run pins s1 σ1 H1 _ I1 (turn n σ1 H1 w1)) fun b s2 ⟨H2, I2, q2⟩ => ?_)
  cases b with
  | true =>
    obtain ⟨N, hN, q2⟩ := q2.tt rfl
    rw [if_pos rfl]
    refine wpAny_passesOwn hp (thn (hb.run pins s2 σ1 H2 _ I2 q2) fun f s3 q3 => ?_)
    cases f with
    | next =>
      obtain ⟨σ3, H3, I3, n3⟩ := q3
      obtain ⟨m', hm, w3⟩ := hN σ3 H3 n3
      exact ⟨m', hm, σ3, H3, I3, w3⟩
    | cont =>
      obtain ⟨σ3, H3, I3, n3⟩ := q3
      obtain ⟨m', hm, w3⟩ := hN σ3 H3 n3
      exact ⟨m', hm, σ3, H3, I3, w3⟩
    | brk => exact q3
    | ret v => exact q3
  | false =>
    have q2 := q2.ff rfl
    rw [if_neg Bool.false_ne_true]
    exact wpAny_execs_nil ⟨σ1, H2, I2, q2⟩
/-- while, by a word and a measure of the state -/
theorem wh_by {c : TT} {tb : TS} {D : Ends} {σ : L2.St} {H : Hp} (Pv : Nat → L2.St → Hp → Prop) (m : Nat) (h0 : Pv m σ H)
    (hs : ∀ m σ H, Pv m σ H → c σ H fun b H1 => Br b (tb { D with nx := fun σ' H' => ∃ m', m' < m ∧ Pv m' σ' H', ct := fun σ' H' => ∃ m', m' < m ∧ Pv m' σ' H', bk := D.nx } σ H1) (D.nx σ H1))
    (mono : ∀ σ H Q Q', (∀ b H1, Q b H1 → Q' b H1) → c σ H Q → c σ H Q') : uWhile c tb D σ H := by
  refine ⟨Pv, ⟨m, h0⟩, fun m σ H p => mono σ H _ _ (fun b H1 q => ⟨fun e => ⟨_, fun σ' H' h => h, q.tt e⟩, q.ff⟩) (hs m σ H p)⟩
theorem pnever {M : Model} {A : Around} {env : Env} : PassesOwn M A env (fun _ _ => False) := PassesOwn.never
end

theorem _root_.L2.Room.u65 {k : Nat} {A : Around} (r : Room k A) : A.units + 65 < cLine := by have := r.un; omega
/-! ### a def that may be called -/
structure Cal (P : Program) (w : World) (K : PySem.W.Frag) (mg : Str → Option Value) (base : Heap) (CX : CXT) (k : Nat) (x : Str) (ps : List Str) (sp : Sp) : Prop where
  ex : ∃ (f : Addr) (fd : FuncData), FnOk P w K mg base CX k f fd ps sp ∧ mg x = some (.ref f) ∧ PySem.W.keepIn K (.ref f) = true ∧ Binds K fd ps []
theorem Cal.pe {X : Cx} {CX : CXT} {k : Nat} {x : Str} {ps : List Str} {sp : Sp} {E : XK} {e : Expr} {es : List Expr} {t : TA} {p pos : Pos} (c : Cal X.prog X.w X.K X.mg X.base CX k x ps sp) (hr : Room k X.A) (hx : Passes CX X E)
    (ha : PA X (e :: es) t) (hg : Gl X x := by rfl) (hdb : (x == ("__debug__" : Str)) = false := by decide) (he : starEach (e :: es) X.env = (false, eval e X.env) :: starEach es X.env := by rfl) (hpl : (backTo pos (starEach es X.env)).any (·.1) = false := by rfl) :
    PE X (.Call (.Name x p) (e :: es) [] pos) (tCall sp [] E t) := by
  obtain ⟨f, fd, F, m, kp, b⟩ := c.ex
  exact pe_call F hr hg m kp b .nil hx ha hdb he hpl
theorem Cal.pe0 {X : Cx} {CX : CXT} {k : Nat} {x : Str} {ps : List Str} {sp : Sp} {E : XK} {p pos : Pos} (c : Cal X.prog X.w X.K X.mg X.base CX k x ps sp) (hr : Room k X.A) (hx : Passes CX X E)
    (hg : Gl X x := by rfl) (hdb : (x == ("__debug__" : Str)) = false := by decide) : PE X (.Call (.Name x p) [] [] pos) (tCall sp [] E tNil) := by
  obtain ⟨f, fd, F, m, kp, b⟩ := c.ex
  exact pe_call0 F hr hg m kp b .nil hx hdb
/-! ### a text in a list of texts -/
theorem inV_str (a : Str) (C : List Str) : inV (.str a) (C.map V.str) = decide (a ∈ C) := by
  unfold inV
  induction C with
  | nil => rfl
  | cons c C ih =>
    rw [List.map_cons, List.any_cons, ih]
    show ((c == a) || decide (a ∈ C)) = _
    by_cases h : c = a
    · subst h; simp
    · have h2 : ¬ a = c := fun e => h e.symm
      simp [h, h2]
theorem flatS (C : List Str) : (C.map V.str).all flatV = true := by
  rw [List.all_map, List.all_eq_true]
  intro c _
  rfl
def cInS (K : PySem.W.Frag) (b : Bool) : R2 := fun x y H Q => match x, y with
  | .str a, .ref p => ∃ C : List Str, SqL K H p (C.map V.str) ∧ Q (.bl (if b then decide (a ∈ C) else !decide (a ∈ C))) H
  | _, _ => False
theorem o_inS {X : Cx} : OpR X (compareOp .In) (cInS X.K true) := op_imp op_in_seq fun x y H Q q => by
  cases x <;> cases y <;> first
    | (obtain ⟨C, h, q⟩ := q; refine ⟨_, _, rfl, .inl h, rfl, flatS C, ?_⟩; rw [inV_str]; exact q)
    | exact False.elim q
theorem o_notInS {X : Cx} : OpR X (compareOp .NotIn) (cInS X.K false) := op_imp op_notIn_seq fun x y H Q q => by
  cases x <;> cases y <;> first
    | (obtain ⟨C, h, q⟩ := q; refine ⟨_, _, rfl, .inl h, rfl, flatS C, ?_⟩; rw [inV_str]; exact q)
    | exact False.elim q
end U

/-! PegD: data of any depth, rows. -/
namespace Peg
open PySem PySem.Spec PyProof.Rows L2 U
section
variable {K : PySem.W.Frag} {H H' : Hp}
theorem same_rd {a : Addr} {u : HO} (e : Same H H') (h : Rd H a u) : Rd H' a u := by
  rcases h with h | ⟨o, h⟩
  · exact .inl (e _ _ h)
  · exact .inr ⟨o, e _ _ h⟩
theorem same_l {a : Addr} {xs : List V} (e : Same H H') (h : SqL K H a xs) : SqL K H' a xs := e.seq h
theorem same_t {a : Addr} {xs : List V} (e : Same H H') (h : SqT K H a xs) : SqT K H' a xs := by
  rcases h with h | h
  · exact .inl (same_rd e h)
  · exact .inr h
theorem same_new {p : Addr} {o : HO} (h : H p = none) : Same H (upd H p o) := fun a u e => by
  rw [upd_ne (ne_of_none e h)]
  exact e
theorem same_chd {H1 : Hp} {p : Addr} (e : Same H H1) (c : Chd p H1 H') (h : H p = none) : Same H H' := fun a u ha => c a u (ne_of_none ha h) (e a u ha)
theorem chd_trans {H1 : Hp} {p : Addr} (a : Chd p H H1) (b : Chd p H1 H') : Chd p H H' := fun c o n h => b c o n (a c o n h)
theorem chd_same {H1 : Hp} {p : Addr} (a : Chd p H H1) (b : Same H1 H') : Chd p H H' := fun c o n h => b c o (a c o n h)
theorem same_chd2 {H1 : Hp} {p : Addr} (a : Same H H1) (b : Chd p H1 H') : Chd p H H' := fun c o n h => b c o n (a c o h)
/-- an object that H does not know may change -/
theorem same_mut {p : Addr} {o : HO} (e : Same H H') (h : H p = none) : Same H (upd H' p o) := fun a u ha => by
  rw [upd_ne (ne_of_none ha h)]
  exact e a u ha
mutual
theorem dp_mono (e : Same H H') : ∀ {d : PyData} {v : V}, Dp K H v d → Dp K H' v d
  | _, _, .non => .non
  | _, _, .bl b => .bl b
  | _, _, .int i => .int i
  | _, _, .str x => .str x
  | _, _, .lst h a => .lst (same_l e h) (dpAll_mono e a)
  | _, _, .tup h a => .tup (same_t e h) (dpAll_mono e a)
theorem dpAll_mono (e : Same H H') : ∀ {ds : List PyData} {vs : List V}, DpAll K H vs ds → DpAll K H' vs ds
  | _, _, .nil => .nil
  | _, _, .cons a b => .cons (dp_mono e a) (dpAll_mono e b)
end
theorem dp_lst {v : V} {ds : List PyData} (h : Dp K H v (.list ds)) : ∃ a xs, v = .ref a ∧ SqL K H a xs ∧ DpAll K H xs ds := by
  cases h with
  | lst h a => exact ⟨_, _, rfl, h, a⟩
theorem dp_tup {v : V} {ds : List PyData} (h : Dp K H v (.tuple ds)) : ∃ a xs, v = .ref a ∧ SqT K H a xs ∧ DpAll K H xs ds := by
  cases h with
  | tup h a => exact ⟨_, _, rfl, h, a⟩
theorem dp_int {v : V} {i : Int} (h : Dp K H v (.int i)) : v = .int i := by cases h; rfl
theorem dp_str {v : V} {z : Str} (h : Dp K H v (.str z)) : v = .str z := by cases h; rfl
theorem dp_bl {v : V} {b : Bool} (h : Dp K H v (.bool b)) : v = .bl b := by cases h; rfl
theorem dpAll_nil {vs : List V} (h : DpAll K H vs []) : vs = [] := by cases h; rfl
theorem dpAll_cons {vs : List V} {d : PyData} {ds : List PyData} (h : DpAll K H vs (d :: ds)) : ∃ v r, vs = v :: r ∧ Dp K H v d ∧ DpAll K H r ds := by
  cases h with
  | cons a b => exact ⟨_, _, rfl, a, b⟩
theorem dpAll_length : ∀ {ds : List PyData} {vs : List V}, DpAll K H vs ds → vs.length = ds.length
  | _, _, .nil => rfl
  | _, _, .cons a b => by rw [List.length_cons, List.length_cons, dpAll_length b]
theorem dpAll_get : ∀ {ds : List PyData} {vs : List V} {i : Nat} {v : V}, DpAll K H vs ds → vs[i]? = some v → ∃ d, ds[i]? = some d ∧ Dp K H v d
  | _, _, _, _, .nil, e => by simp at e
  | _, _, 0, _, .cons a _, e => by
    have e := Option.some.inj e
    subst e
    exact ⟨_, rfl, a⟩
  | _, _, i + 1, v, .cons _ b, e => by
    obtain ⟨d, h1, h2⟩ := dpAll_get (i := i) (v := v) b (by simpa using e)
    exact ⟨d, by simpa using h1, h2⟩
theorem dpAll_get2 : ∀ {ds : List PyData} {vs : List V} {i : Nat} {d : PyData}, DpAll K H vs ds → ds[i]? = some d → ∃ v, vs[i]? = some v ∧ Dp K H v d
  | _, _, _, _, .nil, e => by simp at e
  | _, _, 0, _, .cons a _, e => by
    have e := Option.some.inj e
    subst e
    exact ⟨_, rfl, a⟩
  | _, _, i + 1, v, .cons _ b, e => by
    obtain ⟨d, h1, h2⟩ := dpAll_get2 (i := i) (d := v) b (by simpa using e)
    exact ⟨d, by simpa using h1, h2⟩
theorem dpAll_snoc : ∀ {ds : List PyData} {vs : List V} {v : V} {d : PyData}, DpAll K H vs ds → Dp K H v d → DpAll K H (vs ++ [v]) (ds ++ [d])
  | _, _, _, _, .nil, e => .cons e .nil
  | _, _, _, _, .cons a b, e => .cons a (dpAll_snoc b e)
theorem dpAll_append : ∀ {ds es : List PyData} {vs ws : List V}, DpAll K H vs ds → DpAll K H ws es → DpAll K H (vs ++ ws) (ds ++ es)
  | _, _, _, _, .nil, e => e
  | _, _, _, _, .cons a b, e => .cons a (dpAll_append b e)
theorem dpAll_take : ∀ {ds : List PyData} {vs : List V} (n : Nat), DpAll K H vs ds → DpAll K H (vs.take n) (ds.take n)
  | _, _, 0, _ => .nil
  | _, _, _ + 1, .nil => .nil
  | _, _, n + 1, .cons a b => .cons a (dpAll_take n b)
theorem dpAll_drop : ∀ {ds : List PyData} {vs : List V} (n : Nat), DpAll K H vs ds → DpAll K H (vs.drop n) (ds.drop n)
  | _, _, 0, h => h
  | _, _, _ + 1, .nil => .nil
  | _, _, n + 1, .cons a b => dpAll_drop n b
theorem dpAll_reverse : ∀ {ds : List PyData} {vs : List V}, DpAll K H vs ds → DpAll K H vs.reverse ds.reverse
  | _, _, .nil => .nil
  | _, _, .cons a b => by
    rw [List.reverse_cons, List.reverse_cons]
    exact dpAll_snoc (dpAll_reverse b) a
theorem dpAll_set : ∀ {ds : List PyData} {vs : List V} (n : Nat) {v : V} {d : PyData}, DpAll K H vs ds → Dp K H v d → DpAll K H (vs.set n v) (ds.set n d)
  | _, _, _, _, _, .nil, _ => .nil
  | _, _, 0, _, _, .cons a b, e => .cons e b
  | _, _, n + 1, _, _, .cons a b, e => .cons a (dpAll_set n b e)
end
/-- an item of a list, of a tuple, by a place that is not negative -/
theorem at_nat {α : Type} {xs : List α} {j : Nat} {v : α} {z : Int} (e : z = (j : Int)) (h : xs[j]? = some v) : atI xs z = some v := by
  rw [e]
  exact atI_nat h

theorem at_ex {α : Type} {xs : List α} {i : Int} (h0 : 0 ≤ i) (h : i < xs.length) : ∃ c, atI xs i = some c := by
  have e : xs[i.toNat]? = some (xs[i.toNat]'(by omega)) := List.getElem?_eq_getElem (by omega)
  exact ⟨_, at_nat (by omega) e⟩
theorem sz {n : Nat} (h : n ≤ 100000) : n ≤ sizeLine := Nat.le_trans h (by decide)
theorem szl {n : Nat} (h : n < 100000) : n < sizeLine := Nat.lt_of_lt_of_le h (by decide)

theorem szr {n : Nat} (h : Nat.ble n 100000 = true) : n ≤ sizeLine := sz (Nat.le_of_ble_eq_true h)

/-! ### tuples stay, whatever else is changed -/
def Tups (H H' : Hp) : Prop := ∀ b xs, Rd H b (.tup xs) → Rd H' b (.tup xs)
theorem Tups.refl (H : Hp) : Tups H H := fun _ _ h => h
theorem Tups.trans {H H1 H2 : Hp} (a : Tups H H1) (b : Tups H1 H2) : Tups H H2 := fun c xs h => b c xs (a c xs h)
theorem tups_of {H H' : Hp} (e : Same H H') : Tups H H' := fun b xs h => same_rd e h
def Plain (u : HO) : Prop := match u with
  | .tup _ => False
  | .frz _ _ => False
  | _ => True
theorem Tups.mut {H H' : Hp} {p : Addr} {u o : HO} (a : Tups H H') (h : H' p = some u) (k : Plain u) : Tups H (upd H' p o) := fun b xs q => by
  have q := a b xs q
  have e : b ≠ p := fun e => by
    subst e
    rcases q with q | ⟨o, q⟩
    · rw [h] at q; cases q; exact k
    · rw [h] at q; cases q; exact k
  rcases q with q | ⟨o, q⟩
  · exact .inl (by rw [upd_ne e]; exact q)
  · exact .inr ⟨o, by rw [upd_ne e]; exact q⟩
theorem tups_chd {H H' : Hp} {p : Addr} {u : HO} (c : Chd p H H') (h : H p = some u) (k : Plain u) : Tups H H' := fun b xs q => by
  have e : b ≠ p := fun e => by
    subst e
    rcases q with q | ⟨o, q⟩
    · rw [h] at q; cases q; exact k
    · rw [h] at q; cases q; exact k
  rcases q with q | ⟨o, q⟩
  · exact .inl (c _ _ e q)
  · exact .inr ⟨o, c _ _ e q⟩
theorem tups_t {K : PySem.W.Frag} {H H' : Hp} {a : Addr} {xs : List V} (e : Tups H H') (h : SqT K H a xs) : SqT K H' a xs := by
  rcases h with h | h
  · exact .inl (e _ _ h)
  · exact .inr h

/-! ### what kind a thing is -/
inductive Knd (K : PySem.W.Frag) (H : Hp) : V → String → Prop where
  | non : Knd K H .non "NoneType"
  | bl (b : Bool) : Knd K H (.bl b) "bool"
  | int (i : Int) : Knd K H (.int i) "int"
  | str (z : Str) (h : z.length ≤ 100000) : Knd K H (.str z) "str"
  | lst {a : Addr} {xs : List V} (h : SqL K H a xs) : Knd K H (.ref a) "list"
  | tup {a : Addr} {xs : List V} (h : SqT K H a xs) : Knd K H (.ref a) "tuple"
  | dict {a : Addr} {kvs : List (Key × V)} (h : H a = some (.dK kvs)) : Knd K H (.ref a) "dict"
theorem ty_lst {K : PySem.W.Frag} {H : Hp} {a : Addr} {xs : List V} (h : SqL K H a xs) : TyX K H (.ref a) (.type "list") := by
  rcases h with (h | ⟨o, h⟩) | ⟨o, its, n, hk, hc, _⟩
  · exact .base (.lst h)
  · exact .base (.frz h)
  · exact .kList hk hc
theorem ty_tup {K : PySem.W.Frag} {H : Hp} {a : Addr} {xs : List V} (h : SqT K H a xs) : TyX K H (.ref a) (.type "tuple") := by
  rcases h with (h | ⟨o, h⟩) | ⟨o, its, n, hk, hc, _⟩
  · exact .base (.tup h)
  · exact .fTuple h
  · exact .kTuple hk hc
theorem Knd.ty {K : PySem.W.Frag} {H : Hp} {v : V} {n : String} (k : Knd K H v n) : TyX K H v (.type n) := by
  cases k with
  | non => exact .base .non
  | bl b => exact .base (.bl b)
  | int i => exact .base (.int i)
  | str z _ => exact .base (.str z)
  | lst h => exact ty_lst h
  | tup h => exact ty_tup h
  | dict h => exact .base (.dK h)
theorem Knd.mono {K : PySem.W.Frag} {H H' : Hp} {v : V} {n : String} (e : Same H H') (k : Knd K H v n) : Knd K H' v n := by
  cases k with
  | non => exact .non
  | bl b => exact .bl b
  | int i => exact .int i
  | str z h => exact .str z h
  | lst h => exact .lst (same_l e h)
  | tup h => exact .tup (same_t e h)
  | dict h => exact .dict (e _ _ h)
theorem Knd.str_inv {K : PySem.W.Frag} {H : Hp} {v : V} {n : String} (k : Knd K H v n) (e : n = "str") : ∃ z, v = .str z ∧ z.length ≤ 100000 := by
  cases k <;> first | exact ⟨_, rfl, by assumption⟩ | exact absurd e (by decide)
theorem Knd.isStr {K : PySem.W.Frag} {H : Hp} {v : V} {n : String} (k : Knd K H v n) : kitB n "str" = some (n == "str") := by
  cases k <;> decide +kernel
theorem Knd.isTup {K : PySem.W.Frag} {H : Hp} {v : V} {n : String} (k : Knd K H v n) : kitB n "tuple" = some (n == "tuple") := by
  cases k <;> decide +kernel
theorem Knd.isList {K : PySem.W.Frag} {H : Hp} {v : V} {n : String} (k : Knd K H v n) : kitB n "list" = some (n == "list") := by
  cases k <;> decide +kernel
theorem Knd.isBool {K : PySem.W.Frag} {H : Hp} {v : V} {n : String} (k : Knd K H v n) : kitB n "bool" = some (n == "bool") := by
  cases k <;> decide +kernel
theorem Knd.isInt {K : PySem.W.Frag} {H : Hp} {v : V} {n : String} (k : Knd K H v n) : kitB n "int" = some (n == "int" || n == "bool") := by
  cases k <;> decide +kernel

/-! ### a walk over a text -/
theorem for_str {x : Str} {g : TG} {tb : TS} {D : Ends} {σ : L2.St} {H : Hp} (Pv : Nat → L2.St → Hp → Prop) (h0 : Pv 0 σ H)
    (hs : ∀ (i c : Nat) (σ : L2.St) (H : Hp), x.cps.toList[i]? = some c → Pv i σ H → g (.str ⟨#[c]⟩) σ H fun σ2 H2 => tb { D with nx := Pv (i + 1), ct := Pv (i + 1), bk := D.nx } σ2 H2) (hd : ∀ σ H, Pv x.cps.toList.length σ H → D.nx σ H) :
    ∃ W : Nat → Nat → L2.St → Hp → Prop, (∃ m, W 0 m σ H) ∧ ∀ i m σ H, W i m σ H →
      ((Its x).stop i H ∧ D.nx σ H) ∨ ((Its x).go i H ∧ ∃ N : L2.St → Hp → Prop, (∀ σ' H', N σ' H' → ∃ m', m' < m ∧ W (i + 1) m' σ' H') ∧ ∀ y H', (Its x).yld i H y H' → g y σ H' fun σ2 H2 => tb { D with nx := N, ct := N, bk := D.nx } σ2 H2) := by
  have hsz : x.cps.toList.length = x.cps.size := by simp
  refine ⟨fun i m σ H => m = x.cps.size - i ∧ i ≤ x.cps.size ∧ Pv i σ H, ⟨x.cps.size, by simp, Nat.zero_le _, h0⟩, ?_⟩
  rintro i m σ H ⟨rfl, hi, p⟩
  by_cases hlt : i < x.cps.size
  · refine .inr ⟨hlt, Pv (i + 1), fun σ' H' p' => ⟨x.cps.size - (i + 1), by omega, rfl, hlt, p'⟩, fun y H' q => ?_⟩
    obtain ⟨e, c, hc, ey⟩ := q
    subst e ey
    exact hs i c σ _ (by rw [Array.getElem?_toList]; exact hc) p
  · have e : i = x.cps.size := by omega
    subst e
    exact .inl ⟨Nat.le_refl _, hd σ H (by rw [hsz]; exact p)⟩

/-! ### small letters -/
abbrev az : Str := "abcdefghijklmnopqrstuvwxyz"
theorem az_codes : az.cps.toList = (List.range 26).map (· + 97) := by decide +kernel
theorem az_len : az.cps.toList.length = 26 := by rw [az_codes]; rfl
theorem az_sz : az.length ≤ sizeLine := by
  have e : az.length = 26 := by rw [← az_len]; simp [Str.length]
  rw [e]; decide
theorem az_at {i : Int} (h0 : 0 ≤ i) (h : i < 26) : atI az.cps.toList i = some (i.toNat + 97) := by
  refine at_nat (j := i.toNat) (by omega) ?_
  rw [az_codes, List.getElem?_map, List.getElem?_range (by omega)]
  rfl
theorem az_mem {c : Nat} : c ∈ az.cps.toList ↔ 97 ≤ c ∧ c ≤ 122 := by
  rw [az_codes, List.mem_map]
  constructor
  · rintro ⟨a, h, rfl⟩
    have := List.mem_range.mp h
    omega
  · rintro ⟨h1, h2⟩
    exact ⟨c - 97, List.mem_range.mpr (by omega), by omega⟩
/-- a text of n small letters -/
structure Az (z : Str) (n : Nat) : Prop where
  all : ∀ c ∈ z.cps.toList, 97 ≤ c ∧ c ≤ 122
  len : z.length = n
theorem str_len (z : Str) : z.length = z.cps.toList.length := by simp [Str.length]
theorem str_app_len (a b : Str) : (a ++ b).length = a.length + b.length := Str.length_append a b
theorem str_app_codes (a b : Str) : (a ++ b).cps.toList = a.cps.toList ++ b.cps.toList := by
  show (a.cps ++ b.cps).toList = _
  simp
theorem Az.one {c : Nat} (h : 97 ≤ c ∧ c ≤ 122) : Az ⟨#[c]⟩ 1 where
  all := fun d hd => by
    have e : d = c := by simpa using hd
    rw [e]
    exact h
  len := rfl
theorem Az.app {a b : Str} {n m : Nat} (h : Az a n) (k : Az b m) : Az (a ++ b) (n + m) where
  all := fun c hc => by
    rw [str_app_codes] at hc
    rcases List.mem_append.mp hc with q | q
    · exact h.all c q
    · exact k.all c q
  len := by rw [str_app_len, h.len, k.len]
theorem Az.nil : Az "" 0 where
  all := fun c hc => by
    have e : ("" : Str).cps.toList = [] := by decide +kernel
    rw [e] at hc
    cases hc
  len := by decide +kernel
theorem Az.ok {z : Str} {n : Nat} (h : Az z n) : PyData.strOk z = true := by
  unfold PyData.strOk
  rw [Array.all_eq_true']
  intro c hc
  have := h.all c (Array.mem_toList_iff.mpr hc)
  exact decide_eq_true (by omega)

theorem cutV_map {α : Type} (f : α → V) (ns : List α) (lo hi : Option Int) : ∃ ms : List α, cutV (ns.map f) lo hi = ms.map f ∧ ms.length ≤ ns.length := by
  refine ⟨(ns.drop (HT.sIx (ns.map f).length 0 lo)).take (HT.sIx (ns.map f).length (ns.map f).length hi - HT.sIx (ns.map f).length 0 lo), ?_, ?_⟩
  · unfold cutV
    rw [List.map_take, List.map_drop]
  · rw [List.length_take, List.length_drop]
    omega
theorem cut_dp {α : Type} {K : PySem.W.Frag} {H : Hp} (f : α → PyData) {ns : List α} {xs : List V} (h : DpAll K H xs (ns.map f)) (lo hi : Option Int) : ∃ ms : List α, DpAll K H (cutV xs lo hi) (ms.map f) ∧ ∀ m ∈ ms, m ∈ ns := by
  unfold cutV
  generalize HT.sIx xs.length 0 lo = d
  generalize HT.sIx xs.length xs.length hi - d = e
  refine ⟨(ns.drop d).take e, ?_, fun m hm => List.mem_of_mem_drop (List.mem_of_mem_take hm)⟩
  rw [List.map_take, List.map_drop]
  exact dpAll_take _ (dpAll_drop _ h)
/-! ### comprehensions over a list -/
section
variable {K : PySem.W.Frag} {H : Hp}
/-- [e for x in xs], each e a value that leaves what stood -/
theorem lc_map {a : Addr} {xs : List V} {tl te : TE} {j : Nat} {σ : L2.St} {Q : VK} (f : Nat → V) (hl : SqL K H a xs) (htl : ∀ R, R (.ref a) H → tl σ H R) (hz : xs.length < 100000) (hw : ∀ x, wipe ((wipe σ [j]).set j (some x)) [j] = wipe σ [j])
    (he : ∀ (i : Nat) (x : V) (H1 : Hp) (R : VK), xs[i]? = some x → Same H H1 → (∀ H2, Same H1 H2 → R (f i) H2) → te ((wipe σ [j]).set j (some x)) H1 R)
    (q : ∀ (p : Addr) (H2 : Hp), H p = none → Same H H2 → H2 p = some (.lst ((List.range xs.length).map f)) → Q (.ref p) H2) : uLc (iList K tl) (gName j) tYes te [j] σ H Q := by
  refine uLc_of (htl _ ⟨a, rfl, ⟨xs, hl⟩, fun D hD => lc_list (K := K) (a := a) (xs := xs) (fun i H' => Same H H' ∧ H' D = some (.lst ((List.range i).map f))) ⟨same_new hD, upd_same⟩ (fun i H' _ h => same_l h.1 hl) ?_ ?_⟩)
  · rintro i x H' e ⟨s, hd⟩
    have hi : i < xs.length := (List.getElem?_eq_some_iff.mp e).1
    refine ⟨hw x, ?_⟩
    unfold tYes
    dsimp only
    rw [if_pos rfl]
    refine he i x H' _ e s fun H2 s2 => ⟨_, s2 _ _ hd, szl (by simp; omega), same_mut (s.trans s2) hD, ?_⟩
    rw [upd_same, List.range_succ, List.map_append]
    rfl
  · rintro H' ⟨s, hd⟩
    exact q D H' hD s hd
end

/-! ### rows -/
structure Row where
  n : Int
  one : Str
  other : Str
  rise : Int
deriving DecidableEq
def rowV (r : Row) : List V := [.int r.n, .str r.one, .str r.other, .int r.rise]
def rowD (r : Row) : PyData := .tuple [.int r.n, .str r.one, .str r.other, .int r.rise]
def rowsD (rows : List Row) : PyData := .list (rows.map rowD)
section
variable {K : PySem.W.Frag} {H H' : Hp}
theorem row_at {v : V} {r : Row} (h : Dp K H v (rowD r)) : ∃ a, v = .ref a ∧ SqT K H a (rowV r) := by
  obtain ⟨a, xs, rfl, h, al⟩ := dp_tup h
  obtain ⟨_, _, rfl, h1, al⟩ := dpAll_cons al
  obtain ⟨_, _, rfl, h2, al⟩ := dpAll_cons al
  obtain ⟨_, _, rfl, h3, al⟩ := dpAll_cons al
  obtain ⟨_, _, rfl, h4, al⟩ := dpAll_cons al
  obtain rfl := dpAll_nil al
  obtain rfl := dp_int h1
  obtain rfl := dp_str h2
  obtain rfl := dp_str h3
  obtain rfl := dp_int h4
  exact ⟨a, rfl, h⟩
theorem row_mk {a : Addr} {r : Row} (h : SqT K H a (rowV r)) : Dp K H (.ref a) (rowD r) := .tup h (.cons (.int _) (.cons (.str _) (.cons (.str _) (.cons (.int _) .nil))))
theorem rows_at {v : V} {rows : List Row} (h : Dp K H v (rowsD rows)) : ∃ a xs, v = .ref a ∧ SqL K H a xs ∧ xs.length = rows.length ∧ (∀ (i : Nat) x, xs[i]? = some x → ∃ r t, rows[i]? = some r ∧ x = .ref t ∧ SqT K H t (rowV r)) := by
  obtain ⟨a, xs, rfl, h, al⟩ := dp_lst h
  refine ⟨a, xs, rfl, h, by rw [dpAll_length al, List.length_map], fun i x e => ?_⟩
  obtain ⟨d, hd, h1⟩ := dpAll_get al e
  rw [List.getElem?_map] at hd
  cases er : rows[i]? with
  | none => rw [er] at hd; cases hd
  | some r =>
    rw [er] at hd
    have e : rowD r = d := Option.some.inj hd
    subst e
    obtain ⟨t, rfl, h2⟩ := row_at h1
    exact ⟨r, t, rfl, rfl, h2⟩
theorem row_tups {v : V} {r : Row} (e : Tups H H') (h : Dp K H v (rowD r)) : Dp K H' v (rowD r) := by
  obtain ⟨a, rfl, h2⟩ := row_at h
  exact row_mk (tups_t e h2)
theorem prows_tups (e : Tups H H') : ∀ {rows : List Row} {xs : List V}, DpAll K H xs (rows.map rowD) → DpAll K H' xs (rows.map rowD)
  | [], _, .nil => .nil
  | r :: rows, _, .cons a b => .cons (row_tups e a) (prows_tups e b)
theorem rowD_eqv (r s : Row) : PyData.eqv (rowD r) (rowD s) = decide (r = s) := by
  obtain ⟨a, b, c, d⟩ := r
  obtain ⟨a', b', c', d'⟩ := s
  have e : PyData.eqv (rowD ⟨a, b, c, d⟩) (rowD ⟨a', b', c', d'⟩) = ((a == a') && ((b == b') && ((c == c') && ((d == d') && true)))) := by simp only [rowD, PyData.eqv, PyData.eqvAll]
  rw [e]
  by_cases h : (⟨a, b, c, d⟩ : Row) = ⟨a', b', c', d'⟩
  · cases h; simp
  · rw [decide_eq_false h]
    by_cases h1 : a = a'
    · by_cases h2 : b = b'
      · by_cases h3 : c = c'
        · by_cases h4 : d = d'
          · exact absurd (by rw [h1, h2, h3, h4]) h
          · simp [h4]
        · simp [h3]
      · simp [h2]
    · simp [h1]
theorem rowsD_eqv : ∀ (a b : List Row), PyData.eqvAll (a.map rowD) (b.map rowD) = decide (a = b)
  | [], [] => by simp [PyData.eqvAll]
  | [], _ :: _ => by simp [PyData.eqvAll]
  | _ :: _, [] => by simp [PyData.eqvAll]
  | r :: a, s :: b => by
    rw [List.map_cons, List.map_cons, PyData.eqvAll, rowD_eqv, rowsD_eqv a b]
    by_cases h1 : r = s
    · by_cases h2 : a = b
      · simp [h1, h2]
      · simp [h1, h2]
    · simp [h1]
/-- a row's texts are texts -/
def Row.Ok (r : Row) : Prop := PyData.strOk r.one = true ∧ PyData.strOk r.other = true
theorem rowD_lay {r : Row} (h : r.Ok) : (rowD r).canLay0 = true := by simp [rowD, PyData.canLay0, PyData.canLayAll0, h.1, h.2]
theorem rowD_depth (r : Row) : (rowD r).depth = 1 := by simp [rowD, PyData.depth, PyData.depthAll]
theorem rowD_shaped {r : Row} (h : r.Ok) : SeqAt.shaped (rowD r) = true := by
  show ((rowD r).canLay0 && decide ((rowD r).depth ≤ 64)) = true
  rw [Bool.and_eq_true, rowD_depth]
  exact ⟨rowD_lay h, by decide⟩
theorem rowsD_lay : ∀ {rows : List Row}, (∀ r ∈ rows, r.Ok) → PyData.canLayAll0 (rows.map rowD) = true
  | [], _ => by simp [PyData.canLayAll0]
  | r :: rows, h => by simp [PyData.canLayAll0, rowD_lay (h r (List.mem_cons_self ..)), rowsD_lay fun s hs => h s (List.mem_cons_of_mem _ hs)]
theorem rowsD_depth : ∀ rows : List Row, PyData.depthAll (rows.map rowD) ≤ 1
  | [] => by simp [PyData.depthAll]
  | r :: rows => by
    have h1 := rowsD_depth rows
    have h2 := rowD_depth r
    simp only [List.map_cons, PyData.depthAll]
    omega
theorem rowsD_shaped {rows : List Row} (h : ∀ r ∈ rows, r.Ok) : SeqAt.shaped (rowsD rows) = true := by
  have h1 := rowsD_depth rows
  have h2 : PyData.depth (rowsD rows) ≤ 64 := by
    simp only [rowsD, PyData.depth]
    omega
  show (PyData.canLay0 (rowsD rows) && decide (PyData.depth (rowsD rows) ≤ 64)) = true
  rw [Bool.and_eq_true]
  exact ⟨by simp only [rowsD, PyData.canLay0]; exact rowsD_lay h, decide_eq_true h2⟩
end
end Peg

/-! PegM: pegs, rows, ways: the mathematics, no program in sight. -/
namespace Peg
open PySem

def Row.turn (r : Row) : Row := ⟨r.n, r.other, r.one, 0 - r.rise⟩
theorem Row.turn_turn (r : Row) : r.turn.turn = r := by
  obtain ⟨a, b, c, d⟩ := r
  show (⟨a, b, c, 0 - (0 - d)⟩ : Row) = ⟨a, b, c, d⟩
  have e : 0 - (0 - d) = d := by omega
  rw [e]
def IsStep (rows : List Row) (s : Row) : Prop := s ∈ rows ∨ s.turn ∈ rows
theorem IsStep.turn {rows : List Row} {s : Row} (h : IsStep rows s) : IsStep rows s.turn := by
  rcases h with h | h
  · exact .inr (by rw [Row.turn_turn]; exact h)
  · exact .inl h
/-- what is laid under the pegs, in its order -/
def adds (rows : List Row) : List Row := rows.flatMap fun r => [r, r.turn]
theorem mem_adds {rows : List Row} {s : Row} : s ∈ adds rows ↔ IsStep rows s := by
  unfold adds
  rw [List.mem_flatMap]
  constructor
  · rintro ⟨r, hr, h⟩
    rcases List.mem_cons.mp h with rfl | h
    · exact .inl hr
    · have h : s = r.turn := by simpa using h
      subst h
      exact .inr (by rw [Row.turn_turn]; exact hr)
  · rintro (h | h)
    · exact ⟨s, h, by simp⟩
    · exact ⟨s.turn, h, by rw [Row.turn_turn]; simp⟩
theorem adds_snoc (rows : List Row) (r : Row) : adds (rows ++ [r]) = adds rows ++ [r] ++ [r.turn] := by
  unfold adds
  rw [List.flatMap_append, List.append_assoc]
  rfl
theorem adds_len (rows : List Row) : (adds rows).length = 2 * rows.length := by
  unfold adds
  induction rows with
  | nil => rfl
  | cons r rows ih =>
    rw [List.flatMap_cons, List.length_append, ih, List.length_cons]
    simp only [List.length_cons, List.length_nil]
    omega
/-- the steps that go from p -/
def from_ (S : List Row) (p : Str) : List Row := S.filter fun s => decide (s.one = p)
theorem mem_from {S : List Row} {p : Str} {s : Row} : s ∈ from_ S p ↔ s ∈ S ∧ s.one = p := by
  unfold from_
  rw [List.mem_filter]
  simp
theorem from_snoc_same (S : List Row) (s : Row) : from_ (S ++ [s]) s.one = from_ S s.one ++ [s] := by
  unfold from_
  rw [List.filter_append]
  simp
theorem from_snoc_ne (S : List Row) (s : Row) {p : Str} (h : p ≠ s.one) : from_ (S ++ [s]) p = from_ S p := by
  unfold from_
  rw [List.filter_append]
  have e : decide (s.one = p) = false := decide_eq_false (fun q => h q.symm)
  simp [e]
theorem from_len (S : List Row) (p : Str) : (from_ S p).length ≤ S.length := List.length_filter_le ..

/-! ### ways -/
inductive Way (rows : List Row) : Str → List Row → Str → Prop where
  | nil (a : Str) : Way rows a [] a
  | cons {s : Row} {ss : List Row} {b : Str} (h : IsStep rows s) (t : Way rows s.other ss b) : Way rows s.one (s :: ss) b
theorem Way.append {rows : List Row} {a b c : Str} {ss ts : List Row} (h : Way rows a ss b) (k : Way rows b ts c) : Way rows a (ss ++ ts) c := by
  induction h with
  | nil a => exact k
  | cons h t ih => exact .cons h (ih k)
theorem Way.one {rows : List Row} {s : Row} (h : IsStep rows s) : Way rows s.one [s] s.other := .cons h (.nil _)
theorem Way.mono {rows rows' : List Row} {a b : Str} {ss : List Row} (w : ∀ s, IsStep rows s → IsStep rows' s) (h : Way rows a ss b) : Way rows' a ss b := by
  induction h with
  | nil a => exact .nil a
  | cons h t ih => exact .cons (w _ h) ih
def Reach (rows : List Row) (a b : Str) : Prop := ∃ ss, Way rows a ss b
theorem Reach.refl (rows : List Row) (a : Str) : Reach rows a a := ⟨[], .nil a⟩
theorem Reach.trans {rows : List Row} {a b c : Str} (h : Reach rows a b) (k : Reach rows b c) : Reach rows a c := by
  obtain ⟨ss, h⟩ := h
  obtain ⟨ts, k⟩ := k
  exact ⟨_, h.append k⟩
theorem Reach.step {rows : List Row} {s : Row} (h : IsStep rows s) : Reach rows s.one s.other := ⟨_, .one h⟩
theorem Reach.snoc {rows : List Row} {a : Str} {s : Row} (h : Reach rows a s.one) (k : IsStep rows s) : Reach rows a s.other := h.trans (.step k)
theorem Way.symm {rows : List Row} {a b : Str} {ss : List Row} (h : Way rows a ss b) : Reach rows b a := by
  induction h with
  | nil a => exact .refl _ _
  | cons h t ih =>
    have k : Reach rows _ _ := .step h.turn
    exact ih.trans k
theorem Reach.symm {rows : List Row} {a b : Str} (h : Reach rows a b) : Reach rows b a := let ⟨_, w⟩ := h; w.symm
theorem Reach.mono {rows rows' : List Row} {a b : Str} (w : ∀ s, IsStep rows s → IsStep rows' s) (h : Reach rows a b) : Reach rows' a b := let ⟨ss, k⟩ := h; ⟨ss, k.mono w⟩
/-- what is closed under the steps has all that is come to -/
theorem Reach.closed {rows : List Row} {a b : Str} {S : Str → Prop} (h : ∀ s, IsStep rows s → S s.one → S s.other) (ha : S a) (r : Reach rows a b) : S b := by
  obtain ⟨ss, w⟩ := r
  induction w with
  | nil a => exact ha
  | cons k t ih => exact ih (h _ k ha)
/-- closed under the rows, either way -/
theorem Reach.closedR {rows : List Row} {a b : Str} {S : Str → Prop} (h : ∀ r ∈ rows, S r.one ↔ S r.other) (ha : S a) (r : Reach rows a b) : S b := r.closed (fun s k hs => by
  rcases k with k | k
  · exact (h s k).mp hs
  · exact (h s.turn k).mpr hs) ha

/-! ### lists without the same twice -/
theorem nodup_len {α : Type} [DecidableEq α] : ∀ {l m : List α}, l.Nodup → (∀ x ∈ l, x ∈ m) → l.length ≤ m.length
  | [], m, _, _ => Nat.zero_le _
  | x :: l, m, h, k => by
    obtain ⟨h1, h2⟩ := List.nodup_cons.mp h
    have hx : x ∈ m := k x (List.mem_cons_self ..)
    have e : ∀ y ∈ l, y ∈ m.erase x := fun y hy => by
      have ne : y ≠ x := fun e => h1 (e ▸ hy)
      exact (List.mem_erase_of_ne ne).mpr (k y (List.mem_cons_of_mem _ hy))
    have ih := nodup_len h2 e
    rw [List.length_erase_of_mem hx] at ih
    have : 0 < m.length := List.length_pos_of_mem hx
    rw [List.length_cons]
    omega
theorem nodup_snoc {α : Type} {l : List α} {x : α} (h : l.Nodup) (hx : ¬ x ∈ l) : (l ++ [x]).Nodup := by
  rw [List.nodup_append]
  exact ⟨h, by simp, fun a ha b hb e => by
    have hb : b = x := by simpa using hb
    rw [e, hb] at ha
    exact hx ha⟩

/-! ### what the search leaves -/
abbrev Last := List (Str × Option Row)
def Last.keys (B : Last) : List Str := B.map (·.1)
/-- each peg's last step, the pegs in the order of finding -/
structure Tree (rows : List Row) (one : Str) (B : Last) : Prop where
  nd : B.keys.Nodup
  hd : B[0]? = some (one, none)
  par : ∀ (i : Nat) (p : Str) (o : Option Row), B[i]? = some (p, o) → 0 < i → ∃ (s : Row) (j : Nat) (q : Option Row), o = some s ∧ IsStep rows s ∧ s.other = p ∧ j < i ∧ B[j]? = some (s.one, q)
structure Bfs (rows : List Row) (one : Str) (B : Last) : Prop extends Tree rows one B where
  clo : ∀ s, IsStep rows s → s.one ∈ B.keys → s.other ∈ B.keys
theorem Last.get_key {B : Last} {p : Str} (h : p ∈ B.keys) : ∃ (i : Nat) (o : Option Row), B[i]? = some (p, o) := by
  obtain ⟨⟨q, o⟩, hb, e⟩ := List.mem_map.mp h
  obtain ⟨i, hi, e2⟩ := List.mem_iff_getElem.mp hb
  have e : q = p := e
  subst e
  exact ⟨i, o, by rw [List.getElem?_eq_getElem hi, e2]⟩
theorem Last.mem_key {B : Last} {i : Nat} {p : Str} {o : Option Row} (h : B[i]? = some (p, o)) : p ∈ B.keys := List.mem_map.mpr ⟨(p, o), List.mem_of_getElem? h, rfl⟩
theorem Last.uniq {B : Last} (nd : B.keys.Nodup) {i j : Nat} {p : Str} {o o' : Option Row} (h : B[i]? = some (p, o)) (k : B[j]? = some (p, o')) : i = j ∧ o = o' := by
  have e1 : B.keys[i]? = some p := by unfold Last.keys; rw [List.getElem?_map, h]; rfl
  have e2 : B.keys[j]? = some p := by unfold Last.keys; rw [List.getElem?_map, k]; rfl
  obtain ⟨hi, ei⟩ := List.getElem?_eq_some_iff.mp e1
  obtain ⟨hj, ej⟩ := List.getElem?_eq_some_iff.mp e2
  have e : i = j := (List.getElem_inj nd).mp (ei.trans ej.symm)
  subst e
  rw [h] at k
  exact ⟨rfl, (Prod.mk.inj (Option.some.inj k)).2⟩
section
variable {rows : List Row} {one : Str} {B : Last}
theorem Tree.reach (T : Tree rows one B) : ∀ (i : Nat) (p : Str) (o : Option Row), B[i]? = some (p, o) → Reach rows one p := by
  intro i
  induction i using Nat.strongRecOn with
  | ind i ih =>
    intro p o h
    by_cases h0 : 0 < i
    · obtain ⟨s, j, q, rfl, hs, rfl, hj, hq⟩ := T.par i p o h h0
      exact (ih j hj _ _ hq).snoc hs
    · have e : i = 0 := by omega
      subst e
      rw [T.hd] at h
      cases h
      exact .refl _ _
theorem Tree.mem (T : Tree rows one B) {p : Str} (h : p ∈ B.keys) : Reach rows one p := by
  obtain ⟨i, o, e⟩ := Last.get_key h
  exact T.reach i p o e
theorem Tree.one_mem (T : Tree rows one B) : one ∈ B.keys := Last.mem_key T.hd
theorem Bfs.iff (T : Bfs rows one B) {p : Str} : p ∈ B.keys ↔ Reach rows one p :=
  ⟨T.toTree.mem, fun r => r.closed (S := fun p => p ∈ B.keys) T.clo T.one_mem⟩
/-- the first peg alone -/
theorem Tree.start (rows : List Row) (one : Str) : Tree rows one [(one, none)] where
  nd := by simp [Last.keys]
  hd := rfl
  par := fun i p o h h0 => by
    have : i < 1 := (List.getElem?_eq_some_iff.mp h).1
    omega
/-- one more peg -/
theorem Tree.snoc (T : Tree rows one B) {s : Row} {j : Nat} {q : Option Row} (hs : IsStep rows s) (hj : B[j]? = some (s.one, q)) (n : ¬ s.other ∈ B.keys) : Tree rows one (B ++ [(s.other, some s)]) where
  nd := by
    unfold Last.keys
    rw [List.map_append]
    exact nodup_snoc T.nd n
  hd := by
    have h0 : 0 < B.length := (List.getElem?_eq_some_iff.mp T.hd).1
    rw [List.getElem?_append_left h0]
    exact T.hd
  par := fun i p o h h0 => by
    have hjl : j < B.length := (List.getElem?_eq_some_iff.mp hj).1
    by_cases hi : i < B.length
    · rw [List.getElem?_append_left hi] at h
      obtain ⟨s', j', q', e1, e2, e3, e4, e5⟩ := T.par i p o h h0
      exact ⟨s', j', q', e1, e2, e3, e4, by rw [List.getElem?_append_left (by omega)]; exact e5⟩
    · have hl : i < (B ++ [(s.other, some s)]).length := (List.getElem?_eq_some_iff.mp h).1
      rw [List.length_append] at hl
      have e : i = B.length := by simp at hl; omega
      subst e
      rw [List.getElem?_append_right (Nat.le_refl _), Nat.sub_self] at h
      cases h
      exact ⟨s, j, q, rfl, hs, rfl, hjl, by rw [List.getElem?_append_left hjl]; exact hj⟩

/-! ### the way back: the places of the pegs rise along it -/
inductive Up (rows : List Row) (B : Last) : Nat → List Row → Nat → Prop where
  | nil {j : Nat} (h : j < B.length) : Up rows B j [] j
  | cons {s : Row} {ss : List Row} {i j k : Nat} {q : Option Row} (h : IsStep rows s) (hi : B[i]? = some (s.one, q)) (hj : B[j]? = some (s.other, some s)) (hl : i < j) (t : Up rows B j ss k) : Up rows B i (s :: ss) k
theorem Up.lt {i k : Nat} {ss : List Row} (u : Up rows B i ss k) : i < B.length := by
  cases u with
  | nil h => exact h
  | cons h hi hj hl t => exact (List.getElem?_eq_some_iff.mp hi).1
theorem Up.way {i k : Nat} {ss : List Row} (u : Up rows B i ss k) : ∀ {a b : Str} {o o' : Option Row}, B[i]? = some (a, o) → B[k]? = some (b, o') → Way rows a ss b := by
  induction u with
  | nil h =>
    intro a b o o' h1 h2
    rw [h1] at h2
    cases h2
    exact .nil _
  | @cons s ss i j k q h hi hj hl t ih =>
    intro a b o o' h1 h2
    rw [hi] at h1
    cases h1
    exact .cons h (ih hj h2)
theorem Up.above {i k : Nat} {ss : List Row} (u : Up rows B i ss k) : ∀ {b : Str} {o' : Option Row}, B[k]? = some (b, o') → ∀ p ∈ ss.map Row.one ++ [b], ∃ (m : Nat) (o : Option Row), i ≤ m ∧ B[m]? = some (p, o) := by
  induction u with
  | @nil j h =>
    intro b o' h2 p hp
    have e : p = b := by simpa using hp
    subst e
    exact ⟨_, _, Nat.le_refl _, h2⟩
  | @cons s ss i j k q h hi hj hl t ih =>
    intro b o' h2 p hp
    rw [List.map_cons, List.cons_append] at hp
    rcases List.mem_cons.mp hp with rfl | hp
    · exact ⟨i, q, Nat.le_refl _, hi⟩
    · obtain ⟨m, o, hm, e⟩ := ih h2 p hp
      exact ⟨m, o, by omega, e⟩
/-- no peg comes twice -/
def Simple (ss : List Row) (b : Str) : Prop := (ss.map Row.one ++ [b]).Nodup
theorem Up.simple (nd : B.keys.Nodup) {i k : Nat} {ss : List Row} (u : Up rows B i ss k) : ∀ {b : Str} {o' : Option Row}, B[k]? = some (b, o') → Simple ss b := by
  induction u with
  | nil h =>
    intro b o' h2
    simp [Simple]
  | @cons s ss i j k q h hi hj hl t ih =>
    intro b o' h2
    unfold Simple
    rw [List.map_cons, List.cons_append, List.nodup_cons]
    refine ⟨fun hm => ?_, ih h2⟩
    obtain ⟨m, o, hle, e⟩ := t.above h2 _ hm
    have := (Last.uniq nd e hi).1
    omega
end
end Peg

/-! PegH: how links and last steps lie in the heap. -/
namespace Peg
open PySem PySem.Spec PyProof.Rows L2 U

/-! ### dicts by their pairs -/
theorem nd_inj {α β : Type} {f : α → β} : ∀ {l : List α} {a b : α}, (l.map f).Nodup → a ∈ l → b ∈ l → f a = f b → a = b
  | [], _, _, _, ha, _, _ => by cases ha
  | x :: l, a, b, h, ha, hb, e => by
    rw [List.map_cons] at h
    obtain ⟨h1, h2⟩ := List.nodup_cons.mp h
    rcases List.mem_cons.mp ha with ea | ha2
    · rcases List.mem_cons.mp hb with eb | hb2
      · exact ea.trans eb.symm
      · exact absurd (List.mem_map.mpr ⟨b, hb2, by rw [← e, ea]⟩) h1
    · rcases List.mem_cons.mp hb with eb | hb2
      · exact absurd (List.mem_map.mpr ⟨a, ha2, by rw [e, eb]⟩) h1
      · exact nd_inj h2 ha2 hb2 e
section
variable {κ : Type} [DecidableEq κ]
theorem valV_mem : ∀ {kvs : List (κ × V)} {k : κ} {v : V}, (kvs.map (·.1)).Nodup → (k, v) ∈ kvs → valV kvs k = some v
  | [], _, _, _, h => by cases h
  | p :: r, k, v, nd, h => by
    rw [List.map_cons] at nd
    obtain ⟨h1, h2⟩ := List.nodup_cons.mp nd
    rcases List.mem_cons.mp h with e | h
    · subst e
      exact valV_pos rfl
    · rw [valV_neg (fun e => h1 (List.mem_map.mpr ⟨(k, v), h, e.symm⟩))]
      exact valV_mem h2 h
theorem valV_no : ∀ {kvs : List (κ × V)} {k : κ}, ¬ k ∈ kvs.map (·.1) → valV kvs k = none
  | [], _, _ => valV_nil
  | p :: r, k, h => by
    rw [List.map_cons, List.mem_cons, not_or] at h
    rw [valV_neg (fun e => h.1 e.symm)]
    exact valV_no h.2
end

/-! ### the links -/
structure Links (K : PySem.W.Frag) (H : Hp) (d : Addr) (S : List Row) (L : List (Str × Addr × List V)) : Prop where
  dict : H d = some (.dK (L.map fun e => ((Sum.inr e.1 : Key), V.ref e.2.1)))
  nd : (L.map (·.1)).Nodup
  na : (L.map (·.2.1)).Nodup
  it : ∀ e ∈ L, H e.2.1 = some (.lst e.2.2) ∧ DpAll K H e.2.2 ((from_ S e.1).map rowD)
  sub : ∀ s ∈ S, s.one ∈ L.map (·.1)
section
variable {K : PySem.W.Frag} {H H' : Hp} {d : Addr} {S : List Row} {L : List (Str × Addr × List V)}
theorem Links.mono (e : Same H H') (h : Links K H d S L) : Links K H' d S L :=
  ⟨e _ _ h.dict, h.nd, h.na, fun x hx => ⟨e _ _ (h.it x hx).1, dpAll_mono e (h.it x hx).2⟩, h.sub⟩
theorem Links.keys (h : Links K H d S L) : ((L.map fun e => ((Sum.inr e.1 : Key), V.ref e.2.1)).map (·.1)) = (L.map (·.1)).map Sum.inr := by
  rw [List.map_map, List.map_map]
  rfl
theorem nodup_inr {l : List Str} (h : l.Nodup) : (l.map (Sum.inr : Str → Key)).Nodup := by
  rw [List.nodup_iff_pairwise_ne, List.pairwise_map]
  exact (List.nodup_iff_pairwise_ne.mp h).imp fun {a b} n e => n (Sum.inr.inj e)
theorem Links.get (h : Links K H d S L) {e : Str × Addr × List V} (he : e ∈ L) : valV (L.map fun e => ((Sum.inr e.1 : Key), V.ref e.2.1)) (Sum.inr e.1) = some (.ref e.2.1) :=
  valV_mem (by rw [h.keys]; exact nodup_inr h.nd) (List.mem_map.mpr ⟨e, he, rfl⟩)
theorem Links.none (h : Links K H d S L) {p : Str} (hp : ¬ p ∈ L.map (·.1)) : valV (L.map fun e => ((Sum.inr e.1 : Key), V.ref e.2.1)) (Sum.inr p) = none :=
  valV_no (by
    rw [h.keys]
    intro m
    obtain ⟨q, hq, e⟩ := List.mem_map.mp m
    exact hp (Sum.inr.inj e ▸ hq))
theorem Links.empty (h : Links K H d S L) {p : Str} (hp : ¬ p ∈ L.map (·.1)) : from_ S p = [] := by
  unfold from_
  rw [List.filter_eq_nil_iff]
  intro s hs e
  exact hp (of_decide_eq_true e ▸ h.sub s hs)
/-- the list of a peg is another thing than the dict -/
theorem Links.ne (h : Links K H d S L) {e : Str × Addr × List V} (he : e ∈ L) : e.2.1 ≠ d := ne_of (h.it e he).1 h.dict (by intro z; cases z)

/-- a peg that has no list as yet -/
theorem Links.new (h : Links K H d S L) {k : Str} (hk : ¬ k ∈ L.map (·.1)) {z : Addr} {H1 H2 : Hp} (n : H z = Option.none) (s : Same H H1) (t : H1 z = some (.lst []))
    (c : Chd d H1 H2) (e : H2 d = some (.dK (putK (L.map fun e => ((Sum.inr e.1 : Key), V.ref e.2.1)) (Sum.inr k) (.ref z)))) : Links K H2 d S (L ++ [(k, z, [])]) := by
  have tp : Tups H H2 := (tups_of s).trans (tups_chd c (s _ _ h.dict) True.intro)
  have zd : z ≠ d := ne_of t (s _ _ h.dict) (by intro q; cases q)
  refine ⟨?_, ?_, ?_, fun x hx => ?_, fun s' hs => ?_⟩
  · rw [e, putK_new _ (h.none hk), List.map_append]
    rfl
  · rw [List.map_append]
    exact nodup_snoc h.nd hk
  · rw [List.map_append]
    refine nodup_snoc h.na fun m => ?_
    obtain ⟨x, hx, ex⟩ := List.mem_map.mp m
    have q := (h.it x hx).1
    rw [ex, n] at q
    cases q
  · rcases List.mem_append.mp hx with hx | hx
    · obtain ⟨a, b⟩ := h.it x hx
      exact ⟨c _ _ (h.ne hx) (s _ _ a), prows_tups tp b⟩
    · have ex : x = (k, z, []) := by simpa using hx
      subst ex
      refine ⟨c _ _ zd t, ?_⟩
      rw [h.empty hk]
      exact .nil
  · rw [List.map_append]
    exact List.mem_append_left _ (h.sub s' hs)
/-- one step more, at the end of its peg's list -/
theorem Links.add (h : Links K H d S L) {e : Str × Addr × List V} (he : e ∈ L) {s : Row} (hs : s.one = e.1) {v : V} (dv : Dp K H v (rowD s)) {H2 : Hp} (c : Chd e.2.1 H H2) (t : H2 e.2.1 = some (.lst (e.2.2 ++ [v]))) :
    Links K H2 d (S ++ [s]) (L.map fun x => if x.1 = e.1 then (x.1, x.2.1, x.2.2 ++ [v]) else x) := by
  have tp : Tups H H2 := tups_chd c (h.it e he).1 True.intro
  have m1 : (L.map fun x => if x.1 = e.1 then (x.1, x.2.1, x.2.2 ++ [v]) else x).map (·.1) = L.map (·.1) := by
    rw [List.map_map]
    refine List.map_congr_left fun x _ => ?_
    show (if x.1 = e.1 then (x.1, x.2.1, x.2.2 ++ [v]) else x).1 = x.1
    split <;> rfl
  have m2 : (L.map fun x => if x.1 = e.1 then (x.1, x.2.1, x.2.2 ++ [v]) else x).map (·.2.1) = L.map (·.2.1) := by
    rw [List.map_map]
    refine List.map_congr_left fun x _ => ?_
    show (if x.1 = e.1 then (x.1, x.2.1, x.2.2 ++ [v]) else x).2.1 = x.2.1
    split <;> rfl
  refine ⟨?_, by rw [m1]; exact h.nd, by rw [m2]; exact h.na, fun x hx => ?_, fun s' hs' => ?_⟩
  · rw [c _ _ (h.ne he).symm h.dict, List.map_map]
    refine congrArg (fun l => some (HO.dK l)) (List.map_congr_left fun x _ => ?_)
    show _ = ((Sum.inr (if x.1 = e.1 then (x.1, x.2.1, x.2.2 ++ [v]) else x).1 : Key), V.ref (if x.1 = e.1 then (x.1, x.2.1, x.2.2 ++ [v]) else x).2.1)
    split <;> rfl
  · obtain ⟨y, hy, ey⟩ := List.mem_map.mp hx
    by_cases q : y.1 = e.1
    · have ye : y = e := nd_inj h.nd hy he q
      subst ye
      rw [if_pos rfl] at ey
      subst ey
      refine ⟨t, ?_⟩
      show DpAll K H2 (y.2.2 ++ [v]) ((from_ (S ++ [s]) y.1).map rowD)
      rw [← hs, from_snoc_same, hs, List.map_append]
      exact dpAll_snoc (prows_tups tp (h.it y hy).2) (row_tups tp dv)
    · rw [if_neg q] at ey
      subst ey
      have ne : y.2.1 ≠ e.2.1 := fun z => q (by rw [nd_inj h.na hy he z])
      refine ⟨c _ _ ne (h.it y hy).1, ?_⟩
      rw [from_snoc_ne _ _ (by rw [hs]; exact q)]
      exact prows_tups tp (h.it y hy).2
  · rw [m1]
    rcases List.mem_append.mp hs' with q | q
    · exact h.sub s' q
    · have q : s' = s := by simpa using q
      subst q
      rw [hs]
      exact List.mem_map.mpr ⟨e, he, rfl⟩
end
/-- the links of the rows -/
def LinksOf (K : PySem.W.Frag) (H : Hp) (d : Addr) (rows : List Row) : Prop := ∃ L, Links K H d (adds rows) L ∧ ∀ p ∈ L.map (·.1), ∃ s, IsStep rows s ∧ s.one = p
theorem LinksOf.mono {K : PySem.W.Frag} {H H' : Hp} {d : Addr} {rows : List Row} (e : Same H H') (h : LinksOf K H d rows) : LinksOf K H' d rows := by
  obtain ⟨L, h, k⟩ := h
  exact ⟨L, h.mono e, k⟩

/-! ### the last steps -/
def OptRow (K : PySem.W.Frag) (H : Hp) (v : V) : Option Row → Prop
  | none => v = .non
  | some r => Dp K H v (rowD r)
theorem OptRow.tups {K : PySem.W.Frag} {H H' : Hp} (e : Tups H H') {v : V} : ∀ {o : Option Row}, OptRow K H v o → OptRow K H' v o
  | none, h => h
  | some _, h => row_tups e h
def LastKV (K : PySem.W.Frag) (H : Hp) : List (Key × V) → Last → Prop := Paired fun kv b => kv.1 = Sum.inr b.1 ∧ OptRow K H kv.2 b.2
def LastAt (K : PySem.W.Frag) (H : Hp) (p : Addr) (B : Last) : Prop := ∃ kvs, H p = some (.dK kvs) ∧ LastKV K H kvs B
section
variable {K : PySem.W.Frag} {H H' : Hp}
theorem LastKV.tups (e : Tups H H') {kvs : List (Key × V)} {B : Last} (h : LastKV K H kvs B) : LastKV K H' kvs B := Paired.mapP h fun a b q => ⟨q.1, q.2.tups e⟩
theorem LastAt.mono {p : Addr} {B : Last} (e : Same H H') (h : LastAt K H p B) : LastAt K H' p B := by
  obtain ⟨kvs, h1, h2⟩ := h
  exact ⟨kvs, e _ _ h1, h2.tups (tups_of e)⟩
theorem LastKV.keys : ∀ {kvs : List (Key × V)} {B : Last}, LastKV K H kvs B → kvs.map (·.1) = B.keys.map Sum.inr
  | _, _, .nil => rfl
  | _, _, .cons h t => by
    have ih := LastKV.keys t
    exact congr (congrArg List.cons h.1) ih
theorem LastKV.length {kvs : List (Key × V)} {B : Last} (h : LastKV K H kvs B) : kvs.length = B.length := Paired.length h
theorem LastKV.snoc : ∀ {kvs : List (Key × V)} {B : Last} {kv : Key × V} {b : Str × Option Row}, LastKV K H kvs B → (kv.1 = Sum.inr b.1 ∧ OptRow K H kv.2 b.2) → LastKV K H (kvs ++ [kv]) (B ++ [b])
  | _, _, _, _, .nil, e => .cons e .nil
  | _, _, _, _, .cons a t, e => .cons a (LastKV.snoc t e)
theorem LastKV.has {kvs : List (Key × V)} {B : Last} (h : LastKV K H kvs B) (p : Str) : (valV kvs (Sum.inr p)).isSome = decide (p ∈ B.keys) := by
  by_cases m : p ∈ B.keys
  · rw [decide_eq_true m]
    have q : (Sum.inr p : Key) ∈ kvs.map (·.1) := by rw [h.keys]; exact List.mem_map.mpr ⟨p, m, rfl⟩
    cases e : valV kvs (Sum.inr p) with
    | some v => rfl
    | none => exact absurd q (valV_not e)
  · rw [decide_eq_false m]
    have q : ¬ (Sum.inr p : Key) ∈ kvs.map (·.1) := by
      rw [h.keys]
      intro z
      obtain ⟨y, hy, e⟩ := List.mem_map.mp z
      exact m (Sum.inr.inj e ▸ hy)
    rw [valV_no q]
    rfl
theorem LastKV.get : ∀ {kvs : List (Key × V)} {B : Last} {i : Nat} {p : Str} {o : Option Row}, LastKV K H kvs B → B.keys.Nodup → B[i]? = some (p, o) → ∃ v, valV kvs (Sum.inr p) = some v ∧ OptRow K H v o
  | _, _, i, p, o, .nil, _, e => by simp at e
  | kv :: kvs, b :: B, 0, p, o, .cons h t, nd, e => by
    have e : b = (p, o) := Option.some.inj e
    subst e
    exact ⟨kv.2, valV_pos h.1, h.2⟩
  | kv :: kvs, b :: B, i + 1, p, o, .cons h t, nd, e => by
    have nd : (b.1 :: Last.keys B).Nodup := nd
    obtain ⟨n1, n2⟩ := List.nodup_cons.mp nd
    have e : B[i]? = some (p, o) := by simpa using e
    obtain ⟨v, h1, h2⟩ := LastKV.get t n2 e
    refine ⟨v, ?_, h2⟩
    rw [valV_neg]
    · exact h1
    · rw [h.1]
      intro q
      exact n1 (Sum.inr.inj q ▸ Last.mem_key e)
end
theorem any_row (rows : List Row) (s : Row) : (rows.map rowD).any (fun z => PyData.eqv z (rowD s)) = decide (s ∈ rows) := by
  induction rows with
  | nil => rfl
  | cons r rows ih =>
    rw [List.map_cons, List.any_cons, ih, rowD_eqv]
    by_cases h : r = s
    · subst h; simp
    · have h2 : ¬ s = r := fun e => h e.symm
      simp [h, h2]
end Peg

/-! PegX: list(reversed(list)). -/
namespace RTL
open PySem PySem.Spec PyProof.Rows RT
section
variable {prog : Program} {w : World} {A : Around} {E : Value → Shared → Prop} {s : Shared}
theorem extend_rev {it l S : Addr} {items : Array Value} {c0 : Nat} {res : Value} {R : Result → Shared → Prop} (hh : A.handled = none) (hit : s.heap.IsRevIter it l ((items.size : Int) - 1)) (hl : s.heap.IsList l items) (hne : l ≠ it) (hn : items.size ≤ sizeLine)
    (hSi : S ≠ it) (hSl : S ≠ l) (hS : s.heap.get? S = some { cls := .type "list", data := .seq #[] c0 })
    (hR : ∀ (h' : Heap) (tk : Nat) (acc : Array Value) (c : Nat), (∀ b o, b ≠ it → b ≠ S → s.heap.get? b = some o → h'.get? b = some o) → h'.get? S = some { cls := .type "list", dict := none, data := .seq acc c, slots := #[] } → ItemsOf (fun i v => items[items.size - 1 - i]? = some v) acc items.size → R (.ok (.ret res)) { s with heap := h', toks := tk }) :
    wpAny (model prog w) A.in1 (Builtin.List.listExtendWith (.ref S) (.ref it) res)
      (fun fin s' => match fin with | .done f => R (.ok f) s' | .again c' => c'.quiet = true ∧ codeAny (model prog w) A c' R s') (fun e s' => R (.error e) s') s := by
  have W := (Walks.listRev (prog := prog) (w := w) (A := A.in1) hh it l hne items).toS
  have hSf : S ∉ [it, l] := by simp only [List.mem_cons, List.not_mem_nil, or_false, not_or]; exact ⟨hSi, hSl⟩
  have hT : s.TypeIs (.ref it) "list_reverseiterator" := Heap.IsRevIter.typeIs hit
  have h1 : Builtin.List.listSameRef (.ref S) (.ref it) = false := by simp [Builtin.List.listSameRef, hSi]
  unfold Builtin.List.listExtendWith
  refine wpAny_bind (wpAny_typeOf hT ?_)
  rw [if_neg (by rw [h1]; decide)]
  refine wpAny_bind (wpAny_pyIter_revIter hit ?_)
  refine wpAny_bind (wpAny_holding ?_)
  unfold Builtin.List.listLengthHint
  refine wpAny_bind (wpAny_specialOf hT nolen_lri ?_)
  show wpAny _ A.in1 (specialOf (Value.ref it) (Str.ofString "__length_hint__") >>= _) _ _ _
  refine wpAny_bind (wpAny_specialOf hT hint_lri ?_)
  generalize hid : ("list_reverseiterator.__length_hint__" : String) = id0
  wp_delta
  rw [show splitId id0 = some ("list_reverseiterator", "__length_hint__") from by subst hid; decide +kernel]
  subst hid
  refine wpAny_bind (wpAny_isInstance (b := true) hT (by rw [isSubtype_type]; kernel_rfl) ?_)
  refine wpAny_pure ?_
  rw [if_neg (by decide)]
  have e0 : ((items.size : Nat) : Int) - 1 - ((0 : Nat) : Int) = (items.size : Int) - 1 := by omega
  refine wpAny_pure ⟨plainId_quiet F.plain_extend_loop _, codeAny_extend_loopS W hn _ hSf _ items.size 0 _ _ _ rfl (Nat.zero_le _) ⟨Nat.zero_le _, by rw [e0]; exact hit, hl⟩ hS (ItemsOf.nil _) fun s' acc' c' hm hS' hacc => ?_⟩
  rw [Moved.eq_with hm]
  refine hR s'.heap s'.toks acc' c' (fun b o hb hb2 e => hm.heap b o (fun hmem => ?_) e) hS' hacc
  rcases List.mem_cons.mp hmem with e' | hmem
  · exact hb2 e'
  · exact hb (List.mem_singleton.mp hmem)
theorem init_rev {it l S : Addr} {items : Array Value} {R : Result → Shared → Prop} (hh : A.handled = none) (hit : s.heap.IsRevIter it l ((items.size : Int) - 1)) (hl : s.heap.IsList l items) (hne : l ≠ it) (hn : items.size ≤ sizeLine)
    (hSi : S ≠ it) (hSl : S ≠ l) (hS : s.heap.get? S = some { cls := .type "list", data := .seq #[] })
    (hR : ∀ (h' : Heap) (tk : Nat) (acc : Array Value) (c : Nat), (∀ b o, b ≠ it → b ≠ S → s.heap.get? b = some o → h'.get? b = some o) → h'.get? S = some { cls := .type "list", dict := none, data := .seq acc c, slots := #[] } → ItemsOf (fun i v => items[items.size - 1 - i]? = some v) acc items.size → R (.ok (.ret .none)) { s with heap := h', toks := tk }) :
    wpAny (model prog w) A.in1 (Builtin.«list.__init__» ⟨[.ref S, .ref it], []⟩)
      (fun fin s' => match fin with | .done f => R (.ok f) s' | .again c' => c'.quiet = true ∧ codeAny (model prog w) A c' R s') (fun e s' => R (.error e) s') s := by
  show wpAny _ _ (do let old ← Builtin.List.listItems (.ref S); Builtin.List.listUpdate (.ref S) (fun _ => #[]); letGo old.toList.reverse; Builtin.List.listExtendWith (.ref S) (.ref it) .none) _ _ s
  refine wpAny_bind ?_
  unfold Builtin.List.listItems
  refine wpAny_bind (wpAny_seqItems hS rfl (wpAny_pure ?_))
  show wpAny _ _ (updateSeq S (fun _ => #[]) >>= fun _ => letGo (#[] : Array Value).toList.reverse >>= fun _ => Builtin.List.listExtendWith (.ref S) (.ref it) .none) _ _ s
  refine wpAny_bind (wpAny_updateSeq hS rfl ?_)
  have hS₂ := Heap.get?_update_self (Obj.mapSeq (fun _ => (#[] : Array Value))) hS rfl
  have oth : ∀ b o, b ≠ S → s.heap.get? b = some o → (s.heap.update S (Obj.mapSeq (fun _ => (#[] : Array Value)))).get? b = some o :=
    fun b o hb e => (Heap.get?_update_other _ _ (Ne.symm hb)).trans e
  refine wpAny_bind (wpAny_letGo ?_)
  obtain ⟨ol, hol, xl⟩ := id hl
  refine extend_rev hh (hit.at fun o e => oth it o hSi.symm e) ⟨ol, oth l ol hSl.symm hol, xl⟩ hne hn hSi hSl hS₂ fun h' tk acc c hk hS' hacc => hR h' tk acc c (fun b o hb hb2 e => hk b o hb hb2 (oth b o hb2 e)) hS' hacc
theorem call_list_rev {it l : Addr} {items : Array Value} {Q : Value → Shared → Prop} (hh : A.handled = none) (hit : s.heap.IsRevIter it l ((items.size : Int) - 1)) (hl : s.heap.IsList l items) (hne : l ≠ it) (hn : items.size ≤ sizeLine)
    (hQ : ∀ (h' : Heap) (tk : Nat) (acc : Array Value) (c : Nat), (∀ b o, b ≠ it → s.heap.get? b = some o → h'.get? b = some o) → h'.get? s.heap.objs.size = some { cls := .type "list", dict := none, data := .seq acc c, slots := #[] } → ItemsOf (fun i v => items[items.size - 1 - i]? = some v) acc items.size → Q (.ref s.heap.objs.size) { s with heap := h', toks := tk }) :
    wpAny (model prog w) A (call (.type "list") [.ref it]) Q E s := by
  refine callType_codes (Q₁ := fun obj s₁ => obj = .ref s.heap.objs.size ∧ s₁ = { s with heap := s.heap.push { cls := .type "list", data := .seq #[] } }) PySem.F.called_list (PySem.F.typeCall_list_1 _) PySem.F.entry_list_init
    (code_list_new _ ⟨rfl, rfl⟩) fun obj s₁ h₁ => ?_
  obtain ⟨rfl, rfl⟩ := h₁
  have hS : (s.heap.push { cls := .type "list", data := .seq #[] }).get? s.heap.objs.size = some { cls := .type "list", data := .seq #[] } := Heap.get?_push_size _ rfl
  have hr : it < s.heap.objs.size := let ⟨_, ho, _⟩ := hit; Heap.lt_size ho
  have hd : l < s.heap.objs.size := let ⟨_, ho, _⟩ := hl; Heap.lt_size ho
  refine ⟨⟨_, hS, rfl⟩, PySem.F.args_list_init_2 _ _, init_rev (A := A.in1) hh (hit.at fun o e => Heap.get?_push_of_some _ e) (hl.push _) hne hn (Nat.ne_of_gt hr) (Nat.ne_of_gt hd) hS fun h' tk acc c hk hS' hacc => ?_⟩
  exact ⟨rfl, hQ h' tk acc c (fun b o hb e => hk b o hb (Nat.ne_of_lt (Heap.lt_size e)) (Heap.get?_push_of_some _ e)) hS' hacc⟩
end
end RTL
namespace U
open PySem PySem.Spec PyProof.Rows L2
/-- list(reversed(x)), x a list -/
def uListRev (K : PySem.W.Frag) (te : TE) : TE := fun σ H Q => te σ H fun x H1 => match x with
  | .ref a => ∃ xs, SqL K H1 a xs ∧ New H1 (.lst xs.reverse) fun p H2 => Q (.ref p) H2
  | _ => False
theorem e_listRev {X : Cx} {e : Expr} {te : TE} {p p2 pos pos2 : Pos} (hc : X.calm = true) (hg : Gl X "list") (hm : X.mg "list" = none) (hv : bootBuiltins "list" = some (.type "list")) (hg2 : Gl X "reversed") (hm2 : X.mg "reversed" = none) (he : PE X e te)
    (hs : starEach [e] X.env = (false, eval e X.env) :: starEach [] X.env := by rfl)
    (hs2 : starEach [.Call (.Name "reversed" p2) [e] [] pos2] X.env = (false, eval (.Call (.Name "reversed" p2) [e] [] pos2) X.env) :: starEach [] X.env := by rfl) :
    PE X (.Call (.Name "list" p) [.Call (.Name "reversed" p2) [e] [] pos2] [] pos) (uListRev X.K te) := by
  refine ⟨fun pins s σ H Q I h => ?_⟩
  refine Call_ (ld_blt I hg hm hv (PyProof.Rows.callWith_type1 (args_cons (Call_ (ld_blt I hg2 hm2 PyProof.Rows.boot_reversed (PyProof.Rows.callWith_type1 (args_cons (thn (he.run pins s σ H _ I h) fun u s1 ⟨v, H1, I1, r1, q1⟩ => args_nil ?_) hs) hs rfl))) hs2) hs2 rfl))
  cases v with
  | ref a =>
    obtain ⟨xs, hq, q⟩ := q1
    obtain rfl : u = Value.ref a := r1
    obtain ⟨its, rv, p', hz⟩ := I1.list hq
    refine call_reversed_list p'.isList (args_nil ?_)
    have hl := p'.isList
    obtain ⟨ol, hol, _⟩ := id hl
    have hne : a ≠ s1.heap.objs.size := Nat.ne_of_lt (Heap.lt_size hol)
    have hn : its.toArray.size ≤ sizeLine := by rw [List.size_toArray, ← rv.length]; exact hz
    refine RTL.call_list_rev (s := { s1 with heap := s1.heap.push (revObj a ((its.toArray.size : Int) - 1)) }) (I1.ok.hd hc) ⟨_, Heap.get?_push_size _ rfl, rfl, rfl⟩ (hl.push _) hne hn fun h' tk acc c hk hS hi => ?_
    have kp : ∀ b o', s1.heap.get? b = some o' → h'.get? b = some o' := fun b o' e => hk b o' (Nat.ne_of_lt (Heap.lt_size e)) (Heap.get?_push_of_some _ e)
    have le : s1.heap.objs.size ≤ (s1.heap.push (revObj a ((its.toArray.size : Int) - 1))).objs.size := by rw [Heap.size_push]; exact Nat.le_succ _
    exact ⟨.ref _, _, I1.laid (t' := tk) kp le (show ObjOk X.prog X.w _ h' _ (.lst xs.reverse) from ⟨by rw [List.length_reverse]; exact hz, acc.toList, c, RT.vals_rev rv hi, by rw [Array.toArray_toList]; exact hS⟩), rfl, New.at q _ (I1.hok.fresh le)⟩
  | _ => exact False.elim q1
end U

/-! PegE: classes, errors held as values. -/
namespace U
open PySem PySem.Spec PyProof.Rows L2

/-! ### list(d.values()) -/
theorem vals_pt : ∀ {xs : List V} {us : List Value}, xs.length = us.length → (∀ (i : Nat) (u : Value), us[i]? = some u → ∃ x, xs[i]? = some x ∧ RelV x u) → Vals xs us
  | [], [], _, _ => .nil
  | [], _ :: _, h, _ => by simp at h
  | _ :: _, [], h, _ => by simp at h
  | x :: xs, u :: us, h, k => by
    obtain ⟨y, e, r⟩ := k 0 u rfl
    have e : x = y := Option.some.inj e
    subst e
    exact .cons r (vals_pt (by simpa using h) fun i v hv => by
      obtain ⟨y, e, r⟩ := k (i + 1) v (by simpa using hv)
      exact ⟨y, by simpa using e, r⟩)
def uListVals (td : TE) : TE := fun σ H Q => td σ H fun x H1 => match x with
  | .ref a => ∃ kvs, H1 a = some (.dK kvs) ∧ New H1 (.lst (kvs.map (·.2))) fun p H2 => Q (.ref p) H2
  | _ => False
theorem e_listVals {X : Cx} {e : Expr} {te : TE} {p apos cpos pos : Pos} (hc : X.calm = true) (he : PE X e te) (hg : Gl X "list") (hm : X.mg "list" = none) (hv : bootBuiltins "list" = some (.type "list")) (hbase : attributeBase e "values" X.env (eval e X.env) = eval e X.env := by rfl) (hline : (apos.endLine == cpos.line) = true := by rfl)
    (hs : starEach [.Call (.Attribute e "values" apos) [] [] cpos] X.env = (false, eval (.Call (.Attribute e "values" apos) [] [] cpos) X.env) :: starEach [] X.env := by rfl) :
    PE X (.Call (.Name "list" p) [.Call (.Attribute e "values" apos) [] [] cpos] [] pos) (uListVals te) := by
  refine ⟨fun pins s σ H Q I hq => ?_⟩
  refine wpAny_Call_Name_kw (ld_blt I hg hm hv ?_)
  refine PyProof.Rows.callWith_type1 ?_ hs rfl
  rw [hs]
  show wpAny _ _ (spliced ((false, eval (.Call (.Attribute e "values" apos) [] [] cpos) X.env) :: backTo pos (starEach [] X.env))) _ _ s
  refine Calls.spliced_cons ?_
  refine wpAny_Call_method (T := "dict") (id := "dict.values") hbase rfl hline F.plainAttrs_dict F.slot_dict_values F.type_dict_values (thn (he.run pins s σ H _ I hq) fun u s1 ⟨x, H1, I1, rx, q⟩ => ?_)
  cases x with
  | ref d =>
    obtain ⟨kvs, hd, q⟩ := q
    obtain rfl : u = Value.ref d := rx
    obtain ⟨hz, hs0, vs, kv, hdo⟩ := I1.hok d _ hd
    obtain ⟨ep, hat⟩ := hdo.dictAt
    have lk : kvs.length = vs.length := Paired.length kv
    refine ⟨hdo.typeIs, hdo.mapOf.noDict, ?_⟩
    show wpAny _ _ (callWith cpos (.builtin "dict.values") [.ref d] [] []) _ X.xe s1
    refine method_meetsIn F.slot_dict_values F.entry_dict_values rfl (PySem.evalArgs_none ⟨rfl, hdo.typeIs, F.args_dict_values_1 _, _, meets_dict_values (mixKind X.prog X.w) d hs0, ⟨vs, hdo⟩, ?_⟩)
    refine Calls.spliced_nil ?_
    have k1 : ∀ b u, s1.heap.get? b = some u → (s1.heap.push { cls := .type "dict_values", data := .fields #[.ref d] }).get? b = some u := fun b u e => Heap.get?_push_of_some _ e
    refine PySem.W.kdl_call (s := { s1 with heap := s1.heap.push { cls := .type "dict_values", data := .fields #[.ref d] } }) (PySem.W.kdl_values (knd := mixKind X.prog X.w) (r := s1.heap.objs.size) (d := d) (kvs := vs) (ep := ep)) (I1.ok.hd hc) ⟨⟨_, Heap.get?_push_size _ rfl, rfl, rfl⟩, hat.push _⟩ (by rw [← lk]; exact hz) fun h' tk acc c hk hS hi => ?_
    have le : s1.heap.objs.size ≤ (s1.heap.push { cls := .type "dict_values", data := .fields #[.ref d] }).objs.size := by rw [Heap.size_push]; exact Nat.le_succ _
    refine ⟨.ref _, _, I1.laid (t' := tk) (fun b o e => hk b o (k1 b o e)) le (show ObjOk X.prog X.w _ h' _ (.lst (kvs.map (·.2))) from ⟨by rw [List.length_map]; exact hz, acc.toList, c, vals_pt ?_ fun i u hu => ?_, by rw [Array.toArray_toList]; exact hS⟩), rfl, New.at q _ (I1.hok.fresh le)⟩
    · rw [List.length_map, lk, Array.length_toList]
      exact hi.1.symm
    · obtain ⟨k, e⟩ := hi.2 i u (by rw [← Array.getElem?_toList]; exact hu)
      obtain ⟨x, e1, e2⟩ := KV.at' kv e
      exact ⟨x, by rw [List.getElem?_map, e1]; rfl, e2⟩
  | _ => exact False.elim q

/-! ### what is never come to -/
theorem ps_never {X : Cx} {st : Stmt} : PS X st (fun _ _ _ => False) := ⟨fun _ _ _ _ _ _ h => h.elim⟩

/-! ### an error held as a value -/
def ErO (cls : Value) (d : Option Addr) (a : Addr) : HO := .ext fun h => ∃ (oe : Obj) (vs : Array Value), h.get? a = some oe ∧ Zc cls d oe ∧ oe.data = .fields vs
theorem adopt {X : Cx} {pins : List (Addr × Obj)} {σ : L2.St} {H : Hp} {s : Shared} {a : Addr} {oe : Obj} {cls : Value} {d : Option Addr} (I : Inv X ((a, oe) :: pins) σ H s) (hz : Zc cls d oe) (hd : ∃ vs, oe.data = .fields vs) (n0 : X.s_0.heap.get? a = none) (np : ∀ p ∈ X.pn ++ pins, p.1 ≠ a) : Inv X pins σ (upd H a (ErO cls d a)) s := by
  obtain ⟨vs, hv⟩ := hd
  obtain ⟨ea, na, nL, nF, nc⟩ := I.pin (a, oe) (List.mem_append_right _ (List.mem_cons_self ..))
  have ne0 : ∀ b o, X.s_0.heap.get? b = some o → b ≠ a := fun b o e z => by
    rw [z, n0] at e
    cases e
  refine ⟨I.ok, I.os, I.bare, ⟨I.base.keep, I.base.slot, fun b o e n hb => ?_, I.base.there, fun b xs e => ?_, fun b o u e => ?_, fun b ps e => ?_⟩, I.loc, I.cell, ?_, fun x c e => ?_, fun p hp => ?_, fun b u e => ?_, I.len⟩
  · rw [upd_ne (ne0 b o e)]
    exact I.base.free b o e n hb
  · have q := I.base.tups b xs e
    rw [upd_ne (ne_of_none q na)]
    exact q
  · have q := I.base.frzs b o u e
    rw [upd_ne (ne_of_none q na)]
    exact q
  · obtain ⟨m, q⟩ := I.base.tbls b ps e
    exact ⟨m, by rw [upd_ne (ne_of_none q na)]; exact q⟩
  · rw [upd_ne (fun z => nL z.symm)]
    exact I.free
  · have hc : c ≠ a := fun z => by
      obtain ⟨v, o, ho, hdv⟩ := I.cell x c e
      rw [z] at ho
      rw [ea] at ho
      cases ho
      exact nc v hdv
    rw [upd_ne hc]
    exact I.freeC x c e
  · have hp' : p ∈ X.pn ++ (a, oe) :: pins := by
      rcases List.mem_append.mp hp with h | h
      · exact List.mem_append_left _ h
      · exact List.mem_append_right _ (List.mem_cons_of_mem _ h)
    obtain ⟨e, n, ne, nf, dd⟩ := I.pin p hp'
    exact ⟨e, by rw [upd_ne (np p hp)]; exact n, ne, nf, dd⟩
  · by_cases hb : b = a
    · subst hb
      rw [upd_same] at e
      cases e
      exact ⟨⟨oe, vs, ea, hz, hv⟩, ⟨oe, ea⟩, fun _ _ ⟨o, v, q, r⟩ k => ⟨o, v, k o q, r⟩⟩
    · rw [upd_ne hb] at e
      exact (I.hok b u e).stay (fun c v _ q => q) (fun c q => by rw [upd_ne (ne_of_none q na)]; exact q) fun c xs q => by rw [upd_ne (ne_of_none q na)]; exact q
/-- what the clause 'except x as n' wishes; behind its suite the error is tracked -/
def wKeep (K : PySem.W.Frag) (c : Value) (i : Nat) (ts : Addr → Value → Option Addr → TS) (Wout : WX) (D : Ends) : WX := fun cls d σ H =>
  ∃ b, PySem.W.exmOne K cls c = some b ∧ (b = true → ∀ a, H a = none → ts a cls d { nx := fun σ' H' => ∀ H2, H' a = none → Same H' H2 → H2 a = some (ErO cls d a) → D.nx (σ'.set i none) H2, rt := D.rt, bk := fun σ' H' => D.bk (σ'.set i none) H', ct := fun σ' H' => D.ct (σ'.set i none) H' } (σ.set i (some (.ref a))) H) ∧
    (b = false → Wout cls d σ H)
section
variable {X : Cx} {x n : Str} {c : Value} {i : Nat} {body suite : List Stmt} {b₀ : Stmt} {np pos pos' : Pos} {tb : WX → TS} {ts : Addr → Value → Option Addr → TS} {Wout : WX}
theorem ps_try_keep (hs : X.stack = X.env :: X.outer) (hf : X.env.frame = some X.env.locals) (hex : X.ex = []) (hN : X.N.Nodup) (hi : X.N[i]? = some n) (hln : X.env.kindOf n = some .local) (hc : Names X x c) (tk : L2.Takes X Wout)
    (hb : ∀ (W : WX) (pn : List (Addr × Obj)) (xe : Value → Shared → Prop), L2.Takes (X.tr pn xe) W → PassesOwn (model X.prog X.w) X.A X.env xe → PSs (X.tr pn xe) body (tb W))
    (hsu : ∀ (a : Addr) (oe : Obj) (cls : Value) (d : Option Addr) (pn : List (Addr × Obj)), Zc cls d oe → (∃ vs, oe.data = .fields vs) → PSs (X.suite a ((a, oe) :: pn)) (b₀ :: suite) (ts a cls d)) :
    PS X (.Try body [.ExceptHandler (some (.Name x np)) (some n) (b₀ :: suite) pos'] [] [] pos) (fun D σ H => tb (wKeep X.K c i ts Wout D) D σ H) := by
  refine ⟨fun pins s σ H D I h => ?_⟩
  have ok := I.ok
  have hfr : X.A.frames = some (X.env :: X.outer) := by rw [ok.frames, hs]
  have hloc : Loc X.env.scope n := .inl hln
  refine wpAny_Try_except ?_
  refine wpAny_mono ((hb (wKeep X.K c i ts Wout D) (X.pn ++ pins) (fun e s₁ => wpAny (model X.prog X.w) X.A (noteFrame e X.env) (fun _ s₂ => wpAny (model X.prog X.w) X.A (setFlight e none) (fun _ s₃ =>
    wpAny (model X.prog X.w) X.A (handleBy e X.env [.ExceptHandler (some (.Name x np)) (some n) (b₀ :: suite) pos']) (SP X pins D) X.xe s₃) X.xe s₂) X.xe s₁) (fun u s' xx => ?_) PassesOwn.looking).run [] s σ H D (I.toTry _) h) (fun f s1 hsp => ?_) (fun e s1 he => he)
  · -- the catch
    obtain ⟨a, B, sI, pins', σ', H', cls, d, rfl, J', nb, up, sky, na, os, ag, b, hb1, hyes, hno⟩ := xx
    have J : Inv X pins σ' H' sI := J'.ofTry ok
    have sky' : Sky B (X.env :: X.outer) a (Zc cls d) X.env.locals s'.heap := by rw [← hs]; exact sky
    have Ba : B.get? a = none := by
      rcases sky' with ⟨_, q, _⟩ | ⟨_, q, _⟩ | ⟨_, q, _⟩ <;> exact q
    show wpAny _ X.A (noteFrame (.ref a) X.env) _ _ _
    refine Sky.land Zc.steady hfr hf sky' fun h3 fl3 up3 => ?_
    have J3 : Inv X pins σ' H' { s' with heap := h3 } := J.landed nb fl3.1 (up.trans up3) os ag
    obtain ⟨oe3, vs3, he3, hz3, hd3⟩ := fl3.there
    have notFr : ∀ {h : Heap} {o : Obj} {vs : Array Value}, h.FunFrames B (X.env :: X.outer) → h.get? a = some o → o.data = .fields vs → a ∉ frs (X.env :: X.outer) := fun {h o vs} ff e dd hm => by
      obtain ⟨_, o', e', hnf⟩ := ff.mem hm
      rw [e] at e'; cases e'
      exact hnf _ dd
    have nfr := notFr fl3.2.2.1 he3 hd3
    have nL : a ≠ X.env.locals := fun z => nfr (List.mem_filterMap.mpr ⟨X.env, List.mem_cons_self, by rw [hf, z]⟩)
    have nF : a ∉ X.fs := fun hm => by
      obtain ⟨e, he, q⟩ := List.mem_filterMap.mp hm
      exact nfr (List.mem_filterMap.mpr ⟨e, List.mem_cons_of_mem _ he, q⟩)
    have sIa : sI.heap.get? a = none := by
      cases e : sI.heap.get? a with
      | none => rfl
      | some o =>
        have z := nb a o e (by rw [hs]; exact nfr)
        rw [Ba] at z
        cases z
    have n0 : X.s_0.heap.get? a = none := by
      cases e : X.s_0.heap.get? a with
      | none => rfl
      | some o =>
        obtain ⟨o', z⟩ := J.base.there a o e (by rw [hex]; exact fun z => nomatch z)
        rw [sIa] at z
        cases z
    have npin : ∀ p ∈ X.pn ++ pins, p.1 ≠ a := fun p hp z => by
      have q := (J.pin p hp).1
      rw [z, sIa] at q
      cases q
    have S3 := J3.suite he3 hd3 na nL nF
    refine wpAny_handleBy_cons (codeAny_handlers_test ?_) (by intro q; cases q)
    have LT : PySem.W.Looks (model X.prog X.w) h3 (typeOf (.ref a)) cls := fun A Q E s k q => wpAny_typeOf_ref (k _ _ he3) (by rw [hz3.1]; exact q)
    have LM := PySem.W.exm_one (M := model X.prog X.w) (J3.kIn) LT hb1
    have test : ∀ {Q : Value → Shared → Prop} {E : Value → Shared → Prop}, Q c { s' with heap := h3 } → wpAny (model X.prog X.w) (X.A.mark (some (.ref a))) (eval (.Name x np) X.env) Q E { s' with heap := h3 } := fun {Q E} q => by
      obtain ⟨hg, hdbg, hm | ⟨hm, hv, hnn⟩⟩ := hc
      · exact ld_glob (X := X.suite a ((a, oe3) :: (X.pn ++ pins))) S3 hg hm q hdbg
      · exact ld_blt (X := X.suite a ((a, oe3) :: (X.pn ++ pins))) S3 hg hm hv q hnn hdbg
    refine test (LM.here ?_)
    cases b with
    | true =>
      refine codeAny_handlers_suite_as ?_
      refine HandSPX.lands_againZ fl3 fun h4 fl4 up4 => ?_
      have J4 : Inv X pins σ' H' { s' with heap := h4 } := J.landed nb fl4.1 ((up.trans up3).trans up4) os ag
      obtain ⟨oe4, vs4, he4, hz4, hd4⟩ := fl4.there
      have S4 := J4.suite he4 hd4 na nL nF
      refine store_ok (X := X.suite a ((a, oe4) :: (X.pn ++ pins))) (v := .ref a) S4 hN hi hloc rfl (fun s5 S5 => ?_) (.inr hln)
      refine wpAny_mono ((hsu a oe4 cls d (X.pn ++ pins) hz4 ⟨_, hd4⟩).run [] s5 _ H' _ S5 (hyes rfl a na)) (fun f s6 hsp => ?_) (fun _ _ z => False.elim z)
      have end_ : ∀ {σ6 : L2.St} {H6 : Hp} {Q : Shared → Prop}, Inv (X.suite a ((a, oe4) :: (X.pn ++ pins))) [] σ6 H6 s6 → (∀ s7, Inv X pins (σ6.set i none) H6 s7 → Q s7) →
          wpAny (model X.prog X.w) X.A (do bindName X.env n .none; unbindBehindTheSuite X.env n pos') (fun _ s7 => Q s7) X.xe s6 := fun {σ6 H6 Q} S6 hq => gone_ok (S6.unsuite ok) hN hi hln hq
      cases f with
      | next =>
        obtain ⟨σ6, H6, S6, q6⟩ := hsp
        have S6' : Inv X ((a, oe4) :: pins) σ6 H6 s6 := ⟨ok, S6.os, S6.bare, S6.base, S6.loc, S6.cell, S6.free, S6.freeC, fun p hp => S6.pin p (List.mem_append_left _ (by
          rcases List.mem_append.mp hp with h | h
          · exact List.mem_cons_of_mem _ (List.mem_append_left _ h)
          · rcases List.mem_cons.mp h with h | h
            · rw [h]; exact List.mem_cons_self ..
            · exact List.mem_cons_of_mem _ (List.mem_append_right _ h))), S6.hok, S6.len⟩
        have na6 : H6 a = none := (S6'.pin (a, oe4) (List.mem_append_right _ (List.mem_cons_self ..))).2.1
        exact gone_ok S6' hN hi hln fun s7 J7 => ⟨_, _, adopt J7 hz4 ⟨_, hd4⟩ n0 npin, q6 _ na6 (same_upd na6) upd_same⟩
      | brk =>
        obtain ⟨σ6, H6, S6, q6⟩ := hsp
        exact end_ S6 fun s7 J7 => ⟨_, _, J7, q6⟩
      | cont =>
        obtain ⟨σ6, H6, S6, q6⟩ := hsp
        exact end_ S6 fun s7 J7 => ⟨_, _, J7, q6⟩
      | ret u =>
        obtain ⟨v6, σ6, H6, S6, r6, q6⟩ := hsp
        exact end_ S6 fun s7 J7 => ⟨_, _, _, J7, r6, q6⟩
    | false =>
      show wpAny _ X.A (handleBy (.ref a) X.env []) _ _ _
      refine wpAny_handleBy_nil ?_
      obtain ⟨k1, k2, k3, oe, vs, T, oT, ts', he, hz, hd, h1, hr⟩ := id fl3
      unfold PySem.passOn
      refine wpAny_bind (wpAny_field he hd h1 ?_)
      rw [if_neg (show ¬ ((Value.ref T == Value.none) = true) from by simp)]
      have fin : wpAny (model X.prog X.w) X.A (setFlight (.ref a) X.env.frame) (fun _ s4 => wpAny (model X.prog X.w) X.A (throw (.ref a) : Sem Flow) (SP X pins D) X.xe s4) X.xe { s' with heap := h3 } := by
        rw [hf]
        refine HandSPX.setFlight_upZ fl3 fun h4 hh4 up4 => wpAny_throw (tk _ _ ?_)
        exact ⟨a, B, sI, pins, σ', H', cls, d, rfl, J, nb, (up.trans up3).trans up4, .inr (.inr (by rw [hs]; exact hh4)), na, os, ag, hno rfl⟩
      first
        | exact wpAny_bind (wpAny_pure (wpAny_bind fin))
        | exact wpAny_bind fin
  · cases f with
    | next =>
      obtain ⟨σ', H', J', q⟩ := hsp
      exact wpAny_execs_nil ⟨σ', H', J'.ofTry ok, q⟩
    | brk =>
      obtain ⟨σ', H', J', q⟩ := hsp
      exact ⟨σ', H', J'.ofTry ok, q⟩
    | cont =>
      obtain ⟨σ', H', J', q⟩ := hsp
      exact ⟨σ', H', J'.ofTry ok, q⟩
    | ret u =>
      obtain ⟨v, σ', H', J', r, q⟩ := hsp
      exact ⟨v, σ', H', J'.ofTry ok, r, q⟩
def uTryK (K : PySem.W.Frag) (c : Value) (i : Nat) (ts : Addr → Value → Option Addr → TS) (tb : WX → TS) : TS := fun D σ H => tb (wKeep K c i ts (fun _ _ _ _ => False) D) D σ H
end
/-- isinstance(e, c), e an error without a dict of its own -/
def cIsE (K : PySem.W.Frag) : List V → Hp → VK → Prop := fun xs H Q => match xs with
  | [.ref a, c] => ∃ (D : Addr) (cv : Value) (b : Bool), H a = some (ErO (.ref D) none a) ∧ ExcC K D ∧ ClsV c cv ∧ PySem.W.kitOne K (.ref D) cv = some b ∧ Q (.bl b) H
  | _ => False
theorem b_isE {X : Cx} : CallR X (.builtin "isinstance") (cIsE X.K) := by
  intro pins s σ H xs us Q I r h
  match xs, h with
  | [.ref a, c], h =>
    obtain ⟨D, cv, b, ha, C, kc, e, q⟩ := h
    cases r with
    | cons rx rr =>
      cases rr with
      | cons rt rr =>
        cases rr
        cases rx
        have ec := kc.eq rt
        subst ec
        obtain ⟨⟨oe, vs, hget, hz, hv⟩, _, _⟩ := I.hok a _ ha
        have J : PySem.W.InstAt s.heap a oe D none := by
          obtain ⟨oc, od, oda, osl⟩ := oe
          obtain ⟨h1, h2⟩ := hz
          dsimp only at h1 h2 hv
          subst h1 h2 hv
          exact ⟨hget, rfl, rfl, trivial⟩
        exact PySem.W.kia_one (PySem.W.handS_kitx_exc C.hg C.hk C.hs C.hd C.ha C.hn C.ht C.hm) I.kIn J e (fun z => nomatch z) fun tk => ⟨.bl b, H, I.kept (t' := tk) fun _ _ z => z, rfl, q⟩

/-- isinstance(x, C), C an own class -/
def cIsO (K : PySem.W.Frag) : List V → Hp → VK → Prop := fun xs H Q => match xs with
  | [x, .ref C] => ∃ (t : Value) (b : Bool), TyX K H x t ∧ PySem.W.kitOne K t (.ref C) = some b ∧ Q (.bl b) H
  | _ => False
theorem b_isO {X : Cx} : CallR X (.builtin "isinstance") (cIsO X.K) := call_imp call_isi fun xs H Q q => by
  match xs, q with
  | [x, .ref C], q =>
    obtain ⟨t, b, h1, h2, q⟩ := q
    exact ⟨x, .ref C, t, .ref C, b, rfl, .own C, h1, h2, q⟩

/-! ### methods -/
structure CalM (P : Program) (w : World) (K : PySem.W.Frag) (mg : Str → Option Value) (base : Heap) (CX : CXT) (k : Nat) (C : Addr) (m : Str) (ps : List Str) (sp : Sp) : Prop where
  ex : ∃ (f : Addr) (fd : FuncData), FnOk P w K mg base CX k f fd ps sp ∧ Meth K C m f ∧ Binds K fd ps []
def uMeth (C : Addr) (m : Str) (sp : Sp) (E : XK) (ta : TE) (t : TA) : TE := fun σ H Q => ta σ H fun x H1 => match x with
  | .ref a => (∃ dx fs, H1 a = some (.ins C dx fs) ∧ fs.lookup m = none) ∧ t σ H1 fun vs H2 => sp (.ref a :: vs) H2 Q E
  | _ => False
def uMethS (C : Addr) (m : Str) (sp : Sp) (E : L2.St → XK) (ta : TE) (t : TA) : TE := fun σ H Q => ta σ H fun x H1 => match x with
  | .ref a => (∃ dx fs, H1 a = some (.ins C dx fs) ∧ fs.lookup m = none) ∧ t σ H1 fun vs H2 => sp (.ref a :: vs) H2 Q (E σ)
  | _ => False
section
variable {X : Cx} {CX : CXT} {k : Nat} {C : Addr} {m : Str} {ps : List Str} {sp : Sp} {E : XK} {e o : Expr} {es : List Expr} {ta : TE} {t : TA} {apos pos : Pos} {pl : Sem Bool}
theorem CalM.pe (c : CalM X.prog X.w X.K X.mg X.base CX k C m ps sp) (T : Cls X.K C) (hr : Room k X.A) (hx : Passes CX X E) (he : PE X o ta) (ha : PA X (e :: es) t)
    (hst : starEach (e :: es) X.env = (false, eval e X.env) :: starEach es X.env := by rfl) (hpl : (backTo pos (starEach es X.env)).any (·.1) = false := by rfl)
    (ht : eval (.Call (.Attribute o m apos) (e :: es) [] pos) X.env = (do
      let ov ← eval o X.env
      standAt apos.atName
      let (f, first) ← holding [ov] (getMethod ov m pl)
      callWith pos f first (backTo pos (starEach (e :: es) X.env)) (backToKw pos (keywordEach [] X.env))) := by rfl) :
    PE X (.Call (.Attribute o m apos) (e :: es) [] pos) (uMeth C m sp E ta t) := by
  obtain ⟨f, fd, F, hm, b⟩ := c.ex
  refine pe_imp (pe_meth (pl := pl) (pe_up he) T hm F hr b .nil hx ha hst hpl ht) fun σ H Q q => ⟨_, q, fun x H1 q1 => ?_⟩
  cases x with
  | ref a =>
    obtain ⟨⟨dx, fs, h1, h2⟩, q1⟩ := q1
    refine ⟨a, dx, fs, rfl, h1, h2, ?_⟩
    have ee : (fun (vs : List V) (H2 : Hp) => sp (.ref a :: (vs ++ [])) H2 Q E) = fun vs H2 => sp (.ref a :: vs) H2 Q E := by
      funext vs H2
      rw [List.append_nil]
    rw [ee]
    exact q1
  | _ => exact False.elim q1
theorem CalM.pe0 (c : CalM X.prog X.w X.K X.mg X.base CX k C m ps sp) (T : Cls X.K C) (hr : Room k X.A) (hx : Passes CX X E) (he : PE X o ta)
    (ht : eval (.Call (.Attribute o m apos) [] [] pos) X.env = (do
      let ov ← eval o X.env
      standAt apos.atName
      let (f, first) ← holding [ov] (getMethod ov m pl)
      callWith pos f first (backTo pos (starEach [] X.env)) (backToKw pos (keywordEach [] X.env))) := by rfl) :
    PE X (.Call (.Attribute o m apos) [] [] pos) (uMeth C m sp E ta tNil) := by
  obtain ⟨f, fd, F, hm, b⟩ := c.ex
  refine pe_imp (pe_meth0 (pl := pl) (pe_up he) T hm F hr b .nil hx ht) fun σ H Q q => ⟨_, q, fun x H1 q1 => ?_⟩
  cases x with
  | ref a =>
    obtain ⟨⟨dx, fs, h1, h2⟩, q1⟩ := q1
    exact ⟨a, dx, fs, rfl, h1, h2, q1⟩
  | _ => exact False.elim q1
/-- within a try: what it raises is wished for at the slots as they stand -/
theorem CalM.peS {E : L2.St → XK} (c : CalM X.prog X.w X.K X.mg X.base CX k C m ps sp) (T : Cls X.K C) (hr : Room k X.A) (hx : ∀ σ, PassesAt CX X σ (E σ)) (he : PE X o ta) (ha : PA X (e :: es) t)
    (hst : starEach (e :: es) X.env = (false, eval e X.env) :: starEach es X.env := by rfl) (hpl : (backTo pos (starEach es X.env)).any (·.1) = false := by rfl)
    (ht : eval (.Call (.Attribute o m apos) (e :: es) [] pos) X.env = (do
      let ov ← eval o X.env
      standAt apos.atName
      let (f, first) ← holding [ov] (getMethod ov m pl)
      callWith pos f first (backTo pos (starEach (e :: es) X.env)) (backToKw pos (keywordEach [] X.env))) := by rfl) :
    PE X (.Call (.Attribute o m apos) (e :: es) [] pos) (uMethS C m sp E ta t) := by
  obtain ⟨f, fd, F, hm, hb⟩ := c.ex
  refine ⟨fun pins s σ H Q I h => ?_⟩
  refine PySem.W.methodCall_KW (pl := pl) (thn (he.run pins s σ H _ I h) fun u s1 ⟨x, H1, I1, rx, q⟩ => ?_) ht
  cases x with
  | ref a =>
    obtain ⟨⟨dx, fs, ea, l⟩, q⟩ := q
    obtain rfl : u = Value.ref a := rx
    refine getmeth_ok I1 ea T hm l ?_
    refine PySem.W.callWith_K (first := [.ref a]) (h₀ := X.base) I.ok.mod.kin hm.kp (thn (ha.run pos pins s1 σ H1 _ I1 q) fun us s2 ⟨vs, H2, I2, r, q2⟩ => ⟨I2.kIn, ?_⟩) hst hpl
    exact run_fnS (us := .ref a :: us) (vs := .ref a :: vs) F hr hb (hx σ) I2 (.cons rfl r) q2
  | _ => exact False.elim q
end
/-! ### a class that makes, its last parameter with a default -/
structure CalK (P : Program) (w : World) (K : PySem.W.Frag) (mg : Str → Option Value) (base : Heap) (k : Nat) (C : Addr) (x : Str) (ps : List Str) (sp : Sp) (dvs : List V) : Prop where
  ex : ∃ (f : Addr) (fd : FuncData), Mk K C f ∧ FnOk P w K mg base CX0 k f fd ps sp ∧ mg x = some (.ref C) ∧ Binds K fd ps [] ∧ ∃ ds, Vals dvs ds ∧ Binds K fd ps ds
section
variable {X : Cx} {k : Nat} {C : Addr} {x : Str} {ps : List Str} {sp : Sp} {dvs : List V} {e : Expr} {es : List Expr} {t : TA} {p pos : Pos}
theorem CalK.pe (c : CalK X.prog X.w X.K X.mg X.base k C x ps sp dvs) (hr : Room (k + 1) X.A) (ha : PA X (e :: es) t) (hg : Gl X x := by rfl) (hdb : (x == ("__debug__" : Str)) = false := by decide)
    (he : starEach (e :: es) X.env = (false, eval e X.env) :: starEach es X.env := by rfl) (hpl : (backTo pos (starEach es X.env)).any (·.1) = false := by rfl) : PE X (.Call (.Name x p) (e :: es) [] pos) (tMake C sp [] E0 t) := by
  obtain ⟨f, fd, M, F, m, b, _⟩ := c.ex
  exact pe_make M F hr hg m b .nil pass0 ha hdb he hpl
theorem CalK.pe0 (c : CalK X.prog X.w X.K X.mg X.base k C x ps sp dvs) (hr : Room (k + 1) X.A) (hg : Gl X x := by rfl) (hdb : (x == ("__debug__" : Str)) = false := by decide) : PE X (.Call (.Name x p) [] [] pos) (tMake C sp dvs E0 tNil) := by
  obtain ⟨f, fd, M, F, m, _, ds, hd, b⟩ := c.ex
  exact pe_make0 M F hr hg m b hd pass0 hdb
end
abbrev uRaise (E : XK) (C : Addr) : TS := fun _ _ H => E (.ref C) none H
abbrev uNever : TS := fun _ _ _ => False
def uTryO (K : PySem.W.Frag) (c : Value) (ts : Addr → Value → Option Addr → TS) (tb : WX → TS) : TS := fun D σ H => tb (wOnly K c ts (fun _ _ _ _ => False) D) D σ H

/-! ### more of lists -/
def cPopAt : V → List V → Hp → VK → Prop := fun x xs H Q => match x, xs with
  | .ref l, [.int i] => ∃ (zs : List V) (k : Nat) (y : V), H l = some (.lst zs) ∧ i = (k : Int) ∧ k < 100000 ∧ zs[k]? = some y ∧ Chg l H (.lst (zs.eraseIdx k)) fun H2 => Q y H2
  | _, _ => False
theorem m_popAt {X : Cx} : MtR X "list.pop" cPopAt := mt_imp mt_popAt fun x xs H Q q => by
  match x, xs, q with
  | .ref l, [.int i], q =>
    obtain ⟨zs, k, y, h1, rfl, hk, h2, q⟩ := q
    exact ⟨l, zs, _, k, y, rfl, rfl, h1, by omega, by omega, seqIndex_of (by omega) (by have := (List.getElem?_eq_some_iff.mp h2).1; omega), h2, q.at⟩
theorem inV_int (a : Int) (C : List Int) : inV (.int a) (C.map V.int) = decide (a ∈ C) := by
  unfold inV
  induction C with
  | nil => rfl
  | cons c C ih =>
    rw [List.map_cons, List.any_cons, ih]
    show ((c == a) || decide (a ∈ C)) = _
    by_cases h : c = a
    · subst h; simp
    · have h2 : ¬ a = c := fun e => h e.symm
      simp [h, h2]
theorem flatI (C : List Int) : (C.map V.int).all flatV = true := by
  rw [List.all_map, List.all_eq_true]
  intro c _
  rfl
def cInI (K : PySem.W.Frag) (b : Bool) : R2 := fun x y H Q => match x, y with
  | .int a, .ref p => ∃ C : List Int, SqL K H p (C.map V.int) ∧ Q (.bl (if b then decide (a ∈ C) else !decide (a ∈ C))) H
  | _, _ => False
theorem o_inI {X : Cx} : OpR X (compareOp .In) (cInI X.K true) := op_imp op_in_seq fun x y H Q q => by
  cases x <;> cases y <;> first
    | (obtain ⟨C, h, q⟩ := q; refine ⟨_, _, rfl, .inl h, rfl, flatI C, ?_⟩; rw [inV_int]; exact q)
    | exact False.elim q
theorem o_notInI {X : Cx} : OpR X (compareOp .NotIn) (cInI X.K false) := op_imp op_notIn_seq fun x y H Q q => by
  cases x <;> cases y <;> first
    | (obtain ⟨C, h, q⟩ := q; refine ⟨_, _, rfl, .inl h, rfl, flatI C, ?_⟩; rw [inV_int]; exact q)
    | exact False.elim q
end U

/-! PegB: the classes, a book in the heap. -/
namespace Peg
open PySem PySem.Spec PyProof.Rows L2 U

/-- where the classes lie -/
structure Ad where
  Book : Addr
  PegError : Addr
  NoSighting : Addr
  Full : Addr
  Against : Addr
  NoNumber : Addr
  NoWay : Addr
  NoText : Addr
/-- the refusals -/
inductive Er
  | sighting
  | full
  | against
  | number
  | way
  | text
deriving DecidableEq
def Ad.er (A : Ad) : Er → Addr
  | .sighting => A.NoSighting
  | .full => A.Full
  | .against => A.Against
  | .number => A.NoNumber
  | .way => A.NoWay
  | .text => A.NoText
/-- what is said of the classes -/
structure Tx (K : PySem.W.Frag) (A : Ad) : Prop where
  cl : Cls K A.Book
  nMost : NoAttr K A.Book "most"
  nTaken : NoAttr K A.Book "taken"
  nBy : NoAttr K A.Book "by_number"
  sub : ∀ e : Er, PySem.W.subIn K (.ref (A.er e)) (.ref A.PegError) = some true
  pB : PySem.W.subIn K (.ref A.PegError) (.type "BaseException") = some true
  pD : PySem.W.hasDictIn K A.PegError = true
  pT : PySem.W.typeIn K (.ref A.PegError) = some (.type "type")
  exc : ∀ e : Er, ExcC K (A.er e)
  kit : ∀ e c : Er, PySem.W.kitOne K (.ref (A.er e)) (.ref (A.er c)) = some (decide (e = c))
  kitP : ∀ e : Er, PySem.W.kitOne K (.ref (A.er e)) (.ref A.PegError) = some true
  kitV : ∀ e : Er, PySem.W.kitOne K (.ref (A.er e)) (.type "ValueError") = some true
  bHa : PySem.W.findIn K (.ref A.Book) "__class__" = some (some (.builtin "object.__class__"))
  bHm : PySem.W.mroIn K A.Book (.type "object") = some true
  full : PySem.W.exmOne K (.ref A.Full) (.ref A.Full) = some true
  exm : ∀ e c : Er, PySem.W.exmOne K (.ref (A.er e)) (.ref (A.er c)) = some (decide (e = c))
  iRd : PySem.W.readsIn K A.PegError (.type "type") = true
  iGa : PySem.W.specialIn K (.ref A.PegError) "__getattribute__" = some (some (.builtin "type.__getattribute__"))
  iVi : PySem.W.findCls K (.ref A.PegError) (.type "type") "__init__" = some (.val (.builtin "ValueError.__init__"))
  o_Against : OexC K A.Against
  o_NoWay : OexC K A.NoWay
  n_trail : PySem.W.findIn K (.ref A.Against) "trail" = some none
  n_near : PySem.W.findIn K (.ref A.NoWay) "near" = some none
theorem Tx.peg {K : PySem.W.Frag} {A : Ad} (T : Tx K A) (e : Er) : PySem.W.exmOne K (.ref (A.er e)) (.ref A.PegError) = some true := PySem.W.exm_ref T.pB T.pD T.pT (T.sub e)

theorem Tx.slf {K : PySem.W.Frag} {A : Ad} (T : Tx K A) (e : Er) : PySem.W.exmOne K (.ref (A.er e)) (.ref (A.er e)) = some true := by
  rw [T.exm e e, decide_eq_true rfl]
theorem Tx.xf {K : PySem.W.Frag} {A : Ad} (T : Tx K A) (e : Er) : XfC K (A.er e) := ⟨(T.exc e).hg, (T.exc e).hk, (T.exc e).hs, (T.exc e).hd⟩
theorem Tx.isB {K : PySem.W.Frag} {A : Ad} (T : Tx K A) {H : Hp} {a dx : Addr} {fs : List (Str × V)} (h : H a = some (.ins A.Book dx fs)) : TyX K H (.ref a) (.ref A.Book) := .base (.ins h T.cl T.bHa (T.exc .full).hn (T.exc .full).ht T.bHm)
theorem kit_self {K : PySem.W.Frag} {t : Value} : PySem.W.kitOne K t t = some true := by
  unfold PySem.W.kitOne
  rw [if_pos (beq_self_eq_true _)]

/-! ### a book -/
def bF (most taken : Int) (d : Addr) : List (Str × V) := [("most", .int most), ("taken", .int taken), ("by_number", .ref d)]
def RowsKV (K : PySem.W.Frag) (H : Hp) : List (Key × V) → List Row → Prop := Paired fun kv r => kv.1 = Sum.inl r.n ∧ Dp K H kv.2 (rowD r)
structure BookAt (K : PySem.W.Frag) (A : Ad) (H : Hp) (b d : Addr) (most taken : Int) (rows : List Row) : Prop where
  ins : ∃ dx, H b = some (.ins A.Book dx (bF most taken d))
  dict : ∃ kvs, H d = some (.dK kvs) ∧ RowsKV K H kvs rows
  nd : (rows.map Row.n).Nodup
  le : ∀ r ∈ rows, 1 ≤ r.n ∧ r.n ≤ taken
/-- all but two things stand -/
def Chd2 (p q : Addr) (H H' : Hp) : Prop := ∀ b o, b ≠ p → b ≠ q → H b = some o → H' b = some o
section
variable {K : PySem.W.Frag} {A : Ad} {H H' : Hp} {b d : Addr} {most taken : Int} {rows : List Row}
theorem RowsKV.tups (e : Tups H H') {kvs : List (Key × V)} (h : RowsKV K H kvs rows) : RowsKV K H' kvs rows := Paired.mapP h fun a b q => ⟨q.1, row_tups e q.2⟩
theorem BookAt.mono (e : Same H H') (h : BookAt K A H b d most taken rows) : BookAt K A H' b d most taken rows := by
  obtain ⟨⟨dx, h1⟩, ⟨kvs, h2, h3⟩, h4, h5⟩ := h
  exact ⟨⟨dx, e _ _ h1⟩, ⟨kvs, e _ _ h2, h3.tups (tups_of e)⟩, h4, h5⟩
theorem RowsKV.vals : ∀ {kvs : List (Key × V)} {rows : List Row}, RowsKV K H kvs rows → DpAll K H (kvs.map (·.2)) (rows.map rowD)
  | _, _, .nil => .nil
  | _, _, .cons h t => .cons h.2 (RowsKV.vals t)
theorem RowsKV.keys : ∀ {kvs : List (Key × V)} {rows : List Row}, RowsKV K H kvs rows → kvs.map (·.1) = rows.map fun r => Sum.inl r.n
  | _, _, .nil => rfl
  | _, _, .cons h t => congr (congrArg List.cons h.1) (RowsKV.keys t)
theorem RowsKV.snoc : ∀ {kvs : List (Key × V)} {rows : List Row} {kv : Key × V} {r : Row}, RowsKV K H kvs rows → (kv.1 = Sum.inl r.n ∧ Dp K H kv.2 (rowD r)) → RowsKV K H (kvs ++ [kv]) (rows ++ [r])
  | _, _, _, _, .nil, e => .cons e .nil
  | _, _, _, _, .cons a t, e => .cons a (RowsKV.snoc t e)
theorem RowsKV.length {kvs : List (Key × V)} (h : RowsKV K H kvs rows) : kvs.length = rows.length := Paired.length h
theorem RowsKV.not {kvs : List (Key × V)} (h : RowsKV K H kvs rows) {n : Int} (hn : ∀ r ∈ rows, r.n ≠ n) : valV kvs (Sum.inl n) = none := valV_no (by
  rw [h.keys]
  intro m
  obtain ⟨r, hr, e⟩ := List.mem_map.mp m
  exact hn r hr (Sum.inl.inj e))
theorem RowsKV.get : ∀ {kvs : List (Key × V)} {rows : List Row}, RowsKV K H kvs rows → (rows.map Row.n).Nodup → ∀ r ∈ rows, ∃ v, valV kvs (Sum.inl r.n) = some v ∧ Dp K H v (rowD r)
  | _, _, .nil, _, r, hr => by cases hr
  | _, _, .cons (a := kv) (b := r0) h t, nd, r, hr => by
    rw [List.map_cons] at nd
    obtain ⟨n1, n2⟩ := List.nodup_cons.mp nd
    rcases List.mem_cons.mp hr with e | hr
    · subst e
      exact ⟨_, valV_pos h.1, h.2⟩
    · obtain ⟨v, h1, h2⟩ := RowsKV.get t n2 r hr
      refine ⟨v, ?_, h2⟩
      rw [valV_neg]
      · exact h1
      · rw [h.1]
        intro e
        exact n1 (Sum.inl.inj e ▸ List.mem_map.mpr ⟨r, hr, rfl⟩)
/-- the row of a number goes -/
theorem RowsKV.drop {n : Int} : ∀ {kvs : List (Key × V)} {rows : List Row}, RowsKV K H kvs rows → RowsKV K H (dropK kvs (Sum.inl n)) (rows.filter fun r => decide (r.n ≠ n))
  | _, _, .nil => .nil
  | _, _, .cons (a := kv) (b := r) (l₁ := kvs) (l₂ := rows) h t => by
    have ih := RowsKV.drop (n := n) t
    unfold dropK at ih ⊢
    by_cases e : r.n = n
    · have e1 : decide (kv.1 ≠ Sum.inl n) = false := decide_eq_false (by rw [h.1, e]; exact fun z => z rfl)
      rw [List.filter_cons, List.filter_cons, e1, decide_eq_false (fun z => z e)]
      exact ih
    · have e1 : decide (kv.1 ≠ Sum.inl n) = true := decide_eq_true (by rw [h.1]; exact fun z => e (Sum.inl.inj z))
      rw [List.filter_cons, List.filter_cons, e1, decide_eq_true e]
      exact .cons h ih
end

/-! ### comprehensions, by data -/
/-- data that stays where tuples stay -/
def TStay (d : PyData) : Prop := ∀ (K : PySem.W.Frag) (H H' : Hp) (v : V), Tups H H' → Dp K H v d → Dp K H' v d
theorem TStay.row (r : Row) : TStay (rowD r) := fun _ _ _ _ e h => row_tups e h
theorem TStay.int (i : Int) : TStay (.int i) := fun _ _ _ _ _ h => by rw [dp_int h]; exact .int i
theorem TStay.bl (b : Bool) : TStay (.bool b) := fun _ _ _ _ _ h => by rw [dp_bl h]; exact .bl b
theorem TStay.str (z : Str) : TStay (.str z) := fun _ _ _ _ _ h => by rw [dp_str h]; exact .str z
theorem TStay.all {K : PySem.W.Frag} {H H' : Hp} (e : Tups H H') : ∀ {ds : List PyData} {vs : List V}, (∀ d ∈ ds, TStay d) → DpAll K H vs ds → DpAll K H' vs ds
  | _, _, _, .nil => .nil
  | _, _, k, .cons a b => .cons (k _ (List.mem_cons_self ..) K _ _ _ e a) (TStay.all e (fun d hd => k d (List.mem_cons_of_mem _ hd)) b)
theorem dp_ints {K : PySem.W.Frag} {H : Hp} : ∀ {ns : List Int} {vs : List V}, DpAll K H vs (ns.map PyData.int) → vs = ns.map V.int
  | [], _, .nil => rfl
  | _ :: _, _, .cons a b => by rw [dp_int a, dp_ints b]; rfl
section
variable {K : PySem.W.Frag} {H : Hp}
theorem filt_snoc {α : Type} (f : Nat → Option α) (i : Nat) : (List.range (i + 1)).filterMap f = (List.range i).filterMap f ++ (f i).toList := by
  rw [List.range_succ, List.filterMap_append]
  congr 1
/-- one turn -/
theorem lcd_turn {f : Nat → Option PyData} {te : TE} {tt : TT} {σ : L2.St} {i : Nat} {D : Addr} {H' : Hp} (hst : ∀ i d, f i = some d → TStay d) (hD : H D = none) (hi : i < 100000)
    (P : Same H H' ∧ ∃ vs, H' D = some (.lst vs) ∧ vs.length ≤ i ∧ DpAll K H' vs ((List.range i).filterMap f))
    (ht : ∀ (R : Bool → Hp → Prop), R (f i).isSome H' → tt σ H' R)
    (he : ∀ (d : PyData) (R : VK), f i = some d → (∀ (v : V) (H2 : Hp), Same H' H2 → Dp K H2 v d → R v H2) → te σ H' R) :
    tt σ H' fun b H3 => if b = true then te σ H3 fun y H4 => ∃ acc, H4 D = some (.lst acc) ∧ acc.length < sizeLine ∧ (Same H (upd H4 D (.lst (acc ++ [y]))) ∧ ∃ vs, (upd H4 D (.lst (acc ++ [y]))) D = some (.lst vs) ∧ vs.length ≤ i + 1 ∧ DpAll K (upd H4 D (.lst (acc ++ [y]))) vs ((List.range (i + 1)).filterMap f))
      else (Same H H3 ∧ ∃ vs, H3 D = some (.lst vs) ∧ vs.length ≤ i + 1 ∧ DpAll K H3 vs ((List.range (i + 1)).filterMap f)) := by
  obtain ⟨s, vs, hd, hlen, dp⟩ := P
  refine ht _ ?_
  cases hf : f i with
  | none =>
    show Same H H' ∧ _
    refine ⟨s, vs, hd, by omega, ?_⟩
    rw [filt_snoc, hf]
    simpa using dp
  | some d =>
    show te σ H' _
    refine he d _ hf fun v H2 s2 dv => ⟨vs, s2 _ _ hd, szl (by omega), same_mut (s.trans s2) hD, vs ++ [v], upd_same, by rw [List.length_append]; exact Nat.succ_le_succ hlen, ?_⟩
    have tp2 : Tups H2 (upd H2 D (.lst (vs ++ [v]))) := (Tups.refl H2).mut (s2 _ _ hd) True.intro
    have tp : Tups H' (upd H2 D (.lst (vs ++ [v]))) := (tups_of s2).trans tp2
    rw [filt_snoc, hf]
    refine dpAll_append (TStay.all tp (fun d hd => ?_) dp) (.cons (hst i d hf K _ _ _ tp2 dv) .nil)
    obtain ⟨m, _, e⟩ := List.mem_filterMap.mp hd
    exact hst m d e
theorem lcd_listT {a : Addr} {xs : List V} {te : TE} {tt : TT} {j : Nat} {σ : L2.St} {Q : VK} (f : Nat → Option PyData) (hst : ∀ i d, f i = some d → TStay d) (hl : SqL K H a xs) (hz : xs.length < 100000) (hw : ∀ x, wipe ((wipe σ [j]).set j (some x)) [j] = wipe σ [j])
    (ht : ∀ (i : Nat) (x : V) (H1 : Hp) (R : Bool → Hp → Prop), xs[i]? = some x → Same H H1 → R (f i).isSome H1 → tt ((wipe σ [j]).set j (some x)) H1 R)
    (he : ∀ (i : Nat) (x : V) (d : PyData) (H1 : Hp) (R : VK), xs[i]? = some x → f i = some d → Same H H1 → (∀ (v : V) (H2 : Hp), Same H1 H2 → Dp K H2 v d → R v H2) → te ((wipe σ [j]).set j (some x)) H1 R)
    (q : ∀ (p : Addr) (H2 : Hp) (vs : List V), H p = none → Same H H2 → H2 p = some (.lst vs) → DpAll K H2 vs ((List.range xs.length).filterMap f) → Q (.ref p) H2) : tLc (iList K (tC (.ref a))) (gName j) tt te [j] σ H Q := by
  refine ⟨a, rfl, ⟨xs, hl⟩, fun D hD => lc_list (K := K) (a := a) (xs := xs) (fun i H' => Same H H' ∧ ∃ vs, H' D = some (.lst vs) ∧ vs.length ≤ i ∧ DpAll K H' vs ((List.range i).filterMap f)) ⟨same_new hD, [], upd_same, Nat.le_refl _, .nil⟩ (fun i H' _ h => same_l h.1 hl) ?_ ?_⟩
  · intro i x H' e P
    have hi : i < xs.length := (List.getElem?_eq_some_iff.mp e).1
    exact ⟨hw x, lcd_turn hst hD (by omega) P (fun R k => ht i x H' R e P.1 k) fun d R hf k => he i x d H' R e hf P.1 k⟩
  · rintro H' ⟨s, vs, hd, hlen, dp⟩
    exact q D H' vs hD s hd dp
theorem lcd_list {a : Addr} {xs : List V} {tl te : TE} {tt : TT} {j : Nat} {σ : L2.St} {Q : VK} (f : Nat → Option PyData) (hst : ∀ i d, f i = some d → TStay d) (hl : SqL K H a xs) (htl : ∀ R, R (.ref a) H → tl σ H R) (hz : xs.length < 100000) (hw : ∀ x, wipe ((wipe σ [j]).set j (some x)) [j] = wipe σ [j])
    (ht : ∀ (i : Nat) (x : V) (H1 : Hp) (R : Bool → Hp → Prop), xs[i]? = some x → Same H H1 → R (f i).isSome H1 → tt ((wipe σ [j]).set j (some x)) H1 R)
    (he : ∀ (i : Nat) (x : V) (d : PyData) (H1 : Hp) (R : VK), xs[i]? = some x → f i = some d → Same H H1 → (∀ (v : V) (H2 : Hp), Same H1 H2 → Dp K H2 v d → R v H2) → te ((wipe σ [j]).set j (some x)) H1 R)
    (q : ∀ (p : Addr) (H2 : Hp) (vs : List V), H p = none → Same H H2 → H2 p = some (.lst vs) → DpAll K H2 vs ((List.range xs.length).filterMap f) → Q (.ref p) H2) : uLc (iList K tl) (gName j) tt te [j] σ H Q :=
  uLc_of (htl _ (lcd_listT f hst hl hz hw ht he q))
theorem filt_at {α β : Type} (g : α → Option β) : ∀ l : List α, (List.range l.length).filterMap (fun i => (l[i]?).bind g) = l.filterMap g
  | [] => rfl
  | x :: l => by
    have e : (fun i => ((x :: l)[i]?).bind g) ∘ Nat.succ = fun i => (l[i]?).bind g := by
      funext i
      simp
    rw [List.length_cons, List.range_succ_eq_map, List.filterMap_cons, List.filterMap_map, e, filt_at g l, List.filterMap_cons]
    rfl
theorem filt_rows (rows : List Row) (P : Row → Bool) : (List.range rows.length).filterMap (fun i => (rows[i]?).bind fun r => if P r then some (rowD r) else none) = (rows.filter P).map rowD := by
  rw [filt_at]
  induction rows with
  | nil => rfl
  | cons r rows ih =>
    rw [List.filterMap_cons, ih, List.filter_cons]
    cases h : P r <;> simp
theorem lcd_range {n : Nat} {ta : TA} {te : TE} {tt : TT} {j : Nat} {σ : L2.St} {Q : VK} (f : Nat → Option PyData) (hst : ∀ i d, f i = some d → TStay d) (hta : ∀ R, R [.int (n : Int)] H → ta σ H R) (hz : n < 100000) (hw : ∀ x, wipe ((wipe σ [j]).set j (some x)) [j] = wipe σ [j])
    (ht : ∀ (i : Nat) (H1 : Hp) (R : Bool → Hp → Prop), i < n → Same H H1 → R (f i).isSome H1 → tt ((wipe σ [j]).set j (some (.int (0 + i)))) H1 R)
    (he : ∀ (i : Nat) (d : PyData) (H1 : Hp) (R : VK), i < n → f i = some d → Same H H1 → (∀ (v : V) (H2 : Hp), Same H1 H2 → Dp K H2 v d → R v H2) → te ((wipe σ [j]).set j (some (.int (0 + i)))) H1 R)
    (q : ∀ (p : Addr) (H2 : Hp) (vs : List V), H p = none → Same H H2 → H2 p = some (.lst vs) → DpAll K H2 vs ((List.range n).filterMap f) → Q (.ref p) H2) : uLc (iRng1 ta) (gName j) tt te [j] σ H Q := by
  refine uLc_of (hta _ ⟨n, rfl, by omega, by omega, fun D hD => lc_range (lo := 0) (n := (n : Int).toNat) (fun i H' => Same H H' ∧ ∃ vs, H' D = some (.lst vs) ∧ vs.length ≤ i ∧ DpAll K H' vs ((List.range i).filterMap f)) ⟨same_new hD, [], upd_same, Nat.le_refl _, .nil⟩ ?_ ?_⟩)
  · intro i H' hi P
    have hi : i < n := by omega
    exact ⟨hw _, lcd_turn hst hD (by omega) P (fun R k => ht i H' R hi P.1 k) fun d R hf k => he i d H' R hi hf P.1 k⟩
  · rintro H' ⟨s, vs, hd, hlen, dp⟩
    have e : (n : Int).toNat = n := by omega
    rw [e] at dp
    exact q D H' vs hD s hd dp
end
theorem int_eqv (a b : Int) : PyData.eqv (.int a) (.int b) = decide (a = b) := by
  rw [PyData.eqv]
  exact Bool.beq_eq_decide_eq ..

/-! ### heights: what a way sums up to -/
theorem total_cons (s : Row) (ss : List Row) : (((s :: ss).map Row.rise).sum : Int) = s.rise + (ss.map Row.rise).sum := by rw [List.map_cons, List.sum_cons]
theorem way_sum {rows : List Row} {f : Str → Int} (h : ∀ r ∈ rows, r.rise = f r.other - f r.one) {a b : Str} {ss : List Row} (w : Way rows a ss b) : (ss.map Row.rise).sum = f b - f a := by
  induction w with
  | nil a => simp
  | @cons s ss b k t ih =>
    rw [total_cons, ih]
    have e : s.rise = f s.other - f s.one := by
      rcases k with k | k
      · exact h s k
      · have q := h _ k
        have q : 0 - s.rise = f s.one - f s.other := q
        omega
    omega

/-! ### more of data -/
theorem dpAll_erase {K : PySem.W.Frag} {H : Hp} {ds : List PyData} {vs : List V} (k : Nat) (h : DpAll K H vs ds) : DpAll K H (vs.eraseIdx k) (ds.eraseIdx k) := by
  rw [List.eraseIdx_eq_take_drop_succ, List.eraseIdx_eq_take_drop_succ]
  exact dpAll_append (dpAll_take k h) (dpAll_drop (k + 1) h)
theorem erase_filter : ∀ {rows : List Row} {k : Nat} {r : Row}, (rows.map Row.n).Nodup → rows[k]? = some r → rows.eraseIdx k = rows.filter fun s => decide (s.n ≠ r.n)
  | [], _, _, _, h => by simp at h
  | x :: rows, 0, r, nd, h => by
    have e : x = r := by simpa using h
    subst e
    rw [List.map_cons] at nd
    obtain ⟨n1, n2⟩ := List.nodup_cons.mp nd
    rw [List.eraseIdx_cons_zero, List.filter_cons_of_neg (by simp)]
    symm
    rw [List.filter_eq_self]
    intro s hs
    refine decide_eq_true fun e => n1 ?_
    rw [← e]
    exact List.mem_map.mpr ⟨s, hs, rfl⟩
  | x :: rows, k + 1, r, nd, h => by
    rw [List.map_cons] at nd
    obtain ⟨n1, n2⟩ := List.nodup_cons.mp nd
    have h : rows[k]? = some r := by simpa using h
    have ne : x.n ≠ r.n := fun e => n1 (by rw [e]; exact List.mem_map.mpr ⟨r, List.mem_of_getElem? h, rfl⟩)
    rw [List.eraseIdx_cons_succ, erase_filter n2 h, List.filter_cons, if_pos (decide_eq_true ne)]
def sigD (a b : Str) (c : Int) : PyData := .tuple [.str a, .str b, .int c]
theorem sigD_mk {K : PySem.W.Frag} {H : Hp} {t : Addr} {a b : Str} {c : Int} (h : SqT K H t [.str a, .str b, .int c]) : Dp K H (.ref t) (sigD a b c) := .tup h (.cons (.str _) (.cons (.str _) (.cons (.int _) .nil)))
theorem sigD_eqv (a b : Str) (c : Int) : PyData.eqv (sigD a b c) (sigD a b c) = true := by simp [sigD, PyData.eqv, PyData.eqvAll]
theorem sigD_shaped {a b : Str} {c : Int} (h1 : PyData.strOk a = true) (h2 : PyData.strOk b = true) : SeqAt.shaped (sigD a b c) = true := by
  have e : (sigD a b c).depth = 1 := by simp [sigD, PyData.depth, PyData.depthAll]
  show ((sigD a b c).canLay0 && decide ((sigD a b c).depth ≤ 64)) = true
  rw [Bool.and_eq_true, e]
  exact ⟨by simp [sigD, PyData.canLay0, PyData.canLayAll0, h1, h2], by decide⟩
theorem tups_chd2 {H H' : Hp} {p q : Addr} {u w : HO} (c : Chd2 p q H H') (hp : H p = some u) (hq : H q = some w) (kp : Plain u) (kq : Plain w) : Tups H H' := fun b xs h => by
  have e1 : b ≠ p := fun e => by
    subst e
    rcases h with h | ⟨o, h⟩ <;> (rw [hp] at h; cases h; exact kp)
  have e2 : b ≠ q := fun e => by
    subst e
    rcases h with h | ⟨o, h⟩ <;> (rw [hq] at h; cases h; exact kq)
  rcases h with h | ⟨o, h⟩
  · exact .inl (c _ _ e1 e2 h)
  · exact .inr ⟨o, c _ _ e1 e2 h⟩
theorem made_same {H H1 : Hp} {b dx C : Addr} (nb : H b = none) (ndx : H dx = none) (c : Chd b (upd (upd H dx (.own b)) b (.ins C dx [])) H1) : Same H H1 := fun a o e => c a o (ne_of_none e nb) (by
  rw [upd_ne (ne_of_none e nb), upd_ne (ne_of_none e ndx)]
  exact e)
theorem made_free {H : Hp} {b dx d : Addr} {o o' : HO} (h : (upd (upd H dx o) b o') d = none) : H d = none := by
  have e1 : d ≠ b := fun e => by rw [e, upd_same] at h; cases h
  rw [upd_ne e1] at h
  have e2 : d ≠ dx := fun e => by rw [e, upd_same] at h; cases h
  rw [upd_ne e2] at h
  exact h
theorem filtMap {α β : Type} (P : α → Bool) (h : α → β) : ∀ l : List α, l.filterMap (fun x => if P x then some (h x) else none) = (l.filter P).map h
  | [] => rfl
  | x :: l => by
    rw [List.filterMap_cons, filtMap P h l, List.filter_cons]
    cases e : P x <;> simp

/-! ### what isinstance says of an error -/
theorem kit_ref {K : PySem.W.Frag} {D C : Addr} {b : Bool} (hc : PySem.W.isClsIn K C = true) (ht : PySem.W.typeIn K (.ref C) = some (.type "type")) (hs : PySem.W.subIn K (.ref D) (.ref C) = some b) (self : PySem.W.subIn K (.ref C) (.ref C) = some true) : PySem.W.kitOne K (.ref D) (.ref C) = some b := by
  unfold PySem.W.kitOne
  by_cases e : D = C
  · subst e
    rw [self] at hs
    rw [if_pos (beq_self_eq_true _)]
    exact hs
  · have ne : ¬ (Value.ref D == Value.ref C) = true := fun q => e (Value.ref.inj (beq_iff_eq.mp q))
    rw [if_neg ne]
    have e1 : ((PySem.W.clsIn K C).isSome && PySem.W.typeIn K (.ref C) == some (.type "type")) = true := by
      have hc' : (PySem.W.clsIn K C).isSome = true := hc
      rw [hc', ht]
      rfl
    show (if ((PySem.W.clsIn K C).isSome && PySem.W.typeIn K (.ref C) == some (.type "type")) = true then PySem.W.subIn K (.ref D) (.ref C) else none) = some b
    rw [if_pos e1]
    exact hs
theorem kit_tyV {K : PySem.W.Frag} {D : Addr} {T : String} {b : Bool} (hm : PySem.W.kitMeta T = true) (hs : PySem.W.subIn K (.ref D) (.type T) = some b) : PySem.W.kitOne K (.ref D) (.type T) = some b := by
  unfold PySem.W.kitOne
  have ne : ¬ (Value.ref D == Value.type T) = true := fun q => by
    have q := beq_iff_eq.mp q
    cases q
  rw [if_neg ne]
  show (if PySem.W.kitMeta T = true then PySem.W.subIn K (.ref D) (.type T) else none) = some b
  rw [if_pos hm]
  exact hs
end Peg

/-! PegF: errors with an attribute of their own. -/
namespace PySem.W
open PySem PySem.Spec PySem.Calls PyProof.Rows
section
variable {prog : Program} {w : World} {A : Around} {E : Value → Shared → Prop} {s : Shared} {K : Frag} {x D : Addr} {ox : Obj} {o : Option Obj}
theorem findObj_dataO {C : Addr} {name : Str} {a g : Value} (hc : (clsIn K C).isSome = true) (ha : findIn K (.ref C) name = some (some a)) (hg : specialIn K a "__get__" = some (some g)) (ht : takesIn K a = some true) : findObj K C o name = some (.bind g a) := by
  obtain ⟨cd, hc⟩ := Option.isSome_iff_exists.mp hc
  unfold findObj
  rw [hc, Option.bind_some, ha, Option.bind_some]
  simp [hg, ht]
theorem kin_classO {Q : Option Value → Shared → Prop} (hga : findIn K (.ref D) "__getattribute__" = some (some (.builtin "BaseException.__getattribute__"))) (hgt : findIn K (.ref D) "__getattr__" = some none) (hsub : subIn K (.ref D) (.type "BaseException") = some true)
    (hdct : hasDictIn K D = true) (ha : findIn K (.ref D) "__class__" = some (some (.builtin "object.__class__")))
    (hn : specialIn K (.builtin "object.__class__") "__get__" = some (some (.builtin "getset_descriptor.__get__"))) (htk : takesIn K (.builtin "object.__class__") = some true) (hm : mroIn K D (.type "object") = some true)
    (X : K.In s.heap) (I : InstAt s.heap x ox D o) (h : Q (some (.ref D)) { s with toks := s.toks + 1 }) : wpAny (model prog w) A (getAttr? (.ref x) "__class__") Q E s := by
  have hf : findObj K D o "__class__" = some (.bind (.builtin "getset_descriptor.__get__") (.builtin "object.__class__")) := findObj_dataO (by obtain ⟨cd, hc, _⟩ := any_some hdct; rw [hc]; rfl) ha hn htk
  obtain ⟨hp, g, d, t, os⟩ := s
  have L0 := I.type (M := model prog w)
  have L1 := looks_findIn (M := model prog w) X hga
  have L2 := looks_findIn (M := model prog w) X hgt
  have L3 := looks_find (M := model prog w) X I hf
  have sub : Looks (model prog w) hp (isInstance (.ref x) (.type "BaseException")) true := L0.andThen (looks_subIn X hsub)
  have hx0 : (false && onTheHeap (Value.builtin "BaseException.__getattribute__")) = false := rfl
  have hx2 : (Value.builtin "BaseException.__getattribute__" == Value.builtin "object.__getattribute__") = false := by decide +kernel
  have hx1 : (onTheHeap (Value.ref D) && Value.builtin "BaseException.__getattribute__" == Value.builtin "object.__getattribute__") = false := by rw [hx2]; rfl
  unfold getAttr? getAttrBy? getAttrBy
  refine wpAny_bind (wpAny_mkText (wpAny_bind (wpAny_attempt (wpAny_holding (wpAny_bind (L0.at (wpAny_bind (L1.at ?_))))))))
  show wpAny _ _ (if (onTheHeap (Value.ref D) && Value.builtin "BaseException.__getattribute__" == Value.builtin "object.__getattribute__") = true then _ else _) _ _ _
  rw [hx1, if_neg Bool.false_ne_true]
  unfold getAttrByItsOwn hookBefore
  refine wpAny_bind ?_
  rw [if_pos (show onTheHeap (Value.ref D) = true from rfl)]
  refine L2.at ?_
  refine wpAny_bind (wpAny_attempt (wpAny_holding ?_))
  unfold callGetattribute
  rw [hx0, if_neg Bool.false_ne_true]
  unfold boundAndCalled
  rw [PySem.F.excAttr_ValueError.ga.bind (.ref x)]
  refine wpAny_bind (wpAny_pure ?_)
  show wpAny _ _ (call (.builtin "BaseException.__getattribute__") [.ref x, .str "__class__" t]) _ _ _
  refine wpAny_call (codeAny_call_builtin PySem.F.excAttr_ValueError.ga.plain PySem.F.entry_bexc_ga ?_)
  refine @check_slot (model prog w) _ _ ⟨hp, g, d, t + 1, os⟩ "BaseException.__getattribute__" "BaseException" "__getattribute__" (.ref x) [.str "__class__" t] [] _ (by decide +kernel) (by decide +kernel) sub (PySem.F.args_bexc_ga (.ref x) (.str "__class__" t)) ?_
  unfold Builtin.«object.__getattribute__»
  refine wpAny_bind (wpAny_of_eq (a := ((Value.ref x : Value), [Value.str "__class__" t])) (by first | rfl | (simp only [slotArgs]; rfl)) ?_)
  refine wpAny_bind (wpAny_pure (wpAny_bind (L0.at (wpAny_bind (L3.at ?_)))))
  show wpAny _ _ (holding [Value.builtin "object.__class__"] (call (.builtin "getset_descriptor.__get__") [.builtin "object.__class__", .ref x, .ref D]) >>= ret) _ _ _
  refine wpAny_bind (wpAny_holding (wpAny_call (class_get (s := ⟨hp, g, d, t + 1, os⟩) (ox := ox) (od := o) X I hm ?_)))
  refine wpAny_pure ?_
  show wpAny _ _ (handedOut (.ref D)) _ _ _
  rw [handedOut_of (v := .ref D) rfl]
  first
    | exact wpAny_pure (wpAny_pure h)
    | exact wpAny_pure h
    | exact wpAny_pure (wpAny_bind (wpAny_pure (wpAny_pure h)))
theorem kitx_excO (hga : findIn K (.ref D) "__getattribute__" = some (some (.builtin "BaseException.__getattribute__"))) (hgt : findIn K (.ref D) "__getattr__" = some none) (hsub : subIn K (.ref D) (.type "BaseException") = some true) (hdct : hasDictIn K D = true) (ha : findIn K (.ref D) "__class__" = some (some (.builtin "object.__class__")))
    (hn : specialIn K (.builtin "object.__class__") "__get__" = some (some (.builtin "getset_descriptor.__get__"))) (htk : takesIn K (.builtin "object.__class__") = some true) (hm : mroIn K D (.type "object") = some true) :
    KitX K (.ref x) (.ref D) (fun h => InstAt h x ox D o) where
  ty := fun _ _ _ I => I.type
  it := fun _ _ X _ => by
    obtain ⟨cdD, hcD, _⟩ := any_some hdct
    unfold clsIn at hcD
    split at hcD
    · rename_i c' d' cd' sl' ho
      intro A' Q' E' s' k q
      unfold isType loadHead
      exact wpAny_bind (wpAny_loadPart (k _ _ (X _ _ ho)) (wpAny_pure q))
    · cases hcD
  ne := fun h tp dd its n sl X htp => by
    obtain ⟨cdD, hcD, _⟩ := any_some hdct
    refine Bool.eq_false_iff.mpr fun q => ?_
    have e : D = tp := Value.ref.inj (beq_iff_eq.mp q)
    subst e
    unfold clsIn at hcD
    split at hcD
    · rename_i c' d' cd' sl' ho
      have z := (X _ _ ho).symm.trans htp
      cases z
    · cases hcD
  ca := fun X I k => kin_classO hga hgt hsub hdct ha hn htk hm X I k
end
end PySem.W
namespace U
open PySem PySem.Spec PyProof.Rows L2
/-- where the error's own dict, if it has one, is tracked -/
def DictOk (H : Hp) : Option Addr → Prop
  | none => True
  | some dd => ∃ fs, H dd = some (.xd fs)
/-- isinstance(e, c), e an error held, with a dict of its own or none -/
def cIsX (K : PySem.W.Frag) : List V → Hp → VK → Prop := fun xs H Q => match xs with
  | [.ref a, c] => ∃ (D : Addr) (d : Option Addr) (cv : Value) (b : Bool), H a = some (ErO (.ref D) d a) ∧ DictOk H d ∧ ExcC K D ∧ ClsV c cv ∧ PySem.W.kitOne K (.ref D) cv = some b ∧ Q (.bl b) H
  | _ => False
theorem b_isX {X : Cx} : CallR X (.builtin "isinstance") (cIsX X.K) := by
  intro pins s σ H xs us Q I r h
  match xs, h with
  | [.ref a, c], h =>
    obtain ⟨D, d, cv, b, ha, hd, C, kc, e, q⟩ := h
    cases r with
    | cons rx rr =>
      cases rr with
      | cons rt rr =>
        cases rr
        cases rx
        have ec := kc.eq rt
        subst ec
        obtain ⟨⟨oe, vs, hget, hz, hv⟩, _, _⟩ := I.hok a _ ha
        have J : ∃ o, PySem.W.InstAt s.heap a oe D o := by
          obtain ⟨oc, od, oda, osl⟩ := oe
          obtain ⟨h1, h2⟩ := hz
          dsimp only at h1 h2 hv
          subst h1 h2 hv
          cases od with
          | none => exact ⟨none, hget, rfl, rfl, trivial⟩
          | some dd =>
            obtain ⟨fs, hfs⟩ := hd
            have hx : ObjOk X.prog X.w H s.heap dd (.xd fs) := I.hok dd _ hfs
            obtain ⟨mA, hns, hr⟩ := hx
            obtain ⟨o1, ho, hl⟩ := lookIn_ns hns
            exact ⟨some o1, hget, rfl, rfl, ho⟩
        obtain ⟨o, J⟩ := J
        exact PySem.W.kia_one (PySem.W.kitx_excO C.hg C.hk C.hs C.hd C.ha C.hn C.ht C.hm) I.kIn J e (fun z => nomatch z) fun tk => ⟨.bl b, H, I.kept (t' := tk) fun _ _ z => z, rfl, q⟩
/-- B.__init__(self, ..), B an own class over ValueError without an __init__ of its own -/
theorem pe_ownInit {X : Cx} {e : Expr} {es : List Expr} {ta : TA} {x : Str} {C : Addr} {mc : Value} {p1 p2 pos : Pos} {pl : Sem Bool} (hg : Gl X x) (hm : X.mg x = some (.ref C)) (rd : PySem.W.readsIn X.K C mc = true)
    (ga : PySem.W.specialIn X.K (.ref C) "__getattribute__" = some (some (.builtin "type.__getattribute__"))) (vV : PySem.W.findCls X.K (.ref C) mc "__init__" = some (.val (.builtin "ValueError.__init__"))) (ha : PA X (e :: es) ta)
    (hc : eval (.Call (.Attribute (.Name x p1) "__init__" p2) (e :: es) [] pos) X.env = (do
      let ov ← eval (.Name x p1) X.env
      standAt p2.atName
      let (f, first) ← holding [ov] (getMethod ov "__init__" pl)
      callWith pos f first (backTo pos (starEach (e :: es) X.env)) (backToKw pos (keywordEach [] X.env))) := by rfl)
    (hdb : (x == ("__debug__" : Str)) = false := by decide)
    (he : starEach (e :: es) X.env = (false, eval e X.env) :: starEach es X.env := by rfl) (hpl : (backTo pos (starEach es X.env)).any (·.1) = false := by rfl) :
    PE X (.Call (.Attribute (.Name x p1) "__init__" p2) (e :: es) [] pos) (tVeI X.K ta) := by
  refine ⟨fun pins s σ H Q I h => ?_⟩
  refine PySem.W.methodCall_KW (ld_glob I hg hm ?_ hdb) hc
  refine PySem.W.method_cls I.kIn ga (PySem.W.cls_value I.kIn rd vV (by decide +kernel) ?_)
  show wpAny _ _ (callWith pos (Value.builtin "ValueError.__init__") [] (backTo pos (starEach (e :: es) X.env)) []) _ _ _
  refine PyProof.Rows.callWith_method1 (thn (ha.run pos pins _ σ H _ (I.tok _) h) fun us s1 ⟨vs, H1, I1, r1, a, C', ws, ev, hl, T, ea, q⟩ => ?_) he hpl
  subst ev
  cases r1 with
  | @cons _ u0 _ ur ra rw' =>
    obtain rfl : u0 = Value.ref a := ra
    have hlen : ur.length ≤ sizeLine := by
      rw [← Paired.length rw', sizeLine_eq]
      omega
    exact oinit_ok T I1 ea hlen fun s' J => ⟨.non, H1, J, rfl, q⟩
end U

/-! PegG: list.remove of data, tuple + tuple, an own error with an __init__ of its own. -/
namespace U
open PySem PySem.Spec PyProof.Rows L2

/-! ### tuples put together, cut -/
def cCatT (K : PySem.W.Frag) : R2 := fun x y H Q => match x, y with
  | .ref a, .ref b => ∃ xs ys, SqT K H a xs ∧ SqT K H b ys ∧ xs ≠ [] ∧ ys ≠ [] ∧ xs.length + ys.length ≤ sizeLine ∧ New H (.tup (xs ++ ys)) fun p H2 => Q (.ref p) H2
  | _, _ => False
theorem o_catT {X : Cx} : OpR X (binaryOp .Add) (cCatT X.K) := op_imp op_catA fun x y H Q q => by
  cases x <;> cases y <;> first
    | (obtain ⟨xs, ys, h1, h2, n1, n2, hz, q⟩ := q; exact ⟨_, _, xs, ys, rfl, rfl, h1, h2, hz, fun z => absurd z n1, fun _ z => absurd z n2, fun _ _ => New.at q⟩)
    | exact False.elim q
def cSlT (K : PySem.W.Frag) : V → Option Int → Option Int → Hp → VK → Prop := fun x lo hi H Q => match x with
  | .ref a => ∃ xs, SqT K H a xs ∧ ¬ (HT.sIx xs.length 0 lo = 0 ∧ HT.sIx xs.length xs.length hi = xs.length) ∧ New H (.tup (cutV xs lo hi)) fun p H2 => Q (.ref p) H2
  | _ => False
theorem s_tup {X : Cx} : SlR X (cSlT X.K) := sl_imp sl_tup fun x l u H Q q => by
  cases x <;> first
    | (obtain ⟨xs, h, n, q⟩ := q; exact ⟨_, _, rfl, h, n, New.at q⟩)
    | exact False.elim q

/-! ### l.remove(x), data -/
def cRemD (K : PySem.W.Frag) : V → List V → Hp → VK → Prop := fun x xs H Q => match x, xs with
  | .ref a, [y] => ∃ (zs : List V) (d : PyData) (ds : List PyData) (j : Nat) (z : PyData), H a = some (.lst zs) ∧ DpAll K H zs ds ∧ Dp K H y d ∧ SeqAt.shaped (.list ds) = true ∧ SeqAt.shaped d = true ∧
      ds[j]? = some z ∧ PyData.eqv z d = true ∧ (∀ (m : Nat) (z' : PyData), m < j → ds[m]? = some z' → PyData.eqv z' d = false) ∧ Chg a H (.lst (zs.eraseIdx j)) fun H2 => Q .non H2
  | _, _ => False
theorem m_removeD {X : Cx} (hu : X.A.units + 65 < cLine) : MtM X "list.remove" (cRemD X.K) := by
  intro pins s σ H x xs v us Q I rx rxs h
  match x, xs, h with
  | .ref a, [y], h =>
    obtain ⟨zs, d, ds, j, z, hH, hall, hy, sl, sd, hz, hzj, hno, q⟩ := h
    cases rx
    cases rxs with
    | cons ry rt =>
      rename_i uy ut
      cases rt
      obtain ⟨bs, r1⟩ := Dp.reads I d y uy hy ry
      have hxs : PyData.canLayAll0 ds = true := SeqAt.canLay_of_shaped sl
      have hroom : X.A.units + 1 + min (PyData.depthAll ds) d.depth < cLine := room_in_shaped sd hu
      obtain ⟨zl, its, n, r, hl, e⟩ := I.lstM hH
      obtain ⟨as, h4⟩ := Dp.readsAll I ds _ its hall r
      have hn : its.length = ds.length := SeqAt.ReadsAll.length ds its as h4
      have hmap : its.map (SeqAt.readOf s.heap) = ds := SeqAt.readsAll_map ds its as hxs h4
      obtain ⟨hjd, _⟩ := List.getElem?_eq_some_iff.mp hz
      have hjl : j < its.length := by omega
      have hj : j < its.toArray.size := by simpa using hjl
      have at_ : ∀ (m : Nat) (hm : m < its.toArray.size) (z' : PyData), ds[m]? = some z' → SeqAt.readOf s.heap its.toArray[m] = z' := by
        intro m hm z' hz'
        have hml : m < its.length := by simpa using hm
        rw [← hmap, List.getElem?_map, List.getElem?_eq_getElem hml] at hz'
        have e1 : SeqAt.readOf s.heap its[m] = z' := Option.some.inj (show some (SeqAt.readOf s.heap its[m]) = some z' from hz')
        simpa using e1
      refine call_meets PySem.F.slot_list_remove ⟨_, e, rfl⟩ PySem.F.entry_list_remove (PySem.F.args_list_remove_2 _ _)
        (SeqAt.list_removeAt a its.toArray n none #[] uy (fun u => PyData.eqv (SeqAt.readOf s.heap u) d) j hj ?_ ?_ (by rw [List.size_toArray]; omega)) ⟨e, SeqAt.items_eqAt (vs := its.toArray) (show ReadsAll s.heap its.toArray.toList ds as from h4) r1 hxs (SeqAt.canLay_of_shaped sd) hroom, ?_⟩
      · show PyData.eqv (SeqAt.readOf s.heap its.toArray[j]) d = true
        rw [at_ j hj z hz]
        exact hzj
      · intro m hm hmj
        have hmd : m < ds.length := by omega
        have hz' : ds[m]? = some ds[m] := List.getElem?_eq_getElem hmd
        show PyData.eqv (SeqAt.readOf s.heap its.toArray[m]) d = false
        rw [at_ m hm _ hz']
        exact hno m _ hmj hz'
      · have rr := r.eraseIdx j
        refine ⟨.non, _, I.lset (its' := its.eraseIdx j) (t' := s.toks) hH e ?_ rr ?_, rfl, q.at⟩
        · show its.toArray.eraseIdxIfInBounds j = (its.eraseIdx j).toArray
          rw [List.eraseIdxIfInBounds_toArray]
        · have z2 := len_erase zs j
          omega

/-! ### an own error with an __init__ of its own -/
structure CalE (P : Program) (w : World) (K : PySem.W.Frag) (mg : Str → Option Value) (base : Heap) (k : Nat) (C : Addr) (x : Str) (ps : List Str) (sp : Sp) : Prop where
  ex : ∃ (f : Addr) (fd : FuncData), OexC K C ∧ PySem.W.findIn K (.ref C) "__init__" = some (some (.ref f)) ∧ PySem.W.typeIn K (.ref f) = some (.type "function") ∧ FnOk P w K mg base CX0 k f fd ps sp ∧ mg x = some (.ref C) ∧ Binds K fd ps []
theorem CalE.pmk {X : Cx} {k : Nat} {C : Addr} {x : Str} {ps : List Str} {sp : Sp} {e : Expr} {es : List Expr} {ta : TA} {p pos : Pos} (c : CalE X.prog X.w X.K X.mg X.base k C x ps sp) (hr : Room (k + 1) X.A) (ha : PA X (e :: es) ta) (hg : Gl X x := by rfl)
    (hdb : (x == ("__debug__" : Str)) = false := by decide) (he : starEach (e :: es) X.env = (false, eval e X.env) :: starEach es X.env := by rfl) (hpl : (backTo pos (starEach es X.env)).any (·.1) = false := by rfl) :
    PMk X (.Call (.Name x p) (e :: es) [] pos) (tMkO C sp [] ta) := by
  obtain ⟨f, fd, T, iC, tI, F, m, b⟩ := c.ex
  exact pmk_oex T iC tI F hr b .nil pass0 hg m ha hdb he hpl
def uMkO (E : XK) (C : Addr) (sp : Sp) (ta : TA) : TS := fun _ σ H => tMkO C sp [] ta σ H fun cls d H' => E cls d H'
/-- what its __init__ does, one field -/
def uVeI (K : PySem.W.Frag) (ta : TA) : TE := tVeI K ta
end U

/-! PegZ: zip of three lists. -/
namespace U
open PySem PySem.Spec PyProof.Rows L2
def Itz3 (K : PySem.W.Frag) (a b c : Addr) : It :=
  ⟨fun i H => ∃ (xs ys zs : List V) (x y z : V), SqL K H a xs ∧ SqL K H b ys ∧ SqL K H c zs ∧ xs[i]? = some x ∧ ys[i]? = some y ∧ zs[i]? = some z,
    fun i H v H' => ∃ T x y z, v = .ref T ∧ H T = none ∧ H' = upd H T (.tup [x, y, z]) ∧ (∀ xs, SqL K H a xs → xs[i]? = some x) ∧ (∀ ys, SqL K H b ys → ys[i]? = some y) ∧ ∀ zs, SqL K H c zs → zs[i]? = some z,
    fun i H => ∃ xs ys zs : List V, SqL K H a xs ∧ SqL K H b ys ∧ SqL K H c zs ∧ xs.length = i ∧ ys.length = i ∧ zs.length = i⟩
theorem turn_zip3 {P : Program} {w : World} {K : PySem.W.Frag} {elts : List Expr} {kk : Nat} {tpos : Pos} {a b c z TI TO i1 i2 i3 : Addr} (D : ZipSep3 z TI TO i1 i2 i3 [i1, a] [i2, b] [i3, c]) (n1 : a ≠ i1) (n2 : b ≠ i2) (n3 : c ≠ i3) :
    Turn P w K (.Tuple elts kk tpos) (Itz3 K a b c) [z, TI, TO, i1, i2, i3] z (fun i h => IsZip h z TI TO .none ∧ IsTupOf3 h TI (.ref i1) (.ref i2) (.ref i3) ∧ (∃ x y u, IsTupOf3 h TO x y u) ∧ h.IsListIter i1 a i ∧ h.IsListIter i2 b i ∧ h.IsListIter i3 c i) where
  mem := by simp
  obj := fun i h st q hq => by
    obtain ⟨hz, hTI, ⟨x, y, u, hTO⟩, ⟨o1, e1, _, d1⟩, ⟨o2, e2, _, d2⟩, ⟨o3, e3, _, d3⟩⟩ := st
    have e' : q = z ∨ q = TI ∨ q = TO ∨ q = i1 ∨ q = i2 ∨ q = i3 := by simpa using hq
    rcases e' with e | e | e | e | e | e
    · rw [e]; exact ⟨_, hz, fun v q => nomatch q⟩
    · rw [e]; exact ⟨_, hTI, fun v q => nomatch q⟩
    · rw [e]; exact ⟨_, hTO, fun v q => nomatch q⟩
    · rw [e]; exact ⟨o1, e1, fun v q => by rw [d1] at q; cases q⟩
    · rw [e]; exact ⟨o2, e2, fun v q => by rw [d2] at q; cases q⟩
    · rw [e]; exact ⟨o3, e3, fun v q => by rw [d3] at q; cases q⟩
  keep := fun i h h' st k => by
    obtain ⟨hz, hTI, ⟨x, y, u, hTO⟩, h1, h2, h3⟩ := st
    exact ⟨k z (by simp) _ hz, k TI (by simp) _ hTI, ⟨x, y, u, k TO (by simp) _ hTO⟩, h1.at fun o q => k i1 (by simp) o q, h2.at fun o q => k i2 (by simp) o q, h3.at fun o q => k i3 (by simp) o q⟩
  item := by
    intro X hP hw hK hc i pins s σ H E I hf st hg
    subst hP hw hK
    obtain ⟨hz, hTI, ⟨x0, y0, u0, hTO⟩, h1, h2, h3⟩ := st
    obtain ⟨xs, ys, zs, x, y, v, hqx, hqy, hqz, hx, hy, hv⟩ := hg
    obtain ⟨its, rv, p, _⟩ := I.list hqx
    obtain ⟨its2, rv2, p2, _⟩ := I.list hqy
    obtain ⟨its3, rv3, p3, _⟩ := I.list hqz
    obtain ⟨u, hu, ru⟩ := rv.get hx
    obtain ⟨u2, hu2, ru2⟩ := rv2.get hy
    obtain ⟨u3, hu3, ru3⟩ := rv3.get hv
    have hzl : z < s.heap.objs.size := Heap.lt_size hz
    have l1 : i < its.toArray.size := by rw [List.size_toArray]; exact (List.getElem?_eq_some_iff.mp hu).1
    have l2 : i < its2.toArray.size := by rw [List.size_toArray]; exact (List.getElem?_eq_some_iff.mp hu2).1
    have l3 : i < its3.toArray.size := by rw [List.size_toArray]; exact (List.getElem?_eq_some_iff.mp hu3).1
    refine wpAny_pyNext_zipD3_item D (Draws.list (prog := X.prog) (w := X.w) (A := X.A.in1) (I.ok.hd hc) i1 a n1 its.toArray) (Draws.list (prog := X.prog) (w := X.w) (A := X.A.in1) (I.ok.hd hc) i2 b n2 its2.toArray) (Draws.list (prog := X.prog) (w := X.w) (A := X.A.in1) (I.ok.hd hc) i3 c n3 its3.toArray) hz hTI hTO ⟨h1, p.isList⟩ ⟨h2, p2.isList⟩ ⟨h3, p3.isList⟩ l1 l2 l3 fun x1 x2 x3 h' tk y1 y2 y3 z' TO' h1' h2' h3' hT hsz hk => ?_
    have ex1 : x1 = u := by
      have y1 : its.toArray[i]? = some x1 := y1
      rw [List.getElem?_toArray] at y1
      exact Option.some.inj (y1.symm.trans hu)
    have ex2 : x2 = u2 := by
      have y2 : its2.toArray[i]? = some x2 := y2
      rw [List.getElem?_toArray] at y2
      exact Option.some.inj (y2.symm.trans hu2)
    have ex3 : x3 = u3 := by
      have y3 : its3.toArray[i]? = some x3 := y3
      rw [List.getElem?_toArray] at y3
      exact Option.some.inj (y3.symm.trans hu3)
    subst ex1 ex2 ex3
    refine ⟨_, rfl, wpAny_letOwnedTupleGo_zip (s := { s with heap := h', toks := tk }) z' fun h'' z'' sb => ?_⟩
    have hT2 : h''.get? s.heap.objs.size = some { cls := .type "tuple", data := .seq #[x1, x2, x3] } := (sb.2 _ (Nat.ne_of_gt hzl)).trans hT
    have new : ObjOk X.prog X.w (upd H s.heap.objs.size (.tup [x, y, v])) h'' s.heap.objs.size (.tup [x, y, v]) :=
      ⟨by show 3 ≤ sizeLine; decide, [x1, x2, x3], .cons ru (.cons ru2 (.cons ru3 .nil)), ⟨_, hT2, rfl, _, rfl⟩⟩
    have I1 : Inv X pins σ (upd H s.heap.objs.size (.tup [x, y, v])) { s with heap := h'', toks := tk } :=
      I.turnedNew (t' := tk) (ch := [z, TI, TO, i1, i2, i3]) (fun c o hb q => (sb.2 c (fun q' => hb (by simp [q']))).trans (hk c o (fun q' => hb (by simp [q'])) (fun q' => hb (by simp [q'])) (fun q' => hb (by simp [q'])) (fun q' => hb (by simp [q'])) (fun q' => hb (by simp [q'])) q)) hf (Nat.le_refl _) new
    refine ⟨.ref s.heap.objs.size, _, I1, rfl, ⟨_, x, y, v, rfl, I.hok.fresh (Nat.le_refl _), rfl, fun l hl => by rw [I.list_inj hl hqx]; exact hx, fun l hl => by rw [I.list_inj hl hqy]; exact hy, fun l hl => by rw [I.list_inj hl hqz]; exact hv⟩, ⟨z'', ?_, ⟨x1, x2, x3, ?_⟩, ?_, ?_, ?_⟩, fun q hqm => ?_⟩
    · exact (sb.2 _ D.TIz).trans (hk _ _ D.TIz D.TITO D.TIi1 D.TIi2 D.TIi3 hTI)
    · exact (sb.2 _ D.TOz).trans TO'
    · exact h1'.1.at fun o q => (sb.2 _ D.zi1.symm).trans q
    · exact h2'.1.at fun o q => (sb.2 _ D.zi2.symm).trans q
    · exact h3'.1.at fun o q => (sb.2 _ D.zi3.symm).trans q
    · have hlt : q < s.heap.objs.size := by
        have e' : q = z ∨ q = TI ∨ q = TO ∨ q = i1 ∨ q = i2 ∨ q = i3 := by simpa using hqm
        rcases e' with e | e | e | e | e | e
        · rw [e]; exact hzl
        · rw [e]; exact Heap.lt_size hTI
        · rw [e]; exact Heap.lt_size hTO
        · rw [e]; obtain ⟨_, e1, _⟩ := h1; exact Heap.lt_size e1
        · rw [e]; obtain ⟨_, e2, _⟩ := h2; exact Heap.lt_size e2
        · rw [e]; obtain ⟨_, e3, _⟩ := h3; exact Heap.lt_size e3
      rw [upd_ne (Nat.ne_of_lt hlt)]
      exact (hf q hqm).1
  done := by
    intro X hP hw hK hc i pins s σ H E I hf st hg
    subst hP hw hK
    obtain ⟨hz, hTI, ⟨x0, y0, u0, hTO⟩, h1, h2, h3⟩ := st
    obtain ⟨xs, ys, zs, hqx, hqy, hqz, e1, e2, e3⟩ := hg
    obtain ⟨its, rv, p, _⟩ := I.list hqx
    obtain ⟨its2, rv2, p2, _⟩ := I.list hqy
    obtain ⟨its3, rv3, p3, _⟩ := I.list hqz
    have l1 := rv.length
    have l2 := rv2.length
    have l3 := rv3.length
    exact wpAny_pyNext_zipD3_end D (Draws.list (prog := X.prog) (w := X.w) (A := X.A.in1) (I.ok.hd hc) i1 a n1 its.toArray) (Draws.list (prog := X.prog) (w := X.w) (A := X.A.in1) (I.ok.hd hc) i2 b n2 its2.toArray) (Draws.list (prog := X.prog) (w := X.w) (A := X.A.in1) (I.ok.hd hc) i3 c n3 its3.toArray) hz hTI hTO ⟨h1, p.isList⟩ ⟨h2, p2.isList⟩ ⟨h3, p3.isList⟩
      (by rw [List.size_toArray]; omega) (by rw [List.size_toArray]; omega) (by rw [List.size_toArray]; omega) (.inl (by rw [List.size_toArray]; omega)) fun h' tk hk => ⟨rfl, I.turnedL (t' := tk) (ch := [z, TI, TO, i1, i2, i3]) (fun c o hb q =>
      hk c o (fun q' => hb (by simp [q'])) (fun q' => hb (by simp [q'])) (fun q' => hb (by simp [q'])) (fun q' => hb (by simp [q'])) (fun q' => hb (by simp [q'])) q) hf⟩
  self := fun A i s Q E st h => wpAny_pyIter_zip st.1 h
def iZip3 (K : PySem.W.Frag) (ta : TA) : TI := fun σ H R => ta σ H fun vs H1 => ∃ a b c xs ys zs, vs = [.ref a, .ref b, .ref c] ∧ SqL K H1 a xs ∧ SqL K H1 b ys ∧ SqL K H1 c zs ∧ R (Itz3 K a b c) H1
theorem pi_zip3 {X : Cx} {e e2 e3 : Expr} {ta : TA} {p pos tpos : Pos} {elts : List Expr} {kk : Nat} (hg : Gl X "zip") (hm : X.mg "zip" = none) (ha : PA X [e, e2, e3] ta)
    (hs : starEach [e, e2, e3] X.env = (false, eval e X.env) :: starEach [e2, e3] X.env := by rfl) (hpl : (backTo pos (starEach [e2, e3] X.env)).any (·.1) = false := by rfl) :
    PI X (.Tuple elts kk tpos) (.Call (.Name "zip" p) [e, e2, e3] [] pos) (iZip3 X.K ta) := by
  refine ⟨fun pins s σ H R I h => ?_⟩
  refine Call_ (ld_blt I hg hm PyProof.Rows.boot_zip (PyProof.Rows.callWith_type1 (thn (ha.run pos pins s σ H _ I h) fun us s1 ⟨vs, H1, I1, r1, q1⟩ => ?_) hs hpl))
  obtain ⟨a, b, c, xs, ys, zs, ex, hqx, hqy, hqz, q⟩ := q1
  subst ex
  cases r1 with
  | cons r rr =>
    cases rr with
    | cons r' rr =>
      cases rr with
      | cons r'' rr =>
        cases rr
        cases r
        cases r'
        cases r''
        obtain ⟨its, rv, p1, _⟩ := I1.list hqx
        obtain ⟨its2, rv2, p2, _⟩ := I1.list hqy
        obtain ⟨its3, rv3, p3, _⟩ := I1.list hqz
        have la : a < s1.heap.objs.size := p1.lt
        have lb : b < s1.heap.objs.size := p2.lt
        have lc : c < s1.heap.objs.size := p3.lt
        refine zip_begins3 (begins_list a its.toArray) (begins_list b its2.toArray) (begins_list c its3.toArray) p1.isList p2.isList p3.isList fun h' hz hTI hTO g1 g2 g3 hsz hk => wpAny_pyIter_zip hz ?_
        have I2 : Inv X pins σ H1 { s1 with heap := h' } := I1.kept (t' := s1.toks) hk
        have mem1 : ∀ x : Addr, ∀ y : Addr, y < s1.heap.objs.size → x ∈ [y] → x < s1.heap.objs.size := fun x y hy hx => by
          rw [List.mem_singleton.mp hx]
          exact hy
        refine ⟨s1.heap.objs.size + 5, [s1.heap.objs.size + 5, s1.heap.objs.size + 3, s1.heap.objs.size + 4, s1.heap.objs.size, s1.heap.objs.size + 1, s1.heap.objs.size + 2], _, _, H1, rfl, I2, turn_zip3 (zip_sep3 (fun x hx => mem1 x a la hx) (fun x hx => mem1 x b lb hx) (fun x hx => mem1 x c lc hx)) (Nat.ne_of_lt la) (Nat.ne_of_lt (Nat.lt_succ_of_lt lb)) (Nat.ne_of_lt (Nat.lt_of_lt_of_le lc (Nat.le_add_right _ 2))), ⟨hz, hTI, ⟨_, _, _, hTO⟩, ⟨_, g1, rfl, rfl⟩, ⟨_, g2, rfl, rfl⟩, ⟨_, g3, rfl, rfl⟩⟩, fun q hqm => ?_, q⟩
        have e' : q = s1.heap.objs.size + 5 ∨ q = s1.heap.objs.size + 3 ∨ q = s1.heap.objs.size + 4 ∨ q = s1.heap.objs.size ∨ q = s1.heap.objs.size + 1 ∨ q = s1.heap.objs.size + 2 := by simpa using hqm
        have hle : s1.heap.objs.size ≤ q := by
          rcases e' with z | z | z | z | z | z
          · rw [z]; exact Nat.le_add_right _ _
          · rw [z]; exact Nat.le_add_right _ _
          · rw [z]; exact Nat.le_add_right _ _
          · rw [z]; exact Nat.le_refl _
          · rw [z]; exact Nat.le_add_right _ _
          · rw [z]; exact Nat.le_add_right _ _
        exact I1.fpOk hle (I1.hok.fresh hle) |> fun f => by
          have f2 := I2
          exact ⟨I1.hok.fresh hle, f.2⟩
end U

/-! PegT: texts. -/
namespace U
open PySem PySem.Spec PyProof.Rows L2
def cSplit : V → List V → Hp → VK → Prop := fun x xs H Q => match x, xs with
  | .str a, [.str b] => (b.length == 0) = false ∧ a.length + 2 ≤ sizeLine ∧ New H (.lst ((Txt.split a b).map V.str)) fun p H2 => Q (.ref p) H2
  | _, _ => False
theorem m_split {X : Cx} : MtR X "str.split" cSplit := mt_imp mt_split fun x xs H Q q => by
  match x, xs, q with
  | .str a, [.str b], q =>
    obtain ⟨h1, h2, q⟩ := q
    exact ⟨a, b, rfl, rfl, h1, h2, New.at q⟩
theorem e_split {X : Cx} {o e : Expr} {to te : TE} {apos pos : Pos} (ho : PE X o to) (he : PE X e te) (hs : starEach [e] X.env = [(false, eval e X.env)] := by rfl) (hbase : attributeBase o "split" X.env (eval o X.env) = eval o X.env := by rfl) (hline : (apos.endLine == pos.line) = true := by rfl) :
    PE X (.Call (.Attribute o "split" apos) [e] [] pos) (tM1 cSplit to te) := pe_m1 F.slot_str_split F.type_str_split m_split ho he hs hbase hline
def cJoin (K : PySem.W.Frag) : V → List V → Hp → VK → Prop := fun x xs H Q => match x, xs with
  | .str a, [.ref p] => ∃ ys : List Str, SqL K H p (ys.map V.str) ∧ (ys.map (·.length)).sum + ys.length * a.length ≤ 16777216 ∧ Q (.str (Txt.join a ys)) H
  | _, _ => False
theorem m_join {X : Cx} : MtR X "str.join" (cJoin X.K) := mt_imp mt_join fun x xs H Q q => by
  match x, xs, q with
  | .str a, [.ref p], q =>
    obtain ⟨ys, h1, h2, q⟩ := q
    exact ⟨a, p, ys, rfl, rfl, .inl h1, h2, q⟩
theorem e_join {X : Cx} {o e : Expr} {to te : TE} {apos pos : Pos} (ho : PE X o to) (he : PE X e te) (hs : starEach [e] X.env = [(false, eval e X.env)] := by rfl) (hbase : attributeBase o "join" X.env (eval o X.env) = eval o X.env := by rfl) (hline : (apos.endLine == pos.line) = true := by rfl) :
    PE X (.Call (.Attribute o "join" apos) [e] [] pos) (tM1 (cJoin X.K) to te) := pe_m1 F.slot_str_join F.type_str_join m_join ho he hs hbase hline

/-! ### a def whose last parameter has a default -/
structure CalD (P : Program) (w : World) (K : PySem.W.Frag) (mg : Str → Option Value) (base : Heap) (CX : CXT) (k : Nat) (x : Str) (ps : List Str) (sp : Sp) (dvs : List V) : Prop where
  ex : ∃ (f : Addr) (fd : FuncData), FnOk P w K mg base CX k f fd ps sp ∧ mg x = some (.ref f) ∧ PySem.W.keepIn K (.ref f) = true ∧ Binds K fd ps [] ∧ ∃ ds, Vals dvs ds ∧ Binds K fd ps ds
section
variable {X : Cx} {CX : CXT} {k : Nat} {x : Str} {ps : List Str} {sp : Sp} {dvs : List V} {e : Expr} {es : List Expr} {t : TA} {p pos : Pos}
theorem CalD.pe {E : XK} (c : CalD X.prog X.w X.K X.mg X.base CX k x ps sp dvs) (hr : Room k X.A) (hx : Passes CX X E)
    (ha : PA X (e :: es) t) (hg : Gl X x := by rfl) (hdb : (x == ("__debug__" : Str)) = false := by decide) (he : starEach (e :: es) X.env = (false, eval e X.env) :: starEach es X.env := by rfl) (hpl : (backTo pos (starEach es X.env)).any (·.1) = false := by rfl) :
    PE X (.Call (.Name x p) (e :: es) [] pos) (tCall sp [] E t) := by
  obtain ⟨f, fd, F, m, kp, b, _⟩ := c.ex
  exact pe_call F hr hg m kp b .nil hx ha hdb he hpl
theorem CalD.peD {E : XK} (c : CalD X.prog X.w X.K X.mg X.base CX k x ps sp dvs) (hr : Room k X.A) (hx : Passes CX X E)
    (ha : PA X (e :: es) t) (hg : Gl X x := by rfl) (hdb : (x == ("__debug__" : Str)) = false := by decide) (he : starEach (e :: es) X.env = (false, eval e X.env) :: starEach es X.env := by rfl) (hpl : (backTo pos (starEach es X.env)).any (·.1) = false := by rfl) :
    PE X (.Call (.Name x p) (e :: es) [] pos) (tCall sp dvs E t) := by
  obtain ⟨f, fd, F, m, kp, _, ds, hd, b⟩ := c.ex
  exact pe_call F hr hg m kp b hd hx ha hdb he hpl
theorem CalD.peS {E : L2.St → XK} (c : CalD X.prog X.w X.K X.mg X.base CX k x ps sp dvs) (hr : Room k X.A) (hx : ∀ σ, PassesAt CX X σ (E σ))
    (ha : PA X (e :: es) t) (hg : Gl X x := by rfl) (hdb : (x == ("__debug__" : Str)) = false := by decide) (he : starEach (e :: es) X.env = (false, eval e X.env) :: starEach es X.env := by rfl) (hpl : (backTo pos (starEach es X.env)).any (·.1) = false := by rfl) :
    PE X (.Call (.Name x p) (e :: es) [] pos) (tCallS sp E t) := by
  obtain ⟨f, fd, F, m, kp, b, _⟩ := c.ex
  exact pe_callS F hr hg m kp b hx ha hdb he hpl
end
end U
namespace Peg
open PySem PySem.Spec PyProof.Rows L2 U
/-! ### numbers as texts -/
def numS (c : Int) : Str := toString c
theorem numS_pos (n : Nat) : (numS (n : Int)).cps.toList = TL.numL n := TL.tl_num n
theorem numS_neg (n : Nat) (h : 0 < n) : (numS (-(n : Int))).cps.toList = 45 :: TL.numL n := by
  obtain ⟨m, rfl⟩ : ∃ m, n = m + 1 := ⟨n - 1, by omega⟩
  have e : (toString (-((m + 1 : Nat) : Int)) : String) = "-" ++ toString ((m + 1 : Nat) : Int) := rfl
  show (Str.ofString (toString (-((m + 1 : Nat) : Int)))).cps.toList = _
  have q := TL.tl_num (m + 1)
  have q : (Str.ofString (toString ((m + 1 : Nat) : Int))).cps.toList = TL.numL (m + 1) := q
  rw [Str.ofString_eq_toList] at q
  rw [e, Str.ofString_eq_toList, ← q]
  simp [String.toList_append]
theorem numL_head {n : Nat} (h : 0 < n) : ∃ d r, TL.numL n = d :: r ∧ d ≠ 48 := by
  induction n using Nat.strongRecOn with
  | _ n ih =>
    by_cases h10 : n < 10
    · exact ⟨48 + n, [], TL.numL_lt h10, by omega⟩
    · obtain ⟨d, r, e, ne⟩ := ih (n / 10) (by omega) (by omega)
      exact ⟨d, r ++ [48 + n % 10], by rw [TL.numL_step (by omega), e]; rfl, ne⟩
/-- a number's text, by its sign -/
theorem numS_cases (c : Int) : (0 ≤ c ∧ (numS c).cps.toList = TL.numL c.toNat) ∨ (c < 0 ∧ (numS c).cps.toList = 45 :: TL.numL c.natAbs) := by
  by_cases h : 0 ≤ c
  · refine .inl ⟨h, ?_⟩
    have e : c = ((c.toNat : Nat) : Int) := by omega
    have q := numS_pos c.toNat
    rw [← e] at q
    exact q
  · refine .inr ⟨by omega, ?_⟩
    have e : c = -((c.natAbs : Nat) : Int) := by omega
    have q := numS_neg c.natAbs (by omega)
    rw [← e] at q
    exact q
theorem numS_signs (c : Int) : ∀ x ∈ (numS c).cps.toList, x = 45 ∨ (48 ≤ x ∧ x ≤ 57) := fun x hx => by
  rcases numS_cases c with ⟨_, e⟩ | ⟨_, e⟩
  · rw [e] at hx
    exact .inr (TL.numL_digits _ x hx)
  · rw [e] at hx
    rcases List.mem_cons.mp hx with h | h
    · exact .inl h
    · exact .inr (TL.numL_digits _ x h)
def Bnd (c : Int) : Prop := -(10 ^ 60) < c ∧ c < 10 ^ 60
theorem numL_60 {n : Nat} (h : n < 10 ^ 60) : (TL.numL n).length ≤ 60 := TL.numL_len (by decide) h
theorem numS_len {c : Int} (h : Bnd c) : (numS c).length ≤ 61 := by
  rw [str_len]
  have h1 := h.1
  have h2 := h.2
  rcases numS_cases c with ⟨h0, e⟩ | ⟨h0, e⟩
  · rw [e]
    have := numL_60 (n := c.toNat) (by omega)
    omega
  · rw [e, List.length_cons]
    have := numL_60 (n := c.natAbs) (by omega)
    omega
theorem numS_int {c : Int} (h : Bnd c) : intText? (numS c) = some c := by
  have hl := numS_len h
  rcases numS_cases c with ⟨h0, e⟩ | ⟨h0, e⟩
  · have q := intText_digits (x := numS c) (by rw [e]; exact TL.numL_digits _) (by rw [e]; exact TL.numL_ne _) (by omega)
    rw [e, TL.numL_val] at q
    rw [q]
    congr 1
    omega
  · have q := intText_neg (x := numS c) e (TL.numL_digits _) (TL.numL_ne _) (by omega)
    rw [TL.numL_val] at q
    rw [q]
    congr 1
    omega
theorem log_bnd {c : Int} (h : Bnd c) : c.natAbs.log2 < 1920 := by
  have h1 := h.1
  have h2 := h.2
  by_cases e : c.natAbs = 0
  · rw [e]
    decide
  · refine (Nat.log2_lt e).mpr (Nat.lt_of_lt_of_le (m := 2 ^ 300) ?_ (Nat.pow_le_pow_right (by decide) (by decide)))
    omega

/-! ### sightings as texts -/
abbrev Sg := Str × Str × Int
def showR (a b : Str) (c : Int) : Str := a ++ " " ++ b ++ " " ++ numS c
def showS (s : Sg) : Str := showR s.1 s.2.1 s.2.2
def showAll (l : List Sg) : Str := Txt.join "; " (l.map showS)
def sgOf (r : Row) : Sg := (r.one, r.other, r.rise)
def Pg (z : Str) : Prop := ∃ n, Az z n ∧ 1 ≤ n ∧ n ≤ 8
theorem Pg.sz {z : Str} (h : Pg z) : z.length ≤ 8 := by
  obtain ⟨n, a, _, b⟩ := h
  rw [a.len]
  exact b
theorem Pg.ok {z : Str} (h : Pg z) : PyData.strOk z = true := let ⟨_, a, _⟩ := h; a.ok
theorem Pg.signs {z : Str} (h : Pg z) : ∀ c ∈ z.cps.toList, 97 ≤ c ∧ c ≤ 122 := let ⟨_, a, _⟩ := h; a.all
structure GoodS (s : Sg) : Prop where
  one : Pg s.1
  other : Pg s.2.1
  bnd : Bnd s.2.2
theorem blank_tl : (" " : Str).cps.toList = [32] := by decide +kernel
theorem semi_tl : ("; " : Str).cps.toList = 59 :: [32] := by decide +kernel
theorem showR_tl (a b : Str) (c : Int) : (showR a b c).cps.toList = a.cps.toList ++ 32 :: (b.cps.toList ++ 32 :: (numS c).cps.toList) := by
  unfold showR
  simp only [str_app_codes, blank_tl, List.append_assoc, List.cons_append, List.nil_append]
theorem blank_len : (" " : Str).length = 1 := by decide +kernel
theorem semi_len : ("; " : Str).length = 2 := by decide +kernel
theorem GoodS.len {s : Sg} (h : GoodS s) : (showS s).length ≤ 79 := by
  have h1 := h.one.sz
  have h2 := h.other.sz
  have h3 := numS_len h.bnd
  unfold showS showR
  rw [str_app_len, str_app_len, str_app_len, str_app_len, blank_len]
  omega
theorem GoodS.free {s : Sg} (h : GoodS s) : 59 ∉ (showS s).cps.toList := fun m => by
  unfold showS at m
  rw [showR_tl] at m
  rcases List.mem_append.mp m with m | m
  · have := h.one.signs 59 m
    omega
  rcases List.mem_cons.mp m with m | m
  · omega
  rcases List.mem_append.mp m with m | m
  · have := h.other.signs 59 m
    omega
  rcases List.mem_cons.mp m with m | m
  · omega
  · have := numS_signs _ 59 m
    omega
theorem split_all {l : List Sg} (hne : l ≠ []) (h : ∀ s ∈ l, GoodS s) : Txt.split (showAll l) "; " = l.map showS := by
  refine TL.split_join (s := 59) (S := [32]) semi_tl (by decide +kernel) (fun e => hne (List.map_eq_nil_iff.mp e)) fun p hp => ?_
  obtain ⟨s, hs, rfl⟩ := List.mem_map.mp hp
  exact (h s hs).free
theorem split_one {s : Sg} (h : GoodS s) : Txt.split (showS s) " " = [s.1, s.2.1, numS s.2.2] := by
  have e : showS s = Txt.join " " [s.1, s.2.1, numS s.2.2] := by
    rw [TL.join_eq]
    refine TL.ext_tl ?_
    rw [TL.tl_join]
    show (showS s).cps.toList = s.1.cps.toList ++ ((" " : Str).cps.toList ++ (s.2.1.cps.toList ++ ((" " : Str).cps.toList ++ (numS s.2.2).cps.toList)))
    unfold showS
    rw [showR_tl, blank_tl]
    rfl
  rw [e]
  refine TL.split_join (s := 32) (S := []) blank_tl (by decide +kernel) (by simp) fun p hp => ?_
  rcases List.mem_cons.mp hp with rfl | hp
  · intro m
    have := h.one.signs 32 m
    omega
  rcases List.mem_cons.mp hp with rfl | hp
  · intro m
    have := h.other.signs 32 m
    omega
  rcases List.mem_cons.mp hp with rfl | hp
  · intro m
    have := numS_signs _ 32 m
    omega
  · cases hp
theorem all_sum : ∀ {l : List Sg}, (∀ s ∈ l, GoodS s) → ((l.map showS).map (·.length)).sum ≤ 79 * l.length
  | [], _ => Nat.le_refl _
  | s :: l, h => by
    have h1 := (h s (List.mem_cons_self ..)).len
    have h2 := all_sum (l := l) fun t ht => h t (List.mem_cons_of_mem _ ht)
    rw [List.map_cons, List.map_cons, List.sum_cons, List.length_cons]
    omega
theorem showAll_len {l : List Sg} (h : ∀ s ∈ l, GoodS s) : (showAll l).length ≤ 81 * l.length := by
  have e := StrLaws.join_length_le "; " (l.map showS)
  rw [← TL.join_eq] at e
  have q := all_sum h
  rw [List.length_map, semi_len] at e
  have e : (showAll l).length ≤ _ := e
  omega
theorem showAll_ne {s : Sg} {l : List Sg} : showAll (s :: l) ≠ "" := fun e => by
  have m : 32 ∈ (showAll (s :: l)).cps.toList := by
    have e1 : (showAll (s :: l)).cps.toList = TL.joinL ("; " : Str).cps.toList (((s :: l).map showS).map TL.tl) := by
      unfold showAll
      rw [TL.join_eq]
      exact TL.tl_join _ _
    rw [e1]
    have m1 : 32 ∈ TL.tl (showS s) := by
      show 32 ∈ (showS s).cps.toList
      unfold showS
      rw [showR_tl]
      simp
    cases l with
    | nil => exact m1
    | cons t r => exact List.mem_append_left _ m1
  rw [e] at m
  exact absurd m (by decide +kernel)
theorem showAll_nil : showAll [] = "" := by decide +kernel
theorem dp_strs {K : PySem.W.Frag} {H : Hp} : ∀ {ns : List Str} {vs : List V}, DpAll K H vs (ns.map PyData.str) → vs = ns.map V.str
  | [], _, .nil => rfl
  | _ :: _, _, .cons a b => by rw [dp_str a, dp_strs b]; rfl
def sgD (s : Sg) : PyData := sigD s.1 s.2.1 s.2.2
def sgV (s : Sg) : List V := [.str s.1, .str s.2.1, .int s.2.2]
theorem sg_at {K : PySem.W.Frag} {H : Hp} {v : V} {s : Sg} (h : Dp K H v (sgD s)) : ∃ a, v = .ref a ∧ SqT K H a (sgV s) := by
  obtain ⟨a, xs, rfl, h, al⟩ := dp_tup h
  obtain ⟨_, _, rfl, h1, al⟩ := dpAll_cons al
  obtain ⟨_, _, rfl, h2, al⟩ := dpAll_cons al
  obtain ⟨_, _, rfl, h3, al⟩ := dpAll_cons al
  obtain rfl := dpAll_nil al
  obtain rfl := dp_str h1
  obtain rfl := dp_str h2
  obtain rfl := dp_int h3
  exact ⟨a, rfl, h⟩
theorem sg_mk {K : PySem.W.Frag} {H : Hp} {a : Addr} {s : Sg} (h : SqT K H a (sgV s)) : Dp K H (.ref a) (sgD s) := sigD_mk h
theorem TStay.sg (s : Sg) : TStay (sgD s) := fun K H H' v e h => by
  obtain ⟨a, rfl, h2⟩ := sg_at h
  exact sg_mk (tups_t e h2)
def Pot (f : Str → Int) (l : List Sg) : Prop := ∀ s ∈ l, s.2.2 = f s.2.1 - f s.1
def numb : Nat → List Sg → List Row
  | _, [] => []
  | k, s :: l => ⟨(k : Int) + 1, s.1, s.2.1, s.2.2⟩ :: numb (k + 1) l
theorem numb_snoc : ∀ (k : Nat) (l : List Sg) (s : Sg), numb k (l ++ [s]) = numb k l ++ [⟨((k + l.length : Nat) : Int) + 1, s.1, s.2.1, s.2.2⟩]
  | k, [], s => rfl
  | k, t :: l, s => by
    show _ :: numb (k + 1) (l ++ [s]) = _ :: (numb (k + 1) l ++ _)
    rw [numb_snoc (k + 1) l s, List.length_cons]
    have e : k + 1 + l.length = k + (l.length + 1) := by omega
    rw [e]
theorem numb_len : ∀ (k : Nat) (l : List Sg), (numb k l).length = l.length
  | _, [] => rfl
  | k, _ :: l => by
    show (numb (k + 1) l).length + 1 = l.length + 1
    rw [numb_len]
theorem numb_sg : ∀ (k : Nat) (l : List Sg), (numb k l).map sgOf = l
  | _, [] => rfl
  | k, s :: l => by
    show _ :: (numb (k + 1) l).map sgOf = _
    rw [numb_sg (k + 1) l]
    rfl
theorem numb_at : ∀ (k : Nat) (l : List Sg) (i : Nat) (r : Row) (s : Sg), (numb k l)[i]? = some r → l[i]? = some s → r = ⟨((k + i : Nat) : Int) + 1, s.1, s.2.1, s.2.2⟩
  | _, [], i, r, s, h, _ => by simp [numb] at h
  | k, t :: l, 0, r, s, h, h2 => by
    have e1 : (⟨(k : Int) + 1, t.1, t.2.1, t.2.2⟩ : Row) = r := Option.some.inj h
    have e2 : t = s := Option.some.inj h2
    rw [← e1, e2]
    rfl
  | k, t :: l, i + 1, r, s, h, h2 => by
    have e := numb_at (k + 1) l i r s h (by simpa using h2)
    rw [e]
    have e2 : k + 1 + i = k + (i + 1) := by omega
    rw [e2]
theorem numb_mem {k : Nat} {l : List Sg} {r : Row} (h : r ∈ numb k l) : sgOf r ∈ l := by
  rw [← numb_sg k l]
  exact List.mem_map.mpr ⟨r, h, rfl⟩
theorem pot_rows {f : Str → Int} {rows : List Row} {l : List Sg} (h : Pot f l) (e : ∀ r ∈ rows, sgOf r ∈ l) : ∀ r ∈ rows, r.rise = f r.other - f r.one := fun r hr => h _ (e r hr)
theorem same_chd2' {H H1 H2 : Hp} {p q : Addr} (s : Same H H1) (c : Chd2 p q H1 H2) (hp : H p = none) (hq : H q = none) : Same H H2 := fun a o e => c a o (ne_of_none e hp) (ne_of_none e hq) (s a o e)
theorem nums_sign {c : Nat} (h : 48 ≤ c ∧ c ≤ 57) : c ∈ ("0123456789" : Str).cps.toList := by
  have e : ("0123456789" : Str).cps.toList = (List.range 10).map (· + 48) := by decide +kernel
  rw [e, List.mem_map]
  exact ⟨c - 48, List.mem_range.mpr (by omega), by omega⟩
/-- a comprehension over a range, each value of a kind -/
theorem lcr_range {K : PySem.W.Frag} {H : Hp} {n : Nat} {ta : TA} {te : TE} {j : Nat} {σ : L2.St} {Q : VK} (G : V → Prop) (hta : ∀ R, R [.int (n : Int)] H → ta σ H R) (hz : n < 100000) (hw : ∀ x, wipe ((wipe σ [j]).set j (some x)) [j] = wipe σ [j])
    (he : ∀ (i : Nat) (H1 : Hp) (R : VK), i < n → Same H H1 → (∀ (v : V) (H2 : Hp), Same H1 H2 → G v → R v H2) → te ((wipe σ [j]).set j (some (.int (0 + i)))) H1 R)
    (q : ∀ (p : Addr) (H2 : Hp) (vs : List V), H p = none → Same H H2 → H2 p = some (.lst vs) → vs.length = n → (∀ v ∈ vs, G v) → Q (.ref p) H2) : uLc (iRng1 ta) (gName j) tYes te [j] σ H Q := by
  refine uLc_of (hta _ ⟨n, rfl, by omega, by omega, fun D hD => lc_range (lo := 0) (n := (n : Int).toNat) (fun i H' => Same H H' ∧ ∃ vs, H' D = some (.lst vs) ∧ vs.length = i ∧ ∀ v ∈ vs, G v) ⟨same_new hD, [], upd_same, rfl, fun v h => (by cases h)⟩ ?_ ?_⟩)
  · rintro i H' hi ⟨s, vs, hd, hlen, g⟩
    have hi : i < n := by omega
    refine ⟨hw _, ?_⟩
    unfold tYes
    dsimp only
    rw [if_pos rfl]
    refine he i H' _ hi s fun v H2 s2 gv => ⟨vs, s2 _ _ hd, szl (by omega), same_mut (s.trans s2) hD, vs ++ [v], upd_same, by rw [List.length_append, hlen]; rfl, fun x hx => ?_⟩
    rcases List.mem_append.mp hx with h | h
    · exact g x h
    · have e : x = v := by simpa using h
      rw [e]
      exact gv
  · rintro H' ⟨s, vs, hd, hlen, g⟩
    exact q D H' vs hD s hd (by omega) g
/-! ### two sightings that agree -/
def second (s : Sg) (one other : Str) (r : Int) : Int := if one = other then 0 else if one = s.1 ∧ other = s.2.1 then s.2.2 else if one = s.2.1 ∧ other = s.1 then 0 - s.2.2 else r
theorem second_bnd {s : Sg} {one other : Str} {r : Int} (h : Bnd s.2.2) (k : Bnd r) : Bnd (second s one other r) := by
  have h1 := h.1
  have h2 := h.2
  unfold second
  split
  · exact ⟨by decide, by decide⟩
  split
  · exact h
  split
  · exact ⟨by omega, by omega⟩
  · exact k
theorem second_pot {s : Sg} (h : s.1 = s.2.1 → s.2.2 = 0) (one other : Str) (r : Int) : ∃ f, Pot f [s, (one, other, second s one other r)] := by
  have mk : ∀ f : Str → Int, s.2.2 = f s.2.1 - f s.1 → second s one other r = f other - f one → ∃ f, Pot f [s, (one, other, second s one other r)] := fun f h1 h2 => ⟨f, fun t ht => by
    rcases List.mem_cons.mp ht with rfl | ht
    · exact h1
    · have e : t = (one, other, second s one other r) := by simpa using ht
      subst e
      exact h2⟩
  have f1 : s.2.2 = (if s.2.1 = s.2.1 then s.2.2 else 0) - (if s.1 = s.2.1 then s.2.2 else 0) := by
    rw [if_pos rfl]
    by_cases e : s.1 = s.2.1
    · rw [if_pos e, h e]
      rfl
    · rw [if_neg e]
      omega
  by_cases e0 : one = other
  · refine mk (fun z => if z = s.2.1 then s.2.2 else 0) f1 ?_
    unfold second
    rw [if_pos e0, e0]
    omega
  by_cases e1 : one = s.1 ∧ other = s.2.1
  · refine mk (fun z => if z = s.2.1 then s.2.2 else 0) f1 ?_
    unfold second
    rw [if_neg e0, if_pos e1, e1.1, e1.2]
    exact f1
  by_cases e2 : one = s.2.1 ∧ other = s.1
  · refine mk (fun z => if z = s.2.1 then s.2.2 else 0) f1 ?_
    unfold second
    rw [if_neg e0, if_neg e1, if_pos e2, e2.1, e2.2]
    have f1 := f1
    omega
  have es : second s one other r = r := by
    unfold second
    rw [if_neg e0, if_neg e1, if_neg e2]
  by_cases e3 : other = s.1 ∨ other = s.2.1
  · -- then the one is new
    have n1 : one ≠ s.1 ∧ one ≠ s.2.1 := by
      constructor
      · intro q
        rcases e3 with e3 | e3
        · exact e0 (q.trans e3.symm)
        · exact e1 ⟨q, e3⟩
      · intro q
        rcases e3 with e3 | e3
        · exact e2 ⟨q, e3⟩
        · exact e0 (q.trans e3.symm)
    refine mk (fun z => if z = one then (if other = s.2.1 then s.2.2 else 0) - r else (if z = s.2.1 then s.2.2 else 0)) ?_ ?_
    · rw [if_neg n1.2.symm, if_neg n1.1.symm]
      exact f1
    · rw [es, if_neg (fun q => e0 q.symm), if_pos rfl]
      omega
  · have n1 : s.1 ≠ other ∧ s.2.1 ≠ other := ⟨fun q => e3 (.inl q.symm), fun q => e3 (.inr q.symm)⟩
    refine mk (fun z => if z = other then (if one = s.2.1 then s.2.2 else 0) + r else (if z = s.2.1 then s.2.2 else 0)) ?_ ?_
    · rw [if_neg n1.2, if_neg n1.1]
      exact f1
    · rw [es, if_pos rfl, if_neg e0]
      omega
end Peg

/-! the law's own tops: a weighted union, in plain Lean -/
open PySem PySem.W
namespace Peg
structure Tops where
  D : List Str
  rt : Str → Str
  of : Str → Int
def Tops.ens (T : Tops) (p : Str) : Tops := if p ∈ T.D then T else ⟨T.D ++ [p], T.rt, T.of⟩
theorem Tops.ens_rt (T : Tops) (p : Str) : (T.ens p).rt = T.rt := by unfold Tops.ens; split <;> rfl
theorem Tops.ens_of (T : Tops) (p : Str) : (T.ens p).of = T.of := by unfold Tops.ens; split <;> rfl
theorem Tops.ens_mem (T : Tops) (p q : Str) : q ∈ (T.ens p).D ↔ q ∈ T.D ∨ q = p := by
  unfold Tops.ens
  split
  · exact ⟨.inl, fun h => h.elim id fun e => by rw [e]; assumption⟩
  · show q ∈ T.D ++ [p] ↔ _
    rw [List.mem_append, List.mem_singleton]
theorem Tops.ens_nodup (T : Tops) (p : Str) (h : T.D.Nodup) : (T.ens p).D.Nodup := by
  unfold Tops.ens
  split
  · exact h
  · rename_i n
    show (T.D ++ [p]).Nodup
    rw [List.nodup_append]
    exact ⟨h, by simp, fun a ha b hb e => by
      have eb : b = p := by simpa using hb
      rw [e, eb] at ha
      exact n ha⟩
def Tops.both (T : Tops) (r : Row) : Tops := (T.ens r.one).ens r.other
/-- what the pegs of the second's part get -/
def Tops.lay (T : Tops) (r : Row) : Tops := if T.rt r.one = T.rt r.other then T.both r else
  ⟨(T.both r).D, fun z => if T.rt z = T.rt r.other then T.rt r.one else T.rt z, fun z => if T.rt z = T.rt r.other then T.of z + (T.of r.one + r.rise - T.of r.other) else T.of z⟩
def Tops.nil : Tops := ⟨[], fun z => z, fun _ => 0⟩
def tops (rows : List Row) : Tops := rows.foldl Tops.lay Tops.nil
def Tops.gap (T : Tops) (a b : Str) : Option Int := if T.rt a = T.rt b then some (T.of b - T.of a) else none
structure TopOf (rows : List Row) (T : Tops) : Prop where
  nd : T.D.Nodup
  dom : ∀ p, p ∈ T.D ↔ ∃ r ∈ rows, p = r.one ∨ p = r.other
  out : ∀ p, ¬ p ∈ T.D → T.rt p = p ∧ T.of p = 0
  ins : ∀ p, p ∈ T.D → T.rt p ∈ T.D
  join : ∀ p q, T.rt p = T.rt q ↔ Reach rows p q
  rise : ∀ r ∈ rows, r.rise = T.of r.other - T.of r.one
theorem TopOf.nil : TopOf [] Tops.nil where
  nd := List.nodup_nil
  dom := fun p => ⟨fun h => (by cases h), fun ⟨r, h, _⟩ => (by cases h)⟩
  out := fun p _ => ⟨rfl, rfl⟩
  ins := fun p h => (by cases h)
  join := fun p q => ⟨fun e => by
    have e : p = q := e
    rw [e]
    exact Reach.refl _ _, fun h => h.closedR (S := fun x => p = x) (fun r h => (by cases h)) rfl⟩
  rise := fun r h => (by cases h)
theorem TopOf.gap_none {rows : List Row} {T : Tops} (h : TopOf rows T) {a b : Str} (g : T.gap a b = none) : ¬ Reach rows a b := fun k => by
  unfold Tops.gap at g
  rw [if_pos ((h.join a b).mpr k)] at g
  cases g
theorem TopOf.gap_some {rows : List Row} {T : Tops} (h : TopOf rows T) {a b : Str} {x : Int} (g : T.gap a b = some x) : Reach rows a b ∧ ∀ ss, Way rows a ss b → (ss.map Row.rise).sum = x := by
  unfold Tops.gap at g
  split at g
  · rename_i e
    refine ⟨(h.join a b).mp e, fun ss w => ?_⟩
    rw [way_sum h.rise w]
    exact Option.some.inj g
  · cases g
theorem Tops.both_mem (T : Tops) (r : Row) (q : Str) : q ∈ (T.both r).D ↔ q ∈ T.D ∨ q = r.one ∨ q = r.other := by
  unfold Tops.both
  rw [Tops.ens_mem, Tops.ens_mem, or_assoc]
theorem TopOf.lay {rows : List Row} {T : Tops} (h : TopOf rows T) (r : Row) (ag : ∀ x, T.gap r.one r.other = some x → x = r.rise) : TopOf (rows ++ [r]) (T.lay r) := by
  have nd : (T.both r).D.Nodup := Tops.ens_nodup _ _ (Tops.ens_nodup _ _ h.nd)
  have dom : ∀ p, p ∈ (T.both r).D ↔ ∃ s ∈ rows ++ [r], p = s.one ∨ p = s.other := fun p => by
    rw [Tops.both_mem, h.dom]
    constructor
    · rintro (⟨s, hs, e⟩ | e)
      · exact ⟨s, List.mem_append_left _ hs, e⟩
      · exact ⟨r, List.mem_append_right _ (List.mem_singleton.mpr rfl), e⟩
    · rintro ⟨s, hs, e⟩
      rcases List.mem_append.mp hs with hs | hs
      · exact .inl ⟨s, hs, e⟩
      · rw [List.mem_singleton.mp hs] at e
        exact .inr e
  have ins1 : ∀ p, p ∈ (T.both r).D → T.rt p ∈ (T.both r).D := fun p hp => by
    by_cases k : p ∈ T.D
    · exact (Tops.both_mem _ _ _).mpr (.inl (h.ins p k))
    · rw [(h.out p k).1]
      exact hp
  have mr : r ∈ rows ++ [r] := List.mem_append_right _ (List.mem_singleton.mpr rfl)
  have wider : ∀ s, IsStep rows s → IsStep (rows ++ [r]) s := fun s hs => hs.imp (List.mem_append_left _) (List.mem_append_left _)
  have m1 : r.one ∈ (T.both r).D := (Tops.both_mem _ _ _).mpr (.inr (.inl rfl))
  have m2 : r.other ∈ (T.both r).D := (Tops.both_mem _ _ _).mpr (.inr (.inr rfl))
  unfold Tops.lay
  by_cases e : T.rt r.one = T.rt r.other
  · rw [if_pos e]
    have ert : (T.both r).rt = T.rt := by unfold Tops.both; rw [Tops.ens_rt, Tops.ens_rt]
    have eof : (T.both r).of = T.of := by unfold Tops.both; rw [Tops.ens_of, Tops.ens_of]
    refine ⟨nd, dom, fun p hp => ?_, fun p hp => ?_, fun p q => ?_, fun s hs => ?_⟩
    · rw [ert, eof]
      exact h.out p fun k => hp ((Tops.both_mem _ _ _).mpr (.inl k))
    · rw [ert]
      exact ins1 p hp
    · rw [ert, h.join]
      refine ⟨fun k => k.mono wider, fun k => k.closedR (S := fun x => Reach rows p x) (fun s hs => ?_) (Reach.refl _ _)⟩
      rcases List.mem_append.mp hs with hs | hs
      · exact ⟨fun z => z.trans (.step (.inl hs)), fun z => z.trans (Reach.step (.inl hs)).symm⟩
      · rw [List.mem_singleton.mp hs]
        have z := (h.join r.one r.other).mp e
        exact ⟨fun y => y.trans z, fun y => y.trans z.symm⟩
    · rw [eof]
      rcases List.mem_append.mp hs with hs | hs
      · exact h.rise s hs
      · rw [List.mem_singleton.mp hs]
        refine (ag _ ?_).symm
        unfold Tops.gap
        rw [if_pos e]
  · rw [if_neg e]
    have one_not : ∀ x : Int, T.rt r.one = T.rt r.other → False := fun _ z => e z
    refine ⟨nd, dom, fun p hp => ?_, fun p hp => ?_, fun p q => ?_, fun s hs => ?_⟩
    · have hp1 : ¬ p ∈ T.D := fun k => hp ((Tops.both_mem _ _ _).mpr (.inl k))
      obtain ⟨o1, o2⟩ := h.out p hp1
      have ne : ¬ T.rt p = T.rt r.other := fun z => by
        rw [o1] at z
        rw [z] at hp
        exact hp (ins1 _ m2)
      exact ⟨by show (if _ then _ else _) = _; rw [if_neg ne, o1], by show (if _ then _ else _) = _; rw [if_neg ne, o2]⟩
    · show (if _ then _ else _) ∈ (T.both r).D
      split
      · exact ins1 _ m1
      · exact ins1 _ hp
    · show (if _ then _ else _) = (if _ then _ else _) ↔ _
      have st : Reach (rows ++ [r]) r.one r.other := .step (.inl mr)
      constructor
      · intro z
        split at z <;> rename_i c1 <;> split at z <;> rename_i c2
        · exact ((h.join p q).mp (c1.trans c2.symm)).mono wider
        · exact (((h.join _ _).mp c1).mono wider).trans (st.symm.trans (((h.join _ _).mp z).mono wider))
        · exact (((h.join _ _).mp z).mono wider).trans (st.trans (((h.join _ _).mp c2.symm).mono wider))
        · exact ((h.join p q).mp z).mono wider
      · intro k
        refine k.closedR (S := fun x => (if T.rt p = T.rt r.other then T.rt r.one else T.rt p) = (if T.rt x = T.rt r.other then T.rt r.one else T.rt x)) (fun s hs => ?_) rfl
        rcases List.mem_append.mp hs with hs | hs
        · have z := (h.join s.one s.other).mpr (.step (.inl hs))
          rw [z]
        · rw [List.mem_singleton.mp hs]
          rw [if_neg e, if_pos (rfl : T.rt r.other = T.rt r.other)]
    · show s.rise = (if T.rt s.other = T.rt r.other then T.of s.other + (T.of r.one + r.rise - T.of r.other) else T.of s.other) - (if T.rt s.one = T.rt r.other then T.of s.one + (T.of r.one + r.rise - T.of r.other) else T.of s.one)
      rcases List.mem_append.mp hs with hs | hs
      · have z := (h.join s.one s.other).mpr (.step (.inl hs))
        have z2 := h.rise s hs
        rw [z]
        split <;> omega
      · rw [List.mem_singleton.mp hs, if_neg e, if_pos rfl]
        omega
theorem TopOf.fold {f : Str → Int} : ∀ {ws rows : List Row} {T : Tops}, TopOf rows T → (∀ r ∈ rows ++ ws, r.rise = f r.other - f r.one) → TopOf (rows ++ ws) (ws.foldl Tops.lay T)
  | [], rows, T, h, _ => by rw [List.append_nil]; exact h
  | r :: ws, rows, T, h, ag => by
    have k := h.lay r fun x g => by
      obtain ⟨⟨ss, w⟩, all⟩ := h.gap_some g
      rw [← all ss w, way_sum (fun s hs => ag s (List.mem_append_left _ hs)) w]
      exact (ag r (List.mem_append_right _ (List.mem_cons_self ..))).symm
    have e : rows ++ r :: ws = (rows ++ [r]) ++ ws := by rw [List.append_assoc]; rfl
    rw [e]
    exact TopOf.fold k (by rw [← e]; exact ag)
/-- rows that agree: the law's tops are theirs -/
theorem top_of {f : Str → Int} {rows : List Row} (ag : ∀ r ∈ rows, r.rise = f r.other - f r.one) : TopOf rows (tops rows) := TopOf.fold (rows := []) TopOf.nil ag
end Peg

/-! PegW: the laws' own tops in the heap. -/
namespace Peg
open PySem PySem.Spec PyProof.Rows L2 U
/-- the tops in the heap -/
def TopAt (K : PySem.W.Frag) (H : Hp) (d : Addr) (T : Tops) : Prop := ∃ kvs : List (Key × V), H d = some (.dK kvs) ∧ kvs.map (·.1) = T.D.map Sum.inr ∧ ∀ z ∈ T.D, ∃ t, valV kvs (Sum.inr z) = some (.ref t) ∧ SqT K H t [.str (T.rt z), .int (T.of z)]
section
variable {K : PySem.W.Frag} {H H' : Hp} {d : Addr} {T : Tops}
theorem TopAt.mono (s : Same H H') (h : TopAt K H d T) : TopAt K H' d T := by
  obtain ⟨kvs, h1, h2, h3⟩ := h
  exact ⟨kvs, s _ _ h1, h2, fun z hz => by
    obtain ⟨t, a, b⟩ := h3 z hz
    exact ⟨t, a, same_t s b⟩⟩
theorem TopAt.get (h : TopAt K H d T) {z : Str} (hz : z ∈ T.D) : ∃ t, DGet H d (.str z) (some (.ref t)) ∧ SqT K H t [.str (T.rt z), .int (T.of z)] := by
  obtain ⟨kvs, h1, h2, h3⟩ := h
  obtain ⟨t, a, b⟩ := h3 z hz
  refine ⟨t, ?_, b⟩
  rw [← a]
  exact DGet.k (k := Sum.inr z) h1
theorem TopAt.no (h : TopAt K H d T) {z : Str} (hz : ¬ z ∈ T.D) : DGet H d (.str z) none := by
  obtain ⟨kvs, h1, h2, h3⟩ := h
  have e : valV kvs (Sum.inr z) = none := valV_no fun m => by
    rw [h2] at m
    obtain ⟨y, hy, ey⟩ := List.mem_map.mp m
    exact hz (by rw [← Sum.inr.inj ey]; exact hy)
  rw [← e]
  exact DGet.k (k := Sum.inr z) h1
theorem putK_keys {κ : Type} [DecidableEq κ] (kvs : List (κ × V)) (k : κ) (v : V) (h : k ∈ kvs.map (·.1)) : (putK kvs k v).map (·.1) = kvs.map (·.1) := by
  unfold putK
  split
  · rw [List.map_map]
    refine List.map_congr_left fun a _ => ?_
    show (if a.1 = k then (a.1, v) else a).1 = a.1
    split <;> rfl
  · rename_i n
    obtain ⟨p, hp, e⟩ := List.mem_map.mp h
    exact absurd (List.any_eq_true.mpr ⟨p, hp, decide_eq_true e⟩) n
theorem TopOf.gap_out {rows : List Row} (h : TopOf rows T) {a b : Str} (ne : a ≠ b) (o : ¬ a ∈ T.D ∨ ¬ b ∈ T.D) : T.gap a b = none := by
  have key : ∀ x y : Str, x ≠ y → ¬ x ∈ T.D → T.rt x ≠ T.rt y := fun x y nxy hx e => by
    rw [(h.out x hx).1] at e
    by_cases hy : y ∈ T.D
    · exact hx (by rw [e]; exact h.ins y hy)
    · rw [(h.out y hy).1] at e
      exact nxy e
  unfold Tops.gap
  rcases o with o | o
  · rw [if_neg (key a b ne o)]
  · rw [if_neg fun e => key b a (fun z => ne z.symm) o e.symm]
theorem TopAt.size (h : TopAt K H d T) : ∃ kvs : List (Key × V), H d = some (.dK kvs) ∧ kvs.length = T.D.length := by
  obtain ⟨kvs, h1, h2, _⟩ := h
  refine ⟨kvs, h1, ?_⟩
  have e := congrArg List.length h2
  rw [List.length_map, List.length_map] at e
  exact e
/-- a new peg is put, a tuple of its own beside -/
theorem TopAt.put_new (h : TopAt K H d T) {z : Str} (hz : ¬ z ∈ T.D) (o : T.rt z = z ∧ T.of z = 0) {kvs : List (Key × V)} (hk : H d = some (.dK kvs)) {t : Addr} (ht : SqT K H t [.str z, .int 0]) (c : Chd d H H') (e : H' d = some (.dK (putK kvs (Sum.inr z) (.ref t)))) : TopAt K H' d (T.ens z) := by
  obtain ⟨kvs1, h1, h2, h3⟩ := h
  rw [hk] at h1
  cases h1
  have tp : Tups H H' := tups_chd c hk True.intro
  have hn : valV kvs (Sum.inr z) = none := valV_no fun m => by
    rw [h2] at m
    obtain ⟨y, hy, ey⟩ := List.mem_map.mp m
    exact hz (by rw [← Sum.inr.inj ey]; exact hy)
  have eD : (T.ens z).D = T.D ++ [z] := by unfold Tops.ens; rw [if_neg hz]
  refine ⟨_, e, ?_, fun y hy => ?_⟩
  · rw [putK_new _ hn, eD, List.map_append, List.map_append, h2]
    rfl
  · rw [Tops.ens_rt, Tops.ens_of, valV_put]
    rw [eD] at hy
    by_cases ey : y = z
    · subst ey
      rw [if_pos rfl, o.1, o.2]
      exact ⟨t, rfl, tups_t tp ht⟩
    · rw [if_neg fun q => ey (Sum.inr.inj q)]
      rcases List.mem_append.mp hy with m | m
      · obtain ⟨t1, a, b⟩ := h3 y m
        exact ⟨t1, a, tups_t tp b⟩
      · exact absurd (List.mem_singleton.mp m) ey
theorem TopAt.same_ens (h : TopAt K H d T) {z : Str} (hz : z ∈ T.D) : TopAt K H d (T.ens z) := by
  unfold Tops.ens
  rw [if_pos hz]
  exact h
/-- a peg that is there is put anew -/
theorem TopAt.put_old (h : TopAt K H d T) {z : Str} (hz : z ∈ T.D) {kvs : List (Key × V)} (hk : H d = some (.dK kvs)) {t : Addr} {r : Str} {x : Int} (ht : SqT K H t [.str r, .int x]) (c : Chd d H H') (e : H' d = some (.dK (putK kvs (Sum.inr z) (.ref t)))) : TopAt K H' d ⟨T.D, fun y => if y = z then r else T.rt y, fun y => if y = z then x else T.of y⟩ := by
  obtain ⟨kvs1, h1, h2, h3⟩ := h
  rw [hk] at h1
  cases h1
  have tp : Tups H H' := tups_chd c hk True.intro
  have hm : Sum.inr z ∈ kvs.map (·.1) := by
    rw [h2]
    exact List.mem_map.mpr ⟨z, hz, rfl⟩
  refine ⟨_, e, ?_, fun y hy => ?_⟩
  · rw [putK_keys _ _ _ hm, h2]
  · show ∃ t_1, _ ∧ SqT K H' t_1 [.str (if y = z then r else T.rt y), .int (if y = z then x else T.of y)]
    rw [valV_put]
    by_cases ey : y = z
    · subst ey
      rw [if_pos rfl, if_pos rfl, if_pos rfl]
      exact ⟨t, rfl, tups_t tp ht⟩
    · rw [if_neg fun q => ey (Sum.inr.inj q), if_neg ey, if_neg ey]
      obtain ⟨t1, a, b⟩ := h3 y hy
      exact ⟨t1, a, tups_t tp b⟩
/-- only what stands at its pegs is asked for -/
theorem TopAt.congr (h : TopAt K H d T) {T' : Tops} (e : T'.D = T.D) (k : ∀ z ∈ T.D, T'.rt z = T.rt z ∧ T'.of z = T.of z) : TopAt K H d T' := by
  obtain ⟨kvs, h1, h2, h3⟩ := h
  refine ⟨kvs, h1, by rw [e]; exact h2, fun z hz => ?_⟩
  rw [e] at hz
  rw [(k z hz).1, (k z hz).2]
  exact h3 z hz
theorem Tops.ens_len (T : Tops) (p : Str) : (T.ens p).D.length ≤ T.D.length + 1 := by
  unfold Tops.ens
  split
  · exact Nat.le_succ _
  · show (T.D ++ [p]).length ≤ _
    rw [List.length_append]
    exact Nat.le_refl _
theorem Tops.lay_len (T : Tops) (r : Row) : (T.lay r).D.length ≤ T.D.length + 2 := by
  have h : (T.both r).D.length ≤ T.D.length + 2 := by
    unfold Tops.both
    have h1 := Tops.ens_len T r.one
    have h2 := Tops.ens_len (T.ens r.one) r.other
    omega
  unfold Tops.lay
  split <;> exact h
/-- what a gap is as a value -/
def gapV : Option Int → V
  | none => .non
  | some x => .int x
end
end Peg

/-! PegK: a law's book, the law's own rows and its count in the heap. -/
namespace Peg
open PySem PySem.Spec PyProof.Rows L2 U

theorem dpAll_ints {K : PySem.W.Frag} {H : Hp} : ∀ ns : List Int, DpAll K H (ns.map V.int) (ns.map PyData.int)
  | [] => .nil
  | n :: ns => .cons (.int n) (dpAll_ints ns)
theorem ints_shaped (ns : List Int) : SeqAt.shaped (.list (ns.map PyData.int)) = true := by
  have e1 : PyData.canLayAll0 (ns.map PyData.int) = true := by
    induction ns with
    | nil => simp [PyData.canLayAll0]
    | cons n ns ih => simp [PyData.canLayAll0, PyData.canLay0, ih]
  have e2 : PyData.depthAll (ns.map PyData.int) ≤ 1 := by
    clear e1
    induction ns with
    | nil => simp [PyData.depthAll]
    | cons n ns ih =>
      simp only [List.map_cons, PyData.depthAll, PyData.depth]
      omega
  show ((PyData.list (ns.map PyData.int)).canLay0 && decide ((PyData.list (ns.map PyData.int)).depth ≤ 64)) = true
  rw [Bool.and_eq_true]
  refine ⟨by simp only [PyData.canLay0]; exact e1, decide_eq_true ?_⟩
  simp only [PyData.depth]
  omega
/-- rows that agree: some heights tell them -/
def Agr (rows : List Row) : Prop := ∃ f : Str → Int, ∀ r ∈ rows, r.rise = f r.other - f r.one
theorem Agr.sub {rows rows' : List Row} (h : Agr rows) (s : ∀ r ∈ rows', r ∈ rows) : Agr rows' := let ⟨f, k⟩ := h; ⟨f, fun r hr => k r (s r hr)⟩
theorem TopOf.agr {rows : List Row} {T : Tops} (h : TopOf rows T) : Agr rows := ⟨T.of, h.rise⟩
def Pgs (rows : List Row) : Prop := ∀ r ∈ rows, Pg r.one ∧ Pg r.other
theorem Pgs.ok {rows : List Row} (h : Pgs rows) : ∀ r ∈ rows, r.Ok := fun r hr => ⟨(h r hr).1.ok, (h r hr).2.ok⟩
def rowOf (n : Int) (g : Sg) : Row := ⟨n, g.1, g.2.1, g.2.2⟩
def Chd4 (b d R Ct : Addr) (H H' : Hp) : Prop := ∀ x o, x ≠ b → x ≠ d → x ≠ R → x ≠ Ct → H x = some o → H' x = some o
theorem chd4_same {b d R Ct : Addr} {H H' : Hp} (s : Same H H') : Chd4 b d R Ct H H' := fun x o _ _ _ _ e => s x o e
theorem Chd4.trans {b d R Ct : Addr} {H H1 H' : Hp} (a : Chd4 b d R Ct H H1) (c : Chd4 b d R Ct H1 H') : Chd4 b d R Ct H H' := fun x o h1 h2 h3 h4 e => c x o h1 h2 h3 h4 (a x o h1 h2 h3 h4 e)
theorem BookAt.chd {K : PySem.W.Frag} {A : Ad} {H H' : Hp} {b d p : Addr} {most taken : Int} {rows : List Row} {xs : List V} (hp : H p = some (.lst xs)) (c : Chd p H H') (B : BookAt K A H b d most taken rows) : BookAt K A H' b d most taken rows := by
  obtain ⟨⟨dx, h1⟩, ⟨kvs, h2, h3⟩, h4, h5⟩ := B
  exact ⟨⟨dx, c _ _ (ne_of h1 hp (by intro z; cases z)) h1⟩, ⟨kvs, c _ _ (ne_of h2 hp (by intro z; cases z)) h2, h3.tups (tups_chd c hp True.intro)⟩, h4, h5⟩
/-- the law's book, its own rows, its count -/
structure BS (K : PySem.W.Frag) (A : Ad) (H : Hp) (b d R Ct : Addr) (most taken : Int) (rows : List Row) : Prop where
  book : BookAt K A H b d most taken rows
  rl : ∃ xs, H R = some (.lst xs) ∧ DpAll K H xs (rows.map rowD)
  ct : H Ct = some (.lst [.int taken])
  ne : R ≠ Ct
  t0 : 0 ≤ taken
  agr : Agr rows
  pgs : Pgs rows
  le : (rows.length : Int) ≤ most
section
variable {K : PySem.W.Frag} {A : Ad} {H H' : Hp} {b d R Ct : Addr} {most taken : Int} {rows : List Row}
theorem BS.mono (s : Same H H') (h : BS K A H b d R Ct most taken rows) : BS K A H' b d R Ct most taken rows := by
  obtain ⟨h1, ⟨xs, h2, h3⟩, h4, h5, h6, h7, h8, h9⟩ := h
  exact ⟨h1.mono s, ⟨xs, s _ _ h2, dpAll_mono s h3⟩, s _ _ h4, h5, h6, h7, h8, h9⟩
/-- another list is changed -/
theorem BS.chd {p : Addr} {ys : List V} (hp : H p = some (.lst ys)) (c : Chd p H H') (pR : p ≠ R) (pC : p ≠ Ct) (h : BS K A H b d R Ct most taken rows) : BS K A H' b d R Ct most taken rows := by
  obtain ⟨h1, ⟨xs, h2, h3⟩, h4, h5, h6, h7, h8, h9⟩ := h
  exact ⟨h1.chd hp c, ⟨xs, c _ _ pR.symm h2, prows_tups (tups_chd c hp True.intro) h3⟩, c _ _ pC.symm h4, h5, h6, h7, h8, h9⟩
theorem BS.nb (h : BS K A H b d R Ct most taken rows) : R ≠ b ∧ R ≠ d ∧ Ct ≠ b ∧ Ct ≠ d := by
  obtain ⟨dx, hi⟩ := h.book.ins
  obtain ⟨kvs, hd, _⟩ := h.book.dict
  obtain ⟨xs, hR, _⟩ := h.rl
  exact ⟨ne_of hR hi (by intro z; cases z), ne_of hR hd (by intro z; cases z), ne_of h.ct hi (by intro z; cases z), ne_of h.ct hd (by intro z; cases z)⟩
/-- what is a list, and new, is none of the four -/
theorem BS.fresh (h : BS K A H b d R Ct most taken rows) {p : Addr} (n : H p = none) : p ≠ b ∧ p ≠ d ∧ p ≠ R ∧ p ≠ Ct := by
  obtain ⟨dx, hi⟩ := h.book.ins
  obtain ⟨kvs, hd, _⟩ := h.book.dict
  obtain ⟨xs, hR, _⟩ := h.rl
  have hC := h.ct
  exact ⟨fun e => (by rw [e, hi] at n; cases n), fun e => (by rw [e, hd] at n; cases n), fun e => (by rw [e, hR] at n; cases n), fun e => (by rw [e, hC] at n; cases n)⟩
end
end Peg

/-! PegN: sorted texts, walks over a dict's keys, what may change, parts. -/
namespace Peg
open PySem PySem.Spec PyProof.Rows L2 U

/-! ### sorted texts are one list -/
theorem rising_pw : ∀ (ys : List Str) (x : Str), risingS x ys = true → (x :: ys).Pairwise fun a b => a.cps.toList ≤ b.cps.toList
  | [], x, _ => List.pairwise_singleton ..
  | y :: ys, x, h => by
    unfold risingS at h
    rw [Bool.and_eq_true, PyProof.Rows.ltCps_eq] at h
    have ih := rising_pw ys y h.2
    have le : x.cps.toList ≤ y.cps.toList := fun g => by
      have g : y.cps.toList < x.cps.toList := g
      have h1 := h.1
      rw [decide_eq_true g] at h1
      cases h1
    refine List.pairwise_cons.mpr ⟨fun z hz => ?_, ih⟩
    rcases List.mem_cons.mp hz with e | hz
    · rw [e]; exact le
    · exact List.le_trans le ((List.pairwise_cons.mp ih).1 z hz)
theorem sorted_pw {ys : List Str} (h : sortedS ys = true) : ys.Pairwise fun a b => a.cps.toList ≤ b.cps.toList := by
  cases ys with
  | nil => exact List.Pairwise.nil
  | cons x ys => exact rising_pw ys x h
theorem str_inj {a b : Str} (h : a.cps.toList = b.cps.toList) : a = b := by
  cases a; cases b
  exact congrArg Str.mk (Array.toList_inj.mp h)
theorem sorted_eq {ys zs : List Str} (h1 : sortedS ys = true) (h2 : sortedS zs = true) (n1 : ys.Nodup) (n2 : zs.Nodup) (e : ∀ z, z ∈ ys ↔ z ∈ zs) : ys = zs :=
  List.Perm.eq_of_pairwise (fun a b _ _ h k => str_inj (List.le_antisymm h k)) (sorted_pw h1) (sorted_pw h2) ((List.perm_ext_iff_of_nodup n1 n2).mpr e)
def strsD (l : List Str) : PyData := .list (l.map PyData.str)
theorem dpAll_strs {K : PySem.W.Frag} {H : Hp} : ∀ ns : List Str, DpAll K H (ns.map V.str) (ns.map PyData.str)
  | [] => .nil
  | n :: ns => .cons (.str n) (dpAll_strs ns)
theorem strsD_mk {K : PySem.W.Frag} {H : Hp} {p : Addr} {l : List Str} (h : SqL K H p (l.map V.str)) : Dp K H (.ref p) (strsD l) := .lst h (dpAll_strs l)
theorem strsD_shaped {l : List Str} (h : ∀ z ∈ l, PyData.strOk z = true) : SeqAt.shaped (strsD l) = true := by
  have e1 : ∀ l : List Str, (∀ z ∈ l, PyData.strOk z = true) → PyData.canLayAll0 (l.map PyData.str) = true := fun l => by
    induction l with
    | nil => intro _; simp [PyData.canLayAll0]
    | cons n l ih => intro k; simp [PyData.canLayAll0, PyData.canLay0, k n (List.mem_cons_self ..), ih fun z hz => k z (List.mem_cons_of_mem _ hz)]
  have e2 : ∀ l : List Str, PyData.depthAll (l.map PyData.str) ≤ 1 := fun l => by
    induction l with
    | nil => simp [PyData.depthAll]
    | cons n l ih =>
      simp only [List.map_cons, PyData.depthAll, PyData.depth]
      omega
  show ((PyData.list (l.map PyData.str)).canLay0 && decide ((PyData.list (l.map PyData.str)).depth ≤ 64)) = true
  rw [Bool.and_eq_true]
  refine ⟨by simp only [PyData.canLay0]; exact e1 l h, decide_eq_true ?_⟩
  have := e2 l
  simp only [PyData.depth]
  omega
theorem strs_eqv_self (l : List Str) : PyData.eqv (strsD l) (strsD l) = true := by
  show PyData.eqv (.list _) (.list _) = true
  rw [PyData.eqv]
  induction l with
  | nil => simp [PyData.eqvAll]
  | cons n l ih => simp [PyData.eqvAll, PyData.eqv, ih]

/-! ### some things may change, all others stay -/
def ChdL (l : List Addr) (H H' : Hp) : Prop := ∀ x o, ¬ x ∈ l → H x = some o → H' x = some o
section
variable {l : List Addr} {H H1 H2 H0 : Hp}
theorem ChdL.refl : ChdL l H H := fun _ _ _ e => e
theorem ChdL.trans (a : ChdL l H H1) (b : ChdL l H1 H2) : ChdL l H H2 := fun x o n e => b x o n (a x o n e)
theorem ChdL.of (s : Same H H1) : ChdL l H H1 := fun x o _ e => s x o e
theorem ChdL.same (a : ChdL l H H1) (s : Same H1 H2) : ChdL l H H2 := fun x o n e => s x o (a x o n e)
theorem ChdL.chd {p : Addr} (a : ChdL l H H1) (c : Chd p H1 H2) (hp : p ∈ l) : ChdL l H H2 := fun x o n e => c x o (fun z => n (z ▸ hp)) (a x o n e)
/-- a thing that H does not know is changed -/
theorem ChdL.own {p : Addr} (a : ChdL l H H1) (c : Chd p H1 H2) (hp : H p = none) : ChdL l H H2 := fun x o n e => c x o (ne_of_none e hp) (a x o n e)
theorem ChdL.chd2 {p q : Addr} (a : ChdL l H H1) (c : Chd2 p q H1 H2) (hp : p ∈ l) (hq : q ∈ l) : ChdL l H H2 := fun x o n e => c x o (fun z => n (z ▸ hp)) (fun z => n (z ▸ hq)) (a x o n e)
theorem ChdL.sub {m : List Addr} (a : ChdL l H H1) (h : ∀ x ∈ l, x ∈ m) : ChdL m H H1 := fun x o n e => a x o (fun z => n (h x z)) e
/-- none of them was there -/
theorem ChdL.old (a : ChdL l H H1) (s : Same H0 H) (h : ∀ x ∈ l, H0 x = none) : Same H0 H1 := fun x o e => a x o (fun z => by rw [h x z] at e; cases e) (s x o e)
end
section
variable {K : PySem.W.Frag} {A : Ad} {H H' : Hp} {b d : Addr} {most taken : Int} {rows : List Row}
theorem BookAt.keep (tp : Tups H H') (kb : ∀ o, H b = some o → H' b = some o) (kd : ∀ o, H d = some o → H' d = some o) (B : BookAt K A H b d most taken rows) : BookAt K A H' b d most taken rows := by
  obtain ⟨⟨dx, h1⟩, ⟨kvs, h2, h3⟩, h4, h5⟩ := B
  exact ⟨⟨dx, kb _ h1⟩, ⟨kvs, kd _ h2, h3.tups tp⟩, h4, h5⟩
theorem BookAt.ne_lst {p : Addr} {xs : List V} (B : BookAt K A H b d most taken rows) (h : H p = some (.lst xs)) : b ≠ p ∧ d ≠ p := by
  obtain ⟨⟨dx, h1⟩, ⟨kvs, h2, _⟩, _⟩ := B
  exact ⟨ne_of h1 h (by intro z; cases z), ne_of h2 h (by intro z; cases z)⟩
theorem BookAt.bd (B : BookAt K A H b d most taken rows) : b ≠ d := by
  obtain ⟨⟨dx, h1⟩, ⟨kvs, h2, _⟩, _⟩ := B
  exact ne_of h1 h2 (by intro z; cases z)
theorem BookAt.ne_new {p : Addr} (B : BookAt K A H b d most taken rows) (h : H p = none) : b ≠ p ∧ d ≠ p := by
  obtain ⟨⟨dx, h1⟩, ⟨kvs, h2, _⟩, _⟩ := B
  exact ⟨ne_of_none h1 h, ne_of_none h2 h⟩
theorem BookAt.tups2 (B : BookAt K A H b d most taken rows) (c : Chd2 b d H H') : Tups H H' := by
  obtain ⟨⟨dx, h1⟩, ⟨kvs, h2, _⟩, _⟩ := B
  exact tups_chd2 c h1 h2 True.intro True.intro
theorem BookAt.tupsD (B : BookAt K A H b d most taken rows) (c : Chd d H H') : Tups H H' := by
  obtain ⟨_, ⟨kvs, h2, _⟩, _⟩ := B
  exact tups_chd c h2 True.intro
end

/-! ### a walk over the keys of a dict -/
theorem lc_keys {d : Addr} {od : Obj} {kvs : List (Key × V)} {g : TG} {tt : TT} {te : TE} {vs : List Nat} {σ : L2.St} {H1 : Hp} {D : Addr} {Qd : Hp → Prop} (Pv : Nat → Hp → Prop) (h0 : Pv 0 (upd H1 D (.lst []))) (hl : ∀ i H, i ≤ kvs.length → Pv i H → H d = some (.frz od (.dK kvs)))
    (hs : ∀ i k v H, kvs[i]? = some (k, v) → Pv i H → g (kV k) (wipe σ vs) H fun σ2 H2 => wipe σ2 vs = wipe σ vs ∧ tt σ2 H2 fun b H3 =>
      if b = true then te σ2 H3 fun y H4 => ∃ acc, H4 D = some (.lst acc) ∧ acc.length < sizeLine ∧ Pv (i + 1) (upd H4 D (.lst (acc ++ [y]))) else Pv (i + 1) H3) (hd : ∀ H, Pv kvs.length H → Qd H) :
    ∃ W : Nat → Nat → Hp → Prop, (∃ m, W 0 m (upd H1 D (.lst []))) ∧ ∀ i m H, W i m H →
      ((Itk d od kvs).stop i H ∧ Qd H) ∨ ((Itk d od kvs).go i H ∧ ∃ Nx : Hp → Prop, (∀ H', Nx H' → ∃ m', m' < m ∧ W (i + 1) m' H') ∧ ∀ x H', (Itk d od kvs).yld i H x H' → g x (wipe σ vs) H' fun σ2 H2 => wipe σ2 vs = wipe σ vs ∧ tt σ2 H2 fun b H3 =>
        if b = true then te σ2 H3 fun y H4 => ∃ acc, H4 D = some (.lst acc) ∧ acc.length < sizeLine ∧ Nx (upd H4 D (.lst (acc ++ [y]))) else Nx H3) := by
  refine ⟨fun i m H => m = kvs.length - i ∧ i ≤ kvs.length ∧ Pv i H, ⟨kvs.length, by simp, Nat.zero_le _, h0⟩, ?_⟩
  rintro i m H ⟨rfl, hi, p⟩
  have q := hl i H hi p
  by_cases hlt : i < kvs.length
  · refine .inr ⟨⟨q, hlt⟩, Pv (i + 1), fun H' p' => ⟨kvs.length - (i + 1), by omega, rfl, hlt, p'⟩, fun x H' y => ?_⟩
    obtain ⟨e, k, v, ek, ex⟩ := y
    subst e ex
    exact hs i k v _ ek p
  · have e : i = kvs.length := by omega
    subst e
    exact .inl ⟨⟨q, Nat.le_refl _⟩, hd H p⟩
section
variable {K : PySem.W.Frag}
theorem lcd_keys {d : Addr} {od : Obj} {kvs : List (Key × V)} {H : Hp} {td te : TE} {tt : TT} {j : Nat} {σ : L2.St} {Q : VK} (f : Nat → Option PyData) (hst : ∀ i d, f i = some d → TStay d) (hd : H d = some (.frz od (.dK kvs))) (htd : ∀ R, R (.ref d) H → td σ H R) (hz : kvs.length < 100000) (hw : ∀ x, wipe ((wipe σ [j]).set j (some x)) [j] = wipe σ [j])
    (ht : ∀ (i : Nat) (k : Key) (v : V) (H1 : Hp) (R : Bool → Hp → Prop), kvs[i]? = some (k, v) → Same H H1 → R (f i).isSome H1 → tt ((wipe σ [j]).set j (some (kV k))) H1 R)
    (he : ∀ (i : Nat) (k : Key) (v : V) (dd : PyData) (H1 : Hp) (R : VK), kvs[i]? = some (k, v) → f i = some dd → Same H H1 → (∀ (v : V) (H2 : Hp), Same H1 H2 → Dp K H2 v dd → R v H2) → te ((wipe σ [j]).set j (some (kV k))) H1 R)
    (q : ∀ (p : Addr) (H2 : Hp) (vs : List V), H p = none → Same H H2 → H2 p = some (.lst vs) → DpAll K H2 vs ((List.range kvs.length).filterMap f) → Q (.ref p) H2) : uLc (iKeys td) (gName j) tt te [j] σ H Q := by
  refine uLc_of (htd _ ⟨d, od, rfl, .inl ⟨kvs, hd, fun D hD => lc_keys (d := d) (od := od) (kvs := kvs) (fun i H' => Same H H' ∧ ∃ vs, H' D = some (.lst vs) ∧ vs.length ≤ i ∧ DpAll K H' vs ((List.range i).filterMap f)) ⟨same_new hD, [], upd_same, Nat.le_refl _, .nil⟩ (fun i H' _ h => h.1 _ _ hd) ?_ ?_⟩⟩)
  · intro i k v H' e P
    have hi : i < kvs.length := (List.getElem?_eq_some_iff.mp e).1
    exact ⟨hw (kV k), lcd_turn hst hD (by omega) P (fun R z => ht i k v H' R e P.1 z) fun dd R hf z => he i k v dd H' R e hf P.1 z⟩
  · rintro H' ⟨s, vs, hd', hlen, dp⟩
    exact q D H' vs hD s hd' dp
theorem lcd_range2 {lo : Int} {n : Nat} {H : Hp} {ta : TA} {te : TE} {tt : TT} {j : Nat} {σ : L2.St} {Q : VK} (f : Nat → Option PyData) (hst : ∀ i d, f i = some d → TStay d) (hlo : -1000000 < lo ∧ lo < 1000000) (hta : ∀ R, R [.int lo, .int (lo + n)] H → ta σ H R) (hz : n < 100000) (hw : ∀ x, wipe ((wipe σ [j]).set j (some x)) [j] = wipe σ [j])
    (ht : ∀ (i : Nat) (H1 : Hp) (R : Bool → Hp → Prop), i < n → Same H H1 → R (f i).isSome H1 → tt ((wipe σ [j]).set j (some (.int (lo + i)))) H1 R)
    (he : ∀ (i : Nat) (d : PyData) (H1 : Hp) (R : VK), i < n → f i = some d → Same H H1 → (∀ (v : V) (H2 : Hp), Same H1 H2 → Dp K H2 v d → R v H2) → te ((wipe σ [j]).set j (some (.int (lo + i)))) H1 R)
    (q : ∀ (p : Addr) (H2 : Hp) (vs : List V), H p = none → Same H H2 → H2 p = some (.lst vs) → DpAll K H2 vs ((List.range n).filterMap f) → Q (.ref p) H2) : uLc (iRng2 ta) (gName j) tt te [j] σ H Q := by
  have en : (lo + (n : Int) - lo).toNat = n := by omega
  refine uLc_of (hta _ ⟨lo, lo + n, rfl, ⟨by omega, by omega, by omega, by omega⟩, fun D hD => ?_⟩)
  rw [en]
  refine lc_range (lo := lo) (n := n) (fun i H' => Same H H' ∧ ∃ vs, H' D = some (.lst vs) ∧ vs.length ≤ i ∧ DpAll K H' vs ((List.range i).filterMap f)) ⟨same_new hD, [], upd_same, Nat.le_refl _, .nil⟩ ?_ ?_
  · intro i H' hi P
    exact ⟨hw _, lcd_turn hst hD (by omega) P (fun R k => ht i H' R hi P.1 k) fun d R hf k => he i d H' R hi hf P.1 k⟩
  · rintro H' ⟨s, vs, hd, hlen, dp⟩
    exact q D H' vs hD s hd dp
/-- what was locked is let go -/
theorem same_unlock {H H' : Hp} {d : Addr} {u o : HO} (hd : H d = some u) (s : Same (upd H d o) H') : Same H (upd H' d u) := fun x w e => by
  by_cases h : x = d
  · subst h
    rw [upd_same, ← hd, e]
  · rw [upd_ne h]
    exact s x w (by rw [upd_ne h]; exact e)
theorem locked_get {H : Hp} {d : Addr} {od : Obj} {kvs : List (Key × V)} (h : H d = some (.frz od (.dK kvs))) (k : Key) : DGet H d (kV k) (valV kvs k) := .inl ⟨kvs, k, .inr ⟨od, h⟩, rfl, rfl⟩
theorem tups_lock {H : Hp} {d : Addr} {o : HO} {kvs : List (Key × V)} (hd : H d = some (.dK kvs)) : Tups H (upd H d o) := fun x xs h => by
  have e : x ≠ d := fun e => by
    subst e
    rcases h with h | ⟨o', h⟩ <;> (rw [hd] at h; cases h)
  rcases h with h | ⟨o', h⟩
  · exact .inl (by rw [upd_ne e]; exact h)
  · exact .inr ⟨o', by rw [upd_ne e]; exact h⟩
theorem tups_unlock {H : Hp} {d : Addr} {o : HO} {od : Obj} {kvs : List (Key × V)} (hd : H d = some (.frz od (.dK kvs))) : Tups H (upd H d o) := fun x xs h => by
  have e : x ≠ d := fun e => by
    subst e
    rcases h with h | ⟨o', h⟩ <;> (rw [hd] at h; cases h)
  rcases h with h | ⟨o', h⟩
  · exact .inl (by rw [upd_ne e]; exact h)
  · exact .inr ⟨o', by rw [upd_ne e]; exact h⟩
end

theorem cut_take (xs : List V) (k : Nat) : cutV xs none (some (k : Int)) = xs.take k := by
  unfold cutV
  have e0 : HT.sIx xs.length 0 none = 0 := rfl
  have e1 : HT.sIx xs.length xs.length (some (k : Int)) = min k xs.length := by
    show (if (k : Int) < 0 then ((k : Int) + (xs.length : Int)).toNat else min (k : Int).toNat xs.length) = _
    rw [if_neg (by omega), Int.toNat_natCast]
  rw [e0, e1, List.drop_zero, Nat.sub_zero, ← List.take_take, List.take_length]
theorem cut_drop (xs : List V) (k : Nat) : cutV xs (some (k : Int)) none = xs.drop k := by
  unfold cutV
  have e0 : HT.sIx xs.length xs.length none = xs.length := rfl
  have e1 : HT.sIx xs.length 0 (some (k : Int)) = min k xs.length := by
    show (if (k : Int) < 0 then ((k : Int) + (xs.length : Int)).toNat else min (k : Int).toNat xs.length) = _
    rw [if_neg (by omega), Int.toNat_natCast]
  rw [e0, e1, List.take_of_length_le (by rw [List.length_drop]; exact Nat.le_refl _)]
  by_cases h : k ≤ xs.length
  · rw [Nat.min_eq_left h]
  · rw [Nat.min_eq_right (by omega), List.drop_of_length_le (Nat.le_refl _), List.drop_of_length_le (by omega)]
/-! ### gaps as data -/
theorem cNon_gap {o : Option Int} {H : Hp} {Q : VK} (h : Q (.bl o.isSome) H) : cNon false (gapV o) .non H Q := by
  cases o <;> exact h
theorem tC_gap {o : Option Int} {σ : L2.St} {H : Hp} {Q : VK} (h : Q (.bl o.isSome) H) : tC .non σ H (fun y H2 => cNon false (gapV o) y H2 Q) := by
  cases o <;> exact h
theorem TopOf.isSome {rows : List Row} {T : Tops} (h : TopOf rows T) (a b : Str) : (T.gap a b).isSome = true ↔ Reach rows a b := by
  cases e : T.gap a b with
  | none => exact ⟨(fun z => nomatch z), fun z => absurd z (h.gap_none e)⟩
  | some x => exact ⟨fun _ => (h.gap_some e).1, fun _ => rfl⟩
def gapD : Option Int → PyData
  | none => .none
  | some x => .int x
theorem gapD_mk {K : PySem.W.Frag} {H : Hp} : ∀ o : Option Int, Dp K H (gapV o) (gapD o)
  | none => .non
  | some x => .int x
theorem gapD_shaped : ∀ o : Option Int, SeqAt.shaped (gapD o) = true
  | none => rfl
  | some x => rfl
theorem gapD_eqv : ∀ o : Option Int, PyData.eqv (gapD o) (gapD o) = true
  | none => by simp [gapD, PyData.eqv]
  | some x => by simp [gapD, PyData.eqv]
/-! ### the part of a peg -/
theorem TopOf.alone {rows : List Row} {T : Tops} (h : TopOf rows T) {one : Str} (n : ¬ one ∈ T.D) (z : Str) : Reach rows one z ↔ z = one := by
  rw [← h.join, (h.out one n).1]
  constructor
  · intro e
    by_cases m : z ∈ T.D
    · exact absurd (e ▸ h.ins z m) n
    · exact ((h.out z m).1 ▸ e).symm
  · intro e
    rw [e, (h.out one n).1]
theorem TopOf.part {rows : List Row} {T : Tops} (h : TopOf rows T) {one : Str} (m : one ∈ T.D) (z : Str) : (z ∈ T.D ∧ T.rt z = T.rt one) ↔ Reach rows one z := by
  rw [← h.join]
  constructor
  · exact fun k => k.2.symm
  · intro e
    refine ⟨?_, e.symm⟩
    by_cases k : z ∈ T.D
    · exact k
    · rw [(h.out z k).1] at e
      exact e ▸ h.ins one m
theorem TopOf.gap_none_iff {rows : List Row} {T : Tops} (h : TopOf rows T) (a b : Str) : T.gap a b = none ↔ ¬ Reach rows a b := by
  constructor
  · exact h.gap_none
  · intro n
    cases e : T.gap a b with
    | none => rfl
    | some x => exact absurd (h.gap_some e).1 n
theorem TopOf.gap_eq {rows : List Row} {T U : Tops} (h : TopOf rows T) (k : TopOf rows U) (a b : Str) : T.gap a b = U.gap a b := by
  cases e : T.gap a b with
  | none => exact ((k.gap_none_iff a b).mpr (h.gap_none e)).symm
  | some x =>
    obtain ⟨⟨ss, w⟩, all⟩ := h.gap_some e
    cases e2 : U.gap a b with
    | none => exact absurd ⟨ss, w⟩ (k.gap_none e2)
    | some y => rw [← all ss w, ← (k.gap_some e2).2 ss w]
theorem Agr.top {rows : List Row} (h : Agr rows) : TopOf rows (tops rows) := let ⟨_, k⟩ := h; top_of k
/-- pegs of a pool -/
def Pool (P : List Str) (rows : List Row) : Prop := ∀ r ∈ rows, r.one ∈ P ∧ r.other ∈ P
theorem TopOf.len {rows : List Row} {T : Tops} (h : TopOf rows T) {P : List Str} (hP : Pool P rows) : T.D.length ≤ P.length := nodup_len h.nd fun z hz => by
  obtain ⟨r, hr, e⟩ := (h.dom z).mp hz
  rcases e with e | e
  · rw [e]; exact (hP r hr).1
  · rw [e]; exact (hP r hr).2
theorem reach_pool {rows : List Row} {P : List Str} (hP : Pool P rows) {a z : Str} (ha : a ∈ P) (h : Reach rows a z) : z ∈ P := h.closed (S := fun z => z ∈ P) (fun s st _ => by
  rcases st with st | st
  · exact (hP s st).2
  · exact (hP _ st).1) ha
theorem Row.filter_sub {rows : List Row} {n : Int} : ∀ s ∈ (rows.filter fun s => decide (s.n ≠ n)), s ∈ rows := fun s hs => (List.mem_filter.mp hs).1
/-- a row whose pegs the others join is spare: nothing else is told -/
theorem spare_gap {rows rows' : List Row} {T U : Tops} {r : Row} (hT : TopOf rows T) (hU : TopOf rows' U) (sub : ∀ s ∈ rows', s ∈ rows) (sup : ∀ s ∈ rows, s ∈ rows' ∨ s = r) (j : Reach rows' r.one r.other) (a b : Str) : T.gap a b = U.gap a b := by
  have wider : ∀ s, IsStep rows' s → IsStep rows s := fun s hs => hs.imp (sub _) (sub _)
  have back : Reach rows a b → Reach rows' a b := fun h => h.closedR (S := fun x => Reach rows' a x) (fun s hs => by
    rcases sup s hs with m | m
    · exact ⟨fun z => z.trans (.step (.inl m)), fun z => z.trans (Reach.step (.inl m)).symm⟩
    · rw [m]
      exact ⟨fun z => z.trans j, fun z => z.trans j.symm⟩) (Reach.refl _ _)
  cases e : T.gap a b with
  | none => exact ((hU.gap_none_iff a b).mpr fun k => hT.gap_none e (k.mono wider)).symm
  | some x =>
    obtain ⟨h, all⟩ := hT.gap_some e
    obtain ⟨ss, w⟩ := back h
    cases e2 : U.gap a b with
    | none => exact absurd ⟨ss, w⟩ (hU.gap_none e2)
    | some y => rw [← all ss (w.mono wider), ← (hU.gap_some e2).2 ss w]
end Peg

/-! PegP: two clauses of except, dicts frozen, items, data held apart, parts. -/
namespace U
open PySem PySem.Spec PyProof.Rows L2

/-! ### try with two clauses 'except x as n' -/
theorem ps_try_keep2 {X : Cx} {x1 x2 n : Str} {c1 c2 : Value} {i : Nat} {body suite1 suite2 : List Stmt} {b₁ b₂ : Stmt} {np1 np2 pos ps1 ps2 : Pos} {tb : WX → TS} {ts1 ts2 : Addr → Value → Option Addr → TS} {Wout : WX}
    (hs : X.stack = X.env :: X.outer) (hf : X.env.frame = some X.env.locals) (hex : X.ex = []) (hN : X.N.Nodup) (hi : X.N[i]? = some n) (hln : X.env.kindOf n = some .local) (hc1 : Names X x1 c1) (hc2 : Names X x2 c2) (tk : L2.Takes X Wout)
    (hb : ∀ (W : WX) (pn : List (Addr × Obj)) (xe : Value → Shared → Prop), L2.Takes (X.tr pn xe) W → PassesOwn (model X.prog X.w) X.A X.env xe → PSs (X.tr pn xe) body (tb W))
    (hsu1 : ∀ (a : Addr) (oe : Obj) (cls : Value) (d : Option Addr) (pn : List (Addr × Obj)), Zc cls d oe → (∃ vs, oe.data = .fields vs) → PSs (X.suite a ((a, oe) :: pn)) (b₁ :: suite1) (ts1 a cls d))
    (hsu2 : ∀ (a : Addr) (oe : Obj) (cls : Value) (d : Option Addr) (pn : List (Addr × Obj)), Zc cls d oe → (∃ vs, oe.data = .fields vs) → PSs (X.suite a ((a, oe) :: pn)) (b₂ :: suite2) (ts2 a cls d)) :
    PS X (.Try body [.ExceptHandler (some (.Name x1 np1)) (some n) (b₁ :: suite1) ps1, .ExceptHandler (some (.Name x2 np2)) (some n) (b₂ :: suite2) ps2] [] [] pos) (fun D σ H => tb (wKeep X.K c1 i ts1 (wKeep X.K c2 i ts2 Wout D) D) D σ H) := by
  refine ⟨fun pins s σ H D I h => ?_⟩
  have ok := I.ok
  have hfr : X.A.frames = some (X.env :: X.outer) := by rw [ok.frames, hs]
  have hloc : Loc X.env.scope n := .inl hln
  refine wpAny_Try_except ?_
  refine wpAny_mono ((hb (wKeep X.K c1 i ts1 (wKeep X.K c2 i ts2 Wout D) D) (X.pn ++ pins) (fun e s₁ => wpAny (model X.prog X.w) X.A (noteFrame e X.env) (fun _ s₂ => wpAny (model X.prog X.w) X.A (setFlight e none) (fun _ s₃ =>
    wpAny (model X.prog X.w) X.A (handleBy e X.env [.ExceptHandler (some (.Name x1 np1)) (some n) (b₁ :: suite1) ps1, .ExceptHandler (some (.Name x2 np2)) (some n) (b₂ :: suite2) ps2]) (SP X pins D) X.xe s₃) X.xe s₂) X.xe s₁) (fun u s' xx => ?_) PassesOwn.looking).run [] s σ H D (I.toTry _) h) (fun f s1 hsp => ?_) (fun e s1 he => he)
  · -- the catch
    obtain ⟨a, B, sI, pins', σ', H', cls, d, rfl, J', nb, up, sky, na, os, ag, bb1, hbb1, hyes1, hno1⟩ := xx
    have J : Inv X pins σ' H' sI := J'.ofTry ok
    have sky' : Sky B (X.env :: X.outer) a (Zc cls d) X.env.locals s'.heap := by rw [← hs]; exact sky
    have Ba : B.get? a = none := by
      rcases sky' with ⟨_, q, _⟩ | ⟨_, q, _⟩ | ⟨_, q, _⟩ <;> exact q
    show wpAny _ X.A (noteFrame (.ref a) X.env) _ _ _
    refine Sky.land Zc.steady hfr hf sky' fun h3 fl3 up3 => ?_
    have J3 : Inv X pins σ' H' { s' with heap := h3 } := J.landed nb fl3.1 (up.trans up3) os ag
    obtain ⟨oe3, vs3, he3, hz3, hd3⟩ := fl3.there
    have notFr : ∀ {h : Heap} {o : Obj} {vs : Array Value}, h.FunFrames B (X.env :: X.outer) → h.get? a = some o → o.data = .fields vs → a ∉ frs (X.env :: X.outer) := fun {h o vs} ff e dd hm => by
      obtain ⟨_, o', e', hnf⟩ := ff.mem hm
      rw [e] at e'; cases e'
      exact hnf _ dd
    have nfr := notFr fl3.2.2.1 he3 hd3
    have nL : a ≠ X.env.locals := fun z => nfr (List.mem_filterMap.mpr ⟨X.env, List.mem_cons_self, by rw [hf, z]⟩)
    have nF : a ∉ X.fs := fun hm => by
      obtain ⟨e, he, q⟩ := List.mem_filterMap.mp hm
      exact nfr (List.mem_filterMap.mpr ⟨e, List.mem_cons_of_mem _ he, q⟩)
    have sIa : sI.heap.get? a = none := by
      cases e : sI.heap.get? a with
      | none => rfl
      | some o =>
        have z := nb a o e (by rw [hs]; exact nfr)
        rw [Ba] at z
        cases z
    have n0 : X.s_0.heap.get? a = none := by
      cases e : X.s_0.heap.get? a with
      | none => rfl
      | some o =>
        obtain ⟨o', z⟩ := J.base.there a o e (by rw [hex]; exact fun z => nomatch z)
        rw [sIa] at z
        cases z
    have npin : ∀ p ∈ X.pn ++ pins, p.1 ≠ a := fun p hp z => by
      have q := (J.pin p hp).1
      rw [z, sIa] at q
      cases q
    have S3 := J3.suite he3 hd3 na nL nF
    refine wpAny_handleBy_cons (codeAny_handlers_test ?_) (by intro q; cases q)
    have LT : PySem.W.Looks (model X.prog X.w) h3 (typeOf (.ref a)) cls := fun A Q E s k q => wpAny_typeOf_ref (k _ _ he3) (by rw [hz3.1]; exact q)
    have LM := PySem.W.exm_one (M := model X.prog X.w) (J3.kIn) LT hbb1
    have test : ∀ {Q : Value → Shared → Prop} {E : Value → Shared → Prop}, Q c1 { s' with heap := h3 } → wpAny (model X.prog X.w) (X.A.mark (some (.ref a))) (eval (.Name x1 np1) X.env) Q E { s' with heap := h3 } := fun {Q E} q => by
      obtain ⟨hg, hdbg, hm | ⟨hm, hv, hnn⟩⟩ := hc1
      · exact ld_glob (X := X.suite a ((a, oe3) :: (X.pn ++ pins))) S3 hg hm q hdbg
      · exact ld_blt (X := X.suite a ((a, oe3) :: (X.pn ++ pins))) S3 hg hm hv q hnn hdbg
    refine test (LM.here ?_)
    cases bb1 with
    | true =>
      refine codeAny_handlers_suite_as ?_
      refine HandSPX.lands_againZ fl3 fun h4 fl4 up4 => ?_
      have J4 : Inv X pins σ' H' { s' with heap := h4 } := J.landed nb fl4.1 ((up.trans up3).trans up4) os ag
      obtain ⟨oe4, vs4, he4, hz4, hd4⟩ := fl4.there
      have S4 := J4.suite he4 hd4 na nL nF
      refine store_ok (X := X.suite a ((a, oe4) :: (X.pn ++ pins))) (v := .ref a) S4 hN hi hloc rfl (fun s5 S5 => ?_) (.inr hln)
      refine wpAny_mono ((hsu1 a oe4 cls d (X.pn ++ pins) hz4 ⟨_, hd4⟩).run [] s5 _ H' _ S5 (hyes1 rfl a na)) (fun f s6 hsp => ?_) (fun _ _ z => False.elim z)
      have end_ : ∀ {σ6 : L2.St} {H6 : Hp} {Q : Shared → Prop}, Inv (X.suite a ((a, oe4) :: (X.pn ++ pins))) [] σ6 H6 s6 → (∀ s7, Inv X pins (σ6.set i none) H6 s7 → Q s7) →
          wpAny (model X.prog X.w) X.A (do bindName X.env n .none; unbindBehindTheSuite X.env n ps1) (fun _ s7 => Q s7) X.xe s6 := fun {σ6 H6 Q} S6 hq => gone_ok (S6.unsuite ok) hN hi hln hq
      cases f with
      | next =>
        obtain ⟨σ6, H6, S6, q6⟩ := hsp
        have S6' : Inv X ((a, oe4) :: pins) σ6 H6 s6 := ⟨ok, S6.os, S6.bare, S6.base, S6.loc, S6.cell, S6.free, S6.freeC, fun p hp => S6.pin p (List.mem_append_left _ (by
          rcases List.mem_append.mp hp with h | h
          · exact List.mem_cons_of_mem _ (List.mem_append_left _ h)
          · rcases List.mem_cons.mp h with h | h
            · rw [h]; exact List.mem_cons_self ..
            · exact List.mem_cons_of_mem _ (List.mem_append_right _ h))), S6.hok, S6.len⟩
        have na6 : H6 a = none := (S6'.pin (a, oe4) (List.mem_append_right _ (List.mem_cons_self ..))).2.1
        exact gone_ok S6' hN hi hln fun s7 J7 => ⟨_, _, adopt J7 hz4 ⟨_, hd4⟩ n0 npin, q6 _ na6 (same_upd na6) upd_same⟩
      | brk =>
        obtain ⟨σ6, H6, S6, q6⟩ := hsp
        exact end_ S6 fun s7 J7 => ⟨_, _, J7, q6⟩
      | cont =>
        obtain ⟨σ6, H6, S6, q6⟩ := hsp
        exact end_ S6 fun s7 J7 => ⟨_, _, J7, q6⟩
      | ret u =>
        obtain ⟨v6, σ6, H6, S6, r6, q6⟩ := hsp
        exact end_ S6 fun s7 J7 => ⟨_, _, _, J7, r6, q6⟩
    | false =>
      obtain ⟨bb2, hbb2, hyes2, hno2⟩ := hno1 rfl
      refine wpAny_handleBy_cons (codeAny_handlers_test ?_) (by intro q; cases q)
      have LT : PySem.W.Looks (model X.prog X.w) h3 (typeOf (.ref a)) cls := fun A Q E s k q => wpAny_typeOf_ref (k _ _ he3) (by rw [hz3.1]; exact q)
      have LM := PySem.W.exm_one (M := model X.prog X.w) (J3.kIn) LT hbb2
      have test : ∀ {Q : Value → Shared → Prop} {E : Value → Shared → Prop}, Q c2 { s' with heap := h3 } → wpAny (model X.prog X.w) (X.A.mark (some (.ref a))) (eval (.Name x2 np2) X.env) Q E { s' with heap := h3 } := fun {Q E} q => by
        obtain ⟨hg, hdbg, hm | ⟨hm, hv, hnn⟩⟩ := hc2
        · exact ld_glob (X := X.suite a ((a, oe3) :: (X.pn ++ pins))) S3 hg hm q hdbg
        · exact ld_blt (X := X.suite a ((a, oe3) :: (X.pn ++ pins))) S3 hg hm hv q hnn hdbg
      refine test (LM.here ?_)
      cases bb2 with
      | true =>
        refine codeAny_handlers_suite_as ?_
        refine HandSPX.lands_againZ fl3 fun h4 fl4 up4 => ?_
        have J4 : Inv X pins σ' H' { s' with heap := h4 } := J.landed nb fl4.1 ((up.trans up3).trans up4) os ag
        obtain ⟨oe4, vs4, he4, hz4, hd4⟩ := fl4.there
        have S4 := J4.suite he4 hd4 na nL nF
        refine store_ok (X := X.suite a ((a, oe4) :: (X.pn ++ pins))) (v := .ref a) S4 hN hi hloc rfl (fun s5 S5 => ?_) (.inr hln)
        refine wpAny_mono ((hsu2 a oe4 cls d (X.pn ++ pins) hz4 ⟨_, hd4⟩).run [] s5 _ H' _ S5 (hyes2 rfl a na)) (fun f s6 hsp => ?_) (fun _ _ z => False.elim z)
        have end_ : ∀ {σ6 : L2.St} {H6 : Hp} {Q : Shared → Prop}, Inv (X.suite a ((a, oe4) :: (X.pn ++ pins))) [] σ6 H6 s6 → (∀ s7, Inv X pins (σ6.set i none) H6 s7 → Q s7) →
            wpAny (model X.prog X.w) X.A (do bindName X.env n .none; unbindBehindTheSuite X.env n ps2) (fun _ s7 => Q s7) X.xe s6 := fun {σ6 H6 Q} S6 hq => gone_ok (S6.unsuite ok) hN hi hln hq
        cases f with
        | next =>
          obtain ⟨σ6, H6, S6, q6⟩ := hsp
          have S6' : Inv X ((a, oe4) :: pins) σ6 H6 s6 := ⟨ok, S6.os, S6.bare, S6.base, S6.loc, S6.cell, S6.free, S6.freeC, fun p hp => S6.pin p (List.mem_append_left _ (by
            rcases List.mem_append.mp hp with h | h
            · exact List.mem_cons_of_mem _ (List.mem_append_left _ h)
            · rcases List.mem_cons.mp h with h | h
              · rw [h]; exact List.mem_cons_self ..
              · exact List.mem_cons_of_mem _ (List.mem_append_right _ h))), S6.hok, S6.len⟩
          have na6 : H6 a = none := (S6'.pin (a, oe4) (List.mem_append_right _ (List.mem_cons_self ..))).2.1
          exact gone_ok S6' hN hi hln fun s7 J7 => ⟨_, _, adopt J7 hz4 ⟨_, hd4⟩ n0 npin, q6 _ na6 (same_upd na6) upd_same⟩
        | brk =>
          obtain ⟨σ6, H6, S6, q6⟩ := hsp
          exact end_ S6 fun s7 J7 => ⟨_, _, J7, q6⟩
        | cont =>
          obtain ⟨σ6, H6, S6, q6⟩ := hsp
          exact end_ S6 fun s7 J7 => ⟨_, _, J7, q6⟩
        | ret u =>
          obtain ⟨v6, σ6, H6, S6, r6, q6⟩ := hsp
          exact end_ S6 fun s7 J7 => ⟨_, _, _, J7, r6, q6⟩
      | false =>
        show wpAny _ X.A (handleBy (.ref a) X.env []) _ _ _
        refine wpAny_handleBy_nil ?_
        obtain ⟨k1, k2, k3, oe, vs, T, oT, ts', he, hz, hd, h1, hr⟩ := id fl3
        unfold PySem.passOn
        refine wpAny_bind (wpAny_field he hd h1 ?_)
        rw [if_neg (show ¬ ((Value.ref T == Value.none) = true) from by simp)]
        have fin : wpAny (model X.prog X.w) X.A (setFlight (.ref a) X.env.frame) (fun _ s4 => wpAny (model X.prog X.w) X.A (throw (.ref a) : Sem Flow) (SP X pins D) X.xe s4) X.xe { s' with heap := h3 } := by
          rw [hf]
          refine HandSPX.setFlight_upZ fl3 fun h4 hh4 up4 => wpAny_throw (tk _ _ ?_)
          exact ⟨a, B, sI, pins, σ', H', cls, d, rfl, J, nb, (up.trans up3).trans up4, .inr (.inr (by rw [hs]; exact hh4)), na, os, ag, hno2 rfl⟩
        first
          | exact wpAny_bind (wpAny_pure (wpAny_bind fin))
          | exact wpAny_bind fin
  · cases f with
    | next =>
      obtain ⟨σ', H', J', q⟩ := hsp
      exact wpAny_execs_nil ⟨σ', H', J'.ofTry ok, q⟩
    | brk =>
      obtain ⟨σ', H', J', q⟩ := hsp
      exact ⟨σ', H', J'.ofTry ok, q⟩
    | cont =>
      obtain ⟨σ', H', J', q⟩ := hsp
      exact ⟨σ', H', J'.ofTry ok, q⟩
    | ret u =>
      obtain ⟨v, σ', H', J', r, q⟩ := hsp
      exact ⟨v, σ', H', J'.ofTry ok, r, q⟩
def uTryK2 (K : PySem.W.Frag) (c1 c2 : Value) (i : Nat) (ts1 ts2 : Addr → Value → Option Addr → TS) (tb : WX → TS) : TS := fun D σ H => tb (wKeep K c1 i ts1 (wKeep K c2 i ts2 (fun _ _ _ _ => False) D) D) D σ H

/-! ### a dict that nothing changes any more -/
def uFreeze (td : TE) : TE := fun σ H Q => td σ H fun x H1 => match x with
  | .ref d => ∃ kvs, H1 d = some (.dK kvs) ∧ ∀ od, Q (.ref d) (upd H1 d (.frz od (.dK kvs)))
  | _ => False
theorem e_freeze {X : Cx} {e : Expr} {td : TE} (he : PE X e td) : PE X e (uFreeze td) := by
  refine ⟨fun pins s σ H Q I h => ?_⟩
  refine thn (he.run pins s σ H _ I h) fun u s1 ⟨x, H1, I1, rx, q⟩ => ?_
  cases x with
  | ref d =>
    obtain ⟨kvs, hd, q⟩ := q
    obtain ⟨od, I2⟩ := I1.lock hd True.intro
    exact ⟨.ref d, _, I2, rx, q od⟩
  | _ => exact False.elim q
end U
namespace Peg
open PySem PySem.Spec PyProof.Rows L2 U
/-- a walk over a frozen dict's pairs, each a new tuple -/
theorem for_items {d : Addr} {od : Obj} {kvs : List (Key × V)} {g : TG} {tb : TS} {D : Ends} {σ : L2.St} {H : Hp} (Pv : Nat → L2.St → Hp → Prop) (h0 : Pv 0 σ H) (hl : ∀ i σ H, i ≤ kvs.length → Pv i σ H → H d = some (.frz od (.dK kvs)))
    (hs : ∀ (i : Nat) (k : Key) (v : V) (σ : L2.St) (H : Hp) (T : Addr) (H1 : Hp), kvs[i]? = some (k, v) → Pv i σ H → H T = none → Same H H1 → H1 T = some (.tup [kV k, v]) → g (.ref T) σ H1 fun σ2 H2 => tb { D with nx := Pv (i + 1), ct := Pv (i + 1), bk := D.nx } σ2 H2) (hd : ∀ σ H, Pv kvs.length σ H → D.nx σ H) :
    ∃ W : Nat → Nat → L2.St → Hp → Prop, (∃ m, W 0 m σ H) ∧ ∀ i m σ H, W i m σ H →
      ((Iti d od kvs).stop i H ∧ D.nx σ H) ∨ ((Iti d od kvs).go i H ∧ ∃ N : L2.St → Hp → Prop, (∀ σ' H', N σ' H' → ∃ m', m' < m ∧ W (i + 1) m' σ' H') ∧ ∀ y H', (Iti d od kvs).yld i H y H' → g y σ H' fun σ2 H2 => tb { D with nx := N, ct := N, bk := D.nx } σ2 H2) := by
  refine ⟨fun i m σ H => m = kvs.length - i ∧ i ≤ kvs.length ∧ Pv i σ H, ⟨kvs.length, by simp, Nat.zero_le _, h0⟩, ?_⟩
  rintro i m σ H ⟨rfl, hi, p⟩
  have q := hl i σ H hi p
  by_cases hlt : i < kvs.length
  · refine .inr ⟨⟨q, hlt⟩, Pv (i + 1), fun σ' H' p' => ⟨kvs.length - (i + 1), by omega, rfl, hlt, p'⟩, fun y H' yy => ?_⟩
    obtain ⟨T, k, v, ek, ey, nT, eH⟩ := yy
    subst ey eH
    exact hs i k v σ H T _ ek p nT (same_new nT) upd_same
  · have e : i = kvs.length := by omega
    subst e
    exact .inl ⟨⟨q, Nat.le_refl _⟩, hd σ H p⟩

/-! ### data held apart from what changes -/
/-- the part of H without l -/
def cutH (l : List Addr) (H : Hp) : Hp := fun x => if x ∈ l then none else H x
theorem cutH_at {l : List Addr} {H : Hp} {x : Addr} (n : ¬ x ∈ l) : cutH l H x = H x := if_neg n
theorem cutH_same {l : List Addr} {H : Hp} : Same (cutH l H) H := fun x o e => by
  unfold cutH at e
  split at e
  · cases e
  · exact e
theorem cutH_chd {l : List Addr} {H H' : Hp} (c : ChdL l H H') : Same (cutH l H) (cutH l H') := fun x o e => by
  unfold cutH at e ⊢
  split at e
  · cases e
  · rw [if_neg (by assumption)]
    exact c x o (by assumption) e
theorem cutH_tups {l : List Addr} {H : Hp} (hp : ∀ x ∈ l, ∃ o, H x = some o ∧ Plain o) : Tups H (cutH l H) := fun x xs h => by
  have n : ¬ x ∈ l := fun m => by
    obtain ⟨u, e, k⟩ := hp x m
    rcases h with h | ⟨o, h⟩
    · rw [h] at e; cases e; exact k
    · rw [h] at e; cases e; exact k
  rcases h with h | ⟨o, h⟩
  · exact .inl (by rw [cutH_at n]; exact h)
  · exact .inr ⟨o, by rw [cutH_at n]; exact h⟩
/-- data none of whose lists belongs to l -/
def Hold (K : PySem.W.Frag) (l : List Addr) (H : Hp) (v : V) (d : PyData) : Prop := Dp K (cutH l H) v d
section
variable {K : PySem.W.Frag} {l : List Addr} {H H' : Hp} {v : V} {d : PyData}
theorem Hold.chd (c : ChdL l H H') (h : Hold K l H v d) : Hold K l H' v d := dp_mono (cutH_chd c) h
theorem Hold.dp (h : Hold K l H v d) : Dp K H v d := dp_mono cutH_same h
/-- a list of data that stays where tuples stay -/
theorem Hold.lst {p : Addr} {xs : List V} {ds : List PyData} (hp : ∀ x ∈ l, ∃ o, H x = some o ∧ Plain o) (n : ¬ p ∈ l) (h : H p = some (.lst xs)) (al : DpAll K H xs ds) (st : ∀ d ∈ ds, TStay d) : Hold K l H (.ref p) (.list ds) :=
  Dp.lst (SqL.of (by rw [cutH_at n]; exact h)) (TStay.all (cutH_tups hp) st al)
theorem Hold.strs {p : Addr} {ys : List Str} (n : ¬ p ∈ l) (h : H p = some (.lst (ys.map V.str))) : Hold K l H (.ref p) (strsD ys) :=
  Dp.lst (SqL.of (by rw [cutH_at n]; exact h)) (dpAll_strs ys)
end

/-! ### parts -/
def leS (a b : Str) : Prop := a.cps.toList ≤ b.cps.toList
theorem leS.refl (a : Str) : leS a a := List.le_refl _
theorem leS.anti {a b : Str} (h : leS a b) (k : leS b a) : a = b := str_inj (List.le_antisymm h k)
structure PartOf (rows : List Row) (z : Str) (ys : List Str) : Prop where
  nd : ys.Nodup
  so : sortedS ys = true
  mem : ∀ w, w ∈ ys ↔ Reach rows z w
theorem PartOf.uniq {rows : List Row} {z : Str} {ys zs : List Str} (h : PartOf rows z ys) (k : PartOf rows z zs) : ys = zs := sorted_eq h.so k.so h.nd k.nd fun w => by rw [h.mem, k.mem]
def IsFst (rows : List Row) (z : Str) : Prop := ∀ w, Reach rows z w → leS z w
theorem PartOf.head {rows : List Row} {z y : Str} {ys : List Str} (h : PartOf rows z (y :: ys)) : y = z ↔ IsFst rows z := by
  have pw := List.pairwise_cons.mp (sorted_pw h.so)
  have ly : ∀ w, Reach rows z w → leS y w := fun w hw => by
    rcases List.mem_cons.mp ((h.mem w).mpr hw) with e | m
    · rw [e]; exact leS.refl y
    · exact pw.1 w m
  constructor
  · intro e
    rw [← e] at h ⊢
    exact fun w hw => by rw [e] at hw; exact ly w hw
  · intro f
    exact leS.anti (ly z (Reach.refl _ _)) (f y ((h.mem y).mp (List.mem_cons_self ..)))
theorem PartOf.ne {rows : List Row} {z : Str} {ys : List Str} (h : PartOf rows z ys) : ∃ y r, ys = y :: r := by
  cases ys with
  | nil => exact absurd ((h.mem z).mpr (Reach.refl _ _)) List.not_mem_nil
  | cons y r => exact ⟨y, r, rfl⟩
/-- all pegs of rows, sorted -/
structure Pegs (rows : List Row) (ys : List Str) : Prop where
  nd : ys.Nodup
  so : sortedS ys = true
  mem : ∀ z, z ∈ ys ↔ ∃ r ∈ rows, z = r.one ∨ z = r.other
theorem Pegs.uniq {rows : List Row} {ys zs : List Str} (h : Pegs rows ys) (k : Pegs rows zs) : ys = zs := sorted_eq h.so k.so h.nd k.nd fun w => by rw [h.mem, k.mem]
theorem Pegs.reach {rows : List Row} {ys : List Str} (h : Pegs rows ys) {a b : Str} (ha : a ∈ ys) (r : Reach rows a b) : b ∈ ys := r.closed (S := fun z => z ∈ ys) (fun s st _ => by
  rcases st with st | st
  · exact (h.mem _).mpr ⟨s, st, .inr rfl⟩
  · exact (h.mem _).mpr ⟨_, st, .inl rfl⟩) ha
theorem Pegs.pool {rows : List Row} {ys P : List Str} (h : Pegs rows ys) (hP : Pool P rows) : ys.length ≤ P.length := nodup_len h.nd fun z hz => by
  obtain ⟨r, hr, e | e⟩ := (h.mem z).mp hz
  · rw [e]; exact (hP r hr).1
  · rw [e]; exact (hP r hr).2
/-- a peg is the first of its part just where none ahead of it is joined to it -/
theorem Pegs.fst {rows : List Row} {ys : List Str} (h : Pegs rows ys) {i : Nat} {z : Str} (e : ys[i]? = some z) : IsFst rows z ↔ ∀ (j : Nat) (w : Str), j < i → ys[j]? = some w → ¬ Reach rows w z := by
  have pw := List.pairwise_iff_getElem.mp (sorted_pw h.so)
  obtain ⟨hi, ei⟩ := List.getElem?_eq_some_iff.mp e
  constructor
  · intro f j w hj ew r
    obtain ⟨hj', ej⟩ := List.getElem?_eq_some_iff.mp ew
    have le := pw j i hj' hi hj
    rw [ej, ei] at le
    have eq : w = z := leS.anti le (f w r.symm)
    have := (List.getElem_inj h.nd).mp (ej.trans (eq.trans ei.symm))
    omega
  · intro k w r
    have hw : w ∈ ys := h.reach (List.mem_of_getElem? e) r
    obtain ⟨j, hj, ej⟩ := List.mem_iff_getElem.mp hw
    by_cases c : j < i
    · exact absurd r.symm (k j w c (by rw [List.getElem?_eq_getElem hj, ej]))
    · by_cases c2 : j = i
      · subst c2
        rw [ei] at ej
        rw [ej]
        exact leS.refl w
      · have le := pw i j hi hj (by omega)
        rw [ei, ej] at le
        exact le
open Classical in
noncomputable def firsts (rows : List Row) (ys : List Str) : List Str := ys.filter fun z => decide (IsFst rows z)
theorem firsts_snoc (rows : List Row) (ys : List Str) (z : Str) : (IsFst rows z → firsts rows (ys ++ [z]) = firsts rows ys ++ [z]) ∧ (¬ IsFst rows z → firsts rows (ys ++ [z]) = firsts rows ys) := by
  unfold firsts
  rw [List.filter_append]
  exact ⟨fun f => by simp [f], fun f => by simp [f]⟩
theorem mem_firsts {rows : List Row} {ys : List Str} {z : Str} : z ∈ firsts rows ys ↔ z ∈ ys ∧ IsFst rows z := by
  unfold firsts
  rw [List.mem_filter]
  simp
def PartsOf (rows : List Row) (ys : List Str) (ps : List (List Str)) : Prop := Paired (PartOf rows) (firsts rows ys) ps
theorem paired_uniq {rows : List Row} : ∀ {zs : List Str} {ps qs : List (List Str)}, Paired (PartOf rows) zs ps → Paired (PartOf rows) zs qs → ps = qs
  | _, _, _, .nil, .nil => rfl
  | _, _, _, .cons a t, .cons b u => by rw [a.uniq b, paired_uniq t u]
theorem Paired.snoc' {α β : Type} {R : α → β → Prop} : ∀ {xs : List α} {ys : List β} {x : α} {y : β}, Paired R xs ys → R x y → Paired R (xs ++ [x]) (ys ++ [y])
  | _, _, _, _, .nil, e => .cons e .nil
  | _, _, _, _, .cons a t, e => .cons a (Paired.snoc' t e)
/-- lists of texts in the heap, at places of a kind -/
def StrLs (N : Addr → Prop) (H : Hp) : List V → List (List Str) → Prop := Paired fun v ys => ∃ q, v = .ref q ∧ N q ∧ H q = some (.lst (ys.map V.str))
theorem StrLs.mono {N : Addr → Prop} {H H' : Hp} (s : Same H H') {xs : List V} {ps : List (List Str)} (h : StrLs N H xs ps) : StrLs N H' xs ps := Paired.mapP h fun a b q => by
  obtain ⟨q, e, n, k⟩ := q
  exact ⟨q, e, n, s _ _ k⟩
theorem StrLs.chd {N : Addr → Prop} {H H' : Hp} {p : Addr} (c : Chd p H H') (hN : ∀ q, N q → q ≠ p) {xs : List V} {ps : List (List Str)} (h : StrLs N H xs ps) : StrLs N H' xs ps := Paired.mapP h fun a b q => by
  obtain ⟨q, e, n, k⟩ := q
  exact ⟨q, e, n, c _ _ (hN q n) k⟩
theorem StrLs.imp {N N' : Addr → Prop} {H : Hp} (hN : ∀ q, N q → N' q) {xs : List V} {ps : List (List Str)} (h : StrLs N H xs ps) : StrLs N' H xs ps := Paired.mapP h fun a b q => by
  obtain ⟨q, e, n, k⟩ := q
  exact ⟨q, e, hN q n, k⟩
theorem StrLs.snoc {N : Addr → Prop} {H : Hp} {xs : List V} {ps : List (List Str)} {q : Addr} {ys : List Str} (h : StrLs N H xs ps) (n : N q) (e : H q = some (.lst (ys.map V.str))) : StrLs N H (xs ++ [.ref q]) (ps ++ [ys]) := Paired.snoc' h ⟨q, rfl, n, e⟩
theorem StrLs.mem {N : Addr → Prop} {H : Hp} : ∀ {xs : List V} {ps : List (List Str)}, StrLs N H xs ps → ∀ v ∈ xs, ∃ q, v = .ref q ∧ N q ∧ H q ≠ none
  | _, _, .nil, v, hv => by cases hv
  | _, _, .cons a t, v, hv => by
    rcases List.mem_cons.mp hv with e | hv
    · obtain ⟨q, e1, n, k⟩ := a
      exact ⟨q, e.trans e1, n, by rw [k]; exact fun z => nomatch z⟩
    · exact StrLs.mem t v hv
def partsD (ps : List (List Str)) : PyData := .list (ps.map strsD)
theorem StrLs.dp {K : PySem.W.Frag} {N : Addr → Prop} {H : Hp} : ∀ {xs : List V} {ps : List (List Str)}, StrLs N H xs ps → DpAll K H xs (ps.map strsD)
  | _, _, .nil => .nil
  | _, _, .cons a t => by
    obtain ⟨q, rfl, _, h⟩ := a
    exact .cons (strsD_mk (SqL.of h)) (StrLs.dp t)
theorem parts_shaped {ps : List (List Str)} (h : ∀ ys ∈ ps, ∀ z ∈ ys, PyData.strOk z = true) : SeqAt.shaped (partsD ps) = true := by
  have c1 : ∀ l : List Str, (∀ z ∈ l, PyData.strOk z = true) → PyData.canLayAll0 (l.map PyData.str) = true := fun l => by
    induction l with
    | nil => intro _; simp [PyData.canLayAll0]
    | cons n l ih => intro k; simp [PyData.canLayAll0, PyData.canLay0, k n (List.mem_cons_self ..), ih fun z hz => k z (List.mem_cons_of_mem _ hz)]
  have c2 : ∀ l : List Str, PyData.depthAll (l.map PyData.str) ≤ 1 := fun l => by
    induction l with
    | nil => simp [PyData.depthAll]
    | cons n l ih =>
      simp only [List.map_cons, PyData.depthAll, PyData.depth]
      omega
  have e1 : ∀ ps : List (List Str), (∀ ys ∈ ps, ∀ z ∈ ys, PyData.strOk z = true) → PyData.canLayAll0 (ps.map strsD) = true := fun ps => by
    induction ps with
    | nil => intro _; simp [PyData.canLayAll0]
    | cons n l ih =>
      intro k
      have a := c1 n (k n (List.mem_cons_self ..))
      have b := ih fun ys hys => k ys (List.mem_cons_of_mem _ hys)
      simp [PyData.canLayAll0, PyData.canLay0, strsD, a]
      exact b
  have e2 : ∀ ps : List (List Str), PyData.depthAll (ps.map strsD) ≤ 2 := fun ps => by
    induction ps with
    | nil => simp [PyData.depthAll]
    | cons n l ih =>
      have a := c2 n
      simp only [List.map_cons, PyData.depthAll, PyData.depth, strsD]
      have ih : PyData.depthAll (l.map strsD) ≤ 2 := ih
      omega
  show ((PyData.list (ps.map strsD)).canLay0 && decide ((PyData.list (ps.map strsD)).depth ≤ 64)) = true
  rw [Bool.and_eq_true]
  refine ⟨by simp only [PyData.canLay0]; exact e1 ps h, decide_eq_true ?_⟩
  have := e2 ps
  simp only [PyData.depth]
  omega
theorem parts_eqv (ps : List (List Str)) : PyData.eqv (partsD ps) (partsD ps) = true := by
  show PyData.eqv (.list _) (.list _) = true
  rw [PyData.eqv]
  induction ps with
  | nil => simp [PyData.eqvAll]
  | cons n l ih => simp [PyData.eqvAll, strs_eqv_self, ih]
end Peg

/-! PegR: which texts write a rise, a sighting, a book. -/
namespace Peg
open PySem PySem.Spec PyProof.Rows L2 U
theorem cut_one (z : Str) : (cutS z none (some 1)).cps.toList = z.cps.toList.take 1 := by
  have h : (cutS z none (some 1)).cps.toList = (z.cps.toList.drop 0).take (min 1 z.length - 0) := rfl
  rw [h, str_len]
  cases e : z.cps.toList with
  | nil => rfl
  | cons a l =>
    have q : min 1 (a :: l).length - 0 = 1 := by rw [List.length_cons]; omega
    rw [q]
    rfl
theorem cut_rest (z : Str) : (cutS z (some 1) none).cps.toList = z.cps.toList.drop 1 := by
  have h : (cutS z (some 1) none).cps.toList = (z.cps.toList.drop (min 1 z.length)).take (z.length - min 1 z.length) := rfl
  rw [h, str_len]
  cases e : z.cps.toList with
  | nil => rfl
  | cons a l =>
    have q : min 1 (a :: l).length = 1 := by rw [List.length_cons]; omega
    rw [q, List.length_cons, Nat.add_sub_cancel]
    show l.take l.length = l
    exact List.take_length
theorem minus_tl : ("-" : Str).cps.toList = [45] := by decide +kernel
theorem minus0_tl : ("-0" : Str).cps.toList = [45, 48] := by decide +kernel
theorem none_tl : ("" : Str).cps.toList = [] := by decide +kernel
/-- the figures of a word -/
def figsOf (w : Str) : Str := if cutS w none (some 1) = "-" then cutS w (some 1) none else w
/-- the word writes a rise -/
def Rise (w : Str) : Prop := ∃ c, Bnd c ∧ w = numS c
structure FigsOk (w : Str) : Prop where
  ne : figsOf w ≠ ""
  le : (figsOf w).length ≤ 60
  nz : w ≠ "-0"
  all : ∀ c ∈ (figsOf w).cps.toList, 48 ≤ c ∧ c ≤ 57
  hd : ∀ d r, (figsOf w).cps.toList = d :: r → r ≠ [] → d ≠ 48
theorem val_lt : ∀ (l : List Nat) (a : Nat), (∀ c ∈ l, 48 ≤ c ∧ c ≤ 57) → l.foldl (fun acc c => acc * 10 + (c - 48)) a < (a + 1) * 10 ^ l.length
  | [], a, _ => by simp
  | c :: l, a, h => by
    have hc := h c (List.mem_cons_self ..)
    have ih := val_lt l (a * 10 + (c - 48)) fun d hd => h d (List.mem_cons_of_mem _ hd)
    show l.foldl _ (a * 10 + (c - 48)) < _
    refine Nat.lt_of_lt_of_le ih ?_
    rw [List.length_cons, Nat.pow_succ]
    have e : (a + 1) * (10 ^ l.length * 10) = ((a + 1) * 10) * 10 ^ l.length := by
      rw [Nat.mul_comm (10 ^ l.length) 10, ← Nat.mul_assoc]
    rw [e]
    exact Nat.mul_le_mul_right _ (by omega)
theorem char_back : ∀ d : Nat, d < 10 → (Char.ofNat (48 + d)).toNat = 48 + d := by decide
theorem numL_back {l : List Nat} (h : ∀ c ∈ l, 48 ≤ c ∧ c ≤ 57) (hne : l ≠ []) (hd : ∀ d r, l = d :: r → r ≠ [] → d ≠ 48) : TL.numL (NumText.digitsVal l) = l := by
  obtain ⟨d, r, e⟩ : ∃ d r, l = d :: r := by
    cases l with
    | nil => exact absurd rfl hne
    | cons d r => exact ⟨d, r, rfl⟩
  have k := NumText.toDigits_digitsVal r.length l (by rw [e, List.length_cons]) h (by
    by_cases z : r = []
    · left
      rw [z]
      rfl
    · have d48 := hd d r e z
      have dd := h d (by rw [e]; exact List.mem_cons_self ..)
      exact .inr ⟨d, r, e, by omega⟩)
  unfold TL.numL
  rw [k, List.map_map]
  have : ∀ m : List Nat, (∀ c ∈ m, 48 ≤ c ∧ c ≤ 57) → m.map (Char.toNat ∘ Char.ofNat) = m := fun m => by
    induction m with
    | nil => intro _; rfl
    | cons c m ih =>
      intro q
      rw [List.map_cons, ih fun x hx => q x (List.mem_cons_of_mem _ hx)]
      have qc := q c (List.mem_cons_self ..)
      have z := char_back (c - 48) (by omega)
      have e1 : 48 + (c - 48) = c := by omega
      rw [e1] at z
      show (Char.ofNat c).toNat :: m = _
      rw [z]
  exact this l h
theorem figs_minus {w : Str} (h : cutS w none (some 1) = "-") : w.cps.toList = 45 :: (figsOf w).cps.toList := by
  unfold figsOf
  rw [if_pos h, cut_rest]
  have e := cut_one w
  rw [h, minus_tl] at e
  cases q : w.cps.toList with
  | nil => rw [q] at e; cases e
  | cons a l =>
    rw [q] at e
    have e : [45] = [a] := e
    rw [← (List.cons.inj e).1]
    rfl
theorem rise_of_figs {w : Str} (h : FigsOk w) : Rise w := by
  have hne : (figsOf w).cps.toList ≠ [] := fun e => h.ne (TL.ext_tl (by show (figsOf w).cps.toList = _; rw [e]; exact none_tl.symm))
  have back := numL_back h.all hne h.hd
  have lt := val_lt (figsOf w).cps.toList 0 h.all
  have lt : NumText.digitsVal (figsOf w).cps.toList < (0 + 1) * 10 ^ (figsOf w).cps.toList.length := lt
  rw [← str_len, Nat.zero_add, Nat.one_mul] at lt
  have lt60 : NumText.digitsVal (figsOf w).cps.toList < 10 ^ 60 := Nat.lt_of_lt_of_le lt (Nat.pow_le_pow_right (by decide) h.le)
  generalize NumText.digitsVal (figsOf w).cps.toList = n at back lt60
  by_cases m : cutS w none (some 1) = "-"
  · have e := figs_minus m
    have n0 : 0 < n := Nat.pos_of_ne_zero fun z => by
      rw [z, TL.numL_lt (by decide)] at back
      rw [← back] at e
      exact h.nz (TL.ext_tl (e.trans minus0_tl.symm))
    refine ⟨-(n : Int), ⟨by omega, by omega⟩, TL.ext_tl ?_⟩
    show w.cps.toList = (numS (-(n : Int))).cps.toList
    rw [numS_neg n n0, e, back]
  · have e : figsOf w = w := by unfold figsOf; rw [if_neg m]
    rw [e] at back
    refine ⟨(n : Int), ⟨by omega, by omega⟩, TL.ext_tl ?_⟩
    show w.cps.toList = (numS (n : Int)).cps.toList
    rw [numS_pos, back]
theorem figs_of_rise {w : Str} (h : Rise w) : FigsOk w := by
  obtain ⟨c, hb, rfl⟩ := h
  have c1 := hb.1
  have c2 := hb.2
  have hn60 := numL_60 (n := c.natAbs) (by omega)
  have hdd := TL.numL_digits c.natAbs
  have hne := TL.numL_ne c.natAbs
  have key : (figsOf (numS c)).cps.toList = TL.numL c.natAbs ∧ numS c ≠ "-0" := by
    rcases numS_cases c with ⟨h0, e⟩ | ⟨h0, e⟩
    · have ec : c.toNat = c.natAbs := by omega
      rw [ec] at e
      obtain ⟨d, r, ed⟩ : ∃ d r, TL.numL c.natAbs = d :: r := by
        cases h : TL.numL c.natAbs with
        | nil => exact absurd h hne
        | cons d r => exact ⟨d, r, rfl⟩
      have dd := hdd d (by rw [ed]; exact List.mem_cons_self ..)
      have nm : ¬ cutS (numS c) none (some 1) = "-" := fun z => by
        have q := cut_one (numS c)
        rw [z, minus_tl, e, ed] at q
        have q : [45] = [d] := q
        have := (List.cons.inj q).1
        omega
      refine ⟨?_, fun z => ?_⟩
      · unfold figsOf
        rw [if_neg nm]
        exact e
      · rw [z, minus0_tl, ed] at e
        have := (List.cons.inj e).1
        omega
    · have m : cutS (numS c) none (some 1) = "-" := TL.ext_tl (by
        show (cutS (numS c) none (some 1)).cps.toList = ("-" : Str).cps.toList
        rw [cut_one, e, minus_tl]
        rfl)
      refine ⟨?_, fun z => ?_⟩
      · have q := figs_minus m
        rw [e] at q
        exact (List.cons.inj q).2.symm
      · rw [z, minus0_tl] at e
        have z := (List.cons.inj e).2
        have v := TL.numL_val c.natAbs
        rw [← z] at v
        have v0 : NumText.digitsVal [48] = 0 := by decide
        omega
  obtain ⟨k1, k2⟩ := key
  refine ⟨fun z => ?_, by rw [str_len, k1]; exact hn60, k2, by rw [k1]; exact hdd, fun d r e hr d48 => ?_⟩
  · rw [z, none_tl] at k1
    exact hne k1.symm
  · rw [k1] at e
    by_cases n0 : c.natAbs = 0
    · rw [n0, TL.numL_lt (by decide)] at e
      exact hr (List.cons.inj e).2.symm
    · obtain ⟨d', r', e', ne⟩ := numL_head (n := c.natAbs) (by omega)
      rw [e'] at e
      exact ne ((List.cons.inj e).1.trans d48)

/-! ### taken apart -/
theorem joinL_len {S : List Nat} (hS : 1 ≤ S.length) : ∀ ps : List (List Nat), ps.length ≤ (TL.joinL S ps).length + 1 ∧ ∀ p ∈ ps, p.length ≤ (TL.joinL S ps).length
  | [] => ⟨Nat.zero_le _, fun p h => (by cases h)⟩
  | [p] => ⟨by simp, fun q h => by rw [List.mem_singleton.mp h]; exact Nat.le_refl _⟩
  | p :: q :: r => by
    obtain ⟨h1, h2⟩ := joinL_len hS (q :: r)
    have e : (TL.joinL S (p :: q :: r)).length = p.length + (S.length + (TL.joinL S (q :: r)).length) := by
      show (p ++ (S ++ TL.joinL S (q :: r))).length = _
      rw [List.length_append, List.length_append]
    rw [e, List.length_cons]
    refine ⟨by omega, fun x hx => ?_⟩
    rcases List.mem_cons.mp hx with rfl | hx
    · omega
    · have := h2 x hx
      omega
theorem join_back (z y : Str) : Txt.join y (Txt.split z y) = z := by rw [TL.join_eq]; exact PySem.StrLaws.join_split z y
theorem split_len {z y : Str} (hy : 1 ≤ y.length) : (Txt.split z y).length ≤ z.length + 1 ∧ ∀ p ∈ Txt.split z y, p.length ≤ z.length := by
  have e : z.cps.toList = TL.joinL y.cps.toList ((Txt.split z y).map TL.tl) := by
    have q := congrArg TL.tl (join_back z y)
    rw [TL.join_eq, TL.tl_join] at q
    exact q.symm
  have k := joinL_len (S := y.cps.toList) (by rw [← str_len]; exact hy) ((Txt.split z y).map TL.tl)
  rw [← e, ← str_len, List.length_map] at k
  refine ⟨k.1, fun p hp => ?_⟩
  have q := k.2 (TL.tl p) (List.mem_map.mpr ⟨p, hp, rfl⟩)
  have q : p.cps.toList.length ≤ z.length := q
  rw [str_len]
  exact q
theorem blank_1 : 1 ≤ (" " : Str).length := by decide +kernel
theorem semi_1 : 1 ≤ ("; " : Str).length := by decide +kernel
/-- the text writes a sighting -/
def SgT (p : Str) : Prop := ∃ s, GoodS s ∧ p = showS s
theorem sg_text {p a b c : Str} (h : Txt.split p " " = [a, b, c]) (ha : Pg a) (hb : Pg b) (hc : Rise c) : SgT p := by
  obtain ⟨r, hr, rfl⟩ := hc
  have g : GoodS (a, b, r) := ⟨ha, hb, hr⟩
  refine ⟨(a, b, r), g, ?_⟩
  rw [← join_back p " ", h, ← split_one g, join_back]
theorem sg_inv {p : Str} (h : SgT p) : ∃ a b c, Txt.split p " " = [a, b, c] ∧ Pg a ∧ Pg b ∧ Rise c := by
  obtain ⟨s, g, rfl⟩ := h
  exact ⟨_, _, _, split_one g, g.one, g.other, _, g.bnd, rfl⟩
/-- the text writes a book -/
def Told (z : Str) : Prop := ∃ l, (∀ s ∈ l, GoodS s) ∧ z = showAll l
theorem told_nil : Told "" := ⟨[], fun s h => (by cases h), showAll_nil.symm⟩
theorem told_ne {z : Str} {l : List Sg} (hz : z ≠ "") (e : z = showAll l) : l ≠ [] := fun h => hz (by rw [e, h]; exact showAll_nil)
theorem all_shown : ∀ ps : List Str, (∀ p ∈ ps, SgT p) → ∃ l : List Sg, (∀ s ∈ l, GoodS s) ∧ ps = l.map showS
  | [], _ => ⟨[], fun s h => (by cases h), rfl⟩
  | p :: ps, h => by
    obtain ⟨s, g, e⟩ := h p (List.mem_cons_self ..)
    obtain ⟨l, gl, el⟩ := all_shown ps fun q hq => h q (List.mem_cons_of_mem _ hq)
    refine ⟨s :: l, fun t ht => ?_, by rw [e, el]; rfl⟩
    rcases List.mem_cons.mp ht with rfl | ht
    · exact g
    · exact gl t ht
theorem told_parts {z : Str} (hz : z ≠ "") : Told z ↔ ∀ p ∈ Txt.split z "; ", SgT p := by
  constructor
  · rintro ⟨l, g, e⟩ p hp
    rw [e, split_all (told_ne hz e) g] at hp
    obtain ⟨s, hs, rfl⟩ := List.mem_map.mp hp
    exact ⟨s, g s hs, rfl⟩
  · intro h
    obtain ⟨l, g, e⟩ := all_shown _ h
    refine ⟨l, g, ?_⟩
    show z = Txt.join "; " (l.map showS)
    rw [← e, join_back]
theorem told_len {l : List Sg} (g : ∀ s ∈ l, GoodS s) : 7 * l.length ≤ (showAll l).length + 2 := by
  have e : (showAll l).cps.toList = TL.joinL ("; " : Str).cps.toList ((l.map showS).map TL.tl) := by
    unfold showAll
    rw [TL.join_eq]
    exact TL.tl_join _ _
  have k : ∀ m : List Sg, (∀ s ∈ m, GoodS s) → 7 * m.length ≤ (TL.joinL ("; " : Str).cps.toList ((m.map showS).map TL.tl)).length + 2 := fun m => by
    have five : ∀ s, GoodS s → 5 ≤ (TL.tl (showS s)).length := fun s gs => by
      show 5 ≤ (showS s).cps.toList.length
      obtain ⟨n1, a1, h1, _⟩ := gs.one
      obtain ⟨n2, a2, h2, _⟩ := gs.other
      have l1 := a1.len
      have l2 := a2.len
      rw [str_len] at l1 l2
      have l3 : 1 ≤ (numS s.2.2).cps.toList.length := by
        rcases numS_cases s.2.2 with ⟨_, e⟩ | ⟨_, e⟩
        · rw [e]
          exact List.length_pos_iff.mpr (TL.numL_ne _)
        · rw [e, List.length_cons]
          omega
      unfold showS
      rw [showR_tl]
      simp only [List.length_append, List.length_cons]
      omega
    induction m with
    | nil => intro _; simp
    | cons s m ih =>
      intro gm
      have f := five s (gm s (List.mem_cons_self ..))
      have ih := ih fun t ht => gm t (List.mem_cons_of_mem _ ht)
      cases m with
      | nil =>
        show 7 * 1 ≤ (TL.tl (showS s)).length + 2
        omega
      | cons t m =>
        have e : (TL.joinL ("; " : Str).cps.toList (((s :: t :: m).map showS).map TL.tl)).length = (TL.tl (showS s)).length + (2 + (TL.joinL ("; " : Str).cps.toList (((t :: m).map showS).map TL.tl)).length) := by
          show (TL.tl (showS s) ++ (("; " : Str).cps.toList ++ _)).length = _
          rw [List.length_append, List.length_append, ← str_len ("; " : Str), semi_len]
          rfl
        rw [e, List.length_cons]
        omega
  have q := k l g
  rw [← e, ← str_len] at q
  exact q
/-- the rows of one text are the only ones -/
theorem told_one {l m : List Sg} (gl : ∀ s ∈ l, GoodS s) (gm : ∀ s ∈ m, GoodS s) (e : showAll l = showAll m) : l.map showS = m.map showS := by
  cases l with
  | nil =>
    cases m with
    | nil => rfl
    | cons s m => exact absurd (e.symm.trans showAll_nil) showAll_ne
  | cons s l =>
    cases m with
    | nil => exact absurd (e.trans showAll_nil) showAll_ne
    | cons t m =>
      rw [← split_all (by simp) gl, ← split_all (by simp) gm, e]
/-! ### sums of lengths -/
theorem joinL_sum (S : List Nat) : ∀ ps : List (List Nat), (ps.map List.length).sum ≤ (TL.joinL S ps).length
  | [] => Nat.le_refl _
  | [p] => by simp [TL.joinL]
  | p :: q :: r => by
    have ih := joinL_sum S (q :: r)
    have e : (TL.joinL S (p :: q :: r)).length = p.length + (S.length + (TL.joinL S (q :: r)).length) := by
      show (p ++ (S ++ TL.joinL S (q :: r))).length = _
      rw [List.length_append, List.length_append]
    rw [e, List.map_cons, List.sum_cons]
    omega
theorem split_sum (z y : Str) : ((Txt.split z y).map (·.length)).sum ≤ z.length := by
  have e : z.cps.toList = TL.joinL y.cps.toList ((Txt.split z y).map TL.tl) := by
    have q := congrArg TL.tl (join_back z y)
    rw [TL.join_eq, TL.tl_join] at q
    exact q.symm
  have k := joinL_sum y.cps.toList ((Txt.split z y).map TL.tl)
  rw [← e, ← str_len, List.map_map] at k
  have e2 : (Txt.split z y).map (List.length ∘ TL.tl) = (Txt.split z y).map (·.length) := List.map_congr_left fun a _ => (str_len a).symm
  rw [e2] at k
  exact k
theorem sum_set : ∀ (l : List Str) (i : Nat) (x : Str), ((l.set i x).map (·.length)).sum ≤ (l.map (·.length)).sum + x.length
  | [], _, _ => by simp
  | a :: l, 0, x => by
    rw [List.set_cons_zero, List.map_cons, List.map_cons, List.sum_cons, List.sum_cons]
    omega
  | a :: l, i + 1, x => by
    have := sum_set l i x
    rw [List.set_cons_succ, List.map_cons, List.map_cons, List.sum_cons, List.sum_cons]
    omega
theorem split_pos (z y : Str) : Txt.split z y ≠ [] ∨ z = "" := by
  by_cases h : Txt.split z y = []
  · right
    have q := join_back z y
    rw [h] at q
    rw [← q, TL.join_eq]
    exact TL.ext_tl (by rw [TL.tl_join]; exact none_tl.symm)
  · exact .inl h
theorem join_len (y : Str) (l : List Str) : (Txt.join y l).length ≤ (l.map (·.length)).sum + l.length * y.length := by
  rw [TL.join_eq]
  exact StrLaws.join_length_le y l
theorem cut_len (z : Str) (lo hi : Option Int) : (cutS z lo hi).length ≤ z.length := by
  rw [str_len, str_len]
  unfold cutS
  show ((z.cps.toList.drop _).take _).length ≤ _
  rw [List.length_take, List.length_drop]
  omega
theorem one_len (c : Nat) : (⟨#[c]⟩ : Str).length = 1 := rfl
/-- signs of a text, sign by sign -/
theorem lcd_str {K : PySem.W.Frag} {z : Str} {H : Hp} {td te : TE} {tt : TT} {j : Nat} {σ : L2.St} {Q : VK} (f : Nat → Option PyData) (hst : ∀ i d, f i = some d → TStay d) (htd : ∀ R, R (.str z) H → td σ H R) (hz : z.length < 100000) (hw : ∀ x, wipe ((wipe σ [j]).set j (some x)) [j] = wipe σ [j])
    (ht : ∀ (i c : Nat) (H1 : Hp) (R : Bool → Hp → Prop), z.cps.toList[i]? = some c → Same H H1 → R (f i).isSome H1 → tt ((wipe σ [j]).set j (some (.str ⟨#[c]⟩))) H1 R)
    (he : ∀ (i c : Nat) (dd : PyData) (H1 : Hp) (R : VK), z.cps.toList[i]? = some c → f i = some dd → Same H H1 → (∀ (v : V) (H2 : Hp), Same H1 H2 → Dp K H2 v dd → R v H2) → te ((wipe σ [j]).set j (some (.str ⟨#[c]⟩))) H1 R)
    (q : ∀ (p : Addr) (H2 : Hp) (vs : List V), H p = none → Same H H2 → H2 p = some (.lst vs) → DpAll K H2 vs ((List.range z.length).filterMap f) → Q (.ref p) H2) : uLc (iStr td) (gName j) tt te [j] σ H Q := by
  refine uLc_of ?_
  unfold tLc iStr
  refine htd _ ⟨z, rfl, fun D hD => ?_⟩
  refine lc_it walk_str (fun i H' => Same H H' ∧ ∃ vs, H' D = some (.lst vs) ∧ vs.length ≤ i ∧ DpAll K H' vs ((List.range i).filterMap f)) ⟨same_new hD, [], upd_same, Nat.le_refl _, .nil⟩ (fun _ _ _ _ => trivial) ?_ ?_
  · rintro i x H1 H' hi P ⟨rfl, c, ec, rfl⟩
    have ec : z.cps.toList[i]? = some c := by rw [Array.getElem?_toList]; exact ec
    have hi : i < z.length := hi
    exact ⟨hw _, lcd_turn hst hD (by omega) P (fun R k => ht i c H' R ec P.1 k) fun dd R hf k => he i c dd H' R ec hf P.1 k⟩
  · rintro H' ⟨s, vs, hd, hlen, dp⟩
    exact q D H' vs hD s hd dp
theorem filt_all {l : List Nat} {P : Nat → Bool} : (l.filter P).length = l.length ↔ l.all P = true := by
  rw [List.all_eq_true, List.length_filter_eq_length_iff]
/-- len([sign for sign in z if sign in Y]) == len(z) -/
theorem all_signs {K : PySem.W.Frag} {z Y : Str} {H : Hp} {td : TE} {j : Nat} {σ : L2.St} {Q : VK} (htd : ∀ R H', R (.str z) H' → td σ H' R) (hz : z.length < 100000) (hw : ∀ x, wipe ((wipe σ [j]).set j (some x)) [j] = wipe σ [j])
    (hv : ∀ x H' R, R x H' → uVar j ((wipe σ [j]).set j (some x)) H' R)
    (q : ∀ H', Same H H' → Q (.bl (z.cps.toList.all fun c => decide (c ∈ Y.cps.toList))) H') :
    tOp kEqI (tCB (cLenQ K) (tCons (uLc (iStr td) (gName j) (uT (tOp (cSign true) (uVar j) (tC (.str Y)))) (uVar j) [j]) tNil)) (tCB cLenS (tCons td tNil)) σ H Q := by
  refine lcd_str (K := K) (z := z) (fun i => (z.cps.toList[i]?).bind fun c => if decide (c ∈ Y.cps.toList) then some (PyData.str ⟨#[c]⟩) else none) (fun i d hd => ?_) (fun R k => htd R H k) hz hw (fun i c H1 R ec s k => ?_) (fun i c dd H1 R ec hd s k => ?_) fun p H2 vs n s t al => ?_
  · obtain ⟨c, _, e⟩ := Option.bind_eq_some_iff.mp hd
    split at e
    · cases e
      exact TStay.str _
    · cases e
  · unfold uT tOp
    refine hv _ H1 _ ?_
    refine ⟨c, rfl, ?_⟩
    rw [ec] at k
    show R (decide (c ∈ Y.cps.toList)) H1
    have k : R (if decide (c ∈ Y.cps.toList) = true then some (PyData.str ⟨#[c]⟩) else none).isSome H1 := k
    by_cases m : c ∈ Y.cps.toList
    · rw [if_pos (decide_eq_true m)] at k
      rw [decide_eq_true m]
      exact k
    · rw [if_neg (by rw [decide_eq_false m]; exact Bool.false_ne_true)] at k
      rw [decide_eq_false m]
      exact k
  · rw [ec] at hd
    have hd : (if decide (c ∈ Y.cps.toList) = true then some (PyData.str ⟨#[c]⟩) else none) = some dd := hd
    split at hd
    · cases hd
      exact hv _ H1 _ (k _ H1 (Same.refl H1) (.str _))
    · cases hd
  · rw [str_len z, filt_at, filtMap] at al
    have hl := dpAll_length al
    rw [List.length_map] at hl
    refine ⟨vs, .inl (SqL.of t), htd _ H2 ⟨sz (by omega), ?_⟩⟩
    have e : decide ((vs.length : Int) = (z.length : Int)) = z.cps.toList.all fun c => decide (c ∈ Y.cps.toList) := by
      rw [hl, str_len z]
      rw [Bool.eq_iff_iff, decide_eq_true_iff, ← filt_all]
      omega
    show Q (.bl (decide ((vs.length : Int) = (z.length : Int)))) H2
    rw [e]
    exact q H2 s
end Peg

/-! PegL: a list comprehension whose element may raise. -/
namespace U
open PySem PySem.Spec PyProof.Rows L2

/-! ### the comprehension's own frame has its def's frame -/
/-- compPost, the block's environment known to run in the frame fr -/
def compPostX (M : Model) (A : Around) (E : Value → Shared → Prop) (use : Option (Value → Sem Unit)) (Q : Value → Shared → Prop) (acc : Value) (C : Addr) (fr : Option Addr) (r : Result) (s' : Shared) : Prop :=
  match r, use with
  | .ok _, none => ∃ m, s'.heap.Ns C m ∧ ∀ h', Heap.SameBut C s'.heap h' → Q acc { s' with heap := h' }
  | .ok _, some u => wpAny M A (u acc) (fun _ s'' => ∃ m, s''.heap.Ns C m ∧ ∀ h', Heap.SameBut C s''.heap h' → Q .none { s'' with heap := h' }) E s'
  | .error x, _ => ∃ m, s'.heap.Ns C m ∧ ∀ h', Heap.SameBut C s'.heap h' → ∀ cenv : Env, cenv.locals = C → cenv.frame = fr → wpAny M A (passOn "comprehension.variables-let-go" x cenv : Sem Value) (fun _ _ => False) E { s' with heap := h' }
theorem comp_freeX {M : Model} {A : Around} {E : Value → Shared → Prop} {s : Shared} {env : Env} {e : Expr} {scope : Scope} {pos : Pos} {newAcc first : Sem Value} {g : Comprehension} {gs : List Comprehension} {cl : List (Str × Addr)} {use : Option (Value → Sem Unit)}
    {Q : Value → Shared → Prop}
    (hcl : clausesOf e = g :: gs) (hs : ∀ x, foldedSetIterable g.iter env x = pure x) (hclos : closureFor scope env = pure cl)
    (hkind : scope.kind = .function) (hnames : ∀ x ∈ scope.names, x.2 = .local → scope.names.lookup x.1 = some .local)
    (h : wpAny M A first (fun x s₁ => wpAny M A (pyIter x) (fun it s₂ => wpAny M A newAcc (fun acc s₃ =>
      wpAny M A (newFunctionEnv scope env.globals cl [] env.qual none .none (some env)) (fun cenv s₄ =>
        codeAny M A (.compStart e 0 it acc { cenv with scope := relabel scope env }) (compPostX M A E use Q acc cenv.locals cenv.frame) s₄) E s₃) E s₂) E s₁) E s) :
    wpAny M A (comprehension e scope env pos newAcc false first use) Q E s := by
  unfold comprehension
  rw [hclos, hcl]
  refine wpAny_bind (wpAny_mono h (fun x s₁ h₁ => wpAny_bind (wpAny_standAt (wpAny_bind (wpAny_of_eq (hs x) (wpAny_bind (wpAny_holding (wpAny_mono h₁ (fun it s₂ h₂ =>
    wpAny_standIf (wpAny_bind (wpAny_mono h₂ (fun acc s₃ h₃ => wpAny_bind (wpAny_pure (wpAny_bind (wpAny_mono h₃ (fun cenv s₄ h₄ => ?_) fun _ _ h' => h')))) fun _ _ h' => h')))
      fun _ _ h' => h'))))))) fun _ _ h' => h')
  dsimp only
  have hv : ∀ x ∈ (scope.names.filter fun x => (x.2 == .local || x.2 == .cell) && x.1 != (".0" : Str)).reverse, x.2 = .local →
      Env.kindOf { cenv with scope := relabel scope env } x.1 = some .local := fun x hx hl => lookup_relabel_local (hnames x (List.mem_filter.mp (List.mem_reverse.mp hx)).1 hl)
  have hv' : ∀ x ∈ (scope.names.filter fun x => (x.2 == .local || x.2 == .cell) && x.1 != (".0" : Str)).reverse.drop 1 ++ (scope.names.filter fun x => (x.2 == .local || x.2 == .cell) && x.1 != (".0" : Str)).reverse.take 1,
      x.2 = .local → Env.kindOf { cenv with scope := relabel scope env } x.1 = some .local := fun x hx hl => by
    rcases List.mem_append.mp hx with h1 | h1
    · exact hv x (List.mem_of_mem_drop h1) hl
    · exact hv x (List.mem_of_mem_take h1) hl
  refine wpAny_holding (wpAny_bind (wpAny_attempt (wpAny_holding (wpAny_run (codeAny_mono h₄ fun r s' hr => ?_)))))
  cases r with
  | ok f =>
    cases use with
    | none =>
      obtain ⟨m, hn, hr⟩ := hr
      exact wpAny_bind (wpAny_holding (wpAny_comp_letGo (cenv := { cenv with scope := relabel scope env }) hkind _ s' m hv hn fun h' m' _ hs' => wpAny_pure (hr h' hs')))
    | some u =>
      refine wpAny_bind (wpAny_rule (wpAny_bind (wpAny_holding (wpAny_mono hr (fun _ s'' hr' => ?_) fun _ _ h' => h'))))
      obtain ⟨m, hn, hr'⟩ := hr'
      exact wpAny_bind (wpAny_comp_letGo (cenv := { cenv with scope := relabel scope env }) hkind _ s'' m hv' hn fun h' m' _ hs' => wpAny_pure (hr' h' hs'))
  | error x =>
    have hr' : ∃ m, s'.heap.Ns cenv.locals m ∧ ∀ h', Heap.SameBut cenv.locals s'.heap h' → ∀ cenv' : Env, cenv'.locals = cenv.locals → cenv'.frame = cenv.frame → wpAny M A (passOn "comprehension.variables-let-go" x cenv' : Sem Value) (fun _ _ => False) E { s' with heap := h' } := by cases use <;> exact hr
    obtain ⟨m, hn, hr⟩ := hr'
    exact wpAny_bind (wpAny_holding (wpAny_comp_letGo (cenv := { cenv with scope := relabel scope env }) hkind _ s' m hv hn fun h' m' _ hs' => wpAny_mono (hr h' hs' _ rfl rfl) (fun _ _ f => f.elim) fun _ _ y => y))
theorem noteFrame_eq {e : Value} {ce env : Env} (h : ce.frame = env.frame) : noteFrame e ce = noteFrame e env := by
  unfold noteFrame PySem.frameOf
  rw [h]

/-! ### the same state, other wishes about exceptions -/
abbrev Cxx (X : Cx) (xe : Value → Shared → Prop) : Cx := X.tr X.pn xe
section
variable {X : Cx} {pins : List (Addr × Obj)} {σ : L2.St} {H : Hp} {s : Shared} {xe : Value → Shared → Prop}
theorem toXX (I : Inv X pins σ H s) : Inv (Cxx X xe) pins σ H s := ⟨I.ok.toTry _ _, I.os, I.bare, I.base, I.loc, I.cell, I.free, I.freeC, I.pin, I.hok, I.len⟩
theorem ofXX (I : Inv (Cxx X xe) pins σ H s) : Inv X pins σ H s := ⟨I.ok.ofTry, I.os, I.bare, I.base, I.loc, I.cell, I.free, I.freeC, I.pin, I.hok, I.len⟩
end
/-- what a call within the block lets out -/
def XB (X : Cx) (E : XK) (u : Value) (s' : Shared) : Prop := ∃ (pins : List (Addr × Obj)) (σ : L2.St) (H : Hp) (s : Shared), Inv X pins σ H s ∧ L2.CX X.prog X.w X.stack H s E u s'
theorem passB {X : Cx} {E : XK} : Passes (L2.CX X.prog X.w) (Cxx X (XB X E)) E := fun pins σ H s _ _ I c => ⟨pins, σ, H, s, ofXX I, c⟩

/-! ### what is but for one thing -/
theorem frames_but {base B h h' : Heap} {C : Addr} (hb : ∀ b, b ≠ C → h'.get? b = h.get? b) (hB : ∀ b, base.get? b = none → B.get? b = none) : ∀ {l : List Env}, C ∉ frs l → h.FunFrames base l → h'.FunFrames B l
  | [], _, _ => trivial
  | env :: l, hC, hf => by
    obtain ⟨hk, ⟨L, o, hfr, hn, ho, hd⟩, hr⟩ := hf
    have hL : L ∈ frs (env :: l) := List.mem_filterMap.mpr ⟨env, List.mem_cons_self, hfr⟩
    exact ⟨hk, ⟨L, o, hfr, hB _ hn, by rw [hb L fun z => hC (z ▸ hL)]; exact ho, hd⟩, frames_but hb hB (fun m => hC (by
      obtain ⟨e, he, q⟩ := List.mem_filterMap.mp m
      exact List.mem_filterMap.mpr ⟨e, List.mem_cons_of_mem _ he, q⟩)) hr⟩

section
variable {X : Cx}
/-- the error's way out of the block -/
theorem comp_err {pins : List (Addr × Obj)} {s3 : Shared} {σ : L2.St} {H3 : Hp} {scope : Scope} {ce : Env} {fp : List Addr} {E : XK} {use : Option (Value → Sem Unit)} {Qf : Value → Shared → Prop} {acc : Value} {E' : Value → Shared → Prop}
    (hs : X.stack = X.env :: X.outer) (hf : X.env.frame = some X.env.locals) (tk : L2.Takes X (fun cls d _ H => E cls d H)) (I3 : Inv X pins σ H3 s3) (hcL : ce.locals = s3.heap.objs.size) (hcf : ce.frame = X.env.frame)
    (hfp : ∀ b ∈ fp, (b ∈ X.ex ∨ X.s_0.heap.objs.size ≤ b) ∧ b ≠ X.env.locals ∧ (∀ x c, X.env.cells.lookup x = some c → c ≠ b) ∧ ∀ p ∈ X.pn ++ pins, p.1 ≠ b)
    {u : Value} {s' : Shared} (x : XB (X.blk s3 H3 scope ce fp) E u s') :
    wpAny (model X.prog X.w) X.A (noteFrame u ce) (fun _ s'' => compPostX (model X.prog X.w) X.A X.xe use Qf acc ce.locals ce.frame (.error u) s'') E' s' := by
  obtain ⟨pb, σb, Hb, s0, Ib, a, B, H2, cls, d, rfl, fl, hok, ub, na, os, ag, hE⟩ := x
  have hfr : X.A.frames = some (X.env :: X.outer) := by rw [I3.ok.frames, hs]
  -- the block's own dict
  generalize hC : ce.locals = C at *
  have HbC : Hb C = none := by have z := Ib.free; rw [show (X.blk s3 H3 scope ce fp).env.locals = C from hC] at z; exact z
  obtain ⟨mC, hnC, _⟩ := Ib.loc
  have hnC : s0.heap.Ns C mC := by rw [← hC]; exact hnC
  obtain ⟨oC, esC, epC, hoC, rC⟩ := id hnC
  have CF : C ∉ frs X.stack := fun hm => by
    obtain ⟨_, o', e', _⟩ := I3.stack.mem hm
    have := Heap.lt_size e'
    rw [hcL] at this
    exact Nat.lt_irrefl _ this
  have BC : B.get? C = some oC := ub.keep C oC hoC HbC CF
  have H2C : H2 C = none := ub.free C oC hoC HbC
  obtain ⟨B', b1, b2⟩ := restrict B fun b => decide (b ≠ C)
  have B'ne : ∀ b, b ≠ C → B'.get? b = B.get? b := fun b hb => b1 b (decide_eq_true hb)
  have B'C : B'.get? C = none := b2 C (by simp)
  have B'sub : ∀ b o, B'.get? b = some o → b ≠ C ∧ B.get? b = some o := fun b o e => by
    have hb : b ≠ C := fun z => by rw [z, B'C] at e; cases e
    exact ⟨hb, by rw [← B'ne b hb]; exact e⟩
  have B'none : ∀ b, B.get? b = none → B'.get? b = none := fun b e => by
    by_cases hb : b = C
    · rw [hb]; exact B'C
    · rw [B'ne b hb]; exact e
  rw [noteFrame_eq hcf]
  have fl2 : HandSPX.FlyingZ B (X.env :: X.outer) a (Zc cls d) s'.heap := by rw [← hs]; exact fl
  refine HandSPX.looks_onZ Zc.steady hfr hf fl2 fun h1 hh1 up1 => ?_
  obtain ⟨st1, ea, ff1, tr1⟩ := hh1
  have h1C : h1.get? C = some oC := st1 _ _ BC
  have main : ∃ m, h1.Ns C m ∧ ∀ h', Heap.SameBut C h1 h' → ∀ cenv : Env, cenv.locals = C → cenv.frame = ce.frame → wpAny (model X.prog X.w) X.A (passOn "comprehension.variables-let-go" (.ref a) cenv : Sem Value) (fun _ _ => False) X.xe { s' with heap := h' } := by
    refine ⟨mC, ⟨oC, esC, epC, h1C, rC⟩, fun h2 sb cenv hcl hcfr => ?_⟩
    have h2ne : ∀ b, b ≠ C → h2.get? b = h1.get? b := fun b hb => sb.2 b hb
    obtain ⟨oe, vs, T, oT, ts, he, hz, hd, hv1, hnT, hTe, hT, hdT, h3⟩ := tr1
    have aC : a ≠ C := fun z => by rw [z, BC] at ea; cases ea
    have TC : T ≠ C := fun z => by rw [z, BC] at hnT; cases hnT
    have tr2 : HandSPX.TracedZ h2 B' a (Zc cls d) (rawInt X.env.locals) := ⟨oe, vs, T, oT, ts, by rw [h2ne a aC]; exact he, hz, hd, hv1, B'none T hnT, hTe, by rw [h2ne T TC]; exact hT, hdT, h3⟩
    have CF' : C ∉ frs (X.env :: X.outer) := by rw [← hs]; exact CF
    have ff2 : h2.FunFrames B' (X.env :: X.outer) := frames_but h2ne B'none CF' ff1
    have st2 : B'.StaysIn h2 := fun b o e => by
      obtain ⟨hb, e1⟩ := B'sub b o e
      rw [h2ne b hb]
      exact st1 b o e1
    unfold PySem.passOn
    refine wpAny_bind (wpAny_field (by rw [h2ne a aC]; exact he) hd hv1 ?_)
    rw [if_neg (show ¬ ((Value.ref T == Value.none) = true) from by simp)]
    have fin : wpAny (model X.prog X.w) X.A (setFlight (.ref a) cenv.frame) (fun _ s4 => wpAny (model X.prog X.w) X.A (throw (.ref a) : Sem Value) (fun _ _ => False) X.xe s4) X.xe { s' with heap := h2 } := by
      rw [hcfr, hcf, hf]
      refine HandSPX.setFlight_anyZ st2 ff2 tr2 fun h3 k1 k2 k3 up3 => wpAny_throw (tk _ _ ?_)
      -- the state without the error and without the block's dict
      obtain ⟨G, g1, g2⟩ := restrict s'.heap fun b => (B'.get? b).isSome || decide (b ∈ frs X.stack)
      have st : B.StaysIn s'.heap := fl.1
      have gB : ∀ b o, B'.get? b = some o → G.get? b = some o := fun b o e => by
        rw [g1 b (by simp [e])]
        exact st b o (B'sub b o e).2
      have gF : ∀ b, b ∈ frs X.stack → G.get? b = s'.heap.get? b := fun b hb => g1 b (by simp [hb])
      have og : ∀ b o, G.get? b = some o → s'.heap.get? b = some o ∧ ((B'.get? b).isSome = true ∨ b ∈ frs X.stack) := fun b o e => by
        cases q : ((B'.get? b).isSome || decide (b ∈ frs X.stack)) with
        | false => rw [g2 b q] at e; cases e
        | true =>
          rw [g1 b q] at e
          exact ⟨e, by simpa [Bool.or_eq_true] using q⟩
      have ogC : ∀ b o, G.get? b = some o → b ≠ C := fun b o e z => by
        obtain ⟨_, q⟩ := og b o e
        rw [z] at q
        rcases q with q | q
        · rw [B'C] at q; cases q
        · exact CF q
      have old : ∀ b o, s3.heap.get? b = some o → b ≠ C := fun b o e z => by
        have := Heap.lt_size e
        rw [z, hcL] at this
        exact Nat.lt_irrefl _ this
      have hok' : HOk X.prog X.w H2 B' := fun b o q => by
        have hb : b ≠ C := fun z => by rw [z, H2C] at q; cases q
        refine (hok b o q).stay (fun c v hc y => ?_) (fun _ r => r) (fun _ _ r => r)
        have cC : c ≠ C := fun z => by
          rcases hc with hc | hc
          · exact hb (hc ▸ z)
          · rw [z, H2C] at hc; cases hc
        rw [B'ne c cC]
        exact y
      have un : Un (frs X.stack) fp H3 H2 s3.heap G := {
        keep := fun b o e n hb hx => by
          have e0 : s0.heap.get? b = some o := Ib.base.keep b o e n hb hx
          have n0 : Hb b = none := Ib.base.free b o e n hx
          exact gB b o (by rw [B'ne b (old b o e)]; exact ub.keep b o e0 n0 hb)
        slot := fun b o e n hb hx => by
          obtain ⟨sl, e0⟩ := Ib.base.slot b o e n hb hx
          obtain ⟨sl2, e2⟩ := ub.slot b _ e0 hb
          exact ⟨sl2, by rw [gF b hb]; exact e2⟩
        free := fun b o e n hx => by
          obtain ⟨sl, e0⟩ := Ib.base.any e n hx
          exact ub.free b _ e0 (Ib.base.free b o e n hx)
        there := fun b o e hx => by
          obtain ⟨o0, e0⟩ := Ib.base.there b o e hx
          by_cases hb : b ∈ frs X.stack
          · obtain ⟨sl, q⟩ := ub.slot b _ e0 hb
            exact ⟨_, by rw [gF b hb]; exact q⟩
          · obtain ⟨o1, q⟩ := ub.there b _ e0 hb
            exact ⟨o1, gB b o1 (by rw [B'ne b (old b o e)]; exact q)⟩
        tups := fun b xs e => ub.tups b xs (Ib.base.tups b xs e)
        frzs := fun b o v e => ub.frzs b o v (Ib.base.frzs b o v e)
        tbls := fun b ps e => by
          obtain ⟨m1, e1⟩ := Ib.base.tbls b ps e
          obtain ⟨m2, e2⟩ := ub.tbls b _ e1
          exact ⟨m1 ++ m2, e2.trans (congrArg (fun z => some (HO.tbl z)) Array.append_assoc)⟩ }
      have J : Inv X pins σ H2 { s0 with heap := G, gens := s'.gens, drawn := s'.drawn, toks := s'.toks } := I3.call' (ch := fp) Ib.os un (hok'.kept gB) ag hfp
      refine ⟨a, B', _, pins, σ, H2, cls, d, rfl, J, fun b o e hb => ?_, fun b o e hnf => ?_, .inr (.inr (by rw [hs]; exact ⟨k1, B'none a ea, k2, k3⟩)), na, os, ag, hE⟩
      · obtain ⟨e', q⟩ := og b o e
        rcases q with q | q
        · obtain ⟨o', q⟩ := Option.isSome_iff_exists.mp q
          have z := st b o' (B'sub b o' q).2
          rw [e'] at z; cases z
          exact q
        · exact absurd q hb
      · have e' := (og b o e).1
        obtain ⟨sl1, e1⟩ := up1 b o e' hnf
        have e2 : h2.get? b = some { o with slots := sl1 } := by rw [h2ne b (ogC b o e)]; exact e1
        obtain ⟨sl2, e3⟩ := up3 b _ e2 hnf
        exact ⟨sl2, e3⟩
    first
      | exact wpAny_bind (wpAny_pure (wpAny_bind fin))
      | exact wpAny_bind fin
  cases use <;> exact main
theorem lcx_core {pins : List (Addr × Obj)} {s : Shared} {σ : L2.St} {H : Hp} {Q : VK} {elt tg iter : Expr} {ifs : List Expr} {scope : Scope} {own : List (Str × Nat)} {pos pos' : Pos} {wi : TI} {g : TG} {tt : TT} {te : TE} {use : Option (Value → Sem Unit)} {Qf : Value → Shared → Prop}
    {E : XK} (hss : X.stack = X.env :: X.outer) (hff : X.env.frame = some X.env.locals) (tk : L2.Takes X (fun cls d _ H => E cls d H)) (hc : X.calm = true) (hN : X.N.Nodup) (I : Inv X pins σ H s) (hi : PI X tg iter wi) (ok : BlkOk X.N X.env.scope scope own)
    (hg : ∀ (s : Shared) (H : Hp) (C : Addr) (cl : List (Str × Addr)) (fp : List Addr), PG (Cxx (X.blk s H scope (compEnvC scope cl C X.env) fp) (XB (X.blk s H scope (compEnvC scope cl C X.env) fp) E)) tg g) (ht : ∀ (s : Shared) (H : Hp) (C : Addr) (cl : List (Str × Addr)) (fp : List Addr), PTs (Cxx (X.blk s H scope (compEnvC scope cl C X.env) fp) (XB (X.blk s H scope (compEnvC scope cl C X.env) fp) E)) ifs tt)
    (he : ∀ (s : Shared) (H : Hp) (C : Addr) (cl : List (Str × Addr)) (fp : List Addr), PE (Cxx (X.blk s H scope (compEnvC scope cl C X.env) fp) (XB (X.blk s H scope (compEnvC scope cl C X.env) fp) E)) elt te) (hs : ∀ x, foldedSetIterable iter X.env x = pure x)
    (h : tLc wi g tt te (own.map (·.2)) σ H Q)
    (hRR : ∀ D C s' m H', Inv X pins σ H' s' → Q (.ref D) H' → s'.heap.Ns C m → FpOk X pins H' C → compPostX (model X.prog X.w) X.A X.xe use Qf (.ref D) C X.env.frame (.ok .next) s') :
    wpAny (model X.prog X.w) X.A (comprehension (.ListComp elt [⟨tg, iter, ifs, 0⟩] scope pos) scope X.env pos' (newList []) false (eval iter X.env) use) Qf X.xe s := by
  have hfree : ∀ y ∈ scope.names, y.2 = .free → ∃ c, X.env.cells.lookup y.1 = some c := fun y hy e => by
    rcases ok.free y hy e with k | k
    · exact I.ok.has _ (.inl k)
    · exact I.ok.has _ (.inr k)
  refine comp_freeX (use := use) rfl hs (closure_ok hfree) ok.kind (fun y hy e => by rw [ok.uniq y hy, e])
    (thn (hi.run pins s σ H _ I h) fun xv s1 hx => thn hx fun itv s2 h2 => ?_)
  obtain ⟨it, fp, tn, J, H2, e, I2, T, st2, f2, q⟩ := h2
  subst e
  refine wpAny_newObj_type (newEnv_comp ?_) (by show 0 ≤ sizeLine; decide)
  generalize hD : s2.heap.objs.size = D
  have hDn : H2 D = none := I2.hok.fresh (Nat.le_of_eq hD)
  obtain ⟨W, ⟨m0, w0⟩, turn⟩ := q D hDn
  -- the new list
  generalize hs3 : ({ s2 with heap := s2.heap.push { cls := .type "list", data := .seq ([] : List Value).toArray } } : Shared) = s3
  have I3 : Inv X pins σ (upd H2 D (.lst [])) s3 := by
    rw [← hs3]
    refine I2.laid (t' := s2.toks) (fun b o e => Heap.get?_push_of_some _ e) (Nat.le_of_eq hD) ⟨Nat.zero_le _, [], 0, .nil, ?_⟩
    rw [← hD]
    exact Heap.get?_push_size _ rfl
  have h3 : s3.heap = s2.heap.push { cls := .type "list", data := .seq ([] : List Value).toArray } := by rw [← hs3]
  have sz : ∀ b ∈ fp, b < s2.heap.objs.size := fun b hb => by
    obtain ⟨o, e, _⟩ := T.obj _ _ st2 b hb
    exact Heap.lt_size e
  have f3 : ∀ b ∈ fp, FpOk X pins (upd H2 D (.lst [])) b ∧ b < s3.heap.objs.size := fun b hb => by
    have hlt := sz b hb
    refine ⟨⟨?_, (f2 b hb).2⟩, by rw [h3, Heap.size_push]; exact Nat.lt_succ_of_lt hlt⟩
    rw [upd_ne (by rw [← hD]; exact Nat.ne_of_lt hlt)]
    exact (f2 b hb).1
  have st3 : tn 0 s3.heap := T.keep _ _ _ st2 fun b _ o e => by rw [h3]; exact Heap.get?_push_of_some _ e
  have I4 := block_start I3 ok hN f3
  have pg := hg s3 (upd H2 D (.lst [])) s3.heap.objs.size (cellsFrom (s3.heap.objs.size + 1) scope.names (cloFrom X.env.cells scope.names [])) fp
  have pt := ht s3 (upd H2 D (.lst [])) s3.heap.objs.size (cellsFrom (s3.heap.objs.size + 1) scope.names (cloFrom X.env.cells scope.names [])) fp
  have pe := he s3 (upd H2 D (.lst [])) s3.heap.objs.size (cellsFrom (s3.heap.objs.size + 1) scope.names (cloFrom X.env.cells scope.names [])) fp
  show codeAny _ _ (.compStart (.ListComp elt [⟨tg, iter, ifs, 0⟩] scope pos) 0 (.ref it) (.ref D) (compEnvC scope (cellsFrom (s3.heap.objs.size + 1) scope.names (cloFrom X.env.cells scope.names [])) s3.heap.objs.size X.env)) (compPostX (model X.prog X.w) X.A X.xe use Qf (.ref D) s3.heap.objs.size X.env.frame) { s3 with heap := pushCells (s3.heap.push { cls := .type "dict", data := .dict #[] }) scope.names }
  have nfp : ∀ b ∈ fp, (upd H2 D (.lst [])) b = none := fun b hb => (f3 b hb).1.1
  generalize hce : compEnvC scope (cellsFrom (s3.heap.objs.size + 1) scope.names (cloFrom X.env.cells scope.names [])) s3.heap.objs.size X.env = ce at I4 pg pt pe ⊢
  have cL : ce.locals = s3.heap.objs.size := by subst hce; rfl
  have cF : ce.frame = X.env.frame := by subst hce; rfl
  generalize hH3 : upd H2 D (.lst []) = H3 at I3 I4 pg pt pe w0 nfp f3
  generalize hs4 : ({ s3 with heap := pushCells (s3.heap.push { cls := .type "dict", data := .dict #[] }) scope.names } : Shared) = s4 at I4 ⊢
  have errs : ∀ (u : Value) (s' : Shared), XB (X.blk s3 H3 scope ce fp) E u s' → notedBy (model X.prog X.w) X.A ce (fun e s'' => compPostX (model X.prog X.w) X.A X.xe use Qf (.ref D) s3.heap.objs.size X.env.frame (.error e) s'') u s' := fun u s' x => by
    have z := comp_err (use := use) (Qf := Qf) (acc := .ref D) (E' := fun e s'' => compPostX (model X.prog X.w) X.A X.xe use Qf (.ref D) s3.heap.objs.size X.env.frame (.error e) s'') hss hff tk I3 cL cF (fun b hb => ⟨(f3 b hb).1.2.2.2.1, (f3 b hb).1.2.1, (f3 b hb).1.2.2.2.2.1, (f3 b hb).1.2.2.2.2.2⟩) x
    rw [cL, cF] at z
    exact z
  have st4 : tn 0 s4.heap := T.keep _ _ _ st3 fun b _ o e => by rw [← hs4]; exact pushCells_keeps _ _ _ _ (Heap.get?_push_of_some _ e)
  have stat : ∀ {σ' : L2.St} {H' : Hp} {s' : Shared}, Inv (X.blk s3 H3 scope ce fp) [] σ' H' s' → (∀ b ∈ fp, H' b = none) → ∀ b ∈ fp, FpOk (X.blk s3 H3 scope ce fp) [] H' b := fun {σ' H' s'} I' hn b hb =>
    ⟨hn b hb, (I'.ok.exf b hb).1, I'.ok.exfs b hb, .inl hb, fun x c e => (I'.ok.exf b hb).2 x c e, fun p hp => absurd (show p ∈ ([] : List (Addr × Obj)) ++ [] from hp) (by simp)⟩
  have loop : codeAny (model X.prog X.w) X.A (.compLoop (.ListComp elt [⟨tg, iter, ifs, 0⟩] scope pos) 0 (.ref it) (.ref D) ce) (compPostX (model X.prog X.w) X.A X.xe use Qf (.ref D) s3.heap.objs.size X.env.frame) s4 := by
    refine compLoop_any (fun n s' => ∃ i H', Inv (X.blk s3 H3 scope ce fp) [] (wipe σ (own.map (·.2))) H' s' ∧ tn i s'.heap ∧ (∀ b ∈ fp, H' b = none) ∧ W i n H') ?_ m0 ⟨0, H3, I4, st4, nfp, w0⟩
    rintro n s5 ⟨i, H5, I5, st5, n5, w5⟩
    rcases turn i n H5 w5 with ⟨stop, qq⟩ | ⟨go, Nx, hNx, step⟩
    · have td := T.done (X.blk s3 H3 scope ce fp) rfl rfl rfl hc i [] s5 _ H5 (fun _ _ => False) I5 (stat I5 n5) st5 stop
      refine thnF td fun r s6 ⟨hr, I6⟩ => ?_
      subst hr
      -- back in the def's context
      have I7 : Inv X pins σ H5 s6 := I3.call' (ch := fp) I6.os I6.base I6.hok I6.bare fun b hb => ⟨(f3 b hb).1.2.2.2.1, (f3 b hb).1.2.1, (f3 b hb).1.2.2.2.2.1, (f3 b hb).1.2.2.2.2.2⟩
      have nC : H5 s3.heap.objs.size = none := by
        have z : H5 ce.locals = none := I6.free
        rw [cL] at z
        exact z
      obtain ⟨m, hn, _⟩ := I6.loc
      have hn : s6.heap.Ns ce.locals m := hn
      rw [cL] at hn
      exact hRR D s3.heap.objs.size s6 m H5 I7 qq hn (I3.fpOk (Nat.le_refl _) nC)
    · have ti := T.item (X.blk s3 H3 scope ce fp) rfl rfl rfl hc i [] s5 _ H5 (fun _ _ => False) I5 (stat I5 n5) st5 go
      refine thnF ti fun r s6 ⟨u, hr, h6⟩ => ?_
      subst hr
      refine thnF h6 fun _ s7 ⟨x, H7, I7, r7, y7, st7, n7⟩ => ?_
      have I7' := I7.pinned (stat I7 n7) (T.obj _ _ st7)
      refine wpAny_mono (pg.run _ s7 _ H7 x u _ (toXX I7') r7 (step x H7 y7)) (fun _ s8 ⟨σ8, H8, I8, hw8, q8⟩ => ?_) errs
      refine wpAny_mono (pt.run _ s8 σ8 H8 _ I8 q8) (fun b s9 ⟨H9, I9, q9⟩ => ?_) errs
      -- the turn's end
      have fin : ∀ {s' : Shared} {H' : Hp}, Inv (X.blk s3 H3 scope ce fp) ([] ++ pinsAt fp s7.heap) σ8 H' s' → Nx H' → ∃ m, m < n ∧ ∃ i H', Inv (X.blk s3 H3 scope ce fp) [] (wipe σ (own.map (·.2))) H' s' ∧ tn i s'.heap ∧ (∀ b ∈ fp, H' b = none) ∧ W i m H' := fun {s' H'} I' nx => by
        obtain ⟨m', hm, w'⟩ := hNx H' nx
        have pin' : ∀ b ∈ fp, ∀ o, s7.heap.get? b = some o → s'.heap.get? b = some o ∧ H' b = none := fun b hb o e =>
          let z := I'.pin (b, o) (List.mem_append_right _ (List.mem_append_right _ (mem_pinsAt hb e)))
          ⟨z.1, z.2.1⟩
        have hl : (wipe σ (own.map (·.2))).length = σ8.length := by rw [← hw8, wipe_length]
        refine ⟨m', hm, i + 1, H', (I'.unpinned (pins := [])).weak hl (fun j v e => ?_), T.keep _ _ _ st7 fun b hb o e => (pin' b hb o e).1, fun b hb => ?_, w'⟩
        · rw [← hw8] at e
          exact (wipe_some e).1
        · obtain ⟨o, e, _⟩ := T.obj _ _ st7 b hb
          exact (pin' b hb o e).2
      cases b with
      | false =>
        simp only [Bool.false_eq_true, if_false] at q9 ⊢
        exact fin (ofXX I9) q9
      | true =>
        simp only [if_true] at q9 ⊢
        refine wpAny_mono (pe.run _ s9 σ8 H9 _ I9 q9) (fun z s10 ⟨yv, H10, I10, r10, acc, hD10, hz10, nx⟩ => ?_) errs
        refine app_ok (X := X.blk s3 H3 scope ce fp) (ofXX I10) hD10 hz10 r10 fun s11 I11 => fin I11 nx
  exact codeAny_compStart_list loop (T.self X.A 0 _ _ _ st4 loop)
theorem pe_lcx {elt tg iter : Expr} {ifs : List Expr} {scope : Scope} {own : List (Str × Nat)} {pos : Pos} {wi : TI} {g : TG} {tt : TT} {te : TE} {E : XK} (hss : X.stack = X.env :: X.outer) (hff : X.env.frame = some X.env.locals) (tk : L2.Takes X (fun cls d _ H => E cls d H)) (hc : X.calm = true) (hN : X.N.Nodup) (hi : PI X tg iter wi) (ok : BlkOk X.N X.env.scope scope own)
    (hg : ∀ (s : Shared) (H : Hp) (C : Addr) (cl : List (Str × Addr)) (fp : List Addr), PG (Cxx (X.blk s H scope (compEnvC scope cl C X.env) fp) (XB (X.blk s H scope (compEnvC scope cl C X.env) fp) E)) tg g) (ht : ∀ (s : Shared) (H : Hp) (C : Addr) (cl : List (Str × Addr)) (fp : List Addr), PTs (Cxx (X.blk s H scope (compEnvC scope cl C X.env) fp) (XB (X.blk s H scope (compEnvC scope cl C X.env) fp) E)) ifs tt)
    (he : ∀ (s : Shared) (H : Hp) (C : Addr) (cl : List (Str × Addr)) (fp : List Addr), PE (Cxx (X.blk s H scope (compEnvC scope cl C X.env) fp) (XB (X.blk s H scope (compEnvC scope cl C X.env) fp) E)) elt te) (hs : ∀ x, foldedSetIterable iter X.env x = pure x := by intro _; rfl) :
    PE X (.ListComp elt [⟨tg, iter, ifs, 0⟩] scope pos) (tLc wi g tt te (own.map (·.2))) := by
  refine ⟨fun pins s σ H Q I h => ?_⟩
  rw [eval_ListComp]
  refine lcx_core hss hff tk hc hN I hi ok hg ht he hs h fun D C s' m H' I' q hn f => ⟨m, hn, fun h'' sb => ?_⟩
  obtain ⟨f0, f1, f2, f3, f4, f5⟩ := f
  exact ⟨.ref D, H', I'.turned (t' := s'.toks) (fun b o hb e => (sb.2 b hb).trans e) f0 f1 f3 f4 f5, rfl, q⟩
theorem ps_setLcx {i : Nat} {y : Str} {py : Pos} {elt tg iter : Expr} {ifs : List Expr} {scope : Scope} {own : List (Str × Nat)} {pos spos : Pos} {wi : TI} {g : TG} {tt : TT} {te : TE} {E : XK} (hss : X.stack = X.env :: X.outer) (hff : X.env.frame = some X.env.locals) (tk : L2.Takes X (fun cls d _ H => E cls d H)) (hc : X.calm = true) (hN : X.N.Nodup) (hy : X.N[i]? = some y) (hyl : X.env.scope.names.lookup y = some .local)
    (hsw : swapsWith (.ListComp elt [⟨tg, iter, ifs, 0⟩] scope pos) (some (.Name y py)) spos.line X.env = pure true) (hi : PI X tg iter wi) (ok : BlkOk X.N X.env.scope scope own)
    (hg : ∀ (s : Shared) (H : Hp) (C : Addr) (cl : List (Str × Addr)) (fp : List Addr), PG (Cxx (X.blk s H scope (compEnvC scope cl C X.env) fp) (XB (X.blk s H scope (compEnvC scope cl C X.env) fp) E)) tg g) (ht : ∀ (s : Shared) (H : Hp) (C : Addr) (cl : List (Str × Addr)) (fp : List Addr), PTs (Cxx (X.blk s H scope (compEnvC scope cl C X.env) fp) (XB (X.blk s H scope (compEnvC scope cl C X.env) fp) E)) ifs tt)
    (he : ∀ (s : Shared) (H : Hp) (C : Addr) (cl : List (Str × Addr)) (fp : List Addr), PE (Cxx (X.blk s H scope (compEnvC scope cl C X.env) fp) (XB (X.blk s H scope (compEnvC scope cl C X.env) fp) E)) elt te) (hs : ∀ x, foldedSetIterable iter X.env x = pure x := by intro _; rfl) :
    PS X (.Assign [.Name y py] (.ListComp elt [⟨tg, iter, ifs, 0⟩] scope pos) spos) (tAsg (tLc wi g tt te (own.map (·.2))) (gName i)) := by
  refine ⟨fun pins s σ H D I h => ?_⟩
  rw [exec_Assign_Name_used _ _ _ _ hsw]
  refine wpAny_bind (wpAny_standAt (wpAny_bind ?_))
  show wpAny _ X.A (do let _ ← comprehension (.ListComp elt [⟨tg, iter, ifs, 0⟩] scope pos) scope X.env (firstIterPos [⟨tg, iter, ifs, 0⟩] pos) (newList []) false (eval iter X.env) (some (assign (.Name y py) X.env))) _ _ s
  have h : tLc wi g tt te (own.map (·.2)) σ H (fun x H1 => gName i x σ H1 D.nx) := h
  refine wpAny_bind (thn (lcx_core (Qf := fun _ s' => SP X pins D .next s') hss hff tk hc hN I hi ok hg ht he hs h fun L C s' m H' I' q hn f => ?_) fun _ s' hq => wpAny_pure (wpAny_pure hq))
  show wpAny _ _ (assign (.Name y py) X.env (.ref L)) _ _ _
  refine wpAny_assign_Name (store_ok2 (v := V.ref L) I' hN hy (.inl hyl) rfl (fun s2 I2 ⟨a, sb, ha⟩ => ?_) (.inr hyl))
  obtain ⟨f0, f1, f2, f3, f4, f5⟩ := f
  have haC : C ≠ a := by
    rcases ha with z | z
    · rw [z]; exact f1
    · exact fun e => f4 y a z e.symm
  refine ⟨m, hn.sameBut sb haC, fun h3 sb3 => ?_⟩
  exact ⟨_, H', I2.turned (t' := s2.toks) (fun b o hb e => (sb3.2 b hb).trans e) f0 f1 f3 f4 f5, q⟩
theorem u_lcx {elt tg iter : Expr} {ifs : List Expr} {scope : Scope} {own : List (Str × Nat)} {pos : Pos} {wi : TI} {g : TG} {tt : TT} {te : TE} {E : XK} (hss : X.stack = X.env :: X.outer) (hff : X.env.frame = some X.env.locals) (tk : L2.Takes X (fun cls d _ H => E cls d H)) (hc : X.calm = true) (hN : X.N.Nodup) (hi : PI X tg iter wi) (ok : BlkOk X.N X.env.scope scope own)
    (hg : ∀ (s : Shared) (H : Hp) (C : Addr) (cl : List (Str × Addr)) (fp : List Addr), PG (Cxx (X.blk s H scope (compEnvC scope cl C X.env) fp) (XB (X.blk s H scope (compEnvC scope cl C X.env) fp) E)) tg g) (ht : ∀ (s : Shared) (H : Hp) (C : Addr) (cl : List (Str × Addr)) (fp : List Addr), PTs (Cxx (X.blk s H scope (compEnvC scope cl C X.env) fp) (XB (X.blk s H scope (compEnvC scope cl C X.env) fp) E)) ifs tt)
    (he : ∀ (s : Shared) (H : Hp) (C : Addr) (cl : List (Str × Addr)) (fp : List Addr), PE (Cxx (X.blk s H scope (compEnvC scope cl C X.env) fp) (XB (X.blk s H scope (compEnvC scope cl C X.env) fp) E)) elt te) (hs : ∀ x, foldedSetIterable iter X.env x = pure x := by intro _; rfl) :
    PE X (.ListComp elt [⟨tg, iter, ifs, 0⟩] scope pos) (uLc wi g tt te (own.map (·.2))) := by
  unfold uLc
  exact pe_lcx hss hff tk hc hN hi ok hg ht he hs
theorem u_setLcx {i : Nat} {y : Str} {py : Pos} {elt tg iter : Expr} {ifs : List Expr} {scope : Scope} {own : List (Str × Nat)} {pos spos : Pos} {wi : TI} {g : TG} {tt : TT} {te : TE} {E : XK} (hss : X.stack = X.env :: X.outer) (hff : X.env.frame = some X.env.locals) (tk : L2.Takes X (fun cls d _ H => E cls d H)) (hc : X.calm = true) (hN : X.N.Nodup) (hy : X.N[i]? = some y) (hyl : X.env.scope.names.lookup y = some .local)
    (hsw : swapsWith (.ListComp elt [⟨tg, iter, ifs, 0⟩] scope pos) (some (.Name y py)) spos.line X.env = pure true) (hi : PI X tg iter wi) (ok : BlkOk X.N X.env.scope scope own)
    (hg : ∀ (s : Shared) (H : Hp) (C : Addr) (cl : List (Str × Addr)) (fp : List Addr), PG (Cxx (X.blk s H scope (compEnvC scope cl C X.env) fp) (XB (X.blk s H scope (compEnvC scope cl C X.env) fp) E)) tg g) (ht : ∀ (s : Shared) (H : Hp) (C : Addr) (cl : List (Str × Addr)) (fp : List Addr), PTs (Cxx (X.blk s H scope (compEnvC scope cl C X.env) fp) (XB (X.blk s H scope (compEnvC scope cl C X.env) fp) E)) ifs tt)
    (he : ∀ (s : Shared) (H : Hp) (C : Addr) (cl : List (Str × Addr)) (fp : List Addr), PE (Cxx (X.blk s H scope (compEnvC scope cl C X.env) fp) (XB (X.blk s H scope (compEnvC scope cl C X.env) fp) E)) elt te) (hs : ∀ x, foldedSetIterable iter X.env x = pure x := by intro _; rfl) :
    PS X (.Assign [.Name y py] (.ListComp elt [⟨tg, iter, ifs, 0⟩] scope pos) spos) (tAsg (uLc wi g tt te (own.map (·.2))) (gName i)) := by
  unfold uLc
  exact ps_setLcx hss hff tk hc hN hy hyl hsw hi ok hg ht he hs
end
end U
namespace U
open PySem PySem.Spec PyProof.Rows L2
section
variable {X : Cx} {CX : CXT} {k : Nat} {x : Str} {ps : List Str} {sp : Sp} {dvs : List V} {e : Expr} {es : List Expr} {t : TA} {p pos : Pos}
theorem Cal.peS {E : L2.St → XK} (c : Cal X.prog X.w X.K X.mg X.base CX k x ps sp) (hr : Room k X.A) (hx : ∀ σ, PassesAt CX X σ (E σ))
    (ha : PA X (e :: es) t) (hg : Gl X x := by rfl) (hdb : (x == ("__debug__" : Str)) = false := by decide) (he : starEach (e :: es) X.env = (false, eval e X.env) :: starEach es X.env := by rfl) (hpl : (backTo pos (starEach es X.env)).any (·.1) = false := by rfl) :
    PE X (.Call (.Name x p) (e :: es) [] pos) (tCallS sp E t) := by
  obtain ⟨f, fd, F, m, kp, b⟩ := c.ex
  exact pe_callS F hr hg m kp b hx ha hdb he hpl
theorem CalD.peSD {E : L2.St → XK} (c : CalD X.prog X.w X.K X.mg X.base CX k x ps sp dvs) (hr : Room k X.A) (hx : ∀ σ, PassesAt CX X σ (E σ))
    (ha : PA X (e :: es) t) (hg : Gl X x := by rfl) (hdb : (x == ("__debug__" : Str)) = false := by decide) (he : starEach (e :: es) X.env = (false, eval e X.env) :: starEach es X.env := by rfl) (hpl : (backTo pos (starEach es X.env)).any (·.1) = false := by rfl) :
    PE X (.Call (.Name x p) (e :: es) [] pos) (tCallSD sp dvs E t) := by
  obtain ⟨f, fd, F, m, kp, _, ds, hd, b⟩ := c.ex
  exact pe_callSD F hr hg m kp b hd hx ha hdb he hpl
end
end U
namespace U
open PySem PySem.Spec PyProof.Rows L2
def repS (a : Str) (n : Nat) : Str := ⟨(List.replicate n a.cps).foldl (· ++ ·) #[]⟩
theorem repS_tl (a : Str) (n : Nat) : (repS a n).cps.toList = (List.replicate n a.cps.toList).flatten := by
  have h : ∀ (l : List (Array Nat)) (acc : Array Nat), (l.foldl (· ++ ·) acc).toList = acc.toList ++ (l.map Array.toList).flatten := fun l => by
    induction l with
    | nil => intro acc; simp
    | cons x l ih => intro acc; rw [List.foldl_cons, ih]; simp
  have e := h (List.replicate n a.cps) #[]
  unfold repS
  rw [e]
  simp
theorem repS_len (a : Str) (n : Nat) : (repS a n).length = n * a.length := by
  have e : (repS a n).length = (repS a n).cps.toList.length := by simp [Str.length]
  have e2 : a.length = a.cps.toList.length := by simp [Str.length]
  rw [e, e2, repS_tl]
  simp
def cMulS : R2 := fun x y H Q => match x, y with
  | .str i, .int k => 2 ≤ k ∧ k ≤ 1000 ∧ 1 ≤ i.length ∧ i.length ≤ 1000 ∧ Q (.str (repS i k.toNat)) H
  | _, _ => False
theorem o_mulS {X : Cx} : OpR X (binaryOp .Mult) cMulS := by
  intro pins s σ H x y v u Q I rx ry h
  match x, y, h with
  | .str i, .int k, h =>
    obtain ⟨h1, h2, h3, h4, q⟩ := h
    obtain ⟨t, rfl⟩ := rx
    obtain ⟨t', rfl⟩ := ry
    have c1 : (k == 1 || i.length == 0) = false := by
      rw [Bool.or_eq_false_iff]
      exact ⟨beq_eq_false_iff_ne.mpr (by omega), beq_eq_false_iff_ne.mpr (by omega)⟩
    refine PySem.P.mul_str (by rw [decide_eq_false (by omega), decide_eq_false (by omega)] <;> rfl) (fun _ _ => ?_) (fun _ _ => ?_) ?_
    · have hk : (1000 : Int) ≤ (2 ^ 63 - 1) / k := (Int.le_ediv_iff_mul_le (by omega)).mpr (by omega)
      omega
    · unfold Builtin.Str.tooLong
      refine decide_eq_false ?_
      have : i.length * k.toNat ≤ 1000 * 1000 := Nat.mul_le_mul h4 (by omega)
      have e : sizeLine = 16777216 := by decide
      omega
    · rw [if_neg (by omega), if_neg (by rw [c1]; exact Bool.false_ne_true)]
      refine ⟨?_, ⟨.str (repS i k.toNat), H, I.tok _, ⟨_, rfl⟩, q⟩⟩
      show (repS i k.toNat).length ≤ sizeLine
      rw [repS_len]
      have : k.toNat * i.length ≤ 1000 * 1000 := Nat.mul_le_mul (by omega) h4
      have e : sizeLine = 16777216 := by decide
      omega
end U

namespace Peg
open PySem PySem.Spec PyProof.Rows L2 U
/-! ### Against.__init__ -/
abbrev N_Against___init__ : List Str := ["self", "trail"]
def sp_Against___init__ (K : PySem.W.Frag) (A : Ad) : Sp := fun vs H Q _ => ∃ (a : Addr) (v : V), vs = [.ref a, v] ∧ H a = some (exo a A.Against none) ∧
  ∀ dx, H dx = none → dx ≠ a → Q .non (upd (upd H dx (exd dx [("trail", v)])) a (exo a A.Against (some dx)))
def t_Against___init__ (K : PySem.W.Frag) (A : Ad) : TS :=
  (tSeq (tDrop (tVeI K (tCons (uVar 0) (tCons (tC (.str "a way tells another rise")) tNil))))
  (tOst K "trail" (uVar 0) (uVar 1)))
theorem rd_Against___init__ {K : PySem.W.Frag} {A : Ad} (T : Tx K A) {vs : List V} {H : Hp} {Q : VK} {E : XK} (h : sp_Against___init__ K A vs H Q E) : t_Against___init__ K A { nx := fun _ H' => Q .non H', rt := Q } (start N_Against___init__ vs) H := by
  obtain ⟨a, v, rfl, ha, q⟩ := h
  exact ⟨a, A.Against, [.str "a way tells another rise"], rfl, by decide, T.o_Against, ha, a, A.Against, rfl, T.o_Against, T.n_trail, .inl ⟨ha, q⟩⟩
/-! ### NoWay.__init__ -/
abbrev N_NoWay___init__ : List Str := ["self", "near"]
def sp_NoWay___init__ (K : PySem.W.Frag) (A : Ad) : Sp := fun vs H Q _ => ∃ (a : Addr) (v : V), vs = [.ref a, v] ∧ H a = some (exo a A.NoWay none) ∧
  ∀ dx, H dx = none → dx ≠ a → Q .non (upd (upd H dx (exd dx [("near", v)])) a (exo a A.NoWay (some dx)))
def t_NoWay___init__ (K : PySem.W.Frag) (A : Ad) : TS :=
  (tSeq (tDrop (tVeI K (tCons (uVar 0) (tCons (tC (.str "no way leads there")) tNil))))
  (tOst K "near" (uVar 0) (uVar 1)))
theorem rd_NoWay___init__ {K : PySem.W.Frag} {A : Ad} (T : Tx K A) {vs : List V} {H : Hp} {Q : VK} {E : XK} (h : sp_NoWay___init__ K A vs H Q E) : t_NoWay___init__ K A { nx := fun _ H' => Q .non H', rt := Q } (start N_NoWay___init__ vs) H := by
  obtain ⟨a, v, rfl, ha, q⟩ := h
  exact ⟨a, A.NoWay, [.str "no way leads there"], rfl, by decide, T.o_NoWay, ha, a, A.NoWay, rfl, T.o_NoWay, T.n_near, .inl ⟨ha, q⟩⟩
/-! ### is_whole -/
abbrev N_is_whole : List Str := ["thing"]
/-- a whole number -/
def wholeB : V → Bool
  | .int _ => true
  | _ => false
theorem Knd.whole {K : PySem.W.Frag} {H : Hp} {v : V} {n : String} (k : Knd K H v n) : ((n == "int" || n == "bool") && !(n == "bool")) = wholeB v := by
  cases k <;> simp [wholeB]
def sp_is_whole (K : PySem.W.Frag) : Sp := fun vs H Q _ => ∃ (v : V) (n : String), vs = [v] ∧ Knd K H v n ∧ Q (.bl (wholeB v)) H
def t_is_whole (K : PySem.W.Frag) : TS :=
  (tRet (uAndV (tCB (cIsi K) (tCons (uVar 0) (tCons (tC (.ty "int")) tNil))) (uNotV (tCB (cIsi K) (tCons (uVar 0) (tCons (tC (.ty "bool")) tNil))))))
theorem rd_is_whole {K : PySem.W.Frag} {vs : List V} {H : Hp} {Q : VK} {E : XK} (h : sp_is_whole K vs H Q E) : t_is_whole K { nx := fun _ H' => Q .non H', rt := Q } (start N_is_whole vs) H := by
  obtain ⟨v, n, rfl, k, q⟩ := h
  rw [← k.whole] at q
  refine ⟨_, _, k.ty, k.isInt, ⟨fun e => ⟨_, _, k.ty, k.isBool, ?_⟩, fun e => ?_⟩⟩
  · rw [e, Bool.true_and] at q
    exact q
  · rw [e, Bool.false_and] at q
    exact q
/-! ### is_peg -/
abbrev N_is_peg : List Str := ["thing", "letter"]
/-- small letters alone -/
def azB (z : Str) : Bool := z.cps.toList.all fun c => decide (c ∈ az.cps.toList)
def pegS (z : Str) : Bool := decide (1 ≤ z.length) && decide (z.length ≤ 8) && azB z
def pegB : V → Bool
  | .str z => pegS z
  | _ => false
theorem pegB_not {K : PySem.W.Frag} {H : Hp} {v : V} {n : String} (k : Knd K H v n) (e : (n == "str") = false) : pegB v = false := by
  cases k <;> first | rfl | exact absurd e (by decide)
def sp_is_peg (K : PySem.W.Frag) : Sp := fun vs H Q _ => ∃ (v : V) (n : String), vs = [v] ∧ Knd K H v n ∧ Q (.bl (pegB v)) H
def lp1_is_peg (K : PySem.W.Frag) : TS :=
  (tFor (iStr (uVar 0)) (gName 1)
  (uIfS (uT (tOp (cSign false) (uVar 1) (tC (.str "abcdefghijklmnopqrstuvwxyz"))))
  (tRet (tC (.bl false)))
  tNext))
def t_is_peg (K : PySem.W.Frag) : TS :=
  (tSeq (uIfS (uOr (uNot (uT (tCB (cIsi K) (tCons (uVar 0) (tCons (tC (.ty "str")) tNil))))) (uOr (uT (tOp kLt (tCB cLenS (tCons (uVar 0) tNil)) (tC (.int 1)))) (uT (tOp kGt (tCB cLenS (tCons (uVar 0) tNil)) (tC (.int 8))))))
  (tRet (tC (.bl false)))
  tNext)
  (tSeq (lp1_is_peg K)
  (tRet (tC (.bl true)))))
theorem rd_is_peg {K : PySem.W.Frag} {vs : List V} {H : Hp} {Q : VK} {E : XK} (h : sp_is_peg K vs H Q E) : t_is_peg K { nx := fun _ H' => Q .non H', rt := Q } (start N_is_peg vs) H := by
  obtain ⟨v, n, rfl, k, q⟩ := h
  refine ⟨_, _, k.ty, k.isStr, ⟨fun e => ?_, fun e => ?_⟩⟩
  · have e : (n == "str") = false := by simpa using e
    rw [pegB_not k e] at q
    exact br_t q
  have e : n = "str" := by simpa using e
  obtain ⟨z, rfl, hz⟩ := k.str_inv e
  have hz' := sz hz
  refine ⟨hz', ⟨fun e => ?_, fun e => ⟨hz', ⟨fun e2 => ?_, fun e2 => ?_⟩⟩⟩⟩
  · have e := of_decide_eq_true e
    have e1 : pegB (.str z) = false := by
      show (decide (1 ≤ z.length) && decide (z.length ≤ 8) && azB z) = false
      rw [decide_eq_false (by omega)]
      rfl
    rw [e1] at q
    exact br_t q
  · have e2 := of_decide_eq_true e2
    have e1 : pegB (.str z) = false := by
      show (decide (1 ≤ z.length) && decide (z.length ≤ 8) && azB z) = false
      rw [decide_eq_false (p := z.length ≤ 8) (by omega), Bool.and_false]
      rfl
    rw [e1] at q
    exact q
  have e := of_decide_eq_false e
  have e2 := of_decide_eq_false e2
  have ep : pegB (.str z) = azB z := by
    show (decide (1 ≤ z.length) && decide (z.length ≤ 8) && azB z) = azB z
    rw [decide_eq_true (by omega), decide_eq_true (by omega)]
    rfl
  rw [ep] at q
  refine ⟨z, rfl, for_str (x := z) (fun i σ H' => H' = H ∧ (∀ c ∈ z.cps.toList.take i, c ∈ az.cps.toList) ∧ ∃ w, σ = [some (.str z), w]) ⟨rfl, (fun c h => by simp at h), _, rfl⟩ ?_ ?_⟩
  · rintro i c σ H' hc ⟨rfl, al, w, rfl⟩
    refine ⟨c, rfl, ⟨fun e => ?_, fun e => ⟨rfl, ?_, some (.str ⟨#[c]⟩), rfl⟩⟩⟩
    · have e : ¬ c ∈ az.cps.toList := by simpa using e
      have e1 : azB z = false := by
        unfold azB
        rw [List.all_eq_false]
        exact ⟨c, List.mem_of_getElem? hc, by simpa using e⟩
      rw [e1] at q
      exact q
    · have e : c ∈ az.cps.toList := by simpa using e
      intro d hd
      rw [List.take_add_one, hc] at hd
      rcases List.mem_append.mp hd with h | h
      · exact al d h
      · have h : d = c := by simpa using h
        rw [h]
        exact e
  · rintro σ H' ⟨rfl, al, w, rfl⟩
    have e1 : azB z = true := by
      unfold azB
      rw [List.all_eq_true]
      intro c hc
      exact decide_eq_true (al c (by rw [List.take_length]; exact hc))
    rw [e1] at q
    exact q
/-! ### is_sighting -/
abbrev N_is_sighting : List Str := ["thing"]
def riseB : V → Bool
  | .int i => decide (-(10 ^ 60) < i ∧ i < 10 ^ 60)
  | _ => false
/-- three things that are a sighting's -/
def sigB : List V → Bool
  | [x, y, z] => pegB x && pegB y && riseB z
  | _ => false
theorem abs_rise (i : Int) : decide ((if i < 0 then -i else i) < 10 ^ 60) = riseB (.int i) := by
  show _ = decide (-(10 ^ 60) < i ∧ i < 10 ^ 60)
  by_cases h : i < 0
  · rw [if_pos h]
    exact decide_eq_decide.mpr ⟨fun q => ⟨by omega, by omega⟩, fun q => by omega⟩
  · rw [if_neg h]
    exact decide_eq_decide.mpr ⟨fun q => ⟨by omega, by omega⟩, fun q => by omega⟩
/-- a thing: of a known kind -/
def Some7 (K : PySem.W.Frag) (H : Hp) (v : V) : Prop := ∃ n, Knd K H v n
def sp_is_sighting (K : PySem.W.Frag) : Sp := fun vs H Q _ => ∃ (v : V), vs = [v] ∧
  ((∃ n, Knd K H v n ∧ n ≠ "tuple" ∧ Q (.bl false) H) ∨ ∃ (a : Addr) (xs : List V), v = .ref a ∧ SqT K H a xs ∧ (∀ x ∈ xs, Some7 K H x) ∧ Q (.bl (sigB xs)) H)
def t_is_sighting (K : PySem.W.Frag) : TS :=
  (tSeq (uIfS (uOr (uNot (uT (tCB (cIsi K) (tCons (uVar 0) (tCons (tC (.ty "tuple")) tNil))))) (uT (tOp kNeI (tCB (cLenQ K) (tCons (uVar 0) tNil)) (tC (.int 3)))))
  (tRet (tC (.bl false)))
  tNext)
  (tSeq (uIfS (uOr (uNot (uT (tCall (sp_is_peg K) [] E0 (tCons (tOp (cIxT K) (uVar 0) (tC (.int 0))) tNil)))) (uNot (uT (tCall (sp_is_peg K) [] E0 (tCons (tOp (cIxT K) (uVar 0) (tC (.int 1))) tNil)))))
  (tRet (tC (.bl false)))
  tNext)
  (tRet (uAndV (tCall (sp_is_whole K) [] E0 (tCons (tOp (cIxT K) (uVar 0) (tC (.int 2))) tNil)) (tOp kLt (tCB cAbs (tCons (tOp (cIxT K) (uVar 0) (tC (.int 2))) tNil)) (tC (.int (10 ^ 60))))))))
theorem rd_is_sighting {K : PySem.W.Frag} {vs : List V} {H : Hp} {Q : VK} {E : XK} (h : sp_is_sighting K vs H Q E) : t_is_sighting K { nx := fun _ H' => Q .non H', rt := Q } (start N_is_sighting vs) H := by
  obtain ⟨v, rfl, q⟩ := h
  rcases q with ⟨n, k, hn, q⟩ | ⟨a, xs, rfl, hx, all, q⟩
  · have e : (n == "tuple") = false := by simpa using hn
    exact ⟨_, _, k.ty, k.isTup, br_tt (by rw [e]; rfl) (br_t q)⟩
  refine ⟨_, _, ty_tup hx, (by decide +kernel : kitB "tuple" "tuple" = some true), br_f ⟨xs, .inr hx, ?_⟩⟩
  match xs, hx, all, q with
  | [], _, _, q => exact br_t q
  | [_], _, _, q => exact br_t q
  | [_, _], _, _, q => exact br_t q
  | a :: b :: c :: d :: r, _, _, q =>
    refine br_tt ?_ q
    have e : ((a :: b :: c :: d :: r).length : Int) ≠ 3 := by simp only [List.length_cons]; omega
    rw [decide_eq_false e]
    rfl
  | [x, y, z], hx, all, q =>
    obtain ⟨nx, kx⟩ := all x (by simp)
    obtain ⟨ny, ky⟩ := all y (by simp)
    obtain ⟨nz, kz⟩ := all z (by simp)
    refine br_f ⟨_, x, hx, rfl, x, nx, rfl, kx, ⟨fun e => ?_, fun e => ⟨_, y, hx, rfl, y, ny, rfl, ky, ⟨fun e2 => ?_, fun e2 => ?_⟩⟩⟩⟩
    · have e : pegB x = false := by simpa using e
      have e1 : sigB [x, y, z] = false := by
        show (pegB x && pegB y && riseB z) = false
        rw [e]
        rfl
      rw [e1] at q
      exact br_t q
    · have e2 : pegB y = false := by simpa using e2
      have e1 : sigB [x, y, z] = false := by
        show (pegB x && pegB y && riseB z) = false
        rw [e2, Bool.and_false]
        rfl
      rw [e1] at q
      exact q
    · have e : pegB x = true := by simpa using e
      have e2 : pegB y = true := by simpa using e2
      have e1 : sigB [x, y, z] = riseB z := by
        show (pegB x && pegB y && riseB z) = riseB z
        rw [e, e2]
        rfl
      rw [e1] at q
      refine ⟨_, z, hx, rfl, z, nz, rfl, kz, ⟨fun e3 => ?_, fun e3 => ?_⟩⟩
      · cases z with
        | int i =>
          refine ⟨_, _, hx, rfl, ?_⟩
          rw [← abs_rise] at q
          exact q
        | _ => exact absurd (show false = true from e3) (by decide)
      · have e4 : riseB z = false := by
          cases z with
          | int i => exact absurd (show true = false from e3) (by decide)
          | _ => rfl
        rw [e4] at q
        exact q
/-! ### row_turned -/
abbrev N_row_turned : List Str := ["row"]
def sp_row_turned (K : PySem.W.Frag) : Sp := fun vs H Q _ => ∃ (v : V) (r : Row), vs = [v] ∧ Dp K H v (rowD r) ∧ ∀ (t : Addr) (H' : Hp), Same H H' → Dp K H' (.ref t) (rowD r.turn) → Q (.ref t) H'
def t_row_turned (K : PySem.W.Frag) : TS :=
  (tRet (uTup (tCons (tOp (cIxT K) (uVar 0) (tC (.int 0))) (tCons (tOp (cIxT K) (uVar 0) (tC (.int 2))) (tCons (tOp (cIxT K) (uVar 0) (tC (.int 1))) (tCons (tOp kSub (tC (.int 0)) (tOp (cIxT K) (uVar 0) (tC (.int 3)))) tNil))))))
theorem rd_row_turned {K : PySem.W.Frag} {vs : List V} {H : Hp} {Q : VK} {E : XK} (h : sp_row_turned K vs H Q E) : t_row_turned K { nx := fun _ H' => Q .non H', rt := Q } (start N_row_turned vs) H := by
  obtain ⟨v, r, rfl, d, q⟩ := h
  obtain ⟨a, rfl, h⟩ := row_at d
  exact ⟨_, _, h, rfl, _, _, h, rfl, _, _, h, rfl, _, _, h, rfl, szr rfl, fun t H2 n s e => q t H2 s (row_mk (SqT.of e))⟩
/-! ### total -/
abbrev N_total : List Str := ["steps", "found", "step"]
/-- the sum of the rises -/
def total (rows : List Row) : Int := (rows.map Row.rise).sum
theorem total_take {rows : List Row} {i : Nat} {r : Row} (e : rows[i]? = some r) : total (rows.take (i + 1)) = total (rows.take i) + r.rise := by
  unfold total
  rw [List.map_take, List.map_take]
  exact sum_take (by rw [List.getElem?_map, e]; rfl)
def sp_total (K : PySem.W.Frag) : Sp := fun vs H Q _ => ∃ (v : V) (rows : List Row), vs = [v] ∧ Dp K H v (rowsD rows) ∧ Q (.int (total rows)) H
def lp1_total (K : PySem.W.Frag) : TS :=
  (tFor (iList K (uVar 0)) (gName 2)
  (tAsg (tOp kAdd (uVar 1) (tOp (cIxT K) (uVar 2) (tC (.int 3)))) (gName 1)))
def t_total (K : PySem.W.Frag) : TS :=
  (tSeq (tAsg (tC (.int 0)) (gName 1))
  (tSeq (lp1_total K)
  (tRet (uVar 1))))
theorem rd_total {K : PySem.W.Frag} {vs : List V} {H : Hp} {Q : VK} {E : XK} (h : sp_total K vs H Q E) : t_total K { nx := fun _ H' => Q .non H', rt := Q } (start N_total vs) H := by
  obtain ⟨v, rows, rfl, hr, q⟩ := h
  obtain ⟨a, xs, rfl, hl, hlen, hx⟩ := rows_at hr
  refine ⟨a, rfl, ⟨xs, hl⟩, for_list (K := K) (a := a) (xs := xs) (fun i σ H' => H' = H ∧ ∃ w, σ = [some (.ref a), some (.int (total (rows.take i))), w]) ⟨rfl, _, rfl⟩ (fun i σ H' _ h => by rw [h.1]; exact hl) ?_ ?_⟩
  · rintro i x σ H' e ⟨rfl, w, rfl⟩
    obtain ⟨r, t, er, rfl, ht⟩ := hx i x e
    refine ⟨_, _, ht, rfl, rfl, some (.ref t), ?_⟩
    rw [total_take er]
    rfl
  · rintro σ H' ⟨rfl, w, rfl⟩
    rw [hlen, List.take_length]
    exact q
/-! ### leaving -/
abbrev N_leaving : List Str := ["rows", "links", "row"]
def sp_leaving (K : PySem.W.Frag) : Sp := fun vs H Q _ => ∃ (v : V) (rows : List Row), vs = [v] ∧ Dp K H v (rowsD rows) ∧ rows.length ≤ 1000 ∧ ∀ (d : Addr) (H' : Hp), Same H H' → LinksOf K H' d rows → Q (.ref d) H'
def lp1_leaving (K : PySem.W.Frag) : TS :=
  (tFor (iList K (uVar 0)) (gName 2)
  (tSeq (tDrop (tBM K "list" cApp (uDSetd (uVar 1) (tOp (cIxT K) (uVar 2) (tC (.int 1))) (uLst tNil)) (tCons (uVar 2) tNil)))
  (tDrop (tBM K "list" cApp (uDSetd (uVar 1) (tOp (cIxT K) (uVar 2) (tC (.int 2))) (uLst tNil)) (tCons (tCall (sp_row_turned K) [] E0 (tCons (uVar 2) tNil)) tNil)))))
def t_leaving (K : PySem.W.Frag) : TS :=
  (tSeq (tAsg uDNew (gName 1))
  (tSeq (lp1_leaving K)
  (tRet (uVar 1))))
/-- links.setdefault(k, []).append(e), e the step s's row -/
theorem link_add {K : PySem.W.Frag} {H0 H : Hp} {d : Addr} {S : List Row} {L : List (Str × Addr × List V)} (h : Links K H d S L) (s0 : Same H0 H) (h0 : H0 d = none) (hL : ∀ e ∈ L, H0 e.2.1 = none) (hl : L.length < 10000) (hS : S.length < 10000)
    {s : Row} {k : Str} (hk : s.one = k) {v0 w0 : Option V} {σ : L2.St} (hσ : σ = [v0, some (.ref d), w0]) {D : Ends} {tk tv : TE} (ek : ∀ (R : VK), R (.str k) H → tk σ H R)
    (ev : ∀ (H1 : Hp) (R : VK), Tups H H1 → (∀ (t : Addr) (H2 : Hp), Same H1 H2 → Dp K H2 (.ref t) (rowD s) → R (.ref t) H2) → tv σ H1 R)
    (q : ∀ (L' : List (Str × Addr × List V)) (H' : Hp), Same H0 H' → Tups H H' → Links K H' d (S ++ [s]) L' → (∀ e ∈ L', H0 e.2.1 = none) → L'.length ≤ L.length + 1 → (∀ p ∈ L'.map (·.1), p ∈ L.map (·.1) ∨ p = k) → D.nx σ H') :
    tDrop (tBM K "list" cApp (uDSetd (uVar 1) tk (uLst tNil)) (tCons tv tNil)) D σ H := by
  subst hσ
  refine ⟨⟨_, h.dict⟩, ek _ ⟨szr rfl, fun z H1 nz s1 t1 => ⟨_, Sum.inr k, s1 _ _ h.dict, rfl, szl (by rw [List.length_map]; omega), fun v hv => ?_, fun hn => fun H2 c2 e2 => ?_⟩⟩⟩
  · -- there
    have hm : k ∈ L.map (·.1) := Decidable.by_contra fun m => by rw [h.none m] at hv; cases hv
    obtain ⟨e, he, rfl⟩ := List.mem_map.mp hm
    rw [h.get he] at hv
    have hv := (Option.some.inj hv).symm
    subst hv
    have h1 := h.mono s1
    refine ⟨.inl ⟨rfl, _, SqL.of (h1.it e he).1⟩, ev H1 _ (tups_of s1) fun t H2 s2 dt => ?_⟩
    have h2 := h1.mono s2
    have hlen : e.2.2.length < 100000 := by
      have a := dpAll_length (h2.it e he).2
      rw [List.length_map] at a
      have b := from_len S e.1
      omega
    refine ⟨_, (h2.it e he).1, szl hlen, fun H3 c3 t3 => ?_⟩
    have h3 := h2.add he hk dt c3 t3
    have m1 : (L.map fun x => if x.1 = e.1 then (x.1, x.2.1, x.2.2 ++ [V.ref t]) else x).map (·.1) = L.map (·.1) := by
      rw [List.map_map]
      refine List.map_congr_left fun x _ => ?_
      show (if x.1 = e.1 then (x.1, x.2.1, x.2.2 ++ [V.ref t]) else x).1 = x.1
      split <;> rfl
    refine q _ H3 ((same_chd ((s0.trans s1).trans s2) c3 (hL e he))) (((tups_of s1).trans (tups_of s2)).trans (tups_chd c3 (h2.it e he).1 True.intro)) h3 (fun x hx => ?_) (by rw [List.length_map]; omega) (fun p hp => ?_)
    · obtain ⟨y, hy, ey⟩ := List.mem_map.mp hx
      subst ey
      have g := hL y hy
      show H0 (if y.1 = e.1 then (y.1, y.2.1, y.2.2 ++ [V.ref t]) else y).2.1 = none
      split <;> exact g
    · rw [m1] at hp
      exact .inl hp
  · -- new
    have hm : ¬ k ∈ L.map (·.1) := fun m => by
      obtain ⟨e, he, rfl⟩ := List.mem_map.mp m
      rw [h.get he] at hn
      cases hn
    have h2 := h.new hm nz s1 t1 c2 e2
    have zd : z ≠ d := ne_of t1 (s1 _ _ h.dict) (by intro q; cases q)
    have t2 : H2 z = some (.lst []) := c2 _ _ zd t1
    have tp2 : Tups H H2 := (tups_of s1).trans (tups_chd c2 (s1 _ _ h.dict) True.intro)
    have s02 : Same H0 H2 := same_chd (s0.trans s1) c2 h0
    have z0 : H0 z = none := s0.free nz
    refine ⟨.inl ⟨rfl, _, SqL.of t2⟩, ev H2 _ tp2 fun t H3 s3 dt => ?_⟩
    have h3 := h2.mono s3
    have he : (k, z, ([] : List V)) ∈ L ++ [(k, z, [])] := by simp
    refine ⟨_, (h3.it _ he).1, szl (by show 0 < 100000; decide), fun H4 c4 t4 => ?_⟩
    have h4 := h3.add he hk dt c4 t4
    refine q _ H4 (same_chd (s02.trans s3) c4 z0) ((tp2.trans (tups_of s3)).trans (tups_chd c4 (h3.it _ he).1 True.intro)) h4 (fun x hx => ?_) (by rw [List.length_map, List.length_append]; exact Nat.le_refl _) (fun p hp => ?_)
    · obtain ⟨y, hy, ey⟩ := List.mem_map.mp hx
      subst ey
      have g : H0 y.2.1 = none := by
        rcases List.mem_append.mp hy with hy | hy
        · exact hL y hy
        · have ey : y = (k, z, []) := by simpa using hy
          subst ey
          exact z0
      show H0 (if y.1 = k then (y.1, y.2.1, y.2.2 ++ [V.ref t]) else y).2.1 = none
      split <;> exact g
    · obtain ⟨x, hx, ex⟩ := List.mem_map.mp hp
      obtain ⟨y, hy, ey⟩ := List.mem_map.mp hx
      have e1 : y.1 = p := by
        rw [← ex, ← ey]
        show y.1 = (if y.1 = k then (y.1, y.2.1, y.2.2 ++ [V.ref t]) else y).1
        split <;> rfl
      rcases List.mem_append.mp hy with hy | hy
      · exact .inl (List.mem_map.mpr ⟨y, hy, e1⟩)
      · have ey : y = (k, z, []) := by simpa using hy
        subst ey
        exact .inr e1.symm
theorem rd_leaving {K : PySem.W.Frag} {vs : List V} {H : Hp} {Q : VK} {E : XK} (h : sp_leaving K vs H Q E) : t_leaving K { nx := fun _ H' => Q .non H', rt := Q } (start N_leaving vs) H := by
  obtain ⟨v, rows, rfl, hr, hn, q⟩ := h
  obtain ⟨a, xs, rfl, hl, al⟩ := dp_lst hr
  have hxl : xs.length = rows.length := by rw [dpAll_length al, List.length_map]
  intro d H1 n1 s1 t1
  refine ⟨a, rfl, ⟨xs, same_l s1 hl⟩, for_list (K := K) (a := a) (xs := xs) (fun i σ H' => Same H H' ∧ ∃ (L : List (Str × Addr × List V)) (w : Option V), σ = [some (.ref a), some (.ref d), w] ∧ Links K H' d (adds (rows.take i)) L ∧ (∀ e ∈ L, H e.2.1 = none) ∧ L.length ≤ 2 * i ∧ ∀ p ∈ L.map (·.1), ∃ s, IsStep (rows.take i) s ∧ s.one = p)
    ⟨s1, [], _, rfl, ⟨t1, List.nodup_nil, List.nodup_nil, fun e h => (by cases h), fun s h => (by cases h)⟩, fun e h => (by cases h), Nat.le_refl _, fun p h => (by cases h)⟩ (fun i σ H' _ h => same_l h.1 hl) ?_ ?_⟩
  · rintro i x σ H2 e ⟨s2, L, w, rfl, hL, h0, hll, hkeys⟩
    obtain ⟨dd, hd, dx⟩ := dpAll_get al e
    rw [List.getElem?_map] at hd
    obtain ⟨r, er, rfl⟩ := Option.map_eq_some_iff.mp hd
    obtain ⟨t, rfl, ht⟩ := row_at dx
    have hi : i < rows.length := (List.getElem?_eq_some_iff.mp er).1
    have tk : rows.take (i + 1) = rows.take i ++ [r] := by rw [List.take_add_one, er]; rfl
    have ht2 := same_t s2 ht
    have al1 : (adds (rows.take i)).length < 9000 := by
      rw [adds_len, List.length_take]
      omega
    refine link_add (s := r) (tk := tOp (cIxT K) (uVar 2) (tC (.int 1))) (tv := uVar 2) hL s2 n1 h0 (by omega) (by omega) rfl rfl (fun R k => ⟨_, _, ht2, rfl, k⟩) (fun H3 R tp k => k t H3 (Same.refl _) (row_mk (tups_t tp ht2))) fun L1 H3 s3 tp3 hL1 h01 hl1 hk1 => ?_
    have ht3 := tups_t tp3 ht2
    refine link_add (s := r.turn) (tk := tOp (cIxT K) (uVar 2) (tC (.int 2))) (tv := tCall (sp_row_turned K) [] E0 (tCons (uVar 2) tNil)) hL1 s3 n1 h01 (by omega) (by rw [List.length_append]; simp; omega) rfl rfl (fun R k => ⟨_, _, ht3, rfl, k⟩) (fun H4 R tp k => ⟨_, r, rfl, row_mk (tups_t tp ht3), fun t' H5 s5 d5 => k t' H5 s5 d5⟩) fun L2 H4 s4 tp4 hL2 h02 hl2 hk2 => ?_
    refine ⟨s4, L2, _, rfl, ?_, h02, by omega, fun p hp => ?_⟩
    · rw [tk, adds_snoc]
      exact hL2
    · rw [tk]
      have old : ∀ s, IsStep (rows.take i) s → IsStep (rows.take i ++ [r]) s := fun s h => h.imp (fun h => List.mem_append_left _ h) fun h => List.mem_append_left _ h
      rcases hk2 p hp with h | h
      · rcases hk1 p h with h | h
        · obtain ⟨s, hs, e⟩ := hkeys p h
          exact ⟨s, old s hs, e⟩
        · exact ⟨r, .inl (by simp), h.symm⟩
      · exact ⟨r.turn, .inr (by rw [Row.turn_turn]; simp), h.symm⟩
  · rintro σ H2 ⟨s2, L, w, rfl, hL, h0, hll, hkeys⟩
    rw [hxl, List.take_length] at hL hkeys
    exact q d H2 s2 ⟨L, hL, hkeys⟩
/-! ### reached -/
abbrev N_reached : List Str := ["links", "one", "last", "at", "order", "step"]
def sp_reached (K : PySem.W.Frag) : Sp := fun vs H Q _ => ∃ (d : Addr) (one : Str) (rows : List Row), vs = [.ref d, .str one] ∧ LinksOf K H d rows ∧ rows.length ≤ 1000 ∧ ∀ (p : Addr) (H' : Hp) (B : Last), H p = none → Same H H' → LastAt K H' p B → Bfs rows one B → Q (.ref p) H'
def lp1_reached (K : PySem.W.Frag) : TS :=
  (tFor (iList K (uDGet2 (uVar 0) (tOp (cIxL K) (uVar 4) (uVar 3)) (uLst tNil))) (gName 5)
  (uIfS (uT (uDIn false (tOp (cIxT K) (uVar 5) (tC (.int 2))) (uVar 2)))
  (tSeq (uDPut (uVar 2) (tOp (cIxT K) (uVar 5) (tC (.int 2))) (uVar 5))
  (tDrop (tBM K "list" cApp (uVar 4) (tCons (tOp (cIxT K) (uVar 5) (tC (.int 2))) tNil))))
  tNext))
def lp2_reached (K : PySem.W.Frag) : TS :=
  (uWhile (uT (tOp kLt (uVar 3) (tCB (cLenQ K) (tCons (uVar 4) tNil))))
  (tSeq (lp1_reached K)
  (tAsg (tOp kAdd (uVar 3) (tC (.int 1))) (gName 3))))
def t_reached (K : PySem.W.Frag) : TS :=
  (tSeq (tAsg (uDisp1 (uVar 1) (tC .non)) (gName 2))
  (tSeq (tAsg (tC (.int 0)) (gName 3))
  (tSeq (tAsg (uLst (tCons (uVar 1) tNil)) (gName 4))
  (tSeq (lp2_reached K)
  (tRet (uVar 2))))))
theorem Tree.len {rows : List Row} {one : Str} {B : Last} (T : Tree rows one B) : B.length ≤ 2 * rows.length + 1 := by
  have h : B.keys.length ≤ (one :: (adds rows).map Row.other).length := nodup_len T.nd fun p hp => by
    obtain ⟨i, o, e⟩ := Last.get_key hp
    by_cases h0 : 0 < i
    · obtain ⟨s, j, q, _, hs, rfl, _, _⟩ := T.par i p o e h0
      exact List.mem_cons_of_mem _ (List.mem_map.mpr ⟨s, mem_adds.mpr hs, rfl⟩)
    · have e0 : i = 0 := by omega
      subst e0
      rw [T.hd] at e
      cases e
      exact List.mem_cons_self ..
  rw [List.length_cons, List.length_map, adds_len] at h
  have e : B.keys.length = B.length := List.length_map ..
  omega
structure RSt (K : PySem.W.Frag) (rows : List Row) (one : Str) (H0 H : Hp) (p1 p2 : Addr) (B : Last) : Prop where
  sm : Same H0 H
  l1 : LastAt K H p1 B
  l2 : H p2 = some (.lst (B.keys.map V.str))
  tr : Tree rows one B
/-- the steps from one peg -/
theorem reached_in {K : PySem.W.Frag} {rows : List Row} {one : Str} {H0 H : Hp} {d p1 p2 l : Addr} {at_ : Int} {w : Option V} {B0 : Last} {D : Ends} {xs : List V} {ss : List Row} {j : Nat} {p : Str} {o : Option Row} (n1 : H0 p1 = none) (n2 : H0 p2 = none) (hn : rows.length ≤ 1000)
    (R : RSt K rows one H0 H p1 p2 B0) (hl : H l = some (.lst xs)) (al : DpAll K H xs (ss.map rowD)) (l2 : l ≠ p2) (hs : ∀ s ∈ ss, IsStep rows s ∧ s.one = p) (hj : B0[j]? = some (p, o))
    (q : ∀ (H' : Hp) (w' : Option V) (C : Last), RSt K rows one H0 H' p1 p2 (B0 ++ C) → (∀ s ∈ ss, s.other ∈ Last.keys (B0 ++ C)) → D.nx [some (.ref d), some (.str one), some (.ref p1), some (.int at_), some (.ref p2), w'] H') :
    ∃ W : Nat → Nat → L2.St → Hp → Prop, (∃ m, W 0 m [some (.ref d), some (.str one), some (.ref p1), some (.int at_), some (.ref p2), w] H) ∧ ∀ i m σ H, W i m σ H →
      ((Itl K l).stop i H ∧ D.nx σ H) ∨ ((Itl K l).go i H ∧ ∃ N : L2.St → Hp → Prop, (∀ σ' H', N σ' H' → ∃ m', m' < m ∧ W (i + 1) m' σ' H') ∧ ∀ x H', (Itl K l).yld i H x H' → gName 5 x σ H' fun σ2 H2 =>
        (uIfS (uT (uDIn false (tOp (cIxT K) (uVar 5) (tC (.int 2))) (uVar 2)))
          (tSeq (uDPut (uVar 2) (tOp (cIxT K) (uVar 5) (tC (.int 2))) (uVar 5))
          (tDrop (tBM K "list" cApp (uVar 4) (tCons (tOp (cIxT K) (uVar 5) (tC (.int 2))) tNil))))
          tNext) { D with nx := N, ct := N, bk := D.nx } σ2 H2) := by
  have hxl : xs.length = ss.length := by rw [dpAll_length al, List.length_map]
  refine for_list (K := K) (a := l) (xs := xs) (fun i σ H' => ∃ (w : Option V) (C : Last), σ = [some (.ref d), some (.str one), some (.ref p1), some (.int at_), some (.ref p2), w] ∧ RSt K rows one H0 H' p1 p2 (B0 ++ C) ∧ H' l = some (.lst xs) ∧ Tups H H' ∧ ∀ s ∈ ss.take i, s.other ∈ Last.keys (B0 ++ C))
    ⟨w, [], rfl, by rw [List.append_nil]; exact R, hl, Tups.refl H, fun s h => (by cases h)⟩ (fun i σ H' _ h => by obtain ⟨w, C, _, _, h, _, _⟩ := h; exact SqL.of h) ?_ ?_
  · rintro i x σ H2 e ⟨w, C, rfl, R2, hl2, tp, hk⟩
    obtain ⟨dd, hd, dx⟩ := dpAll_get al e
    rw [List.getElem?_map] at hd
    obtain ⟨s, es, rfl⟩ := Option.map_eq_some_iff.mp hd
    obtain ⟨t, rfl, ht⟩ := row_at (row_tups tp dx)
    obtain ⟨st, so⟩ := hs s (List.mem_of_getElem? es)
    have tk : ss.take (i + 1) = ss.take i ++ [s] := by rw [List.take_add_one, es]; rfl
    obtain ⟨kvs, hkv, kv⟩ := R2.l1
    refine ⟨_, _, ht, rfl, _, DGet.k (k := Sum.inr s.other) hkv, ?_⟩
    rw [kv.has]
    refine ⟨fun h => ?_, fun h => ?_⟩
    · -- a new peg
      have nm : ¬ s.other ∈ Last.keys (B0 ++ C) := by simpa using h
      have ln := R2.tr.len
      have hjB : (B0 ++ C)[j]? = some (s.one, o) := by
        rw [List.getElem?_append_left (List.getElem?_eq_some_iff.mp hj).1, so]
        exact hj
      have T2 := R2.tr.snoc st hjB nm
      refine ⟨_, _, ht, rfl, kvs, Sum.inr s.other, hkv, rfl, szl (by rw [kv.length]; omega), fun H3 c3 t3 => ?_⟩
      have tp3 : Tups H2 H3 := tups_chd c3 hkv True.intro
      have n12 : p2 ≠ p1 := ne_of R2.l2 hkv (by intro z; cases z)
      have hp3 := c3 _ _ n12 R2.l2
      have ht3 := tups_t tp3 ht
      have s3 := same_chd R2.sm c3 n1
      refine ⟨.inl ⟨rfl, _, SqL.of hp3⟩, _, _, ht3, rfl, _, hp3, szl (by rw [List.length_map, Last.keys, List.length_map]; omega), fun H4 c4 t4 => ?_⟩
      have tp4 : Tups H3 H4 := tups_chd c4 hp3 True.intro
      have ll1 : l ≠ p1 := ne_of hl2 hkv (by intro z; cases z)
      have vn : valV kvs (Sum.inr s.other) = none := by
        have a := kv.has s.other
        rw [decide_eq_false nm] at a
        cases ev : valV kvs (Sum.inr s.other) with
        | none => rfl
        | some v => rw [ev] at a; cases a
      rw [putK_new _ vn] at t3
      refine ⟨_, C ++ [(s.other, some s)], rfl, ⟨same_chd s3 c4 n2, ⟨_, c4 _ _ n12.symm t3, ?_⟩, ?_, ?_⟩, c4 _ _ l2 (c3 _ _ ll1 hl2), (tp.trans tp3).trans tp4, fun s' hs' => ?_⟩
      · rw [← List.append_assoc]
        exact (kv.tups (tp3.trans tp4)).snoc ⟨rfl, row_mk (tups_t tp4 ht3)⟩
      · have ek : Last.keys (B0 ++ C ++ [(s.other, some s)]) = Last.keys (B0 ++ C) ++ [s.other] := List.map_append ..
        rw [t4, ← List.append_assoc, ek, List.map_append]
        rfl
      · rw [← List.append_assoc]
        exact T2
      · rw [← List.append_assoc, Last.keys, List.map_append (l₁ := B0 ++ C)]
        rw [tk] at hs'
        rcases List.mem_append.mp hs' with g | g
        · exact List.mem_append_left _ (hk s' g)
        · have g : s' = s := by simpa using g
          rw [g]
          exact List.mem_append_right _ (by simp)
    · have m : s.other ∈ Last.keys (B0 ++ C) := by simpa using h
      refine ⟨_, C, rfl, R2, hl2, tp, fun s' hs' => ?_⟩
      rw [tk] at hs'
      rcases List.mem_append.mp hs' with g | g
      · exact hk s' g
      · have g : s' = s := by simpa using g
        rw [g]
        exact m
  · rintro σ H2 ⟨w, C, rfl, R2, hl2, tp, hk⟩
    rw [hxl, List.take_length] at hk
    exact q H2 w C R2 hk
theorem rd_reached {K : PySem.W.Frag} {vs : List V} {H : Hp} {Q : VK} {E : XK} (h : sp_reached K vs H Q E) : t_reached K { nx := fun _ H' => Q .non H', rt := Q } (start N_reached vs) H := by
  obtain ⟨d, one, rows, rfl, ⟨L, hL, hkey⟩, hn, q⟩ := h
  refine fun p1 H1 n1 s1 t1 => ⟨Sum.inr one, rfl, t1, fun H2 c2 t2 => ⟨szr rfl, fun p2 H3 n2 s3 t3 => ?_⟩⟩
  have s2 := same_chd s1 c2 n1
  have s03 := s2.trans s3
  have n2' : H p2 = none := s2.free n2
  refine ⟨fun m σ H' => ∃ (k : Nat) (B : Last) (w : Option V), m + k = 2 * rows.length + 2 ∧ σ = [some (.ref d), some (.str one), some (.ref p1), some (.int k), some (.ref p2), w] ∧ RSt K rows one H H' p1 p2 B ∧ k ≤ B.length ∧ ∀ (j : Nat) (p : Str) (o : Option Row), j < k → B[j]? = some (p, o) → ∀ s, IsStep rows s → s.one = p → s.other ∈ B.keys, ⟨2 * rows.length + 2, 0, [(one, none)], none, by omega, rfl, ⟨s03, ⟨_, s3 _ _ t2, .cons ⟨rfl, rfl⟩ .nil⟩, t3, Tree.start rows one⟩, Nat.zero_le _, fun j p o h => absurd h (Nat.not_lt_zero _)⟩, ?_⟩
  rintro m σ H4 ⟨k, B, w, hm, rfl, R, hk, hd⟩
  have lk : (B.keys.map V.str).length = B.length := by rw [List.length_map, Last.keys, List.length_map]
  have ln := R.tr.len
  refine ⟨_, .inl (SqL.of R.l2), ⟨fun e => ⟨_, fun _ _ h => h, ?_⟩, fun e => ?_⟩⟩
  · have e := of_decide_eq_true e
    rw [lk] at e
    have hkl : k < B.length := by omega
    obtain ⟨⟨p, o⟩, hp⟩ : ∃ b, B[k]? = some b := ⟨_, List.getElem?_eq_getElem hkl⟩
    have hL4 := hL.mono R.sm
    have ep : (B.keys.map V.str)[k]? = some (.str p) := by rw [List.getElem?_map, Last.keys, List.getElem?_map, hp]; rfl
    refine ⟨⟨_, hL4.dict⟩, _, _, SqL.of R.l2, at_nat (j := k) rfl ep, szr rfl, fun z H5 nz s5 t5 => ⟨_, Sum.inr p, s5 _ _ hL4.dict, rfl, ?_⟩⟩
    have R5 : RSt K rows one H H5 p1 p2 B := ⟨R.sm.trans s5, R.l1.mono s5, s5 _ _ R.l2, R.tr⟩
    -- what is behind the steps from this peg
    have fin : ∀ (ss : List Row), (∀ s, IsStep rows s → s.one = p → s ∈ ss) → ∀ (H' : Hp) (w' : Option V) (C : Last), RSt K rows one H H' p1 p2 (B ++ C) → (∀ s ∈ ss, s.other ∈ Last.keys (B ++ C)) →
        ∃ m', m' < m ∧ ∃ (k' : Nat) (B' : Last) (w : Option V), m' + k' = 2 * rows.length + 2 ∧ [some (V.ref d), some (.str one), some (.ref p1), some (.int (k + 1)), some (.ref p2), w'] = [some (.ref d), some (.str one), some (.ref p1), some (.int k'), some (.ref p2), w] ∧ RSt K rows one H H' p1 p2 B' ∧ k' ≤ B'.length ∧ ∀ (j : Nat) (p : Str) (o : Option Row), j < k' → B'[j]? = some (p, o) → ∀ s, IsStep rows s → s.one = p → s.other ∈ B'.keys := fun ss hss H' w' C R' hk' => by
      refine ⟨m - 1, by omega, k + 1, B ++ C, w', by omega, rfl, R', by rw [List.length_append]; omega, fun j p' o' hj ep' s st so => ?_⟩
      by_cases hjk : j < k
      · rw [List.getElem?_append_left (by omega)] at ep'
        have := hd j p' o' hjk ep' s st so
        unfold Last.keys
        rw [List.map_append]
        exact List.mem_append_left _ this
      · have ej : j = k := by omega
        subst ej
        rw [List.getElem?_append_left hkl, hp] at ep'
        cases ep'
        exact hk' s (hss s st so)
    by_cases hmem : p ∈ L.map (·.1)
    · obtain ⟨e1, he, rfl⟩ := List.mem_map.mp hmem
      rw [hL4.get he]
      have h5 := hL4.mono s5
      have l0 := (hL.it e1 he).1
      refine ⟨e1.2.1, rfl, ⟨_, SqL.of (h5.it e1 he).1⟩, reached_in (ss := from_ (adds rows) e1.1) n1 n2' hn R5 (h5.it e1 he).1 (h5.it e1 he).2 (ne_of_none l0 n2') (fun s hs => ⟨mem_adds.mp (mem_from.mp hs).1, (mem_from.mp hs).2⟩) hp (fin _ fun s st so => mem_from.mpr ⟨mem_adds.mpr st, so⟩)⟩
    · rw [hL4.none hmem]
      refine ⟨z, rfl, ⟨_, SqL.of t5⟩, reached_in (ss := []) n1 n2' hn R5 t5 .nil (fun e => by rw [e] at nz; rw [R.l2] at nz; cases nz) (fun s hs => by cases hs) hp (fin _ fun s st so => ?_)⟩
      exact absurd (so ▸ hL.sub s (mem_adds.mpr st)) hmem
  · have e := of_decide_eq_false e
    rw [lk] at e
    have ek : k = B.length := by omega
    refine q p1 H4 B n1 R.sm R.l1 ⟨R.tr, fun s st hs => ?_⟩
    obtain ⟨j, o, ej⟩ := Last.get_key hs
    exact hd j s.one o (by have := (List.getElem?_eq_some_iff.mp ej).1; omega) ej s st rfl
/-! ### way_along -/
abbrev N_way_along : List Str := ["rows", "one", "other", "last", "back", "step"]
def sp_way_along (K : PySem.W.Frag) : Sp := fun vs H Q _ => ∃ (v : V) (rows : List Row) (one other : Str), vs = [v, .str one, .str other] ∧ Dp K H v (rowsD rows) ∧ rows.length ≤ 1000 ∧
  (¬ Reach rows one other → ∀ (H' : Hp), Same H H' → Q .non H') ∧
  ∀ (p : Addr) (H' : Hp) (xs : List V) (ss : List Row), H p = none → Same H H' → H' p = some (.lst xs) → DpAll K H' xs (ss.map rowD) → Way rows one ss other → Simple ss other → ss.length ≤ 2001 → Q (.ref p) H'
def lp1_way_along (K : PySem.W.Frag) : TS :=
  (uWhile (uT (tOp (cNon false) (uVar 5) (tC .non)))
  (tSeq (tDrop (tBM K "list" cApp (uVar 4) (tCons (uVar 5) tNil)))
  (tAsg (uDGet (uVar 3) (tOp (cIxT K) (uVar 5) (tC (.int 1)))) (gName 5))))
def t_way_along (K : PySem.W.Frag) : TS :=
  (tSeq (tAsg (tCall (sp_reached K) [] E0 (tCons (tCall (sp_leaving K) [] E0 (tCons (uVar 0) tNil)) (tCons (uVar 1) tNil))) (gName 3))
  (tSeq (uIfS (uT (uDIn false (uVar 2) (uVar 3)))
  (tRet (tC .non))
  tNext)
  (tSeq (tAsg (uLst tNil) (gName 4))
  (tSeq (tAsg (uDGet (uVar 3) (uVar 2)) (gName 5))
  (tSeq (lp1_way_along K)
  (tRet (uListRev K (uVar 4))))))))
theorem rd_way_along {K : PySem.W.Frag} {vs : List V} {H : Hp} {Q : VK} {E : XK} (h : sp_way_along K vs H Q E) : t_way_along K { nx := fun _ H' => Q .non H', rt := Q } (start N_way_along vs) H := by
  obtain ⟨v, rows, one, other, rfl, hr, hn, qn, q⟩ := h
  refine ⟨v, rows, rfl, hr, hn, fun d H1 s1 hL => ⟨d, one, rows, rfl, hL, hn, fun p H2 B n2 s2 hB T => ?_⟩⟩
  have s02 := s1.trans s2
  obtain ⟨kvs, hk, kv⟩ := hB
  have ln := T.toTree.len
  refine ⟨_, DGet.k (k := Sum.inr other) hk, ?_⟩
  rw [kv.has]
  refine ⟨fun e => ?_, fun e => ?_⟩
  · have nm : ¬ other ∈ B.keys := by simpa using e
    exact qn (fun r => nm (T.iff.mpr r)) H2 s02
  · have hm : other ∈ B.keys := by simpa using e
    obtain ⟨k, o, ek⟩ := Last.get_key hm
    obtain ⟨v0, hv0, ov0⟩ := kv.get T.nd ek
    refine ⟨szr rfl, fun b H3 n3 s3 t3 => ⟨v0, ?_, ?_⟩⟩
    · rw [← hv0]
      exact DGet.k (k := Sum.inr other) (s3 _ _ hk)
    have s03 := s02.trans s3
    have n3' : H b = none := s02.free n3
    have ovt := ov0.tups (tups_of s3)
    refine ⟨fun m σ H' => ∃ (ss : List Row) (xs : List V) (w : V) (p0 : Str) (o0 : Option Row), σ = [some v, some (.str one), some (.str other), some (.ref p), some (.ref b), some w] ∧ Same H H' ∧ Tups H2 H' ∧ H' p = some (.dK kvs) ∧ H' b = some (.lst xs) ∧ DpAll K H' xs (ss.reverse.map rowD) ∧ Up rows B m ss k ∧ B[m]? = some (p0, o0) ∧ OptRow K H' w o0 ∧ ss.length + m ≤ k,
      ⟨k, [], [], v0, other, o, rfl, s03, tups_of s3, s3 _ _ hk, t3, .nil, .nil (List.getElem?_eq_some_iff.mp ek).1, ek, ovt, by simp⟩, ?_⟩
    rintro m σ H4 ⟨ss, xs, w, p0, o0, rfl, s4, tp4, hp4, hb4, al, U, em, ow, hlen⟩
    have hkB := (List.getElem?_eq_some_iff.mp ek).1
    have hmB := U.lt
    cases o0 with
    | none =>
      have ew : w = .non := ow
      subst ew
      have m0 : m = 0 := Decidable.by_contra fun h => by
        obtain ⟨s, _, _, e, _⟩ := T.par m p0 none em (by omega)
        cases e
      subst m0
      have hd := T.hd
      refine br_f ⟨xs, SqL.of hb4, fun r H5 n5 s5 t5 => q r H5 xs.reverse ss (s4.free n5) (s4.trans s5) t5 ?_ (U.way hd ek) (U.simple T.nd ek) (by omega)⟩
      have := dpAll_reverse (dpAll_mono s5 al)
      rw [← List.map_reverse, List.reverse_reverse] at this
      exact this
    | some s =>
      obtain ⟨t, rfl, ht⟩ := row_at ow
      have hpos : 0 < m := Decidable.by_contra fun h => by
        have e0 : m = 0 := by omega
        subst e0
        rw [T.hd] at em
        cases em
      obtain ⟨s', j, q', es, st, so, hj, ej⟩ := T.par m p0 (some s) em hpos
      cases es
      subst so
      obtain ⟨v1, hv1, ov1⟩ := kv.get T.nd ej
      refine br_t ⟨_, fun _ _ h => h, ?_⟩
      have hxl : xs.length = ss.length := by rw [dpAll_length al, List.length_map, List.length_reverse]
      refine ⟨.inl ⟨rfl, _, SqL.of hb4⟩, _, hb4, szl (by omega), fun H5 c5 t5 => ?_⟩
      have tp5 : Tups H4 H5 := tups_chd c5 hb4 True.intro
      have pb : p ≠ b := ne_of hp4 hb4 (by intro z; cases z)
      have hp5 := c5 _ _ pb hp4
      refine ⟨_, _, tups_t tp5 ht, rfl, v1, ?_, ?_⟩
      · rw [← hv1]
        exact DGet.k (k := Sum.inr s.one) hp5
      refine ⟨j, hj, s :: ss, _, v1, s.one, q', rfl, same_chd s4 c5 n3', tp4.trans tp5, hp5, t5, ?_, Up.cons st ej em hj U, ej, ov1.tups (tp4.trans tp5), by rw [List.length_cons]; omega⟩
      rw [List.reverse_cons, List.map_append]
      exact dpAll_snoc (prows_tups tp5 al) (row_mk (tups_t tp5 ht))
/-! ### part_of -/
abbrev N_part_of : List Str := ["rows", "one"]
def sp_part_of (K : PySem.W.Frag) : Sp := fun vs H Q _ => ∃ (v : V) (rows : List Row) (one : Str) (P : List Str), vs = [v, .str one] ∧ Dp K H v (rowsD rows) ∧ rows.length ≤ 1000 ∧ one ∈ P ∧ (∀ r ∈ rows, r.one ∈ P ∧ r.other ∈ P) ∧ P.length < 64 ∧
  ∀ (p : Addr) (H' : Hp) (ys : List Str), H p = none → Same H H' → H' p = some (.lst (ys.map V.str)) → ys.Nodup → sortedS ys = true → (∀ z, z ∈ ys ↔ Reach rows one z) → Q (.ref p) H'
def t_part_of (K : PySem.W.Frag) : TS :=
  (tRet (tCB cSortedD (tCons (tCall (sp_reached K) [] E0 (tCons (tCall (sp_leaving K) [] E0 (tCons (uVar 0) tNil)) (tCons (uVar 1) tNil))) tNil)))
theorem rd_part_of {K : PySem.W.Frag} {vs : List V} {H : Hp} {Q : VK} {E : XK} (h : sp_part_of K vs H Q E) : t_part_of K { nx := fun _ H' => Q .non H', rt := Q } (start N_part_of vs) H := by
  obtain ⟨v, rows, one, P, rfl, hr, hn, h1, hP, hl, q⟩ := h
  refine ⟨v, rows, rfl, hr, hn, fun d H1 s1 hL => ⟨d, one, rows, rfl, hL, hn, fun p H2 B n2 s2 hB T => ?_⟩⟩
  obtain ⟨kvs, hk, kv⟩ := hB
  have sub : ∀ z ∈ B.keys, z ∈ P := fun z hz => (T.iff.mp hz).closed (S := fun z => z ∈ P) (fun s st _ => by
    rcases st with st | st
    · exact (hP s st).2
    · exact (hP _ st).1) h1
  have len := nodup_len T.nd sub
  refine ⟨kvs, B.keys, .inl hk, kv.keys, by omega, fun ys pm so => fun p3 H3 n3 s3 t3 => q p3 H3 ys ((s1.trans s2).free n3) ((s1.trans s2).trans s3) t3 (pm.nodup_iff.mpr T.nd) so fun z => ?_⟩
  rw [pm.mem_iff]
  exact T.iff
/-! ### Book.__init__ -/
abbrev N_Book___init__ : List Str := ["self", "most"]
def sp_Book___init__ (K : PySem.W.Frag) (A : Ad) : Sp := fun vs H Q _ => ∃ (p dx : Addr) (most : Int), vs = [.ref p, .int most] ∧ H p = some (.ins A.Book dx []) ∧
  ∀ (d : Addr) (H' : Hp), H d = none → Chd p H H' → BookAt K A H' p d most 0 [] → Q .non H'
def t_Book___init__ (K : PySem.W.Frag) (A : Ad) : TS :=
  (tSeq (uFldS K (uVar 0) (uVar 1) "most")
  (tSeq (uFldS K (uVar 0) (tC (.int 0)) "taken")
  (uFldS K (uVar 0) uDNew "by_number")))
theorem chd_free {p d : Addr} {H H' : Hp} {o : HO} (c : Chd p H H') (hp : H' p = some o) (n : H' d = none) : H d = none := by
  cases e : H d with
  | none => rfl
  | some u =>
    have ne : d ≠ p := fun z => by rw [z, hp] at n; cases n
    have z := c d u ne e
    rw [n] at z
    cases z
theorem rd_Book___init__ {K : PySem.W.Frag} {A : Ad} (T : Tx K A) {vs : List V} {H : Hp} {Q : VK} {E : XK} (h : sp_Book___init__ K A vs H Q E) : t_Book___init__ K A { nx := fun _ H' => Q .non H', rt := Q } (start N_Book___init__ vs) H := by
  obtain ⟨p, dx, most, rfl, hp, q⟩ := h
  refine ⟨A.Book, dx, _, hp, T.cl, T.nMost, by decide, fun H1 c1 t1 => ⟨A.Book, dx, _, t1, T.cl, T.nTaken, Nat.le_of_ble_eq_true rfl, fun H2 c2 t2 => fun d H3 n3 s3 t3 => ⟨A.Book, dx, _, s3 _ _ t2, T.cl, T.nBy, Nat.le_of_ble_eq_true rfl, fun H4 c4 t4 => ?_⟩⟩⟩
  have pd : d ≠ p := ne_of t3 (s3 _ _ t2) (by intro z; cases z)
  exact q d H4 (chd_free (chd_trans c1 c2) t2 n3) (chd_trans (chd_same (chd_trans c1 c2) s3) c4) ⟨⟨dx, t4⟩, ⟨[], c4 _ _ pd t3, .nil⟩, List.nodup_nil, fun r h => (by cases h)⟩
/-! ### Book.kept -/
abbrev N_Book_kept : List Str := ["self"]
def sp_Book_kept (K : PySem.W.Frag) (A : Ad) : Sp := fun vs H Q _ => ∃ (b d : Addr) (most taken : Int) (rows : List Row), vs = [.ref b] ∧ BookAt K A H b d most taken rows ∧
  ∀ (p : Addr) (H' : Hp) (xs : List V), H p = none → Same H H' → H' p = some (.lst xs) → DpAll K H' xs (rows.map rowD) → Q (.ref p) H'
def t_Book_kept (K : PySem.W.Frag) (A : Ad) : TS :=
  (tRet (uListVals (uFld K (uVar 0) "by_number")))
theorem rd_Book_kept {K : PySem.W.Frag} {A : Ad} (T : Tx K A) {vs : List V} {H : Hp} {Q : VK} {E : XK} (h : sp_Book_kept K A vs H Q E) : t_Book_kept K A { nx := fun _ H' => Q .non H', rt := Q } (start N_Book_kept vs) H := by
  obtain ⟨b, d, most, taken, rows, rfl, ⟨⟨dx, hi⟩, ⟨kvs, hd, kv⟩, nd, le⟩, q⟩ := h
  exact ⟨A.Book, dx, _, .ref d, hi, T.cl, T.nBy, rfl, kvs, hd, fun p H1 n1 s1 t1 => q p H1 _ n1 s1 t1 (dpAll_mono s1 kv.vals)⟩
/-! ### Book.take -/
abbrev N_Book_take : List Str := ["self", "one", "other", "rise", "trail"]
/-- a new book's room, a sighting's kinds: what take does -/
def sp_Book_take (K : PySem.W.Frag) (A : Ad) : Sp := fun vs H Q E => ∃ (b d : Addr) (most taken : Int) (rows : List Row) (v1 v2 v3 : V), vs = [.ref b, v1, v2, v3] ∧ BookAt K A H b d most taken rows ∧ rows.length ≤ 1000 ∧ 0 ≤ taken ∧ Some7 K H v1 ∧ Some7 K H v2 ∧ Some7 K H v3 ∧
  (sigB [v1, v2, v3] = false → ∀ (H' : Hp), Same H H' → E (.ref A.NoSighting) none H') ∧
  (sigB [v1, v2, v3] = true → most ≤ rows.length → ∀ (H' : Hp), Same H H' → E (.ref A.Full) none H') ∧
  ∀ (one other : Str) (rise : Int), v1 = .str one → v2 = .str other → v3 = .int rise → sigB [v1, v2, v3] = true → (rows.length : Int) < most →
    ((¬ Reach rows one other ∨ ∃ ss, Way rows one ss other ∧ total ss = rise) → ∀ (H' : Hp), Chd2 b d H H' → BookAt K A H' b d most (taken + 1) (rows ++ [⟨taken + 1, one, other, rise⟩]) → Q (.int (taken + 1)) H') ∧
    ∀ (ss : List Row) (H' : Hp) (dd p : Addr) (xs : List V), Way rows one ss other → Simple ss other → ss.length ≤ 2001 → total ss ≠ rise → H p = none → Same H H' → H' dd = some (.xd [("trail", .ref p)]) → H' p = some (.lst xs) → DpAll K H' xs (ss.map rowD) → E (.ref A.Against) (some dd) H'
def t_Book_take (K : PySem.W.Frag) (A : Ad) (E : XK) : TS :=
  (tSeq (uIfS (uNot (uT (tCall (sp_is_sighting K) [] E0 (tCons (uTup (tCons (uVar 1) (tCons (uVar 2) (tCons (uVar 3) tNil)))) tNil))))
  (uRaise E A.NoSighting)
  tNext)
  (tSeq (uIfS (uT (tOp kGe (tCB cLenD (tCons (uFld K (uVar 0) "by_number") tNil)) (uFld K (uVar 0) "most")))
  (uRaise E A.Full)
  tNext)
  (tSeq (tAsg (tCall (sp_way_along K) [] E0 (tCons (uMeth A.Book "kept" (sp_Book_kept K A) E0 (uVar 0) tNil) (tCons (uVar 1) (tCons (uVar 2) tNil)))) (gName 4))
  (tSeq (uIfS (uAnd (uT (tOp (cNon false) (uVar 4) (tC .non))) (uT (tOp (rNeD K) (tCall (sp_total K) [] E0 (tCons (uVar 4) tNil)) (uVar 3))))
  (uMkO E A.Against (sp_Against___init__ K A) (tCons (uVar 4) tNil))
  tNext)
  (tSeq (uFldS K (uVar 0) (tOp kAdd (uFld K (uVar 0) "taken") (tC (.int 1))) "taken")
  (tSeq (uDPut (uFld K (uVar 0) "by_number") (uFld K (uVar 0) "taken") (uTup (tCons (uFld K (uVar 0) "taken") (tCons (uVar 1) (tCons (uVar 2) (tCons (uVar 3) tNil))))))
  (tRet (uFld K (uVar 0) "taken"))))))))
theorem sig_inv {v1 v2 v3 : V} (h : sigB [v1, v2, v3] = true) : ∃ (one other : Str) (rise : Int), v1 = .str one ∧ v2 = .str other ∧ v3 = .int rise := by
  have h : (pegB v1 && pegB v2 && riseB v3) = true := h
  rw [Bool.and_eq_true, Bool.and_eq_true] at h
  obtain ⟨⟨h1, h2⟩, h3⟩ := h
  cases v1 <;> first | exact absurd h1 Bool.false_ne_true | skip
  cases v2 <;> first | exact absurd h2 Bool.false_ne_true | skip
  cases v3 <;> first | exact absurd h3 Bool.false_ne_true | skip
  exact ⟨_, _, _, rfl, rfl, rfl⟩
theorem Pg.pegS {z : Str} (h : Pg z) : pegS z = true := by
  obtain ⟨n, a, n1, n2⟩ := h
  show (decide (1 ≤ z.length) && decide (z.length ≤ 8) && azB z) = true
  rw [a.len, decide_eq_true n1, decide_eq_true n2]
  show azB z = true
  unfold azB
  rw [List.all_eq_true]
  exact fun c hc => decide_eq_true (az_mem.mpr (a.all c hc))
theorem sig_true {a b : Str} {r : Int} (ha : Pg a) (hb : Pg b) (r0 : -(10 ^ 60) < r) (r1 : r < 10 ^ 60) : sigB [.str a, .str b, .int r] = true := by
  show (Peg.pegS a && Peg.pegS b && decide (-(10 ^ 60) < r ∧ r < 10 ^ 60)) = true
  rw [ha.pegS, hb.pegS, decide_eq_true ⟨r0, r1⟩]
  rfl
theorem GoodS.sig {g : Sg} (h : GoodS g) : sigB [.str g.1, .str g.2.1, .int g.2.2] = true := sig_true h.one h.other h.bnd.1 h.bnd.2
theorem Pg.s7 {K : PySem.W.Frag} {H : Hp} {z : Str} (h : Pg z) : Some7 K H (.str z) := ⟨_, .str _ (by have := h.sz; omega)⟩
/-- behind the making of an error with a field -/
theorem same_err {H : Hp} {a dx : Addr} {o1 o2 o3 o4 : HO} (na : H a = none) (nd : (upd H a o1) dx = none) : Same H (upd (del (upd (upd (upd H a o1) dx o2) a o3) a) dx o4) := fun x o e => by
  have xa : x ≠ a := ne_of_none e na
  have xd : x ≠ dx := fun z => by
    rw [← z, upd_ne xa, e] at nd
    cases nd
  rw [upd_ne xd, del_ne xa, upd_ne xa, upd_ne xd, upd_ne xa]
  exact e
theorem chd2_of {p q : Addr} {H H1 H2 : Hp} (a : Chd p H H1) (b : Chd q H1 H2) : Chd2 p q H H2 := fun c o n1 n2 h => b c o n2 (a c o n1 h)
theorem rd_Book_take {K : PySem.W.Frag} {A : Ad} (T : Tx K A) {vs : List V} {H : Hp} {Q : VK} {E : XK} (h : sp_Book_take K A vs H Q E) : t_Book_take K A E { nx := fun _ H' => Q .non H', rt := Q } (start N_Book_take vs) H := by
  obtain ⟨b, d, most, taken, rows, v1, v2, v3, rfl, B, hlen, h0, k1, k2, k3, q1, q2, q⟩ := h
  refine ⟨szr rfl, fun p H1 n1 s1 t1 => ⟨.ref p, rfl, .inr ⟨p, _, rfl, SqT.of t1, fun x hx => ?_, ⟨fun e => ?_, fun e => ?_⟩⟩⟩⟩
  · rcases List.mem_cons.mp hx with rfl | hx
    · exact k1.imp fun _ k => k.mono s1
    rcases List.mem_cons.mp hx with rfl | hx
    · exact k2.imp fun _ k => k.mono s1
    rcases List.mem_cons.mp hx with rfl | hx
    · exact k3.imp fun _ k => k.mono s1
    · cases hx
  · exact q1 (by simpa using e) H1 s1
  have sg : sigB [v1, v2, v3] = true := by simpa using e
  have B1 := B.mono s1
  obtain ⟨dx, hi⟩ := B1.ins
  obtain ⟨kvs, hd, kv⟩ := B1.dict
  refine ⟨A.Book, dx, _, .ref d, hi, T.cl, T.nBy, rfl, kvs, hd, A.Book, dx, _, .int most, hi, T.cl, T.nMost, rfl, ⟨fun e => ?_, fun e => ?_⟩⟩
  · have e := of_decide_eq_true e
    rw [kv.length] at e
    exact q2 sg e H1 s1
  have e := of_decide_eq_false e
  rw [kv.length] at e
  obtain ⟨one, other, rise, rfl, rfl, rfl⟩ := sig_inv sg
  obtain ⟨q, qa⟩ := q one other rise rfl rfl rfl sg (by omega)
  -- behind the way
  have rest : ∀ (H2 : Hp) (tr : V), (¬ Reach rows one other ∨ ∃ ss, Way rows one ss other ∧ total ss = rise) → Same H1 H2 → (tSeq (uFldS K (uVar 0) (tOp kAdd (uFld K (uVar 0) "taken") (tC (.int 1))) "taken")
      (tSeq (uDPut (uFld K (uVar 0) "by_number") (uFld K (uVar 0) "taken") (uTup (tCons (uFld K (uVar 0) "taken") (tCons (uVar 1) (tCons (uVar 2) (tCons (uVar 3) tNil))))))
      (tRet (uFld K (uVar 0) "taken")))) { nx := fun _ H' => Q .non H', rt := Q } [some (.ref b), some (.str one), some (.str other), some (.int rise), some tr] H2 := fun H2 tr how s2 => by
    have hi2 := s2 _ _ hi
    have hd2 := s2 _ _ hd
    have bd : d ≠ b := ne_of hd2 hi2 (by intro z; cases z)
    refine ⟨A.Book, dx, _, .int taken, hi2, T.cl, T.nTaken, rfl, A.Book, dx, _, hi2, T.cl, T.nTaken, Nat.le_of_ble_eq_true rfl, fun H3 c3 t3 => ?_⟩
    have t3 : H3 b = some (.ins A.Book dx (bF most (taken + 1) d)) := t3
    have hd3 := c3 _ _ bd hd2
    refine ⟨A.Book, dx, _, .int (taken + 1), t3, T.cl, T.nTaken, rfl, szr rfl, fun t H4 n4 s4 t4 => ⟨A.Book, dx, _, .ref d, s4 _ _ t3, T.cl, T.nBy, rfl, A.Book, dx, _, .int (taken + 1), s4 _ _ t3, T.cl, T.nTaken, rfl, kvs, Sum.inl (taken + 1), s4 _ _ hd3, rfl, szl (by rw [kv.length]; omega), fun H5 c5 t5 => ?_⟩⟩
    have hi5 := c5 _ _ bd.symm (s4 _ _ t3)
    refine ⟨A.Book, dx, _, .int (taken + 1), hi5, T.cl, T.nTaken, rfl, q how H5 ?_ ⟨⟨dx, hi5⟩, ⟨_, t5, ?_⟩, ?_, ?_⟩⟩
    · exact fun c o h1 h2 e => c5 c o h2 (s4 c o (c3 c o h1 (s2 c o (s1 c o e))))
    · rw [putK_new _ (kv.not fun r hr e => by have := B.le r hr; omega)]
      have tpA : Tups H1 H5 := (((tups_of s2).trans (tups_chd c3 hi2 True.intro)).trans (tups_of s4)).trans (tups_chd c5 (s4 _ _ hd3) True.intro)
      exact (kv.tups tpA).snoc ⟨rfl, row_mk (r := ⟨taken + 1, one, other, rise⟩) (tups_t (tups_chd c5 (s4 _ _ hd3) True.intro) (SqT.of t4))⟩
    · rw [List.map_append]
      refine nodup_snoc B.nd fun m => ?_
      obtain ⟨r, hr, e⟩ := List.mem_map.mp m
      have := B.le r hr
      have e : r.n = taken + 1 := e
      omega
    · intro r hr
      rcases List.mem_append.mp hr with h | h
      · have := B.le r h
        omega
      · have e : r = ⟨taken + 1, one, other, rise⟩ := by simpa using h
        rw [e]
        exact ⟨by show 1 ≤ taken + 1; omega, Int.le_refl _⟩
  refine ⟨⟨dx, _, hi, rfl⟩, b, d, most, taken, rows, rfl, B1, fun l H2 xs n2 s2 t2 al => ⟨.ref l, rows, one, other, rfl, .lst (SqL.of t2) al, hlen, fun nr H3 s3 => ?_, fun w H3 ys ss nw s3 t3 a3 W S hss => ?_⟩⟩
  · exact br_f (br_f (rest H3 _ (.inl nr) (s2.trans s3)))
  · refine br_t ⟨.ref w, ss, rfl, .lst (SqL.of t3) a3, .int (total ss), .int rise, .int _, .int _, rfl, rfl, ?_⟩
    rw [int_eqv]
    by_cases e2 : total ss = rise
    · rw [decide_eq_true e2]
      exact br_f (rest H3 _ (.inr ⟨ss, W, e2⟩) (s2.trans s3))
    rw [decide_eq_false e2]
    refine br_t ⟨Nat.le_of_ble_eq_true rfl, fun a na => ⟨a, .ref w, rfl, upd_same, fun dd nd ne => ⟨rfl, dd, [("trail", V.ref w)], upd_same, ?_, ?_, ?_⟩⟩⟩
    · rw [upd_ne ne, upd_same]
    · rw [upd_ne ne] at nd
      exact nd
    · have se := same_err (o2 := exd dd [("trail", V.ref w)]) (o3 := exo a A.Against (some dd)) (o4 := .xd [("trail", V.ref w)]) na nd
      exact qa ss _ dd w ys W S hss e2 (((s1.trans s2).free nw)) (((s1.trans s2).trans s3).trans se) upd_same (se _ _ t3) (dpAll_mono se a3)
/-! ### Book.row_by -/
abbrev N_Book_row_by : List Str := ["self", "number"]
def sp_Book_row_by (K : PySem.W.Frag) (A : Ad) : Sp := fun vs H Q E => ∃ (b d : Addr) (most taken : Int) (rows : List Row) (v : V) (n : String), vs = [.ref b, v] ∧ BookAt K A H b d most taken rows ∧ Knd K H v n ∧
  ((∀ r ∈ rows, v ≠ .int r.n) → E (.ref A.NoNumber) none H) ∧ ∀ r ∈ rows, v = .int r.n → ∀ (t : V), Dp K H t (rowD r) → Q t H
def t_Book_row_by (K : PySem.W.Frag) (A : Ad) (E : XK) : TS :=
  (tSeq (uIfS (uOr (uNot (uT (tCall (sp_is_whole K) [] E0 (tCons (uVar 1) tNil)))) (uT (uDIn false (uVar 1) (uFld K (uVar 0) "by_number"))))
  (uRaise E A.NoNumber)
  tNext)
  (tRet (uDGet (uFld K (uVar 0) "by_number") (uVar 1))))
theorem rd_Book_row_by {K : PySem.W.Frag} {A : Ad} (T : Tx K A) {vs : List V} {H : Hp} {Q : VK} {E : XK} (h : sp_Book_row_by K A vs H Q E) : t_Book_row_by K A E { nx := fun _ H' => Q .non H', rt := Q } (start N_Book_row_by vs) H := by
  obtain ⟨b, d, most, taken, rows, v, n, rfl, ⟨⟨dx, hi⟩, ⟨kvs, hd, kv⟩, nd, le⟩, k, qn, q⟩ := h
  refine ⟨v, n, rfl, k, ⟨fun e => br_t (qn fun r _ z => ?_), fun e => ?_⟩⟩
  · rw [z] at e
    exact absurd (show (!true) = true from e) (by decide)
  have ei : ∃ i, v = .int i := by
    cases v with
    | int i => exact ⟨i, rfl⟩
    | _ => exact absurd (show (!false) = false from e) (by decide)
  obtain ⟨i, rfl⟩ := ei
  refine ⟨A.Book, dx, _, .ref d, hi, T.cl, T.nBy, rfl, _, DGet.k (k := Sum.inl i) hd, ?_⟩
  by_cases m : ∃ r ∈ rows, r.n = i
  · obtain ⟨r, hr, rfl⟩ := m
    obtain ⟨t, h1, h2⟩ := kv.get nd r hr
    rw [h1]
    refine br_f ⟨A.Book, dx, _, .ref d, hi, T.cl, T.nBy, rfl, t, ?_, q r hr rfl t h2⟩
    rw [← h1]
    exact DGet.k (k := Sum.inl r.n) hd
  · have hn : ∀ r ∈ rows, r.n ≠ i := fun r hr e => m ⟨r, hr, e⟩
    rw [kv.not hn]
    exact br_t (qn fun r hr z => hn r hr (V.int.inj z).symm)
/-! ### Book.drop -/
abbrev N_Book_drop : List Str := ["self", "number", "row"]
def sp_Book_drop (K : PySem.W.Frag) (A : Ad) : Sp := fun vs H Q E => ∃ (b d : Addr) (most taken : Int) (rows : List Row) (v : V) (n : String), vs = [.ref b, v] ∧ BookAt K A H b d most taken rows ∧ Knd K H v n ∧
  ((∀ r ∈ rows, v ≠ .int r.n) → E (.ref A.NoNumber) none H) ∧
  ∀ r ∈ rows, v = .int r.n → ∀ (t : Addr) (H' : Hp), H t = none → Chd d H H' → BookAt K A H' b d most taken (rows.filter fun s => decide (s.n ≠ r.n)) → H' t = some (.tup [.str r.one, .str r.other, .int r.rise]) → Q (.ref t) H'
def t_Book_drop (K : PySem.W.Frag) (A : Ad) (E : XK) : TS :=
  (tSeq (tAsg (uMeth A.Book "row_by" (sp_Book_row_by K A) E (uVar 0) (tCons (uVar 1) tNil)) (gName 2))
  (tSeq (tDrop (uDPop1 (uFld K (uVar 0) "by_number") (uVar 1)))
  (tRet (uTup (tCons (tOp (cIxT K) (uVar 2) (tC (.int 1))) (tCons (tOp (cIxT K) (uVar 2) (tC (.int 2))) (tCons (tOp (cIxT K) (uVar 2) (tC (.int 3))) tNil)))))))
theorem rd_Book_drop {K : PySem.W.Frag} {A : Ad} (T : Tx K A) {vs : List V} {H : Hp} {Q : VK} {E : XK} (h : sp_Book_drop K A vs H Q E) : t_Book_drop K A E { nx := fun _ H' => Q .non H', rt := Q } (start N_Book_drop vs) H := by
  obtain ⟨b, d, most, taken, rows, v, n, rfl, B, k, qn, q⟩ := h
  obtain ⟨dx, hi⟩ := B.ins
  refine ⟨⟨dx, _, hi, rfl⟩, b, d, most, taken, rows, v, n, rfl, B, k, qn, fun r hr e t dt => ?_⟩
  obtain ⟨kvs, hd, kv⟩ := B.dict
  obtain ⟨v0, h1, h2⟩ := kv.get B.nd r hr
  subst e
  refine ⟨A.Book, dx, _, .ref d, hi, T.cl, T.nBy, rfl, ⟨kvs, hd⟩, kvs, Sum.inl r.n, v0, hd, rfl, h1, fun H1 c1 t1 => ?_⟩
  have tp : Tups H H1 := tups_chd c1 hd True.intro
  have bd : b ≠ d := ne_of hi hd (by intro z; cases z)
  obtain ⟨a, rfl, ha⟩ := row_at (row_tups tp dt)
  have B1 : BookAt K A H1 b d most taken (rows.filter fun s => decide (s.n ≠ r.n)) := ⟨⟨dx, c1 _ _ bd hi⟩, ⟨_, t1, kv.drop.tups tp⟩, B.nd.sublist (List.Sublist.map Row.n (List.filter_sublist ..)), fun s hs => B.le s (List.mem_filter.mp hs).1⟩
  exact ⟨_, _, ha, rfl, _, _, ha, rfl, _, _, ha, rfl, szr rfl, fun p H2 n2 s2 t2 => q r hr rfl p H2 (chd_free c1 t1 n2) (chd_same c1 s2) (B1.mono s2) t2⟩
/-! ### Book.way -/
abbrev N_Book_way : List Str := ["self", "one", "other", "rows", "found"]
def sp_Book_way (K : PySem.W.Frag) (A : Ad) : Sp := fun vs H Q E => ∃ (b d : Addr) (most taken : Int) (rows : List Row) (v1 v2 : V), vs = [.ref b, v1, v2] ∧ BookAt K A H b d most taken rows ∧ rows.length ≤ 1000 ∧ Some7 K H v1 ∧ Some7 K H v2 ∧
  ((pegB v1 && pegB v2) = false → E (.ref A.NoSighting) none H) ∧
  ∀ (one other : Str), v1 = .str one → v2 = .str other → (pegB v1 && pegB v2) = true → ∃ P : List Str, one ∈ P ∧ (∀ r ∈ rows, r.one ∈ P ∧ r.other ∈ P) ∧ P.length < 64 ∧
    (∀ (p : Addr) (H' : Hp) (xs : List V) (ss : List Row), H p = none → Same H H' → H' p = some (.lst xs) → DpAll K H' xs (ss.map rowD) → Way rows one ss other → Simple ss other → ss.length ≤ 2001 → Q (.ref p) H') ∧
    (¬ Reach rows one other → ∀ (H' : Hp) (dd p : Addr) (ys : List Str), H p = none → Same H H' → H' dd = some (.xd [("near", .ref p)]) → H' p = some (.lst (ys.map V.str)) → ys.Nodup → sortedS ys = true → (∀ z, z ∈ ys ↔ Reach rows one z) → E (.ref A.NoWay) (some dd) H')
def t_Book_way (K : PySem.W.Frag) (A : Ad) (E : XK) : TS :=
  (tSeq (uIfS (uOr (uNot (uT (tCall (sp_is_peg K) [] E0 (tCons (uVar 1) tNil)))) (uNot (uT (tCall (sp_is_peg K) [] E0 (tCons (uVar 2) tNil)))))
  (uRaise E A.NoSighting)
  tNext)
  (tSeq (tAsg (uMeth A.Book "kept" (sp_Book_kept K A) E0 (uVar 0) tNil) (gName 3))
  (tSeq (tAsg (tCall (sp_way_along K) [] E0 (tCons (uVar 3) (tCons (uVar 1) (tCons (uVar 2) tNil)))) (gName 4))
  (tSeq (uIfS (uT (tOp (cNon true) (uVar 4) (tC .non)))
  (uMkO E A.NoWay (sp_NoWay___init__ K A) (tCons (tCall (sp_part_of K) [] E0 (tCons (uVar 3) (tCons (uVar 1) tNil))) tNil))
  tNext)
  (tRet (uVar 4))))))
theorem rd_Book_way {K : PySem.W.Frag} {A : Ad} (T : Tx K A) {vs : List V} {H : Hp} {Q : VK} {E : XK} (h : sp_Book_way K A vs H Q E) : t_Book_way K A E { nx := fun _ H' => Q .non H', rt := Q } (start N_Book_way vs) H := by
  obtain ⟨b, d, most, taken, rows, v1, v2, rfl, B, hlen, ⟨n1, k1⟩, ⟨n2, k2⟩, q1, q⟩ := h
  obtain ⟨dx, hi⟩ := B.ins
  refine ⟨v1, n1, rfl, k1, ⟨fun e => br_t ?_, fun e => ⟨v2, n2, rfl, k2, ⟨fun e2 => ?_, fun e2 => ?_⟩⟩⟩⟩
  · have e : pegB v1 = false := by simpa using e
    exact q1 (by rw [e]; rfl)
  · have e2 : pegB v2 = false := by simpa using e2
    exact q1 (by rw [e2, Bool.and_false])
  have e : pegB v1 = true := by simpa using e
  have e2 : pegB v2 = true := by simpa using e2
  obtain ⟨one, rfl⟩ : ∃ z, v1 = .str z := by
    cases v1 <;> first | exact absurd e Bool.false_ne_true | exact ⟨_, rfl⟩
  obtain ⟨other, rfl⟩ : ∃ z, v2 = .str z := by
    cases v2 <;> first | exact absurd e2 Bool.false_ne_true | exact ⟨_, rfl⟩
  obtain ⟨P, o1, oP, lP, qw, qn⟩ := q one other rfl rfl (by rw [e, e2]; rfl)
  refine ⟨⟨dx, _, hi, rfl⟩, b, d, most, taken, rows, rfl, B, fun l H1 xs m1 s1 t1 al => ⟨.ref l, rows, one, other, rfl, .lst (SqL.of t1) al, hlen, fun nr H2 s2 => br_t ?_, fun w H2 ys ss nw s2 t2 a2 W S hss => ?_⟩⟩
  · refine ⟨.ref l, rows, one, P, rfl, .lst (SqL.of (s2 _ _ t1)) (dpAll_mono s2 al), hlen, o1, oP, lP, fun p H3 ys np s3 t3 nd so mem => ?_⟩
    refine ⟨Nat.le_of_ble_eq_true rfl, fun a na => ⟨a, .ref p, rfl, upd_same, fun dd nd' ne => ⟨rfl, dd, [("near", V.ref p)], upd_same, ?_, ?_, ?_⟩⟩⟩
    · rw [upd_ne ne, upd_same]
    · rw [upd_ne ne] at nd'
      exact nd'
    · have se := same_err (o2 := exd dd [("near", V.ref p)]) (o3 := exo a A.NoWay (some dd)) (o4 := .xd [("near", V.ref p)]) na nd'
      exact qn nr _ dd p ys ((s1.trans s2).free np) (((s1.trans s2).trans s3).trans se) upd_same (se _ _ t3) nd so mem
  · exact br_f (qw w H2 ys ss (s1.free nw) (s1.trans s2) t2 a2 W S hss)
/-! ### Book.rise -/
abbrev N_Book_rise : List Str := ["self", "one", "other"]
def sp_Book_rise (K : PySem.W.Frag) (A : Ad) : Sp := fun vs H Q E => ∃ (b d : Addr) (most taken : Int) (rows : List Row) (v1 v2 : V), vs = [.ref b, v1, v2] ∧ BookAt K A H b d most taken rows ∧ rows.length ≤ 1000 ∧ Some7 K H v1 ∧ Some7 K H v2 ∧
  ((pegB v1 && pegB v2) = false → E (.ref A.NoSighting) none H) ∧
  ∀ (one other : Str), v1 = .str one → v2 = .str other → (pegB v1 && pegB v2) = true → ∃ P : List Str, one ∈ P ∧ (∀ r ∈ rows, r.one ∈ P ∧ r.other ∈ P) ∧ P.length < 64 ∧
    (∀ (H' : Hp) (ss : List Row), Same H H' → Way rows one ss other → Q (.int (total ss)) H') ∧
    (¬ Reach rows one other → ∀ (H' : Hp) (dd p : Addr) (ys : List Str), H p = none → Same H H' → H' dd = some (.xd [("near", .ref p)]) → H' p = some (.lst (ys.map V.str)) → ys.Nodup → sortedS ys = true → (∀ z, z ∈ ys ↔ Reach rows one z) → E (.ref A.NoWay) (some dd) H')
def t_Book_rise (K : PySem.W.Frag) (A : Ad) (E : XK) : TS :=
  (tRet (tCall (sp_total K) [] E0 (tCons (uMeth A.Book "way" (sp_Book_way K A) E (uVar 0) (tCons (uVar 1) (tCons (uVar 2) tNil))) tNil)))
theorem rd_Book_rise {K : PySem.W.Frag} {A : Ad} (T : Tx K A) {vs : List V} {H : Hp} {Q : VK} {E : XK} (h : sp_Book_rise K A vs H Q E) : t_Book_rise K A E { nx := fun _ H' => Q .non H', rt := Q } (start N_Book_rise vs) H := by
  obtain ⟨b, d, most, taken, rows, v1, v2, rfl, B, hlen, k1, k2, q1, q⟩ := h
  obtain ⟨dx, hi⟩ := B.ins
  refine ⟨⟨dx, _, hi, rfl⟩, b, d, most, taken, rows, v1, v2, rfl, B, hlen, k1, k2, q1, fun one other e1 e2 e => ?_⟩
  obtain ⟨P, o1, oP, lP, qw, qn⟩ := q one other e1 e2 e
  exact ⟨P, o1, oP, lP, fun p H1 xs ss np s1 t1 a1 W S hss => ⟨.ref p, ss, rfl, .lst (SqL.of t1) a1, qw H1 ss s1 W⟩, qn⟩
/-! ### Book.parts -/
abbrev N_Book_parts : List Str := ["self", "links", "seen", "found", "peg", "part", "one"]
def sp_Book_parts (K : PySem.W.Frag) (A : Ad) : Sp := fun vs H Q _ => ∃ (b d : Addr) (most taken : Int) (rows : List Row) (P : List Str), vs = [.ref b] ∧ BookAt K A H b d most taken rows ∧ rows.length ≤ 1000 ∧ Pool P rows ∧ P.length < 64 ∧
  ∀ (p : Addr) (H' : Hp) (xs : List V) (ps : List (List Str)) (ys : List Str), H p = none → Same H H' → H' p = some (.lst xs) → StrLs (fun q => H q = none ∧ q ≠ p) H' xs ps → xs.Nodup → xs.length ≤ 64 → Pegs rows ys → PartsOf rows ys ps → Q (.ref p) H'
def lp1_Book_parts (K : PySem.W.Frag) (A : Ad) : TS :=
  (tFor (iList K (uVar 5)) (gName 6)
  (uDPut (uVar 2) (uVar 6) (tC (.bl true))))
def lp2_Book_parts (K : PySem.W.Frag) (A : Ad) : TS :=
  (tFor (iList K (tCB cSortedD (tCons (uVar 1) tNil))) (gName 4)
  (uIfS (uT (uDIn false (uVar 4) (uVar 2)))
  (tSeq (tAsg (tCB cSortedD (tCons (tCall (sp_reached K) [] E0 (tCons (uVar 1) (tCons (uVar 4) tNil))) tNil)) (gName 5))
  (tSeq (lp1_Book_parts K A)
  (tDrop (tBM K "list" cApp (uVar 3) (tCons (uVar 5) tNil)))))
  tNext))
def t_Book_parts (K : PySem.W.Frag) (A : Ad) : TS :=
  (tSeq (tAsg (tCall (sp_leaving K) [] E0 (tCons (uMeth A.Book "kept" (sp_Book_kept K A) E0 (uVar 0) tNil) tNil)) (gName 1))
  (tSeq (tAsg uDNew (gName 2))
  (tSeq (tAsg (uLst tNil) (gName 3))
  (tSeq (lp2_Book_parts K A)
  (tRet (uVar 3))))))
theorem LinksOf.pegs {K : PySem.W.Frag} {H : Hp} {d : Addr} {rows : List Row} (h : LinksOf K H d rows) : ∃ (kvs : List (Key × V)) (ks : List Str), H d = some (.dK kvs) ∧ kvs.map (·.1) = ks.map Sum.inr ∧ ks.Nodup ∧ ∀ z, z ∈ ks ↔ ∃ r ∈ rows, z = r.one ∨ z = r.other := by
  obtain ⟨L, h, k⟩ := h
  refine ⟨_, L.map (·.1), h.dict, h.keys, h.nd, fun z => ⟨fun m => ?_, fun ⟨r, hr, e⟩ => ?_⟩⟩
  · obtain ⟨s, hs, e⟩ := k z m
    rcases hs with hs | hs
    · exact ⟨s, hs, .inl e.symm⟩
    · exact ⟨_, hs, .inr e.symm⟩
  · rcases e with e | e
    · rw [e]
      exact h.sub r (mem_adds.mpr (.inl hr))
    · rw [e]
      have z : r.turn ∈ adds rows := mem_adds.mpr (.inr (by rw [Row.turn_turn]; exact hr))
      exact h.sub r.turn z
theorem pegs_of {rows : List Row} {ks ys : List Str} (nd : ks.Nodup) (mem : ∀ z, z ∈ ks ↔ ∃ r ∈ rows, z = r.one ∨ z = r.other) (pm : ys.Perm ks) (so : sortedS ys = true) : Pegs rows ys := ⟨pm.nodup_iff.mpr nd, so, fun z => by rw [pm.mem_iff]; exact mem z⟩
theorem Bfs.sub {rows : List Row} {one : Str} {B : Last} (T : Bfs rows one B) {P : List Str} (o1 : one ∈ P) (oP : Pool P rows) : B.keys.length ≤ P.length := nodup_len T.nd fun z hz => reach_pool oP o1 (T.iff.mp hz)
theorem putK_len' {κ : Type} [DecidableEq κ] (kvs : List (κ × V)) (k : κ) (v : V) : (putK kvs k v).length ≤ kvs.length + 1 := by
  unfold putK
  split
  · simp
  · simp
theorem rd_Book_parts {K : PySem.W.Frag} {A : Ad} (T : Tx K A) {vs : List V} {H : Hp} {Q : VK} {E : XK} (h : sp_Book_parts K A vs H Q E) : t_Book_parts K A { nx := fun _ H' => Q .non H', rt := Q } (start N_Book_parts vs) H := by
  obtain ⟨b, d, most, taken, rows, P, rfl, B, hlen, oP, lP, q⟩ := h
  obtain ⟨dx, hi⟩ := B.ins
  refine ⟨⟨dx, _, hi, rfl⟩, b, d, most, taken, rows, rfl, B, fun l0 H1 xs1 n1 s1 t1 al1 => ⟨.ref l0, rows, rfl, .lst (SqL.of t1) al1, hlen, fun lk H2 s2 hL => ?_⟩⟩
  intro sn H3 n3 s3 t3
  refine ⟨szr rfl, fun p H4 n4 s4 t4 => ?_⟩
  obtain ⟨kvs, ks, hkv, hkeys, knd, kmem⟩ := (hL.mono (s3.trans s4)).pegs
  have kl : ks.length < 64 := by
    have : ks.length ≤ P.length := nodup_len knd fun z hz => by
      obtain ⟨r, hr, e | e⟩ := (kmem z).mp hz
      · rw [e]; exact (oP r hr).1
      · rw [e]; exact (oP r hr).2
    omega
  refine ⟨kvs, ks, .inl hkv, hkeys, kl, fun ys pm so l H5 n5 s5 t5 => ?_⟩
  have hy := pegs_of knd kmem pm so
  have yl : ys.length < 64 := by rw [pm.length_eq]; exact kl
  have yP : ∀ z ∈ ys, z ∈ P := fun z hz => by
    obtain ⟨r, hr, e | e⟩ := (hy.mem z).mp hz
    · rw [e]; exact (oP r hr).1
    · rw [e]; exact (oP r hr).2
  have s12 := s1.trans s2
  have s05 := (((s12).trans s3).trans s4).trans s5
  have s25 := (s3.trans s4).trans s5
  have nsn : H sn = none := s12.free n3
  have np : H p = none := (s12.trans s3).free n4
  have nl : H l = none := ((s12.trans s3).trans s4).free n5
  have snp : sn ≠ p := fun z => by rw [z] at t3; rw [t3] at n4; cases n4
  have lsn : l ≠ sn := fun z => by rw [z, s4 _ _ t3] at n5; cases n5
  have lp : l ≠ p := fun z => by rw [z, t4] at n5; cases n5
  have n2sn : H2 sn = none := n3
  have n2p : H2 p = none := s3.free n4
  refine ⟨l, rfl, ⟨_, SqL.of t5⟩, for_list (K := K) (a := l) (xs := ys.map V.str) (fun i σ H' => Same H2 H' ∧ H' l = some (.lst (ys.map V.str)) ∧ ∃ (kv : List (Key × V)) (xs : List V) (ps : List (List Str)) (w4 w5 w6 : Option V), H' sn = some (.dK kv) ∧ kv.length ≤ 64 * i ∧ (∀ z, (valV kv (Sum.inr z)).isSome = true ↔ ∃ (j : Nat) (w : Str), j < i ∧ ys[j]? = some w ∧ Reach rows w z) ∧
      H' p = some (.lst xs) ∧ xs.length ≤ i ∧ StrLs (fun q => H q = none ∧ q ≠ p ∧ q ≠ sn) H' xs ps ∧ xs.Nodup ∧ PartsOf rows (ys.take i) ps ∧ σ = [some (.ref b), some (.ref lk), some (.ref sn), some (.ref p), w4, w5, w6])
    ⟨s25, t5, [], [], [], none, none, none, s5 _ _ (s4 _ _ t3), Nat.le_refl _, fun z => ⟨(fun h => nomatch h), fun ⟨j, w, hj, _⟩ => absurd hj (Nat.not_lt_zero j)⟩, s5 _ _ t4, Nat.le_refl _, .nil, List.nodup_nil, .nil, rfl⟩ (fun i σ H' _ h => SqL.of h.2.1) ?_ ?_⟩
  · rintro i x σ H6 e ⟨s26, hl6, kv, xs, ps, w4, w5, w6, hsn, hkl, hsee, hp, hx, ls, xnd, po, rfl⟩
    rw [List.getElem?_map] at e
    obtain ⟨z, ez, rfl⟩ := Option.map_eq_some_iff.mp e
    have hi : i < ys.length := (List.getElem?_eq_some_iff.mp ez).1
    have etk : ys.take (i + 1) = ys.take i ++ [z] := by rw [List.take_add_one, ez]; rfl
    have hfst := hy.fst ez
    have z1 : z ∈ P := yP z (List.mem_of_getElem? ez)
    refine ⟨_, DGet.k (k := Sum.inr z) hsn, ?_⟩
    -- whether it was seen
    have seen_iff : (valV kv (Sum.inr z)).isSome = true ↔ ¬ IsFst rows z := by
      rw [hsee, hfst]
      constructor
      · rintro ⟨j, w, hj, ew, r⟩ k
        exact k j w hj ew r
      · intro k
        obtain ⟨j, k⟩ := Classical.not_forall.mp k
        obtain ⟨w, k⟩ := Classical.not_forall.mp k
        obtain ⟨hj, k⟩ := Classical.not_imp.mp k
        obtain ⟨ew, k⟩ := Classical.not_imp.mp k
        exact ⟨j, w, hj, ew, Classical.not_not.mp k⟩
    have next : ∀ (y : Str), (∃ (j : Nat) (w : Str), j < i + 1 ∧ ys[j]? = some w ∧ Reach rows w y) ↔ ((∃ (j : Nat) (w : Str), j < i ∧ ys[j]? = some w ∧ Reach rows w y) ∨ Reach rows z y) := fun y => by
      constructor
      · rintro ⟨j, w, hj, ew, r⟩
        by_cases c : j < i
        · exact .inl ⟨j, w, c, ew, r⟩
        · have e : j = i := by omega
          subst e
          rw [ez] at ew
          cases ew
          exact .inr r
      · rintro (⟨j, w, hj, ew, r⟩ | r)
        · exact ⟨j, w, by omega, ew, r⟩
        · exact ⟨i, z, by omega, ez, r⟩
    refine ⟨fun ns => ?_, fun ns => ?_⟩
    · have f : IsFst rows z := Classical.not_not.mp fun nf => by
        have y := seen_iff.mpr nf
        rw [y] at ns
        cases ns
      refine ⟨lk, z, rows, rfl, hL.mono s26, hlen, fun rp H7 Bs n7 s7 hB TB => ?_⟩
      obtain ⟨kvb, hkb, kvB⟩ := hB
      have bl := Bfs.sub TB z1 oP
      refine ⟨kvb, Last.keys Bs, .inl hkb, kvB.keys, by omega, fun part pm2 so2 q0 H8 n8 s8 t8 => ?_⟩
      have pz : PartOf rows z part := ⟨pm2.nodup_iff.mpr TB.nd, so2, fun w => by rw [pm2.mem_iff]; exact TB.iff⟩
      have pl : part.length ≤ 64 := by rw [pm2.length_eq]; omega
      have s68 := s7.trans s8
      have q0sn : q0 ≠ sn := fun w => by rw [w, s7 _ _ hsn] at n8; cases n8
      have q0p : q0 ≠ p := fun w => by rw [w, s7 _ _ hp] at n8; cases n8
      have q0l : q0 ≠ l := fun w => by rw [w, s7 _ _ hl6] at n8; cases n8
      have nq0 : H q0 = none := (s12.trans (s26.trans s7)).free n8
      refine ⟨q0, rfl, ⟨_, SqL.of t8⟩, for_list (K := K) (a := q0) (xs := part.map V.str) (fun k σ H' => Chd sn H8 H' ∧ ∃ (kv' : List (Key × V)) (w6 : Option V), H' sn = some (.dK kv') ∧ kv'.length ≤ 64 * i + k ∧ (∀ y, (valV kv' (Sum.inr y)).isSome = true ↔ ((valV kv (Sum.inr y)).isSome = true ∨ y ∈ part.take k)) ∧
        σ = [some (.ref b), some (.ref lk), some (.ref sn), some (.ref p), some (.str z), some (.ref q0), w6]) ⟨fun b o _ h => h, kv, _, s68 _ _ hsn, Nat.le_trans hkl (Nat.le_add_right _ _), fun y => ⟨.inl, fun h => h.elim id fun h => absurd h (by rw [List.take_zero]; exact List.not_mem_nil)⟩, rfl⟩ (fun k σ H' _ h => SqL.of (h.1 _ _ q0sn t8)) ?_ ?_⟩
      · rintro k x σ H9 ex ⟨c9, kv', w6', hsn9, hk9, see9, rfl⟩
        rw [List.getElem?_map] at ex
        obtain ⟨y, ey, rfl⟩ := Option.map_eq_some_iff.mp ex
        have hkk : k < part.length := (List.getElem?_eq_some_iff.mp ey).1
        refine ⟨kv', Sum.inr y, hsn9, rfl, szl (by omega), fun H10 c10 t10 => ⟨chd_trans c9 c10, _, _, t10, Nat.le_trans (putK_len' ..) (by omega), fun y' => ?_, rfl⟩⟩
        rw [valV_put, List.take_add_one, ey]
        show _ ↔ _ ∨ y' ∈ _ ++ [y]
        rw [List.mem_append, List.mem_singleton]
        by_cases c : y' = y
        · subst c
          rw [if_pos rfl]
          exact ⟨fun _ => .inr (.inr rfl), fun _ => rfl⟩
        · rw [if_neg fun h => c (Sum.inr.inj h), see9]
          exact ⟨fun h => h.elim .inl fun h => .inr (.inl h), fun h => h.elim .inl fun h => h.elim .inr fun h => absurd h c⟩
      · rintro σ H9 ⟨c9, kv', w6', hsn9, hk9, see9, rfl⟩
        rw [List.length_map] at hk9 see9
        rw [List.take_length] at see9
        have hp9 : H9 p = some (.lst xs) := c9 _ _ snp.symm (s68 _ _ hp)
        refine ⟨.inl ⟨rfl, _, SqL.of hp9⟩, xs, hp9, szl (by omega), fun H10 c10 t10 => ?_⟩
        have s2_10 : Same H2 H10 := same_chd (same_chd (s26.trans s68) c9 n2sn) c10 n2p
        have ls9 : StrLs (fun q => H q = none ∧ q ≠ p ∧ q ≠ sn) H9 xs ps := (ls.mono s68).chd c9 fun q n => n.2.2
        have ls10 : StrLs (fun q => H q = none ∧ q ≠ p ∧ q ≠ sn) H10 xs ps := ls9.chd c10 fun q n => n.2.1
        refine ⟨s2_10, c10 _ _ lp (c9 _ _ lsn (s68 _ _ hl6)), kv', xs ++ [.ref q0], ps ++ [part], _, _, _, c10 _ _ snp hsn9, by omega, fun y => ?_, t10, by rw [List.length_append]; exact Nat.succ_le_succ hx, ls10.snoc ⟨nq0, q0p, q0sn⟩ (c10 _ _ q0p (c9 _ _ q0sn t8)), ?_, ?_, rfl⟩
        · rw [see9, next, ← hsee, pz.mem]
        · refine nodup_snoc xnd fun m => ?_
          obtain ⟨q', eq, _, k⟩ := ls.mem _ m
          cases eq
          exact k (s7.free n8)
        · unfold PartsOf
          rw [etk, (firsts_snoc rows (ys.take i) z).1 f]
          exact Paired.snoc' po pz
    · have ns : (valV kv (Sum.inr z)).isSome = true := by simpa using ns
      have nf := seen_iff.mp ns
      refine ⟨s26, hl6, kv, xs, ps, _, _, _, hsn, by omega, fun y => ?_, hp, by omega, ls, xnd, ?_, rfl⟩
      · rw [next, ← hsee]
        refine ⟨.inl, fun h => h.elim id fun r => ?_⟩
        obtain ⟨j, w, hj, ew, rw'⟩ := (hsee z).mp ns
        exact (hsee y).mpr ⟨j, w, hj, ew, rw'.trans r⟩
      · unfold PartsOf
        rw [etk, (firsts_snoc rows (ys.take i) z).2 nf]
        exact po
  · rintro σ H6 ⟨s26, hl6, kv, xs, ps, w4, w5, w6, hsn, hkl, hsee, hp, hx, ls, xnd, po, rfl⟩
    rw [List.length_map, List.take_length] at po
    rw [List.length_map] at hx
    exact q p H6 xs ps ys np (s12.trans s26) hp (ls.imp fun _ n => ⟨n.1, n.2.1⟩) xnd (by omega) hy po
/-! ### Book.heights -/
abbrev N_Book_heights : List Str := ["self", "links", "high", "peg", "one", "step"]
/-- heights told: each peg's over the first of its part -/
structure HeightsOf (rows : List Row) (ys : List Str) (h : Str → Int) : Prop where
  rise : ∀ r ∈ rows, h r.other - h r.one = r.rise
  zero : ∀ z ∈ ys, IsFst rows z → h z = 0
def pairD (z : Str) (x : Int) : PyData := .tuple [.str z, .int x]
def sp_Book_heights (K : PySem.W.Frag) (A : Ad) : Sp := fun vs H Q _ => ∃ (b d : Addr) (most taken : Int) (rows : List Row) (P : List Str), vs = [.ref b] ∧ BookAt K A H b d most taken rows ∧ rows.length ≤ 1000 ∧ Pool P rows ∧ P.length < 64 ∧ Agr rows ∧
  ∀ (p : Addr) (H' : Hp) (xs : List V) (ys : List Str) (g : Str → Int), H p = none → Same H H' → H' p = some (.lst xs) → DpAll K H' xs (ys.map fun z => pairD z (g z)) → Pegs rows ys → HeightsOf rows ys g → ys.length < 64 → Q (.ref p) H'
def lp1_Book_heights (K : PySem.W.Frag) (A : Ad) : TS :=
  (tFor (iItems (uFreeze (tCall (sp_reached K) [] E0 (tCons (uVar 1) (tCons (uVar 3) tNil))))) (gTup K 2 (gCons (gName 4) (gCons (gName 5) gNil)))
  (uIfS (uT (tOp (cNon true) (uVar 5) (tC .non)))
  (uDPut (uVar 2) (uVar 4) (tC (.int 0)))
  (uDPut (uVar 2) (uVar 4) (tOp kAdd (uDGet (uVar 2) (tOp (cIxT K) (uVar 5) (tC (.int 1)))) (tOp (cIxT K) (uVar 5) (tC (.int 3)))))))
def lp2_Book_heights (K : PySem.W.Frag) (A : Ad) : TS :=
  (tFor (iList K (tCB cSortedD (tCons (uVar 1) tNil))) (gName 3)
  (uIfS (uT (uDIn false (uVar 3) (uVar 2)))
  (lp1_Book_heights K A)
  tNext))
def t_Book_heights (K : PySem.W.Frag) (A : Ad) : TS :=
  (tSeq (tAsg (tCall (sp_leaving K) [] E0 (tCons (uMeth A.Book "kept" (sp_Book_kept K A) E0 (uVar 0) tNil) tNil)) (gName 1))
  (tSeq (tAsg uDNew (gName 2))
  (tSeq (lp2_Book_heights K A)
  (tRet (uLc (iList K (tCB cSortedD (tCons (uVar 2) tNil))) (gName 3) tYes (uTup (tCons (uVar 3) (tCons (uDGet (uVar 2) (uVar 3)) tNil))) [3])))))
theorem pair_at {K : PySem.W.Frag} {H : Hp} {v : V} {z : Str} {x : Int} (h : Dp K H v (pairD z x)) : ∃ a, v = .ref a ∧ SqT K H a [.str z, .int x] := by
  obtain ⟨a, xs, rfl, h, al⟩ := dp_tup h
  obtain ⟨_, _, rfl, h1, al⟩ := dpAll_cons al
  obtain ⟨_, _, rfl, h2, al⟩ := dpAll_cons al
  obtain rfl := dpAll_nil al
  obtain rfl := dp_str h1
  obtain rfl := dp_int h2
  exact ⟨a, rfl, h⟩
theorem pair_mk {K : PySem.W.Frag} {H : Hp} {a : Addr} {z : Str} {x : Int} (h : SqT K H a [.str z, .int x]) : Dp K H (.ref a) (pairD z x) := .tup h (.cons (.str _) (.cons (.int _) .nil))
theorem TStay.pair (z : Str) (x : Int) : TStay (pairD z x) := fun K H H' v e h => by
  obtain ⟨a, rfl, h2⟩ := pair_at h
  exact pair_mk (tups_t e h2)
open Classical in
/-- the first of a peg's part -/
noncomputable def fstOf (rows : List Row) (ys : List Str) (z : Str) : Str := if h : ∃ w, w ∈ ys ∧ IsFst rows w ∧ Reach rows w z then choose h else z
theorem IsFst.uniq {rows : List Row} {a b : Str} (h : IsFst rows a) (k : IsFst rows b) (r : Reach rows a b) : a = b := leS.anti (h b r) (k a r.symm)
theorem fstOf_eq {rows : List Row} {ys : List Str} {w z : Str} (hw : w ∈ ys) (f : IsFst rows w) (r : Reach rows w z) : fstOf rows ys z = w := by
  have h : ∃ w, w ∈ ys ∧ IsFst rows w ∧ Reach rows w z := ⟨w, hw, f, r⟩
  unfold fstOf
  rw [dif_pos h]
  obtain ⟨h1, h2, h3⟩ := Classical.choose_spec h
  exact h2.uniq f (h3.trans r.symm)
theorem putK_keys_nd {κ : Type} [DecidableEq κ] (kvs : List (κ × V)) (k : κ) (v : V) (h : (kvs.map (·.1)).Nodup) : ((putK kvs k v).map (·.1)).Nodup ∧ ∀ x, x ∈ (putK kvs k v).map (·.1) ↔ x ∈ kvs.map (·.1) ∨ x = k := by
  by_cases m : k ∈ kvs.map (·.1)
  · rw [putK_keys kvs k v m]
    exact ⟨h, fun x => ⟨.inl, fun z => z.elim id fun e => e ▸ m⟩⟩
  · rw [putK_new v (valV_no m), List.map_append]
    refine ⟨nodup_snoc h m, fun x => ?_⟩
    rw [List.mem_append]
    exact ⟨fun z => z.imp id fun z => by simpa using z, fun z => z.imp id fun z => by simpa using z⟩
theorem valV_key {κ : Type} [DecidableEq κ] {kvs : List (κ × V)} {k : κ} : (valV kvs k).isSome = true ↔ k ∈ kvs.map (·.1) := by
  constructor
  · intro h
    by_cases m : k ∈ kvs.map (·.1)
    · exact m
    · rw [valV_no m] at h
      cases h
  · intro m
    cases e : valV kvs k with
    | some v => rfl
    | none => exact absurd m (valV_not e)
theorem Paired.get2 {α β : Type} {R : α → β → Prop} : ∀ {xs : List α} {ys : List β} {i : Nat} {x : α} {y : β}, Paired R xs ys → xs[i]? = some x → ys[i]? = some y → R x y
  | _, _, i, x, y, .nil, h, _ => by simp at h
  | _, _, 0, x, y, .cons a _, h, k => by
    have h := Option.some.inj h
    have k := Option.some.inj k
    subst h k
    exact a
  | _, _, i + 1, x, y, .cons _ t, h, k => Paired.get2 (i := i) t (by simpa using h) (by simpa using k)
/-- each part has a first -/
theorem exists_first {rows : List Row} {ys : List Str} (hy : Pegs rows ys) {z : Str} (hz : z ∈ ys) : ∃ w, w ∈ ys ∧ IsFst rows w ∧ Reach rows w z := by
  obtain ⟨i, hi, ei⟩ := List.mem_iff_getElem.mp hz
  have key : ∀ (n : Nat) (w : Str), ys[n]? = some w → Reach rows w z → ∃ w, w ∈ ys ∧ IsFst rows w ∧ Reach rows w z := fun n => by
    induction n using Nat.strongRecOn with
    | ind n ih =>
      intro w ew r
      by_cases f : IsFst rows w
      · exact ⟨w, List.mem_of_getElem? ew, f, r⟩
      · have k := (not_congr (hy.fst ew)).mp f
        obtain ⟨j, k⟩ := Classical.not_forall.mp k
        obtain ⟨u, k⟩ := Classical.not_forall.mp k
        obtain ⟨hj, k⟩ := Classical.not_imp.mp k
        obtain ⟨eu, k⟩ := Classical.not_imp.mp k
        exact ih j hj u eu ((Classical.not_not.mp k).trans r)
  exact key i z (by rw [List.getElem?_eq_getElem hi, ei]) (Reach.refl _ _)
theorem rd_Book_heights {K : PySem.W.Frag} {A : Ad} (T : Tx K A) {vs : List V} {H : Hp} {Q : VK} {E : XK} (h : sp_Book_heights K A vs H Q E) : t_Book_heights K A { nx := fun _ H' => Q .non H', rt := Q } (start N_Book_heights vs) H := by
  obtain ⟨b, d, most, taken, rows, P, rfl, B, hlen, oP, lP, ⟨f, hf⟩, q⟩ := h
  obtain ⟨dx, hi⟩ := B.ins
  refine ⟨⟨dx, _, hi, rfl⟩, b, d, most, taken, rows, rfl, B, fun l0 H1 xs1 n1 s1 t1 al1 => ⟨.ref l0, rows, rfl, .lst (SqL.of t1) al1, hlen, fun lk H2 s2 hL => ?_⟩⟩
  intro hn H3 n3 s3 t3
  obtain ⟨kvs, ks, hkv, hkeys, knd, kmem⟩ := (hL.mono s3).pegs
  have kl : ks.length < 64 := by
    have : ks.length ≤ P.length := nodup_len knd fun z hz => by
      obtain ⟨r, hr, e | e⟩ := (kmem z).mp hz
      · rw [e]; exact (oP r hr).1
      · rw [e]; exact (oP r hr).2
    omega
  refine ⟨kvs, ks, .inl hkv, hkeys, kl, fun ys pm so l H5 n5 s5 t5 => ?_⟩
  have hy := pegs_of knd kmem pm so
  have yl : ys.length < 64 := by rw [pm.length_eq]; exact kl
  have yP : ∀ z ∈ ys, z ∈ P := fun z hz => by
    obtain ⟨r, hr, e | e⟩ := (hy.mem z).mp hz
    · rw [e]; exact (oP r hr).1
    · rw [e]; exact (oP r hr).2
  have s12 := s1.trans s2
  have s25 := s3.trans s5
  have nhn : H hn = none := s12.free n3
  have n2hn : H2 hn = none := n3
  have lhn : l ≠ hn := fun z => by rw [z, t3] at n5; cases n5
  -- the height of a peg
  let g : Str → Int := fun z => f z - f (fstOf rows ys z)
  -- what the dict holds behind the parts of ys.take i
  let Done : Nat → Str → Prop := fun i z => ∃ (j : Nat) (w : Str), j < i ∧ ys[j]? = some w ∧ Reach rows w z
  have stepf : ∀ s, IsStep rows s → s.rise = f s.other - f s.one := fun s hs => by
    rcases hs with hs | hs
    · exact hf s hs
    · have z := hf _ hs
      have z : 0 - s.rise = f s.one - f s.other := z
      omega
  refine ⟨l, rfl, ⟨_, SqL.of t5⟩, for_list (K := K) (a := l) (xs := ys.map V.str) (fun i σ H' => Same H2 H' ∧ H' l = some (.lst (ys.map V.str)) ∧ ∃ (kv : List (Key × V)) (ks : List Str) (w3 w4 w5 : Option V), H' hn = some (.dK kv) ∧ kv.map (·.1) = ks.map Sum.inr ∧ ks.Nodup ∧ (∀ z, z ∈ ks ↔ Done i z) ∧ (∀ z ∈ ks, valV kv (Sum.inr z) = some (.int (g z))) ∧
      σ = [some (.ref b), some (.ref lk), some (.ref hn), w3, w4, w5])
    ⟨s25, t5, [], [], none, none, none, s5 _ _ t3, rfl, List.nodup_nil, fun z => ⟨(fun h => by cases h), fun ⟨j, w, hj, _⟩ => absurd hj (Nat.not_lt_zero j)⟩, fun z h => (by cases h), rfl⟩ (fun i σ H' _ h => SqL.of h.2.1) ?_ ?_⟩
  · rintro i x σ H6 e ⟨s26, hl6, kv, kk, w3, w4, w5, hhn, hkk, kknd, hmem, hval, rfl⟩
    rw [List.getElem?_map] at e
    obtain ⟨z, ez, rfl⟩ := Option.map_eq_some_iff.mp e
    have hi : i < ys.length := (List.getElem?_eq_some_iff.mp ez).1
    have z1 : z ∈ P := yP z (List.mem_of_getElem? ez)
    have hfst := hy.fst ez
    have next : ∀ (y : Str), Done (i + 1) y ↔ (Done i y ∨ Reach rows z y) := fun y => by
      constructor
      · rintro ⟨j, w, hj, ew, r⟩
        by_cases c : j < i
        · exact .inl ⟨j, w, c, ew, r⟩
        · have e : j = i := by omega
          subst e
          rw [ez] at ew
          cases ew
          exact .inr r
      · rintro (⟨j, w, hj, ew, r⟩ | r)
        · exact ⟨j, w, by omega, ew, r⟩
        · exact ⟨i, z, by omega, ez, r⟩
    have key : ∀ {kv' : List (Key × V)} {kk' : List Str}, kv'.map (·.1) = kk'.map Sum.inr → ∀ y, ((valV kv' (Sum.inr y)).isSome = true ↔ y ∈ kk') := fun {kv' kk'} h y => by
      rw [valV_key, h]
      exact ⟨fun m => by
        obtain ⟨w, hw, e⟩ := List.mem_map.mp m
        rw [← Sum.inr.inj e]; exact hw, fun m => List.mem_map.mpr ⟨y, m, rfl⟩⟩
    have done_iff : z ∈ kk ↔ ¬ IsFst rows z := by
      rw [hmem, hfst]
      constructor
      · rintro ⟨j, w, hj, ew, r⟩ k
        exact k j w hj ew r
      · intro k
        obtain ⟨j, k⟩ := Classical.not_forall.mp k
        obtain ⟨w, k⟩ := Classical.not_forall.mp k
        obtain ⟨hj, k⟩ := Classical.not_imp.mp k
        obtain ⟨ew, k⟩ := Classical.not_imp.mp k
        exact ⟨j, w, hj, ew, Classical.not_not.mp k⟩
    refine ⟨_, DGet.k (k := Sum.inr z) hhn, ⟨fun ns => ?_, fun ns => ?_⟩⟩
    · have nz : ¬ z ∈ kk := fun m => by
        rw [(key hkk z).mpr m] at ns
        cases ns
      have fz : IsFst rows z := Classical.not_not.mp fun nf => nz (done_iff.mpr nf)
      refine ⟨lk, z, rows, rfl, hL.mono s26, hlen, fun rp H7 Bs n7 s7 hB TB => ?_⟩
      obtain ⟨kvb, hkb, kvB⟩ := hB
      refine ⟨kvb, hkb, fun od => ⟨rp, od, kvb, rfl, upd_same, ?_⟩⟩
      have gz : ∀ y, Reach rows z y → g y = f y - f z := fun y r => by
        show f y - f (fstOf rows ys y) = _
        rw [fstOf_eq (List.mem_of_getElem? ez) fz r]
      have rhn : rp ≠ hn := fun w => by rw [w, hhn] at n7; cases n7
      have rl : rp ≠ l := fun w => by rw [w, hl6] at n7; cases n7
      have n2rp : H2 rp = none := s26.free n7
      have s28 : Same H2 (upd H7 rp (.frz od (.dK kvb))) := fun x o e => by
        rw [upd_ne (ne_of_none e n2rp)]
        exact s7 _ _ (s26 _ _ e)
      have kvB8 : LastKV K (upd H7 rp (.frz od (.dK kvb))) kvb Bs := kvB.tups (tups_lock hkb)
      have bl := Bfs.sub TB z1 oP
      have klen := kvB.length
      have kkP : ∀ y ∈ kk, y ∈ P := fun y hy' => by
        obtain ⟨j, w, _, ew, r⟩ := (hmem y).mp hy'
        exact reach_pool oP (yP w (List.mem_of_getElem? ew)) r
      refine for_items (d := rp) (od := od) (kvs := kvb) (fun k σ H' => Same H2 H' ∧ H' l = some (.lst (ys.map V.str)) ∧ H' rp = some (.frz od (.dK kvb)) ∧ LastKV K H' kvb Bs ∧ ∃ (kv' : List (Key × V)) (kk' : List Str) (w4 w5 : Option V), H' hn = some (.dK kv') ∧ kv'.map (·.1) = kk'.map Sum.inr ∧ kk'.Nodup ∧
          (∀ y, y ∈ kk' ↔ y ∈ kk ∨ y ∈ (Last.keys Bs).take k) ∧ (∀ y ∈ kk', valV kv' (Sum.inr y) = some (.int (g y))) ∧ σ = [some (.ref b), some (.ref lk), some (.ref hn), some (.str z), w4, w5])
        ⟨s28, by rw [upd_ne rl.symm]; exact s7 _ _ hl6, upd_same, kvB8, kv, kk, _, _, by rw [upd_ne rhn.symm]; exact s7 _ _ hhn, hkk, kknd, fun y => ⟨.inl, fun h => h.elim id fun h => absurd h (by rw [List.take_zero]; exact List.not_mem_nil)⟩, hval, rfl⟩ (fun k σ H' _ h => h.2.2.1) ?_ ?_
      · rintro k key' v σ H9 tp H10 ek ⟨s29, hl9, hrp9, kvB9, kv', kk', w4', w5', hhn9, hkk9, kknd9, hmem9, hval9, rfl⟩ ntp s910 htp
        -- the pair
        have hlk : k < Bs.length := by rw [← klen]; exact (List.getElem?_eq_some_iff.mp ek).1
        obtain ⟨⟨y, o⟩, eb⟩ : ∃ b, Bs[k]? = some b := ⟨_, List.getElem?_eq_getElem hlk⟩
        have kw : key' = Sum.inr y ∧ OptRow K H9 v o := Paired.get2 (R := fun (kv : Key × V) (b : Str × Option Row) => kv.1 = Sum.inr b.1 ∧ OptRow K H9 kv.2 b.2) kvB9 ek eb
        obtain ⟨rfl, ov⟩ := kw
        have yk : (Last.keys Bs)[k]? = some y := by unfold Last.keys; rw [List.getElem?_map, eb]; rfl
        have ry : Reach rows z y := TB.iff.mp (Last.mem_key eb)
        have etk : (Last.keys Bs).take (k + 1) = (Last.keys Bs).take k ++ [y] := by rw [List.take_add_one, yk]; rfl
        have s2_10 := s29.trans s910
        have hhn10 := s910 _ _ hhn9
        have kkl : kv'.length < 1000 := by
          have e1 : kv'.length = kk'.length := by
            have e := congrArg List.length hkk9
            rw [List.length_map, List.length_map] at e
            exact e
          have : kk'.length ≤ P.length := nodup_len kknd9 fun y hy' => by
            rcases (hmem9 y).mp hy' with m | m
            · exact kkP y m
            · exact reach_pool oP z1 (TB.iff.mp (List.mem_of_mem_take m))
          omega
        -- behind the put
        have put : ∀ (x : Int), x = g y → ∀ (H11 : Hp), Chd hn H10 H11 → H11 hn = some (.dK (putK kv' (Sum.inr y) (.int x))) → Same H2 H11 ∧ H11 l = some (.lst (ys.map V.str)) ∧ H11 rp = some (.frz od (.dK kvb)) ∧ LastKV K H11 kvb Bs ∧ ∃ (kv'' : List (Key × V)) (kk'' : List Str) (w4 w5 : Option V), H11 hn = some (.dK kv'') ∧ kv''.map (·.1) = kk''.map Sum.inr ∧ kk''.Nodup ∧
            (∀ y, y ∈ kk'' ↔ y ∈ kk ∨ y ∈ (Last.keys Bs).take (k + 1)) ∧ (∀ y ∈ kk'', valV kv'' (Sum.inr y) = some (.int (g y))) ∧ [some (V.ref b), some (.ref lk), some (.ref hn), some (.str z), some (.str y), some v] = [some (.ref b), some (.ref lk), some (.ref hn), some (.str z), w4, w5] := fun x ex H11 c11 t11 => by
          have tp11 : Tups H10 H11 := tups_chd c11 hhn10 True.intro
          refine ⟨same_chd s2_10 c11 n2hn, c11 _ _ lhn (s910 _ _ hl9), c11 _ _ rhn (s910 _ _ hrp9), (kvB9.tups (tups_of s910)).tups tp11, ?_⟩
          by_cases m : y ∈ kk'
          · have km : Sum.inr y ∈ kv'.map (·.1) := by rw [hkk9]; exact List.mem_map.mpr ⟨y, m, rfl⟩
            refine ⟨_, kk', _, _, t11, by rw [putK_keys _ _ _ km, hkk9], kknd9, fun w => ?_, fun w hw => ?_, rfl⟩
            · rw [etk, hmem9, List.mem_append, List.mem_singleton]
              constructor
              · exact fun h => h.imp id .inl
              · rintro (h | h | h)
                · exact .inl h
                · exact .inr h
                · rw [h]
                  exact (hmem9 y).mp m
            · rw [valV_put]
              by_cases c : w = y
              · rw [if_pos (by rw [c]), ex, c]
              · rw [if_neg fun h => c (Sum.inr.inj h)]
                exact hval9 w hw
          · have kn : valV kv' (Sum.inr y) = none := valV_no fun km => by
              rw [hkk9] at km
              obtain ⟨w, hw, e⟩ := List.mem_map.mp km
              exact m (by rw [← Sum.inr.inj e]; exact hw)
            refine ⟨_, kk' ++ [y], _, _, t11, by rw [putK_new _ kn, List.map_append, List.map_append, hkk9]; rfl, nodup_snoc kknd9 m, fun w => ?_, fun w hw => ?_, rfl⟩
            · rw [etk, List.mem_append, List.mem_append, hmem9, List.mem_singleton, or_assoc]
            · rw [valV_put]
              by_cases c : w = y
              · rw [if_pos (by rw [c]), ex, c]
              · rw [if_neg fun h => c (Sum.inr.inj h)]
                rcases List.mem_append.mp hw with h | h
                · exact hval9 w h
                · exact absurd (List.mem_singleton.mp h) c
        refine ⟨tp, _, rfl, SqT.of htp, rfl, _, _, rfl, _, _, rfl, rfl, ?_⟩
        cases o with
        | none =>
          have ev : v = .non := ov
          subst ev
          have k0 : k = 0 := Decidable.by_contra fun h => by
            obtain ⟨s, _, _, e, _⟩ := TB.par k y none eb (by omega)
            cases e
          have hd0 := TB.hd
          rw [← k0] at hd0
          rw [hd0] at eb
          cases eb
          refine br_t ⟨kv', Sum.inr z, hhn10, rfl, szl (by omega), fun H11 c11 t11 => put 0 ?_ H11 c11 t11⟩
          rw [gz z (Reach.refl _ _)]
          omega
        | some s =>
          obtain ⟨t, rfl, ht⟩ := row_at ov
          have hpos : 0 < k := Decidable.by_contra fun h => by
            have e0 : k = 0 := by omega
            subst e0
            rw [TB.hd] at eb
            cases eb
          obtain ⟨s', j, q', es, st, so', hj, ej⟩ := TB.par k y (some s) eb hpos
          cases es
          subst so'
          have ht10 := same_t s910 ht
          have s1k : s.one ∈ kk' := (hmem9 _).mpr (.inr (by
            have e1 : (Last.keys Bs)[j]? = some s.one := by unfold Last.keys; rw [List.getElem?_map, ej]; rfl
            exact List.mem_take_iff_getElem.mpr ⟨j, by have := (List.getElem?_eq_some_iff.mp e1).1; omega, (List.getElem?_eq_some_iff.mp e1).2⟩))
          have r1 : Reach rows z s.one := TB.iff.mp (Last.mem_key ej)
          refine br_f ⟨_, _, ht10, rfl, .int (g s.one), ?_, _, _, ht10, rfl, kv', Sum.inr s.other, hhn10, rfl, szl (by omega), fun H11 c11 t11 => put (g s.one + s.rise) ?_ H11 c11 t11⟩
          · rw [← hval9 _ s1k]
            exact DGet.k (k := Sum.inr s.one) hhn10
          · rw [gz _ r1, gz _ ry, stepf s st]
            omega
      · rintro σ H9 ⟨s29, hl9, hrp9, kvB9, kv', kk', w4', w5', hhn9, hkk9, kknd9, hmem9, hval9, rfl⟩
        refine ⟨s29, hl9, kv', kk', _, _, _, hhn9, hkk9, kknd9, fun y => ?_, hval9, rfl⟩
        have ekl : kvb.length = (Last.keys Bs).length := by unfold Last.keys; rw [List.length_map, klen]
        rw [hmem9, next, ← hmem, ekl, List.take_length, TB.iff]
    · have ns : (valV kv (Sum.inr z)).isSome = true := by simpa using ns
      have mz := (key hkk z).mp ns
      refine ⟨s26, hl6, kv, kk, _, _, _, hhn, hkk, kknd, fun y => ?_, hval, rfl⟩
      rw [next, ← hmem]
      refine ⟨.inl, fun h => h.elim id fun r => ?_⟩
      obtain ⟨j, w, hj, ew, rw'⟩ := (hmem z).mp mz
      exact (hmem y).mpr ⟨j, w, hj, ew, rw'.trans r⟩
  · rintro σ H6 ⟨s26, hl6, kv, kk, w3, w4, w5, hhn, hkk, kknd, hmem, hval, rfl⟩
    rw [List.length_map] at hmem
    have mem : ∀ y, y ∈ kk ↔ y ∈ ys := fun y => by
      rw [hmem]
      constructor
      · rintro ⟨j, w, _, ew, r⟩
        exact hy.reach (List.mem_of_getElem? ew) r
      · intro m
        obtain ⟨j, hj, ej⟩ := List.mem_iff_getElem.mp m
        exact ⟨j, y, hj, by rw [List.getElem?_eq_getElem hj, ej], Reach.refl _ _⟩
    have kkl : kk.length < 64 := Nat.lt_of_le_of_lt (nodup_len kknd fun y m => (mem y).mp m) yl
    refine uLc_of ⟨kv, kk, .inl hhn, hkk, kkl, fun zs pm2 so2 l2 H7 n7 s7 t7 => ?_⟩
    have ezs : zs = ys := sorted_eq so2 so (pm2.nodup_iff.mpr kknd) hy.nd fun y => by rw [pm2.mem_iff]; exact mem y
    subst ezs
    have hlen' : (zs.map V.str).length = zs.length := List.length_map ..
    refine lcd_listT (K := K) (te := uTup (tCons (uVar 3) (tCons (uDGet (uVar 2) (uVar 3)) tNil))) (tt := tYes) (j := 3) (σ := [some (.ref b), some (.ref lk), some (.ref hn), w3, w4, w5]) (Q := Q) (fun i => (zs[i]?).bind fun z => some (pairD z (g z))) (fun i dd hd => ?_) (SqL.of t7) (by omega) (fun x => rfl) (fun i x H8 R ex s8 k => ?_) (fun i x dd H8 R ex hd s8 k => ?_) fun p H8 vs n8 s8 t8 a8 => ?_
    · obtain ⟨z, _, e⟩ := Option.bind_eq_some_iff.mp hd
      cases e
      exact TStay.pair _ _
    · have hi : i < zs.length := by rw [← hlen']; exact (List.getElem?_eq_some_iff.mp ex).1
      rw [List.getElem?_eq_getElem hi] at k
      exact k
    · rw [List.getElem?_map] at ex
      obtain ⟨z, ez, rfl⟩ := Option.map_eq_some_iff.mp ex
      rw [ez] at hd
      cases hd
      have mz : z ∈ kk := (mem z).mpr (List.mem_of_getElem? ez)
      refine ⟨.int (g z), ?_, szr rfl, fun t H9 n9 s9 t9 => k (.ref t) H9 s9 (pair_mk (SqT.of t9))⟩
      rw [← hval z mz]
      exact DGet.k (k := Sum.inr z) (s8 _ _ (s7 _ _ hhn))
    · rw [hlen', filt_at] at a8
      have e1 : zs.filterMap (fun z => some (pairD z (g z))) = zs.map fun z => pairD z (g z) := by rw [List.filterMap_eq_map']
      rw [e1] at a8
      refine q p H8 vs zs g ((s12.trans (s26.trans s7)).free n8) ((s12.trans (s26.trans s7)).trans s8) t8 a8 hy ⟨fun r hr => ?_, fun z hz fz => ?_⟩ yl
      · have r1 : Reach rows r.one r.other := .step (.inl hr)
        have m1 : r.one ∈ zs := (hy.mem _).mpr ⟨r, hr, .inl rfl⟩
        have e : fstOf rows zs r.one = fstOf rows zs r.other := by
          obtain ⟨i, hi', ei⟩ := List.mem_iff_getElem.mp m1
          -- the first of the part: there is one
          have ex : ∃ w, w ∈ zs ∧ IsFst rows w ∧ Reach rows w r.one := by
            have := exists_first hy m1
            exact this
          obtain ⟨w, hw, fw, rw'⟩ := ex
          rw [fstOf_eq hw fw rw', fstOf_eq hw fw (rw'.trans r1)]
        show (f r.other - f (fstOf rows zs r.other)) - (f r.one - f (fstOf rows zs r.one)) = r.rise
        rw [e, hf r hr]
        omega
      · show f z - f (fstOf rows zs z) = 0
        rw [fstOf_eq hz fz (Reach.refl _ _)]
        omega
/-! ### row_shown -/
abbrev N_row_shown : List Str := ["row"]
theorem sig_of {s : Sg} (h : GoodS s) : sigB (sgV s) = true := by
  have h1 : ∀ {z : Str}, Pg z → pegS z = true := fun {z} h => by
    obtain ⟨n, a, n1, n2⟩ := h
    show (decide (1 ≤ z.length) && decide (z.length ≤ 8) && azB z) = true
    rw [a.len, decide_eq_true n1, decide_eq_true n2]
    show azB z = true
    unfold azB
    rw [List.all_eq_true]
    exact fun c hc => decide_eq_true (az_mem.mpr (a.all c hc))
  show (pegS s.1 && pegS s.2.1 && decide (-(10 ^ 60) < s.2.2 ∧ s.2.2 < 10 ^ 60)) = true
  rw [h1 h.one, h1 h.other, decide_eq_true (show -(10 ^ 60) < s.2.2 ∧ s.2.2 < 10 ^ 60 from h.bnd)]
  rfl
theorem kn_str {K : PySem.W.Frag} {H : Hp} {z : Str} (h : Pg z) : Some7 K H (.str z) := ⟨_, .str _ (by have := h.sz; omega)⟩
theorem kn_int {K : PySem.W.Frag} {H : Hp} (i : Int) : Some7 K H (.int i) := ⟨_, .int i⟩
def sp_row_shown (K : PySem.W.Frag) : Sp := fun vs H Q _ => ∃ (v : V) (r : Row), vs = [v] ∧ Dp K H v (rowD r) ∧ GoodS (sgOf r) ∧ Q (.str (showS (sgOf r))) H
def t_row_shown (K : PySem.W.Frag) : TS :=
  (tRet (tOp cAddS (tOp cAddS (tOp cAddS (tOp cAddS (tOp (cIxT K) (uVar 0) (tC (.int 1))) (tC (.str " "))) (tOp (cIxT K) (uVar 0) (tC (.int 2)))) (tC (.str " "))) (tCB cStrI (tCons (tOp (cIxT K) (uVar 0) (tC (.int 3))) tNil))))
theorem show_lens {a b : Str} {c : Int} (h1 : Pg a) (h2 : Pg b) : a.length + (" " : Str).length ≤ sizeLine ∧ (a ++ " ").length + b.length ≤ sizeLine ∧ (a ++ " " ++ b).length + (" " : Str).length ≤ sizeLine ∧ (Bnd c → (a ++ " " ++ b ++ " ").length + (toString c : Str).length ≤ sizeLine) := by
  have l1 := h1.sz
  have l2 := h2.sz
  simp only [str_app_len, blank_len]
  refine ⟨sz (by omega), sz (by omega), sz (by omega), fun h3 => ?_⟩
  have l3 : (toString c : Str).length ≤ 61 := numS_len h3
  exact sz (by omega)
theorem rd_row_shown {K : PySem.W.Frag} {vs : List V} {H : Hp} {Q : VK} {E : XK} (h : sp_row_shown K vs H Q E) : t_row_shown K { nx := fun _ H' => Q .non H', rt := Q } (start N_row_shown vs) H := by
  obtain ⟨v, r, rfl, d, g, q⟩ := h
  obtain ⟨a, rfl, ht⟩ := row_at d
  obtain ⟨l1, l2, l3, l4⟩ := show_lens (c := r.rise) g.one g.other
  exact ⟨_, _, ht, rfl, l1, _, _, ht, rfl, l2, l3, _, _, ht, rfl, log_bnd g.bnd, l4 g.bnd, q⟩
/-! ### shown -/
abbrev N_shown : List Str := ["book", "row"]
def sp_shown (K : PySem.W.Frag) (A : Ad) : Sp := fun vs H Q _ => ∃ (b d : Addr) (most taken : Int) (rows : List Row), vs = [.ref b] ∧ BookAt K A H b d most taken rows ∧ (∀ r ∈ rows, GoodS (sgOf r)) ∧ rows.length ≤ 1000 ∧ ∀ (H' : Hp), Same H H' → Q (.str (showAll (rows.map sgOf))) H'
def t_shown (K : PySem.W.Frag) (A : Ad) : TS :=
  (tRet (tM1 (cJoin K) (tC (.str "; ")) (uLc (iList K (uMeth A.Book "kept" (sp_Book_kept K A) E0 (uVar 0) tNil)) (gName 1) tYes (tCall (sp_row_shown K) [] E0 (tCons (uVar 1) tNil)) [1])))
theorem good_map {rows : List Row} (g : ∀ r ∈ rows, GoodS (sgOf r)) : ∀ s ∈ rows.map sgOf, GoodS s := fun s hs => by
  obtain ⟨r, hr, rfl⟩ := List.mem_map.mp hs
  exact g r hr
theorem rd_shown {K : PySem.W.Frag} {A : Ad} (T : Tx K A) {vs : List V} {H : Hp} {Q : VK} {E : XK} (h : sp_shown K A vs H Q E) : t_shown K A { nx := fun _ H' => Q .non H', rt := Q } (start N_shown vs) H := by
  obtain ⟨b, d, most, taken, rows, rfl, B, g, hlen, q⟩ := h
  obtain ⟨dx, hi⟩ := B.ins
  refine ⟨⟨_, rfl⟩, uLc_of ⟨⟨dx, _, hi, rfl⟩, b, d, most, taken, rows, rfl, B, fun p H1 xs n1 s1 t1 al => ?_⟩⟩
  have hx : xs.length = rows.length := by rw [dpAll_length al, List.length_map]
  refine lcd_listT (K := K) (Q := fun y H2 => cJoin K (.str "; ") [y] H2 Q) (te := tCall (sp_row_shown K) [] E0 (tCons (uVar 1) tNil)) (tt := tYes) (j := 1) (σ := [some (.ref b), none]) (fun i => (rows[i]?).bind fun r => some (PyData.str (showS (sgOf r)))) (fun i dd hd => ?_) (SqL.of t1) (by omega) (fun x => rfl) (fun i x H2 R ex s k => ?_) (fun i x dd H2 R ex hd s k => ?_) fun p2 H2 vs n2 s2 t2 al2 => ?_
  · obtain ⟨r, _, e⟩ := Option.bind_eq_some_iff.mp hd
    cases e
    exact TStay.str _
  · have hi : i < rows.length := by rw [← hx]; exact (List.getElem?_eq_some_iff.mp ex).1
    rw [List.getElem?_eq_getElem hi] at k
    exact k
  · obtain ⟨d0, hd0, dx1⟩ := dpAll_get al ex
    rw [List.getElem?_map] at hd0
    obtain ⟨r, es, rfl⟩ := Option.map_eq_some_iff.mp hd0
    rw [es] at hd
    cases hd
    exact ⟨x, r, rfl, dp_mono s dx1, g r (List.mem_of_getElem? es), k _ H2 (Same.refl H2) (.str _)⟩
  · rw [hx, filt_at] at al2
    have e1 : rows.filterMap (fun r => some (PyData.str (showS (sgOf r)))) = ((rows.map sgOf).map showS).map PyData.str := by
      rw [List.filterMap_eq_map', List.map_map, List.map_map]
      rfl
    rw [e1] at al2
    have ev := dp_strs al2
    subst ev
    have sm := all_sum (good_map g)
    rw [List.length_map] at sm
    refine ⟨(rows.map sgOf).map showS, SqL.of t2, ?_, q H2 (s1.trans s2)⟩
    rw [List.length_map, List.length_map, semi_len]
    omega
/-! ### rise_of -/
abbrev N_rise_of : List Str := ["word", "figures", "sign"]
def sp_rise_of (K : PySem.W.Frag) (A : Ad) : Sp := fun vs H Q E => ∃ (w : Str), vs = [.str w] ∧ w.length ≤ 100000 ∧ (¬ Rise w → E (.ref A.NoText) none H) ∧ ∀ c, Bnd c → w = numS c → Q (.int c) H
def lp1_rise_of (K : PySem.W.Frag) (A : Ad) (E : XK) : TS :=
  (tFor (iStr (uVar 1)) (gName 2)
  (uIfS (uT (tOp (cSign false) (uVar 2) (tC (.str "0123456789"))))
  (uRaise E A.NoText)
  tNext))
def t_rise_of (K : PySem.W.Frag) (A : Ad) (E : XK) : TS :=
  (tSeq (tAsg (uVar 0) (gName 1))
  (Evl.tCut (uIfS (uT (tOp kEqS (tSl cSlS (uVar 0) tNoPart (uPart (tC (.int 1)))) (tC (.str "-"))))
  (tAsg (tSl cSlS (uVar 0) (uPart (tC (.int 1))) tNoPart) (gName 1))
  tNext)
  (tSeq (uIfS (uOr (uT (tOp kEqS (uVar 1) (tC (.str "")))) (uOr (uT (tOp kGt (tCB cLenS (tCons (uVar 1) tNil)) (tC (.int 60)))) (uT (tOp kEqS (uVar 0) (tC (.str "-0"))))))
  (uRaise E A.NoText)
  tNext)
  (tSeq (lp1_rise_of K A E)
  (tSeq (uIfS (uAnd (uT (tOp kEqS (tOp cIxS (uVar 1) (tC (.int 0))) (tC (.str "0")))) (uT (tOp kGt (tCB cLenS (tCons (uVar 1) tNil)) (tC (.int 1)))))
  (uRaise E A.NoText)
  tNext)
  (tRet (tCB cIntS (tCons (uVar 0) tNil))))))))
theorem nums_iff {c : Nat} : c ∈ ("0123456789" : Str).cps.toList ↔ 48 ≤ c ∧ c ≤ 57 := by
  have e : ("0123456789" : Str).cps.toList = [48, 49, 50, 51, 52, 53, 54, 55, 56, 57] := by decide +kernel
  rw [e]
  simp only [List.mem_cons, List.not_mem_nil, or_false]
  omega
theorem zero_tl : ("0" : Str).cps.toList = [48] := by decide +kernel
theorem figs_len (w : Str) : (figsOf w).length ≤ w.length := by
  unfold figsOf
  split
  · rw [str_len, str_len, cut_rest, List.length_drop]
    omega
  · exact Nat.le_refl _
theorem sign_eq {d : Nat} {z : Str} {k : Nat} (hz : z.cps.toList = [k]) : ((⟨#[d]⟩ : Str) = z) ↔ d = k := by
  constructor
  · intro e
    have e2 : ((⟨#[d]⟩ : Str).cps.toList) = z.cps.toList := by rw [e]
    rw [hz] at e2
    exact (List.cons.inj e2).1
  · intro e
    refine TL.ext_tl ?_
    show [d] = z.cps.toList
    rw [hz, e]
theorem rd_rise_of {K : PySem.W.Frag} {A : Ad} (T : Tx K A) {vs : List V} {H : Hp} {Q : VK} {E : XK} (h : sp_rise_of K A vs H Q E) : t_rise_of K A E { nx := fun _ H' => Q .non H', rt := Q } (start N_rise_of vs) H := by
  obtain ⟨w, rfl, hl, qe, q⟩ := h
  have lF := figs_len w
  refine ⟨fun σ' H' => H' = H ∧ σ' = [some (.str w), some (.str (figsOf w)), none], ⟨sz (by omega), ⟨fun e => ?_, fun e => ?_⟩⟩, ?_⟩
  · have e := of_decide_eq_true e
    have f : figsOf w = cutS w (some 1) none := by unfold figsOf; rw [if_pos e]
    rw [f]
    exact ⟨sz (by omega), rfl, rfl⟩
  · have e := of_decide_eq_false e
    have f : figsOf w = w := by unfold figsOf; rw [if_neg e]
    rw [f]
    exact ⟨rfl, rfl⟩
  rintro σ' H' ⟨rfl, rfl⟩
  refine ⟨fun e => br_t (qe fun r => (figs_of_rise r).ne (of_decide_eq_true e)), fun e1 => ⟨sz (by omega), ⟨fun e => br_t (qe fun r => ?_), fun e2 => ⟨fun e => qe fun r => (figs_of_rise r).nz (of_decide_eq_true e), fun e3 => ?_⟩⟩⟩⟩
  · have := (figs_of_rise r).le
    have e := of_decide_eq_true e
    omega
  have e1 := of_decide_eq_false e1
  have e2 := of_decide_eq_false e2
  have e3 := of_decide_eq_false e3
  refine ⟨figsOf w, rfl, for_str (x := figsOf w) (fun i σ H'' => H'' = H' ∧ (∀ c ∈ (figsOf w).cps.toList.take i, 48 ≤ c ∧ c ≤ 57) ∧ ∃ v, σ = [some (.str w), some (.str (figsOf w)), v]) ⟨rfl, (fun c hc => by rw [List.take_zero] at hc; cases hc), _, rfl⟩ ?_ ?_⟩
  · rintro i x σ H'' hx ⟨rfl, al, v, rfl⟩
    have m : x ∈ (figsOf w).cps.toList := List.mem_of_getElem? hx
    refine ⟨x, rfl, ⟨fun e => qe fun r => ?_, fun e => ⟨rfl, fun c hc => ?_, _, rfl⟩⟩⟩
    · have d := nums_iff.mpr ((figs_of_rise r).all x m)
      have e : (!decide (x ∈ ("0123456789" : Str).cps.toList)) = true := e
      rw [decide_eq_true d] at e
      cases e
    · rw [List.take_add_one, hx] at hc
      rcases List.mem_append.mp hc with hc | hc
      · exact al c hc
      · have hc : c = x := by simpa using hc
        rw [hc]
        exact nums_iff.mp (by simpa using e)
  · rintro σ H'' ⟨rfl, al, v, rfl⟩
    rw [List.take_of_length_le (by rw [← str_len]; exact Nat.le_refl _)] at al
    obtain ⟨d, r, ed⟩ : ∃ d r, (figsOf w).cps.toList = d :: r := by
      cases h : (figsOf w).cps.toList with
      | nil => exact absurd (TL.ext_tl (by show (figsOf w).cps.toList = _; rw [h]; exact none_tl.symm)) e1
      | cons d r => exact ⟨d, r, rfl⟩
    have fin : (∀ r', r = r' → r' ≠ [] → d ≠ 48) → ∃ c, Bnd c ∧ w = numS c := fun hd => rise_of_figs ⟨e1, by omega, e3, al, fun d' r' e hr => by
      rw [ed] at e
      obtain ⟨rfl, rfl⟩ := List.cons.inj e
      exact hd _ rfl hr⟩
    have out : (∃ c, Bnd c ∧ w = numS c) → tCB cIntS (tCons (uVar 0) tNil) [some (.str w), some (.str (figsOf w)), v] H'' Q := fun ⟨c, hb, ew⟩ => by
      have := numS_len hb
      refine ⟨c, by rw [ew]; exact numS_int hb, by rw [ew]; omega, q c hb ew⟩
    refine ⟨d, sz (by omega), at_nat (j := 0) rfl (by rw [ed]; rfl), ⟨fun e => ?_, fun e => br_f (out (fin fun r' _ _ d48 => absurd ((sign_eq zero_tl).mpr d48) (of_decide_eq_false e)))⟩⟩
    have e := (sign_eq zero_tl).mp (of_decide_eq_true e)
    refine ⟨sz (by omega), ⟨fun e2 => qe fun rr => ?_, fun e2 => out (fin fun r' er hr => ?_)⟩⟩
    · have e2 := of_decide_eq_true e2
      rw [str_len, ed, List.length_cons] at e2
      refine (figs_of_rise rr).hd d r ed (fun z => ?_) e
      rw [z] at e2
      simp at e2
    · have e2 := of_decide_eq_false e2
      rw [str_len, ed, List.length_cons] at e2
      subst er
      have : r.length = 0 := by omega
      exact absurd (List.length_eq_zero_iff.mp this) hr
/-! ### sighting_of -/
abbrev N_sighting_of : List Str := ["text", "words"]
def sp_sighting_of (K : PySem.W.Frag) (A : Ad) : Sp := fun vs H Q E => ∃ (p : Str), vs = [.str p] ∧ p.length ≤ 90000 ∧ (¬ SgT p → ∀ (H' : Hp), Same H H' → E (.ref A.NoText) none H') ∧ ∀ (s : Sg), GoodS s → p = showS s → ∀ (t : V) (H' : Hp), Same H H' → Dp K H' t (sgD s) → Q t H'
def t_sighting_of (K : PySem.W.Frag) (A : Ad) (E : XK) : TS :=
  (tSeq (tAsg (tM1 cSplit (uVar 0) (tC (.str " "))) (gName 1))
  (tSeq (uIfS (uOr (uT (tOp kNeI (tCB (cLenQ K) (tCons (uVar 1) tNil)) (tC (.int 3)))) (uOr (uNot (uT (tCall (sp_is_peg K) [] E0 (tCons (tOp (cIxL K) (uVar 1) (tC (.int 0))) tNil)))) (uNot (uT (tCall (sp_is_peg K) [] E0 (tCons (tOp (cIxL K) (uVar 1) (tC (.int 1))) tNil))))))
  (uRaise E A.NoText)
  tNext)
  (tRet (uTup (tCons (tOp (cIxL K) (uVar 1) (tC (.int 0))) (tCons (tOp (cIxL K) (uVar 1) (tC (.int 1))) (tCons (tCall (sp_rise_of K A) [] E (tCons (tOp (cIxL K) (uVar 1) (tC (.int 2))) tNil)) tNil)))))))
theorem pg_of {z : Str} (h : pegS z = true) : Pg z := by
  have h : (decide (1 ≤ z.length) && decide (z.length ≤ 8) && azB z) = true := h
  rw [Bool.and_eq_true, Bool.and_eq_true] at h
  obtain ⟨⟨h1, h2⟩, h3⟩ := h
  refine ⟨z.length, ⟨fun c hc => ?_, rfl⟩, of_decide_eq_true h1, of_decide_eq_true h2⟩
  unfold azB at h3
  rw [List.all_eq_true] at h3
  exact az_mem.mp (of_decide_eq_true (h3 c hc))
theorem three {α : Type} {l : List α} (h : l.length = 3) : ∃ a b c, l = [a, b, c] := by
  match l, h with
  | [a, b, c], _ => exact ⟨a, b, c, rfl⟩
theorem sg_not {p a b c : Str} (e : Txt.split p " " = [a, b, c]) (h : ¬ Pg a ∨ ¬ Pg b ∨ ¬ Rise c) : ¬ SgT p := fun s => by
  obtain ⟨a', b', c', e', h1, h2, h3⟩ := sg_inv s
  rw [e] at e'
  simp only [List.cons.injEq, and_true] at e'
  obtain ⟨rfl, rfl, rfl⟩ := e'
  rcases h with h | h | h
  · exact h h1
  · exact h h2
  · exact h h3
theorem rd_sighting_of {K : PySem.W.Frag} {A : Ad} (T : Tx K A) {vs : List V} {H : Hp} {Q : VK} {E : XK} (h : sp_sighting_of K A vs H Q E) : t_sighting_of K A E { nx := fun _ H' => Q .non H', rt := Q } (start N_sighting_of vs) H := by
  obtain ⟨p, rfl, hl, qe, q⟩ := h
  obtain ⟨_, lp⟩ := split_len (z := p) blank_1
  refine ⟨⟨_, rfl⟩, by decide +kernel, sz (by omega), fun w H1 n1 s1 t1 => ?_⟩
  have hw : SqL K H1 w ((Txt.split p " ").map V.str) := SqL.of t1
  refine ⟨_, .inl hw, ⟨fun e => br_t (qe (fun s => ?_) H1 s1), fun e => ?_⟩⟩
  · obtain ⟨a, b, c, es, _⟩ := sg_inv s
    rw [es] at e
    simp at e
  have e : ¬ (((Txt.split p " ").map V.str).length : Int) ≠ 3 := by simpa using e
  rw [List.length_map] at e
  obtain ⟨a, b, c, es⟩ := three (l := Txt.split p " ") (by omega)
  have ma := lp a (by rw [es]; simp)
  have mb := lp b (by rw [es]; simp)
  have mc := lp c (by rw [es]; simp)
  rw [es] at hw
  have hw : SqL K H1 w [.str a, .str b, .str c] := hw
  refine ⟨_, _, hw, rfl, .str a, "str", rfl, .str _ (by omega), ⟨fun e1 => br_t (qe (sg_not es (.inl fun g => ?_)) H1 s1), fun e1 => ⟨_, _, hw, rfl, .str b, "str", rfl, .str _ (by omega), ⟨fun e2 => qe (sg_not es (.inr (.inl fun g => ?_))) H1 s1, fun e2 => ?_⟩⟩⟩⟩
  · have e1 : (!pegS a) = true := e1
    rw [g.pegS] at e1
    cases e1
  · have e2 : (!pegS b) = true := e2
    rw [g.pegS] at e2
    cases e2
  have e1 : (!pegS a) = false := e1
  have e2 : (!pegS b) = false := e2
  have ga : Pg a := pg_of (by simpa using e1)
  have gb : Pg b := pg_of (by simpa using e2)
  refine ⟨_, _, hw, rfl, _, _, hw, rfl, _, _, hw, rfl, c, rfl, by omega, fun nr => qe (sg_not es (.inr (.inr nr))) H1 s1, fun r hr er => ⟨szr rfl, fun t H2 n2 s2 t2 => ?_⟩⟩
  have g : GoodS (a, b, r) := ⟨ga, gb, hr⟩
  refine q (a, b, r) g ?_ (.ref t) H2 (s1.trans s2) (sg_mk (SqT.of t2))
  rw [← join_back p " ", es, er, ← split_one g, join_back]
/-! ### read -/
abbrev N_read : List Str := ["text", "most", "told", "part", "book", "one", "other", "rise"]
/-- the rows of the text, one by one: each is refused, or taken -/
def sp_read (K : PySem.W.Frag) (A : Ad) : Sp := fun vs H Q E => ∃ (z : Str) (most : Int), vs = [.str z, .int most] ∧ z.length ≤ 6000 ∧ 0 ≤ most ∧
  (¬ Told z → ∀ (H' : Hp), Same H H' → E (.ref A.NoText) none H') ∧
  ∀ (l : List Sg), (∀ s ∈ l, GoodS s) → z = showAll l →
    (∀ (i : Nat), i < l.length → (i : Int) = most → Agr (numb 0 (l.take i)) → ∀ (H' : Hp), Same H H' → E (.ref A.Full) none H') ∧
    (∀ (i : Nat) (s : Sg), l[i]? = some s → (i : Int) < most → Agr (numb 0 (l.take i)) → ∀ (ss : List Row) (H' : Hp) (dd p : Addr) (xs : List V), Way (numb 0 (l.take i)) s.1 ss s.2.1 → Simple ss s.2.1 → ss.length ≤ 2001 → total ss ≠ s.2.2 → H p = none → Same H H' → H' dd = some (.xd [("trail", .ref p)]) → H' p = some (.lst xs) → DpAll K H' xs (ss.map rowD) → E (.ref A.Against) (some dd) H') ∧
    ((l.length : Int) ≤ most → Agr (numb 0 l) → ∀ (b d : Addr) (H' : Hp), H b = none → H d = none → Same H H' → BookAt K A H' b d most l.length (numb 0 l) → Q (.ref b) H')
def lp1_read (K : PySem.W.Frag) (A : Ad) (E : XK) : TS :=
  (tFor (iList K (uVar 2)) (gTup K 3 (gCons (gName 5) (gCons (gName 6) (gCons (gName 7) gNil))))
  (tDrop (uMeth A.Book "take" (sp_Book_take K A) E (uVar 4) (tCons (uVar 5) (tCons (uVar 6) (tCons (uVar 7) tNil))))))
def t_read (K : PySem.W.Frag) (A : Ad) (E : XK) : TS :=
  (tSeq (tAsg (uLst tNil) (gName 2))
  (Evl.tCut (uIfS (uT (tOp kNeS (uVar 0) (tC (.str ""))))
  (tAsg (uLc (iList K (tM1 cSplit (uVar 0) (tC (.str "; ")))) (gName 3) tYes (tCall (sp_sighting_of K A) [] E (tCons (uVar 3) tNil)) [3]) (gName 2))
  tNext)
  (tSeq (tAsg (tMake A.Book (sp_Book___init__ K A) [] E0 (tCons (uVar 1) tNil)) (gName 4))
  (tSeq (lp1_read K A E)
  (tRet (uVar 4))))))
theorem numb_take {l : List Sg} {i : Nat} {s : Sg} (h : l[i]? = some s) : numb 0 (l.take (i + 1)) = numb 0 (l.take i) ++ [⟨(i : Int) + 1, s.1, s.2.1, s.2.2⟩] := by
  have hi : i < l.length := (List.getElem?_eq_some_iff.mp h).1
  rw [List.take_add_one, h]
  show numb 0 (l.take i ++ [s]) = _
  rw [numb_snoc, List.length_take, Nat.min_eq_left (Nat.le_of_lt hi), Nat.zero_add]
/-- a row that agrees is laid beside -/
theorem agr_add {rows : List Row} (h : Agr rows) {r : Row} (how : ¬ Reach rows r.one r.other ∨ ∃ ss, Way rows r.one ss r.other ∧ total ss = r.rise) : Agr (rows ++ [r]) := by
  obtain ⟨f, hf⟩ := h
  have t := top_of hf
  refine (t.lay r fun x g => ?_).agr
  obtain ⟨re, all⟩ := t.gap_some g
  rcases how with n | ⟨ss, w, e⟩
  · exact absurd re n
  · rw [← all ss w]
    exact e
theorem rd_read {K : PySem.W.Frag} {A : Ad} (T : Tx K A) {vs : List V} {H : Hp} {Q : VK} {E : XK} (h : sp_read K A vs H Q E) : t_read K A E { nx := fun _ H' => Q .non H', rt := Q } (start N_read vs) H := by
  obtain ⟨z, most, rfl, hz, m0, qn, q⟩ := h
  refine ⟨szr rfl, fun p0 H1 n1 s1 t1 => ?_⟩
  let Mid : L2.St → Hp → Prop := fun σ' H' => Same H H' ∧ ∃ (l : List Sg) (p : Addr) (xs : List V), (∀ s ∈ l, GoodS s) ∧ z = showAll l ∧ σ' = [some (.str z), some (.int most), some (.ref p), none, none, none, none, none] ∧ H' p = some (.lst xs) ∧ DpAll K H' xs (l.map sgD)
  refine ⟨Mid, ⟨fun e => ?_, fun e => ?_⟩, ?_⟩
  · have ne : z ≠ "" := fun w => by
      rw [w] at e
      exact absurd e (by decide +kernel)
    obtain ⟨sl, lp⟩ := split_len (z := z) semi_1
    refine uLc_of ⟨⟨_, rfl⟩, by decide +kernel, sz (by omega), fun p H2 n2 s2 t2 => ?_⟩
    have hx : ((Txt.split z "; ").map V.str).length = (Txt.split z "; ").length := List.length_map ..
    -- a part that is none, or all are
    have part : ∀ (i : Nat) (x : V), ((Txt.split z "; ").map V.str)[i]? = some x → ∃ y, x = .str y ∧ y ∈ Txt.split z "; " ∧ (Txt.split z "; ")[i]? = some y := fun i x ex => by
      rw [List.getElem?_map] at ex
      obtain ⟨y, ey, rfl⟩ := Option.map_eq_some_iff.mp ex
      exact ⟨y, rfl, List.mem_of_getElem? ey, ey⟩
    have all : ∀ (l : List Sg), (∀ s ∈ l, GoodS s) → (Txt.split z "; ") = l.map showS → z = showAll l := fun l _ e => by
      show z = Txt.join "; " (l.map showS)
      rw [← e, join_back]
    refine ⟨p, rfl, ⟨_, SqL.of t2⟩, fun D hD => lc_list (K := K) (a := p) (xs := (Txt.split z "; ").map V.str) (fun i H' => Same H2 H' ∧ ∃ (l : List Sg) (vs : List V), (∀ s ∈ l, GoodS s) ∧ (Txt.split z "; ").take i = l.map showS ∧ H' D = some (.lst vs) ∧ vs.length ≤ i ∧ DpAll K H' vs (l.map sgD)) ⟨same_new hD, [], [], (fun s h => nomatch h), rfl, upd_same, Nat.le_refl _, .nil⟩ (fun i H' _ h => same_l h.1 (SqL.of t2)) ?_ ?_⟩
    · rintro i x H3 ex ⟨s3, l, vs, gl, el, hD3, hv, al⟩
      obtain ⟨y, rfl, my, ey⟩ := part i x ex
      have hi : i < (Txt.split z "; ").length := (List.getElem?_eq_some_iff.mp ey).1
      have ly := lp y my
      refine ⟨rfl, y, rfl, by omega, fun n H4 s4 => qn (fun t => n ((told_parts ne).mp t y my)) H4 (((s1.trans s2).trans s3).trans s4), fun s g es t H4 s4 d4 => ⟨vs, s4 _ _ hD3, szl (by omega), same_mut (s3.trans s4) hD, l ++ [s], vs ++ [t], fun u hu => ?_, ?_, upd_same, by rw [List.length_append]; exact Nat.succ_le_succ hv, ?_⟩⟩
      · rcases List.mem_append.mp hu with hu | hu
        · exact gl u hu
        · rw [List.mem_singleton.mp hu]
          exact g
      · rw [List.take_add_one, ey, el, List.map_append, es]
        rfl
      · have tp2 : Tups H4 (upd H4 D (.lst (vs ++ [t]))) := (Tups.refl H4).mut (s4 _ _ hD3) True.intro
        have tp : Tups H3 (upd H4 D (.lst (vs ++ [t]))) := (tups_of s4).trans tp2
        rw [List.map_append]
        refine dpAll_append (TStay.all tp (fun d hd => ?_) al) (.cons (TStay.sg s K _ _ _ tp2 d4) .nil)
        obtain ⟨u, _, rfl⟩ := List.mem_map.mp hd
        exact TStay.sg u
    · rintro H3 ⟨s3, l, vs, gl, el, hD3, hv, al⟩
      rw [hx, List.take_length] at el
      exact ⟨(s1.trans s2).trans s3, l, D, vs, gl, all l gl el, rfl, hD3, al⟩
  · have e0 : z = "" := by simpa using e
    subst e0
    exact ⟨s1, [], p0, [], (fun s h => nomatch h), showAll_nil.symm, rfl, t1, .nil⟩
  rintro σ' H2 ⟨s2, l, p, xs, g, ez, rfl, hp, al⟩
  obtain ⟨qf, qa, q⟩ := q l g ez
  have ln := told_len g
  rw [← ez] at ln
  have hx : xs.length = l.length := by rw [dpAll_length al, List.length_map]
  intro b dx nb ndx ne
  refine ⟨b, dx, most, rfl, upd_same, fun d H3 nd c3 B => ⟨rfl, ?_⟩⟩
  have s3 : Same H2 H3 := made_same nb ndx c3
  have nd : H2 d = none := made_free nd
  refine ⟨p, rfl, ⟨_, SqL.of (s3 _ _ hp)⟩, for_list (K := K) (a := p) (xs := xs) (fun i σ H' => Same H2 H' ∧ (i : Int) ≤ most ∧ Agr (numb 0 (l.take i)) ∧ BookAt K A H' b d most (i : Int) (numb 0 (l.take i)) ∧ ∃ (w3 w5 w6 w7 : Option V), σ = [some (.str z), some (.int most), some (.ref p), w3, some (.ref b), w5, w6, w7]) ⟨s3, by omega, ⟨fun _ => 0, fun r h => nomatch h⟩, B, _, _, _, _, rfl⟩ (fun i σ H' _ h => SqL.of (h.1 _ _ hp)) ?_ ?_⟩
  · rintro i x σ H4 e ⟨s4, im, ag, B4, w3, w5, w6, w7, rfl⟩
    obtain ⟨dd, hd, dx1⟩ := dpAll_get al e
    rw [List.getElem?_map] at hd
    obtain ⟨s, es, rfl⟩ := Option.map_eq_some_iff.mp hd
    obtain ⟨t, rfl, ht⟩ := sg_at (dp_mono s4 dx1)
    have hi : i < l.length := (List.getElem?_eq_some_iff.mp es).1
    have gs := g s (List.mem_of_getElem? es)
    obtain ⟨dx4, hi4⟩ := B4.ins
    have nl : (numb 0 (l.take i)).length = i := by rw [numb_len, List.length_take]; omega
    have s24 := s2.trans s4
    refine ⟨t, _, rfl, ht, rfl, _, _, rfl, _, _, rfl, _, _, rfl, rfl, ⟨dx4, _, hi4, rfl⟩, b, d, most, i, numb 0 (l.take i), .str s.1, .str s.2.1, .int s.2.2, rfl, B4, by omega, by omega, gs.one.s7, gs.other.s7, ⟨_, .int _⟩, fun z => absurd (gs.sig.symm.trans z) (by decide), fun _ m H5 s5 => qf i hi (by omega) ag H5 (s24.trans s5), fun one other rise e1 e2 e3 _ lt => ?_⟩
    have e1 := V.str.inj e1
    have e2 := V.str.inj e2
    have e3 := V.int.inj e3
    subst e1 e2 e3
    refine ⟨fun how H5 c5 B5 => ?_, fun ss H5 dd p5 xs5 W S hss nt n5 s5 t5 p5' a5 => qa i s es (by omega) ag ss H5 dd p5 xs5 W S hss nt (s24.free n5) (s24.trans s5) t5 p5' a5⟩
    refine ⟨same_chd2' s4 c5 nb nd, by omega, ?_, ?_, _, _, _, _, rfl⟩
    · rw [numb_take es]
      exact agr_add ag how
    · rw [numb_take es]
      exact B5
  · rintro σ H4 ⟨s4, im, ag, B4, w3, w5, w6, w7, rfl⟩
    rw [hx] at B4 im ag
    rw [List.take_length] at B4 ag
    exact q im ag b d H4 (s2.free nb) (s2.free nd) (s2.trans s4) B4
/-! ### _law_cell_at -/
abbrev N__law_cell_at : List Str := ["_law_script", "_law_k"]
def sp__law_cell_at (K : PySem.W.Frag) : Sp := fun vs H Q _ => ∃ (a : Addr) (ns : List Int) (i : Int), vs = [.ref a, .int i] ∧ SqL K H a (ns.map V.int) ∧ 0 ≤ i ∧ ∀ (n : Int), Q (.int n) H
def t__law_cell_at (K : PySem.W.Frag) : TS :=
  (tSeq (uIfS (uT (tOp kLt (uVar 1) (tCB (cLenQ K) (tCons (uVar 0) tNil))))
  (tRet (tOp (cIxL K) (uVar 0) (uVar 1)))
  tNext)
  (tRet (tC (.int 0))))
theorem at_map {α : Type} (f : α → V) {xs : List α} {i : Int} (h0 : 0 ≤ i) (h : i < xs.length) : ∃ c, c ∈ xs ∧ atI (xs.map f) i = some (f c) := by
  have e : xs[i.toNat]? = some (xs[i.toNat]'(by omega)) := List.getElem?_eq_getElem (by omega)
  exact ⟨_, List.mem_of_getElem? e, at_nat (j := i.toNat) (by omega) (by rw [List.getElem?_map, e]; rfl)⟩
theorem rd__law_cell_at {K : PySem.W.Frag} {vs : List V} {H : Hp} {Q : VK} {E : XK} (h : sp__law_cell_at K vs H Q E) : t__law_cell_at K { nx := fun _ H' => Q .non H', rt := Q } (start N__law_cell_at vs) H := by
  obtain ⟨a, ns, i, rfl, h, i0, q⟩ := h
  refine ⟨_, .inl h, ⟨fun e => ?_, fun _ => q 0⟩⟩
  have e := of_decide_eq_true e
  rw [List.length_map] at e
  obtain ⟨c, _, hc⟩ := at_map V.int i0 e
  exact ⟨_, _, h, hc, q c⟩
/-! ### _law_whole -/
abbrev N__law_whole : List Str := ["_law_found"]
def sp__law_whole (K : PySem.W.Frag) : Sp := sp_is_whole K
def t__law_whole (K : PySem.W.Frag) : TS :=
  (tRet (uAndV (tCB (cIsi K) (tCons (uVar 0) (tCons (tC (.ty "int")) tNil))) (uNotV (tCB (cIsi K) (tCons (uVar 0) (tCons (tC (.ty "bool")) tNil))))))
theorem rd__law_whole {K : PySem.W.Frag} {vs : List V} {H : Hp} {Q : VK} {E : XK} (h : sp__law_whole K vs H Q E) : t__law_whole K { nx := fun _ H' => Q .non H', rt := Q } (start N__law_whole vs) H := rd_is_whole (E := E) h
/-! ### _law_word -/
abbrev N__law_word : List Str := ["_law_number", "_law_word_here", "_law_k"]
def sp__law_word (K : PySem.W.Frag) : Sp := fun vs H Q _ => ∃ (i : Int), vs = [.int i] ∧ 0 ≤ i ∧ i < 2 ^ 60 ∧ ∀ (z : Str), Az z 8 → Q (.str z) H
def lp1__law_word (K : PySem.W.Frag) : TS :=
  (tFor (iRng1 (tCons (tC (.int 8)) tNil)) (gName 2)
  (tAsg (tOp cAddS (uVar 1) (tOp cIxS (tC (.str "abcdefghijklmnopqrstuvwxyz")) (tOp kMod (tOp kMod (tOp kMul (uVar 0) (tOp kAdd (tOp kMul (uVar 2) (uVar 2)) (tC (.int 3)))) (tC (.int 1009))) (tC (.int 26))))) (gName 1)))
def t__law_word (K : PySem.W.Frag) : TS :=
  (tSeq (tAsg (tC (.str "")) (gName 1))
  (tSeq (lp1__law_word K)
  (tRet (uVar 1))))
theorem rd__law_word {K : PySem.W.Frag} {vs : List V} {H : Hp} {Q : VK} {E : XK} (h : sp__law_word K vs H Q E) : t__law_word K { nx := fun _ H' => Q .non H', rt := Q } (start N__law_word vs) H := by
  obtain ⟨i0, rfl, i1, i2, q⟩ := h
  refine ⟨8, rfl, by decide, by decide, for_range (lo := 0) (n := 8) (fun i σ H' => H' = H ∧ ∃ (z : Str) (v : Option V), Az z i ∧ σ = [some (.int i0), some (.str z), v]) ⟨rfl, "", none, Az.nil, rfl⟩ ?_ ?_⟩
  · rintro i σ H' hi ⟨rfl, z, v, hz, rfl⟩
    have k3 : ∀ i : Fin 8, 0 ≤ (0 + ((i : Nat) : Int)) * (0 + ((i : Nat) : Int)) ∧ (0 + ((i : Nat) : Int)) * (0 + ((i : Nat) : Int)) ≤ 100 := by decide
    have k3 : 0 ≤ (0 + (i : Int)) * (0 + (i : Int)) ∧ (0 + (i : Int)) * (0 + (i : Int)) ≤ 100 := k3 ⟨i, hi⟩
    refine ⟨.inl (by omega), .inr (by omega), by decide, by decide, _, az_sz, az_at (by omega) (by omega), ?_, rfl, _, _, hz.app (Az.one (by omega)), rfl⟩
    have e : ∀ c, (⟨#[c]⟩ : Str).length = 1 := fun _ => rfl
    rw [hz.len, e]
    exact sz (by omega)
  · rintro σ H' ⟨rfl, z, v, hz, rfl⟩
    exact q z hz
/-! ### _law_pegs -/
abbrev N__law_pegs : List Str := ["_law_cell", "_law_many", "_law_number", "_law_word_here", "_law_at", "_law_size", "_law_found", "_law_k", "_law_letter", "_law_other"]
def sp__law_pegs (K : PySem.W.Frag) : Sp := fun vs H Q _ => ∃ (c n : Int), vs = [.int c, .int n] ∧ 0 ≤ n ∧ n ≤ 24 ∧ ∀ (p : Addr) (pool : List Str) (H' : Hp), H p = none → Same H H' → H' p = some (.lst (pool.map V.str)) → pool.length = n.toNat → (∀ z ∈ pool, Pg z) → Q (.ref p) H'
def lp1__law_pegs (K : PySem.W.Frag) : TS :=
  (tFor (iRng1 (tCons (uVar 1) tNil)) (gName 7)
  (tSeq (tAsg (tOp cIxS (tC (.str "abcdefghijklmnopqrstuvwxyz")) (tOp kMod (tOp kAdd (tOp kDiv (uVar 2) (tC (.int 7))) (tOp kMul (tC (.int 5)) (uVar 7))) (tC (.int 26)))) (gName 8))
  (uIfS (uT (tOp kEqI (tOp kMod (uVar 2) (tC (.int 3))) (tC (.int 0))))
  (tDrop (tBM K "list" cApp (uVar 6) (tCons (tSl cSlS (uVar 3) tNoPart (uPart (tOp kAdd (tC (.int 1)) (uVar 7)))) tNil)))
  (uIfS (uT (tOp kEqI (tOp kMod (uVar 2) (tC (.int 3))) (tC (.int 1))))
  (tDrop (tBM K "list" cApp (uVar 6) (tCons (tOp cAddS (tOp cAddS (tSl cSlS (uVar 3) tNoPart (uPart (uVar 4))) (uVar 8)) (tSl cSlS (uVar 3) (uPart (tOp kAdd (uVar 4) (tC (.int 1)))) (uPart (uVar 5)))) tNil)))
  (tSeq (tAsg (tCall (sp__law_word K) [] E0 (tCons (tOp kAdd (tOp kDiv (uVar 2) (tC (.int 3))) (tOp kMul (tOp kMul (tC (.int 7919)) (uVar 7)) (uVar 7))) tNil)) (gName 9))
  (tDrop (tBM K "list" cApp (uVar 6) (tCons (tSl cSlS (uVar 9) tNoPart (uPart (tOp kAdd (tC (.int 1)) (tOp kMod (tOp kAdd (tOp kDiv (uVar 2) (tC (.int 11))) (tOp kMul (tC (.int 3)) (uVar 7))) (tC (.int 8)))))) tNil))))))))
def t__law_pegs (K : PySem.W.Frag) : TS :=
  (tSeq (tAsg (tOp kMod (tOp kMul (tOp kAdd (tOp kMod (uVar 0) (tC (.int 1000000007))) (tC (.int 7))) (tC (.int 48271))) (tC (.int 1000000007))) (gName 2))
  (tSeq (tAsg (tCall (sp__law_word K) [] E0 (tCons (uVar 2) tNil)) (gName 3))
  (tSeq (tAsg (tOp kMod (tOp kDiv (uVar 2) (tC (.int 3))) (tC (.int 8))) (gName 4))
  (tSeq (tAsg (tOp kAdd (tOp kAdd (uVar 4) (tC (.int 1))) (tOp kMod (tOp kDiv (uVar 2) (tC (.int 24))) (tOp kSub (tC (.int 8)) (uVar 4)))) (gName 5))
  (tSeq (tAsg (uLst tNil) (gName 6))
  (tSeq (lp1__law_pegs K)
  (tRet (uVar 6))))))))
theorem Az.cut {z : Str} {n : Nat} (h : Az z n) {lo hi : Option Int} {a b : Nat} (ha : HT.sIx z.length 0 lo = a) (hb : HT.sIx z.length z.length hi = b) (hbn : b ≤ n) : Az (cutS z lo hi) (b - a) where
  all := fun c hc => by
    unfold cutS at hc
    exact h.all c (List.mem_of_mem_drop (List.mem_of_mem_take hc))
  len := by
    rw [str_len]
    unfold cutS
    show (((z.cps.toList.drop (HT.sIx z.length 0 lo)).take (HT.sIx z.length z.length hi - HT.sIx z.length 0 lo)).toArray).toList.length = _
    rw [ha, hb, List.length_take, List.length_drop, ← str_len, h.len]
    omega
theorem six_pos {n d : Nat} {v : Int} (h : 0 ≤ v) (k : v ≤ n) : HT.sIx n d (some v) = v.toNat := by
  show (if v < 0 then (v + (n : Int)).toNat else min v.toNat n) = v.toNat
  rw [if_neg (by omega)]
  omega
/-- cut behind the end: what there is -/
theorem Az.head {z : Str} {n : Nat} (h : Az z n) {v : Int} (v1 : 1 ≤ v) (n1 : 1 ≤ n) (n8 : n ≤ 8) : Pg (cutS z none (some v)) := by
  have e : HT.sIx z.length z.length (some v) = min v.toNat z.length := by
    show (if v < 0 then (v + (z.length : Int)).toNat else min v.toNat z.length) = _
    rw [if_neg (by omega)]
  have k := h.cut (lo := none) (hi := some v) (a := 0) rfl e (by rw [h.len]; omega)
  rw [h.len] at k
  exact ⟨_, k, by omega, by omega⟩
theorem rd__law_pegs {K : PySem.W.Frag} {vs : List V} {H : Hp} {Q : VK} {E : XK} (h : sp__law_pegs K vs H Q E) : t__law_pegs K { nx := fun _ H' => Q .non H', rt := Q } (start N__law_pegs vs) H := by
  obtain ⟨c, n, rfl, n0, n1, q⟩ := h
  refine ⟨by decide, .inr (by decide), by decide, ?_⟩
  have g0 : 0 ≤ (c % 1000000007 + 7) * 48271 % 1000000007 := by omega
  have g1 : (c % 1000000007 + 7) * 48271 % 1000000007 < 1000000007 := by omega
  refine ⟨_, rfl, g0, by omega, fun word hw => ?_⟩
  generalize (c % 1000000007 + 7) * 48271 % 1000000007 = g at g0 g1 ⊢
  have a0 : 0 ≤ g / 3 % 8 := by omega
  have a1 : g / 3 % 8 < 8 := by omega
  refine ⟨by decide, by decide, by decide, by show (0 : Int) < 8 - _; omega, szr rfl, fun p H1 np s1 t1 => ?_⟩
  have hb16 : word.length = 8 := hw.len
  generalize g / 3 % 8 = at_ at a0 a1 ⊢
  have z0 : 0 ≤ g / 24 % (8 - at_) := Int.emod_nonneg _ (by omega)
  have z1 : g / 24 % (8 - at_) < 8 - at_ := Int.emod_lt_of_pos _ (by omega)
  generalize g / 24 % (8 - at_) = sz0 at z0 z1 ⊢
  refine ⟨n, rfl, by omega, by omega, for_range (lo := 0) (n := n.toNat) (fun i σ H' => Same H H' ∧ ∃ (pool : List Str) (v w x : Option V), H' p = some (.lst (pool.map V.str)) ∧ pool.length = i ∧ (∀ z ∈ pool, Pg z) ∧
    σ = [some (.int c), some (.int n), some (.int g), some (.str word), some (.int at_), some (.int (at_ + 1 + sz0)), some (.ref p), v, w, x]) ⟨s1, [], none, none, none, t1, rfl, fun z h => (by cases h), rfl⟩ ?_ ?_⟩
  · rintro i σ H2 hi ⟨s2, pool, v, w, x, hp, hl, hz, rfl⟩
    have done : ∀ (z : Str), Pg z → ∀ (w x : Option V) (H3 : Hp), Chd p H2 H3 → H3 p = some (.lst (pool.map V.str ++ [V.str z])) → Same H H3 ∧ ∃ (pool : List Str) (v w' x' : Option V), H3 p = some (.lst (pool.map V.str)) ∧ pool.length = i + 1 ∧ (∀ z ∈ pool, Pg z) ∧
        [some (V.int c), some (.int n), some (.int g), some (.str word), some (.int at_), some (.int (at_ + 1 + sz0)), some (.ref p), some (.int (0 + i)), w, x] = [some (.int c), some (.int n), some (.int g), some (.str word), some (.int at_), some (.int (at_ + 1 + sz0)), some (.ref p), v, w', x'] :=
      fun z pz w x H3 c3 t3 => ⟨same_chd s2 c3 np, pool ++ [z], _, _, _, by rw [t3, List.map_append]; rfl, by rw [List.length_append, hl]; rfl, fun y hy => by
        rcases List.mem_append.mp hy with hy | hy
        · exact hz y hy
        · have e : y = z := by simpa using hy
          rw [e]
          exact pz, rfl⟩
    have len : (pool.map V.str).length < sizeLine := szl (by rw [List.length_map]; omega)
    have one : ∀ c : Nat, (⟨#[c]⟩ : Str).length = 1 := fun _ => rfl
    have k3 : ∀ i : Fin 25, 0 ≤ 7919 * (0 + ((i : Nat) : Int)) * (0 + ((i : Nat) : Int)) ∧ 7919 * (0 + ((i : Nat) : Int)) * (0 + ((i : Nat) : Int)) ≤ 10000000 := by decide
    have k3 : 0 ≤ 7919 * (0 + (i : Int)) * (0 + (i : Int)) ∧ 7919 * (0 + (i : Int)) * (0 + (i : Int)) ≤ 10000000 := k3 ⟨i, by omega⟩
    refine ⟨by decide, .inl (by decide), by decide, _, az_sz, az_at (by omega) (by omega), ?_⟩
    have g2 : 97 ≤ ((g / 7 + 5 * (0 + (i : Int))) % 26).toNat + 97 ∧ ((g / 7 + 5 * (0 + (i : Int))) % 26).toNat + 97 ≤ 122 := by omega
    generalize ((g / 7 + 5 * (0 + (i : Int))) % 26).toNat + 97 = sg at g2 ⊢
    refine ⟨by decide, ⟨fun _ => ?_, fun _ => ⟨by decide, ⟨fun _ => ?_, fun _ => ?_⟩⟩⟩⟩
    · exact ⟨.inl ⟨rfl, _, SqL.of hp⟩, sz (by omega), _, hp, len, fun H3 c3 t3 => done _ (hw.head (by omega) (by omega) (by omega)) _ _ H3 c3 t3⟩
    · refine ⟨.inl ⟨rfl, _, SqL.of hp⟩, ?_⟩
      have c1 := hw.cut (lo := none) (hi := some at_) (a := 0) (b := at_.toNat) rfl (six_pos a0 (by omega)) (by omega)
      have c2 := hw.cut (lo := some (at_ + 1)) (hi := some (at_ + 1 + sz0)) (a := (at_ + 1).toNat) (b := (at_ + 1 + sz0).toNat) (six_pos (by omega) (by omega)) (six_pos (by omega) (by omega)) (by omega)
      have c3 := (c1.app (Az.one g2)).app c2
      refine ⟨sz (by omega), ?_, sz (by omega), ?_, _, hp, len, fun H3 c4 t4 => done _ ⟨_, c3, by omega, by omega⟩ _ _ H3 c4 t4⟩
      · rw [c1.len, one]; exact sz (by omega)
      · rw [(c1.app (Az.one g2)).len, c2.len]; exact sz (by omega)
    · refine ⟨by decide, .inl (by decide), .inr (by omega), _, rfl, by omega, by omega, fun z hz8 => ⟨.inl ⟨rfl, _, SqL.of hp⟩, by decide, .inl (by decide), by decide, sz (by rw [hz8.len]; omega), _, hp, len, fun H3 c4 t4 => done _ (hz8.head (by omega) (by omega) (by omega)) _ _ H3 c4 t4⟩⟩
  · rintro σ H2 ⟨s2, pool, v, w, x, hp, hl, hz, rfl⟩
    exact q p pool H2 np s2 hp hl hz
/-! ### _law_highs -/
abbrev N__law_highs : List Str := ["_law_some", "_law_cell", "_law_highs_here", "_law_start", "_law_k", "_law_steps"]
/-- the heights in the heap: each peg of the pool has one, below 5 * 10 ** 59 -/
def HighAt (H : Hp) (p : Addr) (pool : List Str) (f : Str → Int) : Prop := ∃ kvs : List (Key × V), H p = some (.dK kvs) ∧ kvs.length ≤ 2 * pool.length ∧ ∀ z ∈ pool, valV kvs (Sum.inr z) = some (.int (f z)) ∧ 0 ≤ f z ∧ f z < 5 * 10 ^ 59
theorem HighAt.mono {H H' : Hp} {p : Addr} {pool : List Str} {f : Str → Int} (s : Same H H') (h : HighAt H p pool f) : HighAt H' p pool f := by
  obtain ⟨kvs, h1, h2⟩ := h
  exact ⟨kvs, s _ _ h1, h2⟩
theorem HighAt.dget {H : Hp} {p : Addr} {pool : List Str} {f : Str → Int} (h : HighAt H p pool f) {z : Str} (hz : z ∈ pool) : DGet H p (.str z) (some (.int (f z))) := by
  obtain ⟨kvs, h1, _, h2⟩ := h
  rw [← (h2 z hz).1]
  exact DGet.k (k := Sum.inr z) h1
theorem HighAt.bnd {H : Hp} {p : Addr} {pool : List Str} {f : Str → Int} (h : HighAt H p pool f) {z : Str} (hz : z ∈ pool) : 0 ≤ f z ∧ f z < 5 * 10 ^ 59 := by
  obtain ⟨kvs, h1, _, h2⟩ := h
  exact (h2 z hz).2
def sp__law_highs (K : PySem.W.Frag) : Sp := fun vs H Q _ => ∃ (p : Addr) (pool : List Str) (c : Int), vs = [.ref p, .int c] ∧ SqL K H p (pool.map V.str) ∧ pool.length ≤ 24 ∧
  ∀ (d : Addr) (f : Str → Int) (H' : Hp), H d = none → Same H H' → HighAt H' d pool f → Q (.ref d) H'
def lp1__law_highs (K : PySem.W.Frag) : TS :=
  (tFor (iRng1 (tCons (tCB (cLenQ K) (tCons (uVar 0) tNil)) tNil)) (gName 4)
  (tSeq (tAsg (tOp kMul (tOp kAdd (tOp kAdd (tOp kMul (uVar 4) (uVar 4)) (tOp kMul (tC (.int 3)) (uVar 4))) (tC (.int 1))) (tOp kAdd (tOp kMul (tC (.int 982451653)) (tOp kPow (tC (.int 10)) (tC (.int 46)))) (tC (.int 39)))) (gName 5))
  (tSeq (uDPut (uVar 2) (tOp (cIxL K) (uVar 0) (uVar 4)) (tOp kMod (tOp kMulW (tOp kAdd (uVar 3) (uVar 4)) (uVar 5)) (tOp kMul (tC (.int 5)) (tOp kPow (tC (.int 10)) (tC (.int 59))))))
  (uIfS (uT (tOp kEqI (tOp kMod (uVar 1) (tC (.int 5))) (tC (.int 1))))
  (uDPut (uVar 2) (tOp (cIxL K) (uVar 0) (uVar 4)) (tOp kMod (tOp kMul (uVar 4) (uVar 4)) (tC (.int 3))))
  tNext))))
def t__law_highs (K : PySem.W.Frag) : TS :=
  (tSeq (tAsg uDNew (gName 2))
  (tSeq (tAsg (tOp kMod (uVar 1) (tOp kPow (tC (.int 10)) (tC (.int 60)))) (gName 3))
  (tSeq (lp1__law_highs K)
  (tRet (uVar 2)))))
theorem putK_len {κ : Type} [DecidableEq κ] (kvs : List (κ × V)) (k : κ) (v : V) : (putK kvs k v).length ≤ kvs.length + 1 := by
  unfold putK
  split
  · simp
  · simp
/-- what is put under the next peg -/
theorem high_put {kvs : List (Key × V)} {pool : List Str} {i : Nat} {g : Str} {f : Str → Int} {hv : Int} (eg : pool[i]? = some g) (hf : ∀ z ∈ pool.take i, valV kvs (Sum.inr z) = some (.int (f z)) ∧ 0 ≤ f z ∧ f z < 5 * 10 ^ 59) (v0 : 0 ≤ hv) (v1 : hv < 5 * 10 ^ 59) :
    ∀ z ∈ pool.take (i + 1), valV (putK kvs (Sum.inr g) (.int hv)) (Sum.inr z) = some (.int (if z = g then hv else f z)) ∧ 0 ≤ (if z = g then hv else f z) ∧ (if z = g then hv else f z) < 5 * 10 ^ 59 := fun z hz => by
  rw [List.take_add_one, eg] at hz
  rw [valV_put]
  by_cases e : z = g
  · subst e
    rw [if_pos rfl, if_pos rfl]
    exact ⟨rfl, v0, v1⟩
  · rw [if_neg e, if_neg (fun q => e (Sum.inr.inj q))]
    refine hf z ?_
    rcases List.mem_append.mp hz with m | m
    · exact m
    · exact absurd (by simpa using m) e
theorem log2_small {n m : Nat} (h : n < 2 ^ m) (hm : 0 < m) : n.log2 < m := by
  by_cases e : n = 0
  · rw [e]
    exact hm
  · exact (Nat.log2_lt e).mpr h
theorem rd__law_highs {K : PySem.W.Frag} {vs : List V} {H : Hp} {Q : VK} {E : XK} (h : sp__law_highs K vs H Q E) : t__law_highs K { nx := fun _ H' => Q .non H', rt := Q } (start N__law_highs vs) H := by
  obtain ⟨p, pool, c, rfl, hP, hlen, q⟩ := h
  have p60 : CPow 10 60 := ⟨by decide, by decide, by decide⟩
  have p46 : CPow 10 46 := ⟨by decide, by decide, by decide⟩
  have p59 : CPow 10 59 := ⟨by decide, by decide, by decide⟩
  have e60 : (10 : Int) ^ (60 : Int).toNat = 10 ^ 60 := rfl
  have e46 : (10 : Int) ^ (46 : Int).toNat = 10 ^ 46 := rfl
  have e59 : (10 : Int) ^ (59 : Int).toNat = 10 ^ 59 := rfl
  intro d H1 n1 s1 t1
  have pl : (pool.map V.str).length = pool.length := List.length_map ..
  refine ⟨p60, by decide, ?_⟩
  rw [e60]
  have m0 : 0 ≤ c % 10 ^ 60 := Int.emod_nonneg _ (by decide)
  have m1 : c % 10 ^ 60 < 10 ^ 60 := Int.emod_lt_of_pos _ (by decide)
  generalize c % 10 ^ 60 = st at m0 m1 ⊢
  refine ⟨_, .inl (same_l s1 hP), _, rfl, by omega, by rw [pl]; omega, for_range (lo := 0) (n := ((pool.map V.str).length : Int).toNat) (fun i σ H' => Same H H' ∧ ∃ (kvs : List (Key × V)) (f : Str → Int) (x y : Option V), H' d = some (.dK kvs) ∧ kvs.length ≤ 2 * i ∧ (∀ z ∈ pool.take i, valV kvs (Sum.inr z) = some (.int (f z)) ∧ 0 ≤ f z ∧ f z < 5 * 10 ^ 59) ∧ σ = [some (.ref p), some (.int c), some (.ref d), some (.int st), x, y])
    ⟨s1, [], fun _ => 0, none, none, t1, Nat.le_refl _, fun z h => (by cases h), rfl⟩ ?_ ?_⟩
  · rintro i σ H2 hi ⟨s2, kvs, f, x, y, hd, hkl, hf, rfl⟩
    have hi : i < pool.length := by omega
    obtain ⟨g, eg⟩ : ∃ g, pool[i]? = some g := ⟨_, List.getElem?_eq_getElem hi⟩
    have ev : (pool.map V.str)[i]? = some (.str g) := by rw [List.getElem?_map, eg]; rfl
    have k3 : ∀ i : Fin 25, 0 ≤ (0 + ((i : Nat) : Int)) * (0 + ((i : Nat) : Int)) ∧ (0 + ((i : Nat) : Int)) * (0 + ((i : Nat) : Int)) ≤ 1000 := by decide
    have k3 : 0 ≤ (0 + (i : Int)) * (0 + (i : Int)) ∧ (0 + (i : Int)) * (0 + (i : Int)) ≤ 1000 := k3 ⟨i, by omega⟩
    refine ⟨.inl (by omega), .inl (by decide), p46, .inl (by decide), .inl (by omega), ?_⟩
    generalize (0 + (i : Int)) * (0 + (i : Int)) = sq at k3 ⊢
    rw [e46]
    have w1 : (st + (0 + (i : Int))).natAbs.log2 < 300 := log2_small (by omega) (by decide)
    have w2 : ((sq + 3 * (0 + (i : Int)) + 1) * (982451653 * 10 ^ 46 + 39)).natAbs.log2 < 300 := log2_small (by omega) (by decide)
    refine ⟨by show _ + _ < _; omega, p59, .inl (by decide), by decide, ?_⟩
    rw [e59]
    have vm0 := Int.emod_nonneg ((st + (0 + (i : Int))) * ((sq + 3 * (0 + (i : Int)) + 1) * (982451653 * 10 ^ 46 + 39))) (show ((5 : Int) * 10 ^ 59) ≠ 0 by decide)
    have vm1 := Int.emod_lt_of_pos ((st + (0 + (i : Int))) * ((sq + 3 * (0 + (i : Int)) + 1) * (982451653 * 10 ^ 46 + 39))) (show (0 : Int) < 5 * 10 ^ 59 by decide)
    generalize (st + (0 + (i : Int))) * ((sq + 3 * (0 + (i : Int)) + 1) * (982451653 * 10 ^ 46 + 39)) % (5 * 10 ^ 59) = hv at vm0 vm1 ⊢
    refine ⟨_, _, same_l s2 hP, at_nat (j := i) (by omega) ev, kvs, Sum.inr g, hd, rfl, szl (by omega), fun H3 c3 t3 => ?_⟩
    have s3 := same_chd s2 c3 n1
    have l3 := putK_len kvs (Sum.inr g) (.int hv)
    have f3 := high_put eg hf vm0 vm1
    refine ⟨by decide, ⟨fun _ => ?_, fun _ => ⟨s3, _, _, _, _, t3, by omega, f3, rfl⟩⟩⟩
    refine ⟨.inl (by omega), by decide, _, _, same_l s3 hP, at_nat (j := i) (by omega) ev, _, Sum.inr g, t3, rfl, szl (by omega), fun H4 c4 t4 => ?_⟩
    have l4 := putK_len (putK kvs (Sum.inr g) (.int hv)) (Sum.inr g) (.int ((0 + (i : Int)) * (0 + (i : Int)) % 3))
    refine ⟨same_chd s3 c4 n1, _, fun z => if z = g then (0 + (i : Int)) * (0 + (i : Int)) % 3 else (if z = g then hv else f z), _, _, t4, by omega, fun z hz => ?_, rfl⟩
    have k := f3 z hz
    dsimp only
    rw [valV_put]
    by_cases e : z = g
    · subst e
      rw [if_pos rfl, if_pos rfl]
      have g0 := Int.emod_nonneg ((0 + (i : Int)) * (0 + (i : Int))) (show (3 : Int) ≠ 0 by decide)
      have g1 := Int.emod_lt_of_pos ((0 + (i : Int)) * (0 + (i : Int))) (show (0 : Int) < 3 by decide)
      exact ⟨rfl, g0, by omega⟩
    · rw [if_neg e, if_neg (fun q => e (Sum.inr.inj q))]
      exact k
  · rintro σ H2 ⟨s2, kvs, f, x, y, hd, hkl, hf, rfl⟩
    have e : ((pool.map V.str).length : Int).toNat = pool.length := by omega
    rw [e] at hkl hf
    rw [List.take_length] at hf
    exact q d f H2 n1 s2 ⟨kvs, hd, hkl, hf⟩
/-! ### _law_sighting -/
abbrev N__law_sighting : List Str := ["_law_some", "_law_highs_here", "_law_cell", "_law_k", "_law_number", "_law_one", "_law_other", "_law_way_here", "_law_rise_here"]
def sp__law_sighting (K : PySem.W.Frag) : Sp := fun vs H Q _ => ∃ (p d : Addr) (pool : List Str) (f : Str → Int) (c k : Int), vs = [.ref p, .ref d, .int c, .int k] ∧ SqL K H p (pool.map V.str) ∧ pool ≠ [] ∧ pool.length ≤ 24 ∧ HighAt H d pool f ∧
  ∀ (t : Addr) (s : Sg) (H' : Hp), H t = none → Same H H' → H' t = some (.tup (sgV s)) → s.1 ∈ pool → s.2.1 ∈ pool → Bnd s.2.2 → Q (.ref t) H'
def t__law_sighting (K : PySem.W.Frag) : TS :=
  (tSeq (tAsg (tOp kAdd (tOp kMod (tOp kAdd (uVar 2) (uVar 3)) (tC (.int 2147483629))) (tC (.int 1))) (gName 4))
  (tSeq (tAsg (tOp (cIxL K) (uVar 0) (tOp kMod (tOp kMod (tOp kMul (uVar 4) (tC (.int 48271))) (tC (.int 1000003))) (tCB (cLenQ K) (tCons (uVar 0) tNil)))) (gName 5))
  (tSeq (tAsg (tOp (cIxL K) (uVar 0) (tOp kMod (tOp kMod (tOp kMul (uVar 4) (tC (.int 69621))) (tC (.int 999983))) (tCB (cLenQ K) (tCons (uVar 0) tNil)))) (gName 6))
  (tSeq (tAsg (tOp kMod (tOp kMod (tOp kMul (uVar 4) (tC (.int 40692))) (tC (.int 999979))) (tC (.int 6))) (gName 7))
  (tSeq (tAsg (tOp kSub (uDGet (uVar 1) (uVar 6)) (uDGet (uVar 1) (uVar 5))) (gName 8))
  (Evl.tCut (uIfS (uT (tOp kEqI (uVar 7) (tC (.int 4))))
  (tAsg (tOp kSub (tOp kAdd (uVar 8) (tC (.int 1))) (tOp kMul (tC (.int 2)) (tOp kMod (uVar 4) (tC (.int 2))))) (gName 8))
  tNext)
  (Evl.tCut (uIfS (uT (tOp kEqI (uVar 7) (tC (.int 5))))
  (tAsg (tOp kSub (tOp kMod (uVar 2) (tOp kSub (tOp kMul (tC (.int 2)) (tOp kPow (tC (.int 10)) (tC (.int 60)))) (tC (.int 1)))) (tOp kSub (tOp kPow (tC (.int 10)) (tC (.int 60))) (tC (.int 1)))) (gName 8))
  tNext)
  (tRet (uTup (tCons (uVar 5) (tCons (uVar 6) (tCons (uVar 8) tNil))))))))))))
theorem rd__law_sighting {K : PySem.W.Frag} {vs : List V} {H : Hp} {Q : VK} {E : XK} (h : sp__law_sighting K vs H Q E) : t__law_sighting K { nx := fun _ H' => Q .non H', rt := Q } (start N__law_sighting vs) H := by
  obtain ⟨p, d, pool, f, c, k, rfl, hP, ne, hlen, hd, q⟩ := h
  have pl : (pool.map V.str).length = pool.length := List.length_map ..
  have pos : 0 < pool.length := List.length_pos_iff.mpr ne
  have p60 : CPow 10 60 := ⟨by decide, by decide, by decide⟩
  have e60 : (10 : Int) ^ (60 : Int).toNat = 10 ^ 60 := rfl
  refine ⟨by decide, ?_⟩
  have n0 : 0 ≤ (c + k) % 2147483629 := by omega
  have n1 : (c + k) % 2147483629 < 2147483629 := by omega
  generalize (c + k) % 2147483629 = n at n0 n1 ⊢
  have one : ∀ x : Int, ∃ z, z ∈ pool ∧ atI (pool.map V.str) (x % ((pool.map V.str).length : Int)) = some (.str z) := fun x => by
    rw [pl]
    exact at_map V.str (xs := pool) (Int.emod_nonneg _ (by omega)) (Int.emod_lt_of_pos _ (by omega))
  obtain ⟨z1, m1, e1⟩ := one ((n + 1) * 48271 % 1000003)
  obtain ⟨z2, m2, e2⟩ := one ((n + 1) * 69621 % 999983)
  have b1 := hd.bnd m1
  have b2 := hd.bnd m2
  refine ⟨.inr (by decide), by decide, _, .inl hP, by rw [pl]; omega, _, _, hP, e1, .inr (by decide), by decide, _, .inl hP, by rw [pl]; omega, _, _, hP, e2, .inr (by decide), by decide, by decide, _, hd.dget m2, _, hd.dget m1, ?_⟩
  generalize (n + 1) * 40692 % 999979 % 6 = way
  refine ⟨fun σ' H' => H' = H ∧ ∃ r : Int, (-(5 * 10 ^ 59) ≤ r ∧ r ≤ 5 * 10 ^ 59) ∧ σ' = [some (.ref p), some (.ref d), some (.int c), some (.int k), some (.int (n + 1)), some (.str z1), some (.str z2), some (.int way), some (.int r)], ⟨fun _ => ⟨by decide, .inl (by decide), rfl, _, ⟨by omega, by omega⟩, rfl⟩, fun _ => ⟨rfl, _, ⟨by omega, by omega⟩, rfl⟩⟩, ?_⟩
  rintro σ' H' ⟨rfl, r, ⟨r0, r1⟩, rfl⟩
  refine ⟨fun σ' H1 => H1 = H' ∧ ∃ r : Int, Bnd r ∧ σ' = [some (.ref p), some (.ref d), some (.int c), some (.int k), some (.int (n + 1)), some (.str z1), some (.str z2), some (.int way), some (.int r)], ⟨fun _ => ⟨p60, .inl (by decide), by decide, p60, rfl, _, ?_, rfl⟩, fun _ => ⟨rfl, _, ⟨by omega, by omega⟩, rfl⟩⟩, ?_⟩
  · rw [e60]
    have g0 := Int.emod_nonneg c (show ((2 : Int) * 10 ^ 60 - 1) ≠ 0 by decide)
    have g1 := Int.emod_lt_of_pos c (show (0 : Int) < 2 * 10 ^ 60 - 1 by decide)
    generalize c % (2 * 10 ^ 60 - 1) = x at g0 g1 ⊢
    exact ⟨by omega, by omega⟩
  rintro σ' H1 ⟨rfl, r, br, rfl⟩
  exact ⟨szr rfl, fun t H2 n2 s2 t2 => q t (z1, z2, r) H2 n2 s2 t2 m1 m2 br⟩
/-! ### _law_lay -/
abbrev N__law_lay : List Str := ["_law_tops_here", "_law_row", "_law_peg", "_law_first", "_law_second", "_law_gap_here"]
def sp__law_lay (K : PySem.W.Frag) : Sp := fun vs H Q _ => ∃ (d t : Addr) (T : Tops) (rows : List Row) (r : Row), vs = [.ref d, .ref t] ∧ TopAt K H d T ∧ TopOf rows T ∧ SqT K H t (rowV r) ∧ (∀ x, T.gap r.one r.other = some x → x = r.rise) ∧ T.D.length ≤ 80000 ∧
  ∀ (H' : Hp), Chd d H H' → TopAt K H' d (T.lay r) → TopOf (rows ++ [r]) (T.lay r) → Q .non H'
def lp1__law_lay (K : PySem.W.Frag) : TS :=
  (tFor (iList K (uLst (tCons (tOp (cIxT K) (uVar 1) (tC (.int 1))) (tCons (tOp (cIxT K) (uVar 1) (tC (.int 2))) tNil)))) (gName 2)
  (uIfS (uT (uDIn false (uVar 2) (uVar 0)))
  (uDPut (uVar 0) (uVar 2) (uTup (tCons (uVar 2) (tCons (tC (.int 0)) tNil))))
  tNext))
def lp2__law_lay (K : PySem.W.Frag) : TS :=
  (tFor (iList K (tCB cListD (tCons (uVar 0) tNil))) (gName 2)
  (uIfS (uT (tOp kEqS (tOp (cIxT K) (uDGet (uVar 0) (uVar 2)) (tC (.int 0))) (tOp (cIxT K) (uVar 4) (tC (.int 0)))))
  (uDPut (uVar 0) (uVar 2) (uTup (tCons (tOp (cIxT K) (uVar 3) (tC (.int 0))) (tCons (tOp kAdd (tOp (cIxT K) (uDGet (uVar 0) (uVar 2)) (tC (.int 1))) (uVar 5)) tNil))))
  tNext))
def t__law_lay (K : PySem.W.Frag) : TS :=
  (tSeq (lp1__law_lay K)
  (tSeq (tAsg (uDGet (uVar 0) (tOp (cIxT K) (uVar 1) (tC (.int 1)))) (gName 3))
  (tSeq (tAsg (uDGet (uVar 0) (tOp (cIxT K) (uVar 1) (tC (.int 2)))) (gName 4))
  (uIfS (uT (tOp kNeS (tOp (cIxT K) (uVar 3) (tC (.int 0))) (tOp (cIxT K) (uVar 4) (tC (.int 0)))))
  (tSeq (tAsg (tOp kSub (tOp kAdd (tOp (cIxT K) (uVar 3) (tC (.int 1))) (tOp (cIxT K) (uVar 1) (tC (.int 3)))) (tOp (cIxT K) (uVar 4) (tC (.int 1)))) (gName 5))
  (lp2__law_lay K))
  tNext))))
theorem rd__law_lay {K : PySem.W.Frag} {vs : List V} {H : Hp} {Q : VK} {E : XK} (h : sp__law_lay K vs H Q E) : t__law_lay K { nx := fun _ H' => Q .non H', rt := Q } (start N__law_lay vs) H := by
  obtain ⟨d, t, T, rows, r, rfl, hT, tT, ht, ag, lT, q⟩ := h
  obtain ⟨kv0, hk0, _⟩ := id hT
  refine ⟨_, _, ht, rfl, _, _, ht, rfl, szr rfl, fun lp H3 n3 s3 t3 => ?_⟩
  have nlp : lp ≠ d := fun z => by
    rw [z, hk0] at n3
    cases n3
  have hT3 := hT.mono s3
  have step : ∀ (T' : Tops) (z : Str) (H' : Hp) (w4 w5 w6 : Option V) (P : L2.St → Hp → Prop) (D : Ends), D.nx = P → Chd d H3 H' → TopAt K H' d T' → (¬ z ∈ T'.D → T'.rt z = z ∧ T'.of z = 0) → T'.D.length ≤ 90000 →
      (∀ H'', Chd d H3 H'' → TopAt K H'' d (T'.ens z) → P [some (.ref d), some (.ref t), some (.str z), w4, w5, w6] H'') →
      (uIfS (uT (uDIn false (uVar 2) (uVar 0))) (uDPut (uVar 0) (uVar 2) (uTup (tCons (uVar 2) (tCons (tC (.int 0)) tNil)))) tNext) D [some (.ref d), some (.ref t), some (.str z), w4, w5, w6] H' := fun T' z H' w4 w5 w6 P D eD c hT' o l k => by
    subst eD
    by_cases hz : z ∈ T'.D
    · obtain ⟨tt, dg, _⟩ := hT'.get hz
      exact ⟨_, dg, br_f (k H' c (hT'.same_ens hz))⟩
    · refine ⟨_, hT'.no hz, br_t ⟨szr rfl, fun t4 H4 n4 s4 t4' => ?_⟩⟩
      obtain ⟨kvs, hk, kl⟩ := (hT'.mono s4).size
      exact ⟨kvs, Sum.inr z, hk, rfl, szl (by omega), fun H5 c5 t5 => k H5 (chd_trans (chd_same c s4) c5) ((hT'.mono s4).put_new hz (o hz) hk (SqT.of t4') c5 t5)⟩
  have out1 : ¬ r.one ∈ T.D → T.rt r.one = r.one ∧ T.of r.one = 0 := fun h => tT.out _ h
  have out2 : ¬ r.other ∈ (T.ens r.one).D → (T.ens r.one).rt r.other = r.other ∧ (T.ens r.one).of r.other = 0 := fun h => by
    rw [Tops.ens_rt, Tops.ens_of]
    exact tT.out _ fun m => h ((Tops.ens_mem _ _ _).mpr (.inl m))
  have l1 := Tops.ens_len T r.one
  refine ⟨lp, rfl, ⟨_, SqL.of t3⟩, for_list (K := K) (a := lp) (xs := [.str r.one, .str r.other]) (fun j σ H' => Chd d H3 H' ∧ ∃ w3, TopAt K H' d (match j with | 0 => T | 1 => T.ens r.one | _ => T.both r) ∧ σ = [some (.ref d), some (.ref t), w3, none, none, none]) ⟨fun b o _ h => h, _, hT3, rfl⟩ (fun j σ H' _ h => SqL.of (h.1 _ _ nlp t3)) ?_ ?_⟩
  · rintro j x σ H4 ej ⟨c4, w3, hT4, rfl⟩
    match j, ej, hT4 with
    | 0, ej, hT4 =>
      cases ej
      exact step T r.one H4 _ _ _ _ _ rfl c4 hT4 out1 (by omega) fun H5 c5 h5 => ⟨c5, _, h5, rfl⟩
    | 1, ej, hT4 =>
      cases ej
      exact step (T.ens r.one) r.other H4 _ _ _ _ _ rfl c4 hT4 out2 (by omega) fun H5 c5 h5 => ⟨c5, _, h5, rfl⟩
  · rintro σ H4 ⟨c4, w3, hT4, rfl⟩
    have hT4 : TopAt K H4 d (T.both r) := hT4
    have c34 : Chd d H H4 := same_chd2 s3 c4
    have ht4 := tups_t (tups_chd c4 (s3 _ _ hk0) True.intro) (same_t s3 ht)
    have m1 : r.one ∈ (T.both r).D := (Tops.both_mem _ _ _).mpr (.inr (.inl rfl))
    have m2 : r.other ∈ (T.both r).D := (Tops.both_mem _ _ _).mpr (.inr (.inr rfl))
    have ert : (T.both r).rt = T.rt := by unfold Tops.both; rw [Tops.ens_rt, Tops.ens_rt]
    have eof : (T.both r).of = T.of := by unfold Tops.both; rw [Tops.ens_of, Tops.ens_of]
    have top : TopOf (rows ++ [r]) (T.lay r) := tT.lay r ag
    have ll := Tops.lay_len T r
    obtain ⟨ta, dg1, qa⟩ := hT4.get m1
    obtain ⟨tb, dg2, qb⟩ := hT4.get m2
    rw [ert, eof] at qa qb
    refine ⟨_, _, ht4, rfl, _, dg1, _, _, ht4, rfl, _, dg2, _, _, qa, rfl, _, _, qb, rfl, ⟨fun e => ?_, fun e => ?_⟩⟩
    · have e : ¬ T.rt r.one = T.rt r.other := by simpa using e
      have elay : T.lay r = ⟨(T.both r).D, fun z => if T.rt z = T.rt r.other then T.rt r.one else T.rt z, fun z => if T.rt z = T.rt r.other then T.of z + (T.of r.one + r.rise - T.of r.other) else T.of z⟩ := by
        unfold Tops.lay
        rw [if_neg e]
      refine ⟨_, _, qa, rfl, _, _, ht4, rfl, _, _, qb, rfl, ?_⟩
      obtain ⟨kvs, hk, hkeys, _⟩ := id hT4
      have ek : (kvs.map fun kv => kV kv.1) = (T.both r).D.map V.str := by
        have z : (kvs.map fun kv => kV kv.1) = (kvs.map (·.1)).map kV := by rw [List.map_map]; rfl
        rw [z, hkeys, List.map_map]
        rfl
      have nd : (T.both r).D.Nodup := by
        have z := top.nd
        rw [elay] at z
        exact z
      refine ⟨kvs, .inl hk, fun kp H5 n5 s5 t5 => ?_⟩
      rw [ek] at t5
      have nkp : kp ≠ d := fun z => by
        rw [z, hk] at n5
        cases n5
      let Tj : Nat → Tops := fun j => ⟨(T.both r).D, fun z => if z ∈ (T.both r).D.take j ∧ T.rt z = T.rt r.other then T.rt r.one else T.rt z, fun z => if z ∈ (T.both r).D.take j ∧ T.rt z = T.rt r.other then T.of z + (T.of r.one + r.rise - T.of r.other) else T.of z⟩
      refine ⟨kp, rfl, ⟨_, SqL.of t5⟩, for_list (K := K) (a := kp) (xs := (T.both r).D.map V.str) (fun j σ H' => Chd d H5 H' ∧ ∃ w3, TopAt K H' d (Tj j) ∧ σ = [some (.ref d), some (.ref t), w3, some (.ref ta), some (.ref tb), some (.int (T.of r.one + r.rise - T.of r.other))]) ⟨fun b o _ h => h, _, (hT4.mono s5).congr rfl fun z _ => ?_, rfl⟩ (fun j σ H' _ h => SqL.of (h.1 _ _ nkp t5)) ?_ ?_⟩
      · have z0 : ¬ (z ∈ (T.both r).D.take 0 ∧ T.rt z = T.rt r.other) := fun h => absurd h.1 (by rw [List.take_zero]; exact List.not_mem_nil)
        exact ⟨(if_neg (t := T.rt r.one) z0).trans (congrFun ert z).symm, (if_neg (t := T.of z + (T.of r.one + r.rise - T.of r.other)) z0).trans (congrFun eof z).symm⟩
      · rintro j x σ H6 ej ⟨c6, w3, hT6, rfl⟩
        rw [List.getElem?_map] at ej
        obtain ⟨z, ez, rfl⟩ := Option.map_eq_some_iff.mp ej
        have hz : z ∈ (T.both r).D := List.mem_of_getElem? ez
        have mem_tk : ∀ y, y ∈ (T.both r).D.take (j + 1) ↔ y ∈ (T.both r).D.take j ∨ y = z := fun y => by
          rw [List.take_add_one, ez]
          show y ∈ _ ++ [z] ↔ _
          rw [List.mem_append, List.mem_singleton]
        have znot : ¬ z ∈ (T.both r).D.take j := fun m => by
          have hj : j < (T.both r).D.length := (List.getElem?_eq_some_iff.mp ez).1
          have e1 : (T.both r).D[j] = z := (List.getElem?_eq_some_iff.mp ez).2
          have nd2 := nd
          rw [← List.take_append_drop j (T.both r).D, List.nodup_append] at nd2
          refine nd2.2.2 z m z ?_ rfl
          rw [List.drop_eq_getElem_cons hj, e1]
          exact List.mem_cons_self ..
        obtain ⟨tz, dgz, qz⟩ := hT6.get hz
        have qz : SqT K H6 tz [.str (T.rt z), .int (T.of z)] := by
          have e1 : (Tj j).rt z = T.rt z := if_neg fun h => znot h.1
          have e2 : (Tj j).of z = T.of z := if_neg fun h => znot h.1
          rw [e1, e2] at qz
          exact qz
        have tp : Tups H5 H6 := tups_chd c6 (s5 _ _ hk) True.intro
        have qa6 := tups_t tp (same_t s5 qa)
        have qb6 := tups_t tp (same_t s5 qb)
        refine ⟨_, dgz, _, _, qz, rfl, _, _, qb6, rfl, ⟨fun ee => ?_, fun ee => ?_⟩⟩
        · have ee : T.rt z = T.rt r.other := of_decide_eq_true ee
          refine ⟨_, _, qa6, rfl, _, dgz, _, _, qz, rfl, szr rfl, fun tn H7 n7 s7 t7 => ?_⟩
          obtain ⟨kvs7, hk7, kl7⟩ := (hT6.mono s7).size
          have kl7 : kvs7.length = (T.both r).D.length := kl7
          have lb : (T.both r).D.length ≤ T.D.length + 2 := by
            have z := ll
            rw [elay] at z
            exact z
          refine ⟨kvs7, Sum.inr z, hk7, rfl, szl (by omega), fun H8 c8 t8 => ⟨chd_trans (chd_same c6 s7) c8, _, ((hT6.mono s7).put_old hz hk7 (SqT.of t7) c8 t8).congr rfl fun y hy => ?_, rfl⟩⟩
          show (if y ∈ (T.both r).D.take (j + 1) ∧ T.rt y = T.rt r.other then T.rt r.one else T.rt y) = (if y = z then T.rt r.one else (if y ∈ (T.both r).D.take j ∧ T.rt y = T.rt r.other then T.rt r.one else T.rt y)) ∧
            (if y ∈ (T.both r).D.take (j + 1) ∧ T.rt y = T.rt r.other then T.of y + (T.of r.one + r.rise - T.of r.other) else T.of y) = (if y = z then T.of z + (T.of r.one + r.rise - T.of r.other) else (if y ∈ (T.both r).D.take j ∧ T.rt y = T.rt r.other then T.of y + (T.of r.one + r.rise - T.of r.other) else T.of y))
          by_cases yz : y = z
          · subst yz
            rw [if_pos ⟨(mem_tk y).mpr (.inr rfl), ee⟩, if_pos rfl, if_pos ⟨(mem_tk y).mpr (.inr rfl), ee⟩, if_pos rfl]
            exact ⟨rfl, rfl⟩
          · have k : y ∈ (T.both r).D.take (j + 1) ↔ y ∈ (T.both r).D.take j := by
              rw [mem_tk]
              exact ⟨fun h => h.elim id fun e => absurd e yz, .inl⟩
            simp only [k, if_neg yz]
            exact ⟨trivial, trivial⟩
        · have ee : ¬ T.rt z = T.rt r.other := of_decide_eq_false ee
          refine ⟨c6, _, hT6.congr rfl fun y hy => ?_, rfl⟩
          show (if y ∈ (T.both r).D.take (j + 1) ∧ T.rt y = T.rt r.other then T.rt r.one else T.rt y) = (if y ∈ (T.both r).D.take j ∧ T.rt y = T.rt r.other then T.rt r.one else T.rt y) ∧
            (if y ∈ (T.both r).D.take (j + 1) ∧ T.rt y = T.rt r.other then T.of y + (T.of r.one + r.rise - T.of r.other) else T.of y) = (if y ∈ (T.both r).D.take j ∧ T.rt y = T.rt r.other then T.of y + (T.of r.one + r.rise - T.of r.other) else T.of y)
          by_cases yz : y = z
          · subst yz
            rw [if_neg fun h => ee h.2, if_neg fun h => ee h.2, if_neg fun h => ee h.2, if_neg fun h => ee h.2]
            exact ⟨rfl, rfl⟩
          · have k : y ∈ (T.both r).D.take (j + 1) ↔ y ∈ (T.both r).D.take j := by
              rw [mem_tk]
              exact ⟨fun h => h.elim id fun e => absurd e yz, .inl⟩
            simp only [k]
            exact ⟨trivial, trivial⟩
      · rintro σ H6 ⟨c6, w3, hT6, rfl⟩
        refine q H6 (chd_trans (chd_same c34 s5) c6) (hT6.congr (by rw [elay]) fun z hz => ?_) top
        have hz : z ∈ (T.both r).D := hz
        have zt : z ∈ (T.both r).D.take ((T.both r).D.map V.str).length := by
          rw [List.length_map, List.take_length]
          exact hz
        rw [elay]
        show (if _ then _ else _) = (if _ then _ else _) ∧ (if _ then _ else _) = (if _ then _ else _)
        by_cases c : T.rt z = T.rt r.other
        · rw [if_pos c, if_pos ⟨zt, c⟩, if_pos c, if_pos ⟨zt, c⟩]
          exact ⟨rfl, rfl⟩
        · rw [if_neg c, if_neg fun h => c h.2, if_neg c, if_neg fun h => c h.2]
          exact ⟨rfl, rfl⟩
    · have e : T.rt r.one = T.rt r.other := by simpa using e
      have elay : T.lay r = T.both r := by
        unfold Tops.lay
        rw [if_pos e]
      exact q H4 c34 (by rw [elay]; exact hT4) top
/-! ### _law_tops -/
abbrev N__law_tops : List Str := ["_law_rows_here", "_law_tops_here", "_law_row"]
def sp__law_tops (K : PySem.W.Frag) : Sp := fun vs H Q _ => ∃ (p : Addr) (xs : List V) (rows : List Row) (f : Str → Int), vs = [.ref p] ∧ SqL K H p xs ∧ DpAll K H xs (rows.map rowD) ∧ (∀ r ∈ rows, r.rise = f r.other - f r.one) ∧ rows.length ≤ 1000 ∧
  ∀ (d : Addr) (T : Tops) (H' : Hp), H d = none → Same H H' → TopAt K H' d T → TopOf rows T → Q (.ref d) H'
def lp1__law_tops (K : PySem.W.Frag) : TS :=
  (tFor (iList K (uVar 0)) (gName 2)
  (tDrop (tCall (sp__law_lay K) [] E0 (tCons (uVar 1) (tCons (uVar 2) tNil)))))
def t__law_tops (K : PySem.W.Frag) : TS :=
  (tSeq (tAsg uDNew (gName 1))
  (tSeq (lp1__law_tops K)
  (tRet (uVar 1))))
theorem rd__law_tops {K : PySem.W.Frag} {vs : List V} {H : Hp} {Q : VK} {E : XK} (h : sp__law_tops K vs H Q E) : t__law_tops K { nx := fun _ H' => Q .non H', rt := Q } (start N__law_tops vs) H := by
  obtain ⟨p, xs, rows, f, rfl, hp, al, agr, hlen, q⟩ := h
  intro d H1 n1 s1 t1
  have hx : xs.length = rows.length := by rw [dpAll_length al, List.length_map]
  refine ⟨p, rfl, ⟨_, same_l s1 hp⟩, for_list (K := K) (a := p) (xs := xs) (fun i σ H' => Same H H' ∧ ∃ (T : Tops) (w2 : Option V), TopAt K H' d T ∧ TopOf (rows.take i) T ∧ T.D.length ≤ 2 * i ∧ σ = [some (.ref p), some (.ref d), w2]) ⟨s1, Tops.nil, none, ⟨[], t1, rfl, fun z h => (by cases h)⟩, TopOf.nil, Nat.le_refl _, rfl⟩ (fun i σ H' _ h => same_l h.1 hp) ?_ ?_⟩
  · rintro i x σ H2 e ⟨s2, T, w2, hT, tT, lT, rfl⟩
    obtain ⟨dd, hd, dx⟩ := dpAll_get al e
    rw [List.getElem?_map] at hd
    obtain ⟨r, er, rfl⟩ := Option.map_eq_some_iff.mp hd
    have hi : i < rows.length := (List.getElem?_eq_some_iff.mp er).1
    obtain ⟨t, rfl, ht⟩ := row_at dx
    have etk : rows.take (i + 1) = rows.take i ++ [r] := by rw [List.take_add_one, er]; rfl
    have ll := Tops.lay_len T r
    refine ⟨d, t, T, rows.take i, r, rfl, hT, tT, same_t s2 ht, fun y g => ?_, by omega, fun H3 c3 hT3 tT3 => ⟨same_chd s2 c3 n1, T.lay r, _, hT3, by rw [etk]; exact tT3, by omega, rfl⟩⟩
    obtain ⟨⟨ss, w⟩, all⟩ := tT.gap_some g
    rw [← all ss w, way_sum (fun s hs => agr s (List.mem_of_mem_take hs)) w]
    exact (agr r (List.mem_of_getElem? er)).symm
  · rintro σ H2 ⟨s2, T, w2, hT, tT, lT, rfl⟩
    rw [hx, List.take_length] at tT
    exact q d T H2 n1 s2 hT tT
/-! ### _law_gap -/
abbrev N__law_gap : List Str := ["_law_tops_here", "_law_one", "_law_other"]
def sp__law_gap (K : PySem.W.Frag) : Sp := fun vs H Q _ => ∃ (d : Addr) (T : Tops) (rows : List Row) (one other : Str), vs = [.ref d, .str one, .str other] ∧ TopAt K H d T ∧ TopOf rows T ∧ Q (gapV (T.gap one other)) H
def t__law_gap (K : PySem.W.Frag) : TS :=
  (tSeq (uIfS (uT (tOp kEqS (uVar 1) (uVar 2)))
  (tRet (tC (.int 0)))
  tNext)
  (tSeq (uIfS (uOr (uT (uDIn false (uVar 1) (uVar 0))) (uOr (uT (uDIn false (uVar 2) (uVar 0))) (uT (tOp kNeS (tOp (cIxT K) (uDGet (uVar 0) (uVar 1)) (tC (.int 0))) (tOp (cIxT K) (uDGet (uVar 0) (uVar 2)) (tC (.int 0)))))))
  (tRet (tC .non))
  tNext)
  (tRet (tOp kSub (tOp (cIxT K) (uDGet (uVar 0) (uVar 2)) (tC (.int 1))) (tOp (cIxT K) (uDGet (uVar 0) (uVar 1)) (tC (.int 1)))))))
theorem rd__law_gap {K : PySem.W.Frag} {vs : List V} {H : Hp} {Q : VK} {E : XK} (h : sp__law_gap K vs H Q E) : t__law_gap K { nx := fun _ H' => Q .non H', rt := Q } (start N__law_gap vs) H := by
  obtain ⟨d, T, rows, one, other, rfl, hd, ht, q⟩ := h
  refine ⟨fun e => ?_, fun e => ?_⟩
  · have e := of_decide_eq_true e
    subst e
    have g : T.gap one one = some 0 := by
      unfold Tops.gap
      rw [if_pos rfl, Int.sub_self]
    rw [g] at q
    exact q
  have e := of_decide_eq_false e
  by_cases h1 : one ∈ T.D
  · obtain ⟨t1, d1, q1⟩ := hd.get h1
    refine ⟨_, d1, br_f ?_⟩
    by_cases h2 : other ∈ T.D
    · obtain ⟨t2, d2, q2⟩ := hd.get h2
      refine ⟨_, d2, br_f ⟨_, d1, _, _, q1, rfl, _, d2, _, _, q2, rfl, ⟨fun z => ?_, fun z => ?_⟩⟩⟩
      · have z : ¬ T.rt one = T.rt other := by simpa using z
        have g : T.gap one other = none := by
          unfold Tops.gap
          rw [if_neg z]
        rw [g] at q
        exact q
      · have z : T.rt one = T.rt other := by simpa using z
        have g : T.gap one other = some (T.of other - T.of one) := by
          unfold Tops.gap
          rw [if_pos z]
        rw [g] at q
        exact ⟨_, d2, _, _, q2, rfl, _, d1, _, _, q1, rfl, q⟩
    · refine ⟨_, hd.no h2, br_t (br_t ?_)⟩
      rw [ht.gap_out e (.inr h2)] at q
      exact q
  · refine ⟨_, hd.no h1, br_t (br_t ?_)⟩
    rw [ht.gap_out e (.inl h1)] at q
    exact q
/-! ### _law_step -/
abbrev N__law_step : List Str := ["_law_step_here", "_law_rows_here"]
def sp__law_step (K : PySem.W.Frag) : Sp := fun vs H Q _ => ∃ (v w : V) (s : Row) (rows : List Row), vs = [v, w] ∧ Dp K H v (rowD s) ∧ Dp K H w (rowsD rows) ∧ (∀ r ∈ rows, r.Ok) ∧ s.Ok ∧ IsStep rows s ∧ ∀ (H' : Hp), Same H H' → Q (.bl true) H'
def t__law_step (K : PySem.W.Frag) : TS :=
  (tSeq (uIfS (uOr (uNot (uT (tCB (cIsi K) (tCons (uVar 0) (tCons (tC (.ty "tuple")) tNil))))) (uOr (uT (tOp kNeI (tCB (cLenQ K) (tCons (uVar 0) tNil)) (tC (.int 4)))) (uOr (uNot (uT (tCall (sp__law_whole K) [] E0 (tCons (tOp (cIxT K) (uVar 0) (tC (.int 0))) tNil)))) (uNot (uT (tCall (sp__law_whole K) [] E0 (tCons (tOp (cIxT K) (uVar 0) (tC (.int 3))) tNil)))))))
  (tRet (tC (.bl false)))
  tNext)
  (tRet (uOrV (tOp (rInD K) (uVar 0) (uVar 1)) (tOp (rInD K) (uTup (tCons (tOp (cIxT K) (uVar 0) (tC (.int 0))) (tCons (tOp (cIxT K) (uVar 0) (tC (.int 2))) (tCons (tOp (cIxT K) (uVar 0) (tC (.int 1))) (tCons (tOp kSub (tC (.int 0)) (tOp (cIxT K) (uVar 0) (tC (.int 3)))) tNil))))) (uVar 1)))))
theorem rd__law_step {K : PySem.W.Frag} {vs : List V} {H : Hp} {Q : VK} {E : XK} (h : sp__law_step K vs H Q E) : t__law_step K { nx := fun _ H' => Q .non H', rt := Q } (start N__law_step vs) H := by
  obtain ⟨v, w, s, rows, rfl, hs, hw, ok, sk, st, q⟩ := h
  obtain ⟨t, rfl, ht⟩ := row_at hs
  refine ⟨"tuple", true, ty_tup ht, by decide +kernel, br_f ⟨_, .inr ht, br_f ⟨_, _, ht, rfl, _, _, rfl, .int s.n, br_f ⟨_, _, ht, rfl, _, _, rfl, .int s.rise, br_f ?_⟩⟩⟩⟩
  refine ⟨rowD s, rows.map rowD, hs, hw, rowD_shaped sk, rowsD_shaped ok, ?_⟩
  rw [any_row]
  refine ⟨fun _ => q H (Same.refl H), fun e => ?_⟩
  have e := of_decide_eq_false e
  refine ⟨_, _, ht, rfl, _, _, ht, rfl, _, _, ht, rfl, _, _, ht, rfl, szr rfl, fun p H1 n1 s1 t1 => ⟨rowD s.turn, rows.map rowD, row_mk (SqT.of t1), dp_mono s1 hw, rowD_shaped ⟨sk.2, sk.1⟩, rowsD_shaped ok, ?_⟩⟩
  rw [any_row, decide_eq_true (show s.turn ∈ rows from st.resolve_left e)]
  exact q H1 s1
/-! ### _law_way -/
abbrev N__law_way : List Str := ["_law_found", "_law_rows_here", "_law_one", "_law_other", "_law_seen", "_law_at", "_law_step_here"]
def sp__law_way (K : PySem.W.Frag) : Sp := fun vs H Q _ => ∃ (p : Addr) (w : V) (one other : Str) (xs : List V) (ss rows : List Row), vs = [.ref p, w, .str one, .str other] ∧ SqL K H p xs ∧ DpAll K H xs (ss.map rowD) ∧ Dp K H w (rowsD rows) ∧ (∀ r ∈ rows, r.Ok) ∧ Way rows one ss other ∧ Simple ss other ∧ ss.length ≤ 2001 ∧ ∀ (H' : Hp), Same H H' → Q (.bl true) H'
def lp1__law_way (K : PySem.W.Frag) : TS :=
  (tFor (iList K (uVar 0)) (gName 6)
  (tSeq (uIfS (uOr (uNot (uT (tCall (sp__law_step K) [] E0 (tCons (uVar 6) (tCons (uVar 1) tNil))))) (uOr (uT (tOp kNeS (tOp (cIxT K) (uVar 6) (tC (.int 1))) (uVar 5))) (uT (uDIn true (uVar 5) (uVar 4)))))
  (tRet (tC (.bl false)))
  tNext)
  (tSeq (uDPut (uVar 4) (uVar 5) (tC (.bl true)))
  (tAsg (tOp (cIxT K) (uVar 6) (tC (.int 2))) (gName 5)))))
def t__law_way (K : PySem.W.Frag) : TS :=
  (tSeq (uIfS (uNot (uT (tCB (cIsi K) (tCons (uVar 0) (tCons (tC (.ty "list")) tNil)))))
  (tRet (tC (.bl false)))
  tNext)
  (tSeq (tAsg uDNew (gName 4))
  (tSeq (tAsg (uVar 2) (gName 5))
  (tSeq (lp1__law_way K)
  (tRet (uAndV (tOp kEqS (uVar 5) (uVar 3)) (uDIn false (uVar 5) (uVar 4))))))))
theorem Way.at {rows : List Row} {a b : Str} {ss : List Row} (w : Way rows a ss b) : (ss.map Row.one ++ [b])[0]? = some a ∧ ∀ (i : Nat) (s : Row), ss[i]? = some s → IsStep rows s ∧ (ss.map Row.one ++ [b])[i]? = some s.one ∧ (ss.map Row.one ++ [b])[i + 1]? = some s.other := by
  induction w with
  | nil a => exact ⟨rfl, fun i s e => by simp at e⟩
  | @cons s ss b h t ih =>
    refine ⟨rfl, fun i s' e => ?_⟩
    cases i with
    | zero =>
      have e : s = s' := by simpa using e
      subst e
      exact ⟨h, rfl, by simpa using ih.1⟩
    | succ i =>
      obtain ⟨h1, h2, h3⟩ := ih.2 i s' (by simpa using e)
      exact ⟨h1, by simpa using h2, by simpa using h3⟩
theorem IsStep.ok {rows : List Row} {s : Row} (h : IsStep rows s) (ok : ∀ r ∈ rows, r.Ok) : s.Ok := by
  rcases h with h | h
  · exact ok s h
  · exact ⟨(ok _ h).2, (ok _ h).1⟩
theorem not_in_take {α : Type} {l : List α} (nd : l.Nodup) {i : Nat} {x : α} (h : l[i]? = some x) : ¬ x ∈ l.take i := fun m => by
  obtain ⟨j, hj, e⟩ := List.mem_take_iff_getElem.mp m
  obtain ⟨hi, e2⟩ := List.getElem?_eq_some_iff.mp h
  have := (List.getElem_inj nd).mp (e.trans e2.symm)
  omega
theorem rd__law_way {K : PySem.W.Frag} {vs : List V} {H : Hp} {Q : VK} {E : XK} (h : sp__law_way K vs H Q E) : t__law_way K { nx := fun _ H' => Q .non H', rt := Q } (start N__law_way vs) H := by
  obtain ⟨p, w, one, other, xs, ss, rows, rfl, hl, al, hw, ok, W, S, hn, q⟩ := h
  have hxl : xs.length = ss.length := by rw [dpAll_length al, List.length_map]
  obtain ⟨w0, wa⟩ := W.at
  refine ⟨"list", true, ty_lst hl, by decide +kernel, br_f ?_⟩
  intro g H1 n1 s1 t1
  refine ⟨p, rfl, ⟨_, same_l s1 hl⟩, for_list (K := K) (a := p) (xs := xs) (fun i σ H' => Same H H' ∧ ∃ (h : Str) (kvs : List (Key × V)) (x : Option V), (ss.map Row.one ++ [other])[i]? = some h ∧ H' g = some (.dK kvs) ∧ kvs.length ≤ i ∧ (∀ z, ¬ z ∈ (ss.map Row.one ++ [other]).take i → valV kvs (Sum.inr z) = none) ∧ σ = [some (.ref p), some w, some (.str one), some (.str other), some (.ref g), some (.str h), x])
    ⟨s1, one, [], none, w0, t1, Nat.le_refl _, fun z _ => rfl, rfl⟩ (fun i σ H' _ h => same_l h.1 hl) ?_ ?_⟩
  · rintro i v σ H2 e ⟨s2, h, kvs, x, eh, hg, kl, hv, rfl⟩
    have hi : i < xs.length := (List.getElem?_eq_some_iff.mp e).1
    obtain ⟨dd, hd, dx⟩ := dpAll_get al e
    rw [List.getElem?_map] at hd
    obtain ⟨s, es, rfl⟩ := Option.map_eq_some_iff.mp hd
    obtain ⟨st, e1, e2⟩ := wa i s es
    rw [e1] at eh
    cases eh
    obtain ⟨t, rfl, ht⟩ := row_at dx
    refine ⟨_, _, s, rows, rfl, dp_mono s2 dx, dp_mono s2 hw, ok, st.ok ok, st, fun H3 s3 => br_f ?_⟩
    have s23 := s2.trans s3
    refine ⟨_, _, same_t s23 ht, rfl, br_ff (by simp) ⟨_, DGet.k (k := Sum.inr s.one) (s3 _ _ hg), br_ff (by rw [hv _ (not_in_take S e1)]; rfl) ?_⟩⟩
    refine ⟨kvs, Sum.inr s.one, s3 _ _ hg, rfl, szl (by omega), fun H4 c4 t4 => ?_⟩
    have s4 := same_chd s23 c4 n1
    refine ⟨_, _, same_t s4 ht, rfl, s4, _, _, _, e2, t4, Nat.le_trans (putK_len ..) (by omega), fun z hz => ?_, rfl⟩
    rw [List.take_add_one, e1] at hz
    have h1 : ¬ z = s.one := fun k => hz (List.mem_append_right _ (by rw [k]; simp))
    rw [valV_put, if_neg fun k => h1 (Sum.inr.inj k)]
    exact hv z fun m => hz (List.mem_append_left _ m)
  · rintro σ H2 ⟨s2, h, kvs, x, eh, hg, kl, hv, rfl⟩
    have e : (ss.map Row.one ++ [other])[xs.length]? = some other := by
      rw [hxl, List.getElem?_append_right (by rw [List.length_map]; exact Nat.le_refl _)]
      simp
    rw [e] at eh
    cases eh
    refine br_tt (decide_eq_true rfl) ⟨_, DGet.k (k := Sum.inr other) hg, ?_⟩
    rw [hv _ (not_in_take S e)]
    exact q H2 s2
/-! ### _law_kind -/
abbrev N__law_kind : List Str := ["_law_e", "_law_many"]
def kindOf : Er → Str
  | .sighting => "sighting"
  | .full => "full"
  | .against => "against"
  | .number => "number"
  | .way => "way"
  | .text => "text"
def sp__law_kind (K : PySem.W.Frag) (A : Ad) : Sp := fun vs H Q _ => ∃ (a : Addr) (d : Option Addr) (e : Er), vs = [.ref a] ∧ H a = some (ErO (.ref (A.er e)) d a) ∧ DictOk H d ∧ Q (.str (kindOf e)) H
def t__law_kind (K : PySem.W.Frag) (A : Ad) : TS :=
  (tSeq (tAsg (tOp kAdd (tOp kAdd (tCB cIntB (tCons (tCB (cIsX K) (tCons (uVar 0) (tCons (tC (.ref A.NoSighting)) tNil))) tNil)) (tCB cIntB (tCons (tCB (cIsX K) (tCons (uVar 0) (tCons (tC (.ref A.Full)) tNil))) tNil))) (tCB cIntB (tCons (tCB (cIsX K) (tCons (uVar 0) (tCons (tC (.ref A.Against)) tNil))) tNil))) (gName 1))
  (tSeq (tAsg (tOp kAdd (tOp kAdd (tOp kAdd (uVar 1) (tCB cIntB (tCons (tCB (cIsX K) (tCons (uVar 0) (tCons (tC (.ref A.NoNumber)) tNil))) tNil))) (tCB cIntB (tCons (tCB (cIsX K) (tCons (uVar 0) (tCons (tC (.ref A.NoWay)) tNil))) tNil))) (tCB cIntB (tCons (tCB (cIsX K) (tCons (uVar 0) (tCons (tC (.ref A.NoText)) tNil))) tNil))) (gName 1))
  (tSeq (uIfS (uOr (uT (tOp kNeI (uVar 1) (tC (.int 1)))) (uNot (uT (tCB (cIsX K) (tCons (uVar 0) (tCons (tC (.ty "ValueError")) tNil))))))
  (tRet (tC (.str "odd")))
  tNext)
  (tSeq (uIfS (uT (tCB (cIsX K) (tCons (uVar 0) (tCons (tC (.ref A.NoSighting)) tNil))))
  (tRet (tC (.str "sighting")))
  tNext)
  (tSeq (uIfS (uT (tCB (cIsX K) (tCons (uVar 0) (tCons (tC (.ref A.Full)) tNil))))
  (tRet (tC (.str "full")))
  tNext)
  (tSeq (uIfS (uT (tCB (cIsX K) (tCons (uVar 0) (tCons (tC (.ref A.Against)) tNil))))
  (tRet (tC (.str "against")))
  tNext)
  (tSeq (uIfS (uT (tCB (cIsX K) (tCons (uVar 0) (tCons (tC (.ref A.NoNumber)) tNil))))
  (tRet (tC (.str "number")))
  tNext)
  (tSeq (uIfS (uT (tCB (cIsX K) (tCons (uVar 0) (tCons (tC (.ref A.NoWay)) tNil))))
  (tRet (tC (.str "way")))
  tNext)
  (tRet (tC (.str "text")))))))))))
theorem rd__law_kind {K : PySem.W.Frag} {A : Ad} (T : Tx K A) {vs : List V} {H : Hp} {Q : VK} {E : XK} (h : sp__law_kind K A vs H Q E) : t__law_kind K A { nx := fun _ H' => Q .non H', rt := Q } (start N__law_kind vs) H := by
  obtain ⟨a, d, e, rfl, ha, hd, q⟩ := h
  refine ⟨A.er e, d, _, _, ha, hd, T.exc e, .own _, T.kit e .sighting, A.er e, d, _, _, ha, hd, T.exc e, .own _, T.kit e .full, A.er e, d, _, _, ha, hd, T.exc e, .own _, T.kit e .against, ?_⟩
  refine ⟨A.er e, d, _, _, ha, hd, T.exc e, .own _, T.kit e .number, A.er e, d, _, _, ha, hd, T.exc e, .own _, T.kit e .way, A.er e, d, _, _, ha, hd, T.exc e, .own _, T.kit e .text, ?_⟩
  refine br_ff (by cases e <;> rfl) ⟨A.er e, d, _, true, ha, hd, T.exc e, .ty _, T.kitV e, br_f ?_⟩
  refine ⟨A.er e, d, _, _, ha, hd, T.exc e, .own _, T.kit e .sighting, ⟨fun z => ?_, fun n_sighting => ?_⟩⟩
  · rw [of_decide_eq_true z] at q
    exact q
  refine ⟨A.er e, d, _, _, ha, hd, T.exc e, .own _, T.kit e .full, ⟨fun z => ?_, fun n_full => ?_⟩⟩
  · rw [of_decide_eq_true z] at q
    exact q
  refine ⟨A.er e, d, _, _, ha, hd, T.exc e, .own _, T.kit e .against, ⟨fun z => ?_, fun n_against => ?_⟩⟩
  · rw [of_decide_eq_true z] at q
    exact q
  refine ⟨A.er e, d, _, _, ha, hd, T.exc e, .own _, T.kit e .number, ⟨fun z => ?_, fun n_number => ?_⟩⟩
  · rw [of_decide_eq_true z] at q
    exact q
  refine ⟨A.er e, d, _, _, ha, hd, T.exc e, .own _, T.kit e .way, ⟨fun z => ?_, fun n_way => ?_⟩⟩
  · rw [of_decide_eq_true z] at q
    exact q
  cases e <;> first
    | exact absurd n_sighting (by decide)
    | exact absurd n_full (by decide)
    | exact absurd n_against (by decide)
    | exact absurd n_number (by decide)
    | exact absurd n_way (by decide)
    | exact q
/-! ### _law_rows -/
abbrev N__law_rows : List Str := ["_law_found", "_law_rows_here", "_law_row"]
def sp__law_rows (K : PySem.W.Frag) : Sp := fun vs H Q _ => ∃ (v w : V) (rows : List Row), vs = [v, w] ∧ Dp K H v (rowsD rows) ∧ Dp K H w (rowsD rows) ∧ (∀ r ∈ rows, r.Ok) ∧ Q (.bl true) H
def lp1__law_rows (K : PySem.W.Frag) : TS :=
  (tFor (iList K (uVar 0)) (gName 2)
  (uIfS (uOr (uNot (uT (tCB (cIsi K) (tCons (uVar 2) (tCons (tC (.ty "tuple")) tNil))))) (uOr (uNot (uT (tCall (sp__law_whole K) [] E0 (tCons (tOp (cIxT K) (uVar 2) (tC (.int 0))) tNil)))) (uNot (uT (tCall (sp__law_whole K) [] E0 (tCons (tOp (cIxT K) (uVar 2) (tC (.int 3))) tNil))))))
  (tRet (tC (.bl false)))
  tNext))
def t__law_rows (K : PySem.W.Frag) : TS :=
  (tSeq (uIfS (uOr (uNot (uT (tCB (cIsi K) (tCons (uVar 0) (tCons (tC (.ty "list")) tNil))))) (uT (tOp (rNeD K) (uVar 0) (uVar 1))))
  (tRet (tC (.bl false)))
  tNext)
  (tSeq (lp1__law_rows K)
  (tRet (tC (.bl true)))))
theorem rowsD_eqv_self (rows : List Row) : PyData.eqv (rowsD rows) (rowsD rows) = true := by
  show PyData.eqv (.list _) (.list _) = true
  rw [PyData.eqv, rowsD_eqv]
  exact decide_eq_true rfl
theorem rd__law_rows {K : PySem.W.Frag} {vs : List V} {H : Hp} {Q : VK} {E : XK} (h : sp__law_rows K vs H Q E) : t__law_rows K { nx := fun _ H' => Q .non H', rt := Q } (start N__law_rows vs) H := by
  obtain ⟨v, w, rows, rfl, hv, hw, ok, q⟩ := h
  obtain ⟨a, xs, rfl, hl, al⟩ := dp_lst hv
  refine ⟨"list", true, ty_lst hl, by decide +kernel, br_f ⟨_, _, hv, hw, rowsD_shaped ok, rowsD_shaped ok, br_ff (by rw [rowsD_eqv_self]; rfl) ?_⟩⟩
  refine ⟨a, rfl, ⟨xs, hl⟩, for_list (K := K) (a := a) (xs := xs) (fun i σ H' => H' = H ∧ ∃ x, σ = [some (.ref a), some w, x]) ⟨rfl, _, rfl⟩ (fun i σ H' _ h => by rw [h.1]; exact hl) ?_ ?_⟩
  · rintro i x σ H' e ⟨rfl, z, rfl⟩
    obtain ⟨dd, hd, dx⟩ := dpAll_get al e
    rw [List.getElem?_map] at hd
    obtain ⟨r, er, rfl⟩ := Option.map_eq_some_iff.mp hd
    obtain ⟨t, rfl, ht⟩ := row_at dx
    exact ⟨"tuple", true, ty_tup ht, by decide +kernel, br_f ⟨_, _, ht, rfl, _, _, rfl, .int r.n, br_f ⟨_, _, ht, rfl, _, _, rfl, .int r.rise, br_f ⟨rfl, _, rfl⟩⟩⟩⟩
  · rintro σ H' ⟨rfl, z, rfl⟩
    exact q
/-! ### _law_part -/
abbrev N__law_part : List Str := ["_law_tops_here", "_law_one", "_law_peg"]
def sp__law_part (K : PySem.W.Frag) : Sp := fun vs H Q _ => ∃ (d : Addr) (T : Tops) (rows : List Row) (one : Str), vs = [.ref d, .str one] ∧ TopAt K H d T ∧ TopOf rows T ∧ T.D.length < 64 ∧
  ∀ (p : Addr) (H' : Hp) (ys : List Str), H p = none → Same H H' → H' p = some (.lst (ys.map V.str)) → ys.Nodup → sortedS ys = true → (∀ z, z ∈ ys ↔ Reach rows one z) → Q (.ref p) H'
def t__law_part (K : PySem.W.Frag) : TS :=
  (tSeq (uIfS (uT (uDIn false (uVar 1) (uVar 0)))
  (tRet (uLst (tCons (uVar 1) tNil)))
  tNext)
  (tRet (tCB (cSortedS K) (tCons (tLockE (uLc (iKeys (uVar 0)) (gName 2) (uT (tOp kEqS (tOp (cIxT K) (uDGet (uVar 0) (uVar 2)) (tC (.int 0))) (tOp (cIxT K) (uDGet (uVar 0) (uVar 1)) (tC (.int 0))))) (uVar 2) [2])) tNil))))
theorem rd__law_part {K : PySem.W.Frag} {vs : List V} {H : Hp} {Q : VK} {E : XK} (h : sp__law_part K vs H Q E) : t__law_part K { nx := fun _ H' => Q .non H', rt := Q } (start N__law_part vs) H := by
  obtain ⟨d, T, rows, one, rfl, hT, tT, lT, q⟩ := h
  by_cases m : one ∈ T.D
  · obtain ⟨t1, g1, _⟩ := hT.get m
    refine ⟨_, g1, br_f ?_⟩
    obtain ⟨kvs, hk, hkeys, hv⟩ := hT
    have hl : kvs.length = T.D.length := by
      have e := congrArg List.length hkeys
      rw [List.length_map, List.length_map] at e
      exact e
    have kat : ∀ {i : Nat} {k : Key} {v : V}, kvs[i]? = some (k, v) → ∃ z, T.D[i]? = some z ∧ k = Sum.inr z := fun {i k v} e => by
      have e1 : (kvs.map (·.1))[i]? = some k := by rw [List.getElem?_map, e]; rfl
      rw [hkeys, List.getElem?_map] at e1
      obtain ⟨z, ez, rfl⟩ := Option.map_eq_some_iff.mp e1
      exact ⟨z, ez, rfl⟩
    refine ⟨d, _, hk, True.intro, fun od => ?_⟩
    have tl : Tups H (upd H d (.frz od (.dK kvs))) := tups_lock hk
    refine lcd_keys (K := K) (d := d) (od := od) (kvs := kvs) (fun i => (T.D[i]?).bind fun z => if decide (T.rt z = T.rt one) then some (PyData.str z) else none) (fun i dd e => ?_) upd_same (fun R h => h) (by omega) (fun x => rfl) (fun i k v H1 R e s1 z => ?_) (fun i k v dd H1 R e ef s1 z => ?_) fun p H2 vs n2 s2 t2 a2 => ?_
    · cases es : T.D[i]? with
      | none => rw [es] at e; cases e
      | some s =>
        rw [es] at e
        have e : (if decide (T.rt s = T.rt one) = true then some (PyData.str s) else none) = some dd := e
        split at e
        · cases e; exact TStay.str s
        · cases e
    · obtain ⟨y, ey, rfl⟩ := kat e
      obtain ⟨ty, hy, qy⟩ := hv y (List.mem_of_getElem? ey)
      obtain ⟨to, ho, qo⟩ := hv one m
      have hd1 := s1 _ _ upd_same
      have qy1 := same_t s1 (tups_t tl qy)
      have qo1 := same_t s1 (tups_t tl qo)
      refine ⟨.ref ty, ?_, _, _, qy1, rfl, .ref to, ?_, _, _, qo1, rfl, ?_⟩
      · rw [← hy]; exact locked_get hd1 (Sum.inr y)
      · rw [← ho]; exact locked_get hd1 (Sum.inr one)
      rw [ey] at z
      have z : R (if decide (T.rt y = T.rt one) = true then some (PyData.str y) else none).isSome H1 := z
      show R (decide (T.rt y = T.rt one)) H1
      cases c : decide (T.rt y = T.rt one) with
      | true => rw [if_pos c] at z; exact z
      | false => rw [if_neg (by rw [c]; exact Bool.false_ne_true)] at z; exact z
    · obtain ⟨y, ey, rfl⟩ := kat e
      rw [ey] at ef
      have ef : (if decide (T.rt y = T.rt one) = true then some (PyData.str y) else none) = some dd := ef
      split at ef
      · cases ef
        exact z (.str y) H1 (Same.refl H1) (.str y)
      · cases ef
    · rw [hl, filt_at, filtMap] at a2
      have ev := dp_strs (a2 : DpAll K H2 vs ((T.D.filter fun z => decide (T.rt z = T.rt one)).map PyData.str))
      subst ev
      have pd : p ≠ d := fun z => by rw [z, upd_same] at n2; cases n2
      have s2' := same_unlock hk s2
      have np : H p = none := by
        rw [upd_ne pd] at n2
        exact n2
      refine ⟨s2 _ _ upd_same, T.D.filter fun z => decide (T.rt z = T.rt one), SqL.of (by rw [upd_ne pd]; exact t2), Nat.lt_of_le_of_lt (List.length_filter_le ..) lT, fun ys pm so => fun p3 H3 n3 s3 t3 => q p3 H3 ys (s2'.free n3) (s2'.trans s3) t3 (pm.nodup_iff.mpr (tT.nd.sublist (List.filter_sublist ..))) so fun z => ?_⟩
      rw [pm.mem_iff, List.mem_filter, decide_eq_true_eq]
      exact tT.part m z
  · refine ⟨_, hT.no m, br_t ⟨szr rfl, fun p H1 n1 s1 t1 => q p H1 [one] n1 s1 t1 (by simp) rfl fun z => ?_⟩⟩
    rw [List.mem_singleton]
    exact (tT.alone m z).symm
/-! ### _law_rise -/
abbrev N__law_rise : List Str := ["_law_book", "_law_tops_here", "_law_one", "_law_other", "_law_due_here", "_law_found", "_law_refused_here", "_law_near", "_law_e"]
def sp__law_rise (K : PySem.W.Frag) (A : Ad) : Sp := fun vs H Q _ => ∃ (b d td : Addr) (most taken : Int) (rows : List Row) (T : Tops) (one other : Str) (P : List Str), vs = [.ref b, .ref td, .str one, .str other] ∧ BookAt K A H b d most taken rows ∧ TopAt K H td T ∧ TopOf rows T ∧ Pg one ∧ Pg other ∧ rows.length ≤ 1000 ∧
  one ∈ P ∧ Pool P rows ∧ P.length < 64 ∧ Pgs rows ∧ ∀ H', Same H H' → Q (.bl true) H'
def t__law_rise (K : PySem.W.Frag) (A : Ad) : TS :=
  (tSeq (tAsg (tCall (sp__law_gap K) [] E0 (tCons (uVar 1) (tCons (uVar 2) (tCons (uVar 3) tNil)))) (gName 4))
  (tSeq (tAsg (tC .non) (gName 5))
  (tSeq (tAsg (tC .non) (gName 6))
  (tSeq (tAsg (uLst tNil) (gName 7))
  (Evl.tCut (uTryK K (.ref A.NoWay) 8 (fun a cls d => (tSeq (tAsg (uVar 8) (gName 6))
  (tAsg (tXf a cls d A.NoWay "near" (uVar 8)) (gName 7)))) (fun W => (tAsg (uMethS A.Book "rise" (sp_Book_rise K A) (WE W) (uVar 0) (tCons (uVar 2) (tCons (uVar 3) tNil))) (gName 5))))
  (tSeq (uIfS (uT (tOp (cNon true) (uVar 4) (tC .non)))
  (tSeq (uIfS (uOr (uT (tOp (cNon true) (uVar 6) (tC .non))) (uOr (uT (tOp kNeS (tCall (sp__law_kind K A) [] E0 (tCons (uVar 6) tNil)) (tC (.str "way")))) (uNot (uT (tCB (cIsi K) (tCons (uVar 7) (tCons (tC (.ty "list")) tNil)))))))
  (tRet (tC (.bl false)))
  tNext)
  (tRet (tOp (rEqD K) (uVar 7) (tCall (sp__law_part K) [] E0 (tCons (uVar 1) (tCons (uVar 2) tNil))))))
  tNext)
  (tRet (uAndV (tOp (cNon true) (uVar 6) (tC .non)) (uAndV (tCall (sp__law_whole K) [] E0 (tCons (uVar 5) tNil)) (tOp (rEqD K) (uVar 5) (uVar 4)))))))))))
theorem reach_pg {rows : List Row} (h : Pgs rows) {a z : Str} (ha : Pg a) (r : Reach rows a z) : Pg z := r.closed (S := Pg) (fun s st _ => by
  rcases st with st | st
  · exact (h s st).2
  · exact (h _ st).1) ha
/-- what is told, or refused -/
theorem rd__law_rise {K : PySem.W.Frag} {A : Ad} (T : Tx K A) {vs : List V} {H : Hp} {Q : VK} {E : XK} (h : sp__law_rise K A vs H Q E) : t__law_rise K A { nx := fun _ H' => Q .non H', rt := Q } (start N__law_rise vs) H := by
  obtain ⟨b, d, td, most, taken, rows, U, one, other, P, rfl, B, hU, tU, po, pt, hlen, o1, oP, lP, pgs, q⟩ := h
  refine ⟨td, U, rows, one, other, rfl, hU, tU, ?_⟩
  refine ⟨szr rfl, fun e0 H0 n0 s0 t0 => ?_⟩
  have B0 := B.mono s0
  obtain ⟨dx, hi⟩ := B0.ins
  refine ⟨fun σ H' => (∃ x, U.gap one other = some x ∧ σ = [some (.ref b), some (.ref td), some (.str one), some (.str other), some (gapV (U.gap one other)), some (.int x), some .non, some (.ref e0), none] ∧ Same H H') ∨
      (U.gap one other = none ∧ ∃ (a dd p : Addr) (ys : List Str), σ = [some (.ref b), some (.ref td), some (.str one), some (.str other), some (gapV (U.gap one other)), some .non, some (.ref a), some (.ref p), none] ∧ H' a = some (ErO (.ref (A.er .way)) (some dd) a) ∧ DictOk H' (some dd) ∧ Same H H' ∧
        H' p = some (.lst (ys.map V.str)) ∧ ys.Nodup ∧ sortedS ys = true ∧ ∀ z, z ∈ ys ↔ Reach rows one z), ?_, ?_⟩
  · refine ⟨⟨dx, _, hi, rfl⟩, b, d, most, taken, rows, .str one, .str other, rfl, B0, hlen, po.s7, pt.s7, fun e => ?_, fun o1' o2' e1 e2 _ => ?_⟩
    · have e : (pegS one && pegS other) = false := e
      rw [po.pegS, pt.pegS] at e
      cases e
    · cases V.str.inj e1
      cases V.str.inj e2
      refine ⟨P, o1, oP, lP, fun H1 ss s1 W => .inl ?_, fun nr H1 dd p ys np s1 hdd hp nd so mem => ?_⟩
      · cases g : U.gap one other with
        | none => exact absurd ⟨ss, W⟩ (tU.gap_none g)
        | some x =>
          have ex : total ss = x := (tU.gap_some g).2 ss W
          rw [ex]
          exact ⟨x, rfl, rfl, s0.trans s1⟩
      · refine ⟨true, T.slf .way, fun _ a na => ?_, fun z => nomatch z⟩
        refine ⟨rfl, rfl, dd, _, .ref p, rfl, hdd, rfl, fun H2 na2 s2 t2 => .inr ⟨(tU.gap_none_iff one other).mpr nr, a, dd, p, ys, rfl, t2, ⟨_, s2 _ _ hdd⟩, (s0.trans s1).trans s2, s2 _ _ hp, nd, so, mem⟩⟩
  · rintro σ H1 (⟨x, g, rfl, s1⟩ | ⟨g, a, dd, p, ys, rfl, ha, hdd, s1, hp, nd, so, mem⟩)
    · rw [g]
      refine br_f (br_t ⟨.int x, "int", rfl, .int _, br_t ⟨.int x, .int x, .int _, .int _, rfl, rfl, ?_⟩⟩)
      rw [int_eqv, decide_eq_true rfl]
      exact q H1 s1
    · rw [g]
      refine br_t (br_f ⟨a, some dd, .way, rfl, ha, hdd, br_ff (by decide) ⟨"list", true, ty_lst (SqL.of hp), by decide +kernel, br_f ?_⟩⟩)
      have lD := Nat.lt_of_le_of_lt (tU.len oP) lP
      refine ⟨td, U, rows, one, rfl, hU.mono s1, tU, lD, fun p2 H2 zs n2 s2 t2 nd2 so2 mem2 => ?_⟩
      have e : ys = zs := sorted_eq so so2 nd nd2 fun z => by rw [mem, mem2]
      subst e
      have ok : ∀ z ∈ ys, PyData.strOk z = true := fun z hz => (reach_pg pgs po ((mem z).mp hz)).ok
      refine ⟨strsD ys, strsD ys, strsD_mk (SqL.of (s2 _ _ hp)), strsD_mk (SqL.of t2), strsD_shaped ok, strsD_shaped ok, ?_⟩
      rw [strs_eqv_self]
      exact q H2 (s1.trans s2)
/-! ### _law_parts -/
abbrev N__law_parts : List Str := ["_law_tops_here", "_law_found", "_law_peg", "_law_part_here"]
def sp__law_parts (K : PySem.W.Frag) : Sp := fun vs H Q _ => ∃ (d : Addr) (T : Tops) (rows : List Row) (ys : List Str), vs = [.ref d] ∧ TopAt K H d T ∧ TopOf rows T ∧ T.D.length < 64 ∧ Pegs rows ys ∧
  ∀ (p : Addr) (H' : Hp) (xs : List V) (ps : List (List Str)), H p = none → Same H H' → H' p = some (.lst xs) → StrLs (fun _ => True) H' xs ps → PartsOf rows ys ps → Q (.ref p) H'
def lp1__law_parts (K : PySem.W.Frag) : TS :=
  (tFor (iList K (tCB cSortedD (tCons (uVar 0) tNil))) (gName 2)
  (tSeq (tAsg (tCall (sp__law_part K) [] E0 (tCons (uVar 0) (tCons (uVar 2) tNil))) (gName 3))
  (uIfS (uT (tOp kEqS (tOp (cIxL K) (uVar 3) (tC (.int 0))) (uVar 2)))
  (tDrop (tBM K "list" cApp (uVar 1) (tCons (uVar 3) tNil)))
  tNext)))
def t__law_parts (K : PySem.W.Frag) : TS :=
  (tSeq (tAsg (uLst tNil) (gName 1))
  (tSeq (lp1__law_parts K)
  (tRet (uVar 1))))
theorem TopOf.pegs {rows : List Row} {T : Tops} (h : TopOf rows T) {ys zs : List Str} (hy : Pegs rows ys) (pm : zs.Perm T.D) (so : sortedS zs = true) : zs = ys := sorted_eq so hy.so (pm.nodup_iff.mpr h.nd) hy.nd fun z => by rw [pm.mem_iff, h.dom, hy.mem]
theorem rd__law_parts {K : PySem.W.Frag} {vs : List V} {H : Hp} {Q : VK} {E : XK} (h : sp__law_parts K vs H Q E) : t__law_parts K { nx := fun _ H' => Q .non H', rt := Q } (start N__law_parts vs) H := by
  obtain ⟨d, T, rows, ys, rfl, hT, tT, lT, hy, q⟩ := h
  refine ⟨szr rfl, fun p H1 n1 s1 t1 => ?_⟩
  obtain ⟨kvs, hk, hkeys, _⟩ := hT.mono s1
  refine ⟨kvs, T.D, .inl hk, hkeys, lT, fun zs pm so l H2 n2 s2 t2 => ?_⟩
  have ez := tT.pegs hy pm so
  subst ez
  have nlp : l ≠ p := fun z => by rw [z, t1] at n2; cases n2
  refine ⟨l, rfl, ⟨_, SqL.of t2⟩, for_list (K := K) (a := l) (xs := zs.map V.str) (fun i σ H' => Chd p H2 H' ∧ ∃ (xs : List V) (ps : List (List Str)) (w2 w3 : Option V), H' p = some (.lst xs) ∧ xs.length ≤ i ∧ StrLs (fun q => q ≠ p) H' xs ps ∧ PartsOf rows (zs.take i) ps ∧ σ = [some (.ref d), some (.ref p), w2, w3]) ⟨fun b o _ h => h, [], [], none, none, s2 _ _ t1, Nat.le_refl _, .nil, .nil, rfl⟩ (fun i σ H' _ h => SqL.of (h.1 _ _ nlp t2)) ?_ ?_⟩
  · rintro i x σ H3 e ⟨c3, xs, ps, w2, w3, hp, hx, ls, po, rfl⟩
    rw [List.getElem?_map] at e
    obtain ⟨z, ez, rfl⟩ := Option.map_eq_some_iff.mp e
    have hi : i < zs.length := (List.getElem?_eq_some_iff.mp ez).1
    have zl : zs.length < 64 := by rw [pm.length_eq]; exact lT
    have s03 : Same H H3 := same_chd (s1.trans s2) c3 n1
    refine ⟨d, T, rows, z, rfl, hT.mono s03, tT, lT, fun q0 H4 part n4 s4 t4 nd4 so4 mem4 => ?_⟩
    have pz : PartOf rows z part := ⟨nd4, so4, mem4⟩
    obtain ⟨y, r, rfl⟩ := pz.ne
    have q0p : q0 ≠ p := fun w => by rw [w, hp] at n4; cases n4
    have etk : zs.take (i + 1) = zs.take i ++ [z] := by rw [List.take_add_one, ez]; rfl
    refine ⟨_, _, SqL.of t4, at_nat (j := 0) rfl rfl, ⟨fun eq => ?_, fun eq => ?_⟩⟩
    · have f : IsFst rows z := pz.head.mp (of_decide_eq_true eq)
      refine ⟨.inl ⟨rfl, _, SqL.of (s4 _ _ hp)⟩, xs, s4 _ _ hp, szl (by omega), fun H5 c5 t5 => ⟨chd_trans (chd_same c3 s4) c5, xs ++ [.ref q0], ps ++ [y :: r], _, _, t5, by rw [List.length_append]; exact Nat.succ_le_succ hx, ?_, ?_, rfl⟩⟩
      · exact (((ls.mono s4).chd c5 fun q n => n).snoc q0p (c5 _ _ q0p t4))
      · unfold PartsOf
        rw [etk, (firsts_snoc rows (zs.take i) z).1 f]
        exact Paired.snoc' po pz
    · have nf : ¬ IsFst rows z := fun f => (of_decide_eq_false eq) (pz.head.mpr f)
      refine ⟨chd_same c3 s4, xs, ps, _, _, s4 _ _ hp, Nat.le_succ_of_le hx, ls.mono s4, ?_, rfl⟩
      unfold PartsOf
      rw [etk, (firsts_snoc rows (zs.take i) z).2 nf]
      exact po
  · rintro σ H3 ⟨c3, xs, ps, w2, w3, hp, hx, ls, po, rfl⟩
    rw [List.length_map, List.take_length] at po
    exact q p H3 xs ps n1 (same_chd (s1.trans s2) c3 n1) hp (ls.imp fun _ _ => True.intro) po
/-! ### _law_alike -/
abbrev N__law_alike : List Str := ["_law_found", "_law_due_here", "_law_part_here"]
def sp__law_alike (K : PySem.W.Frag) : Sp := fun vs H Q _ => ∃ (N N' : Addr → Prop) (p w : Addr) (xs ys : List V) (ps : List (List Str)), vs = [.ref p, .ref w] ∧ H p = some (.lst xs) ∧ StrLs N H xs ps ∧ H w = some (.lst ys) ∧ StrLs N' H ys ps ∧ (∀ z ∈ ps, ∀ y ∈ z, PyData.strOk y = true) ∧ xs.length ≤ 1000 ∧ ∀ H', Same H H' → Q (.bl true) H'
def t__law_alike (K : PySem.W.Frag) : TS :=
  (tSeq (uIfS (uOr (uNot (uT (tCB (cIsi K) (tCons (uVar 0) (tCons (tC (.ty "list")) tNil))))) (uT (tOp (rNeD K) (uVar 0) (uVar 1))))
  (tRet (tC (.bl false)))
  tNext)
  (tRet (tOp (rEqD K) (uLc (iList K (uVar 0)) (gName 2) (uNot (uT (tCB (cIsi K) (tCons (uVar 2) (tCons (tC (.ty "list")) tNil))))) (uVar 2) [2]) (uLst tNil))))
theorem rd__law_alike {K : PySem.W.Frag} {vs : List V} {H : Hp} {Q : VK} {E : XK} (h : sp__law_alike K vs H Q E) : t__law_alike K { nx := fun _ H' => Q .non H', rt := Q } (start N__law_alike vs) H := by
  obtain ⟨N, N', p, w, xs, ys, ps, rfl, hp, lx, hw, ly, ok, hlen, q⟩ := h
  refine ⟨"list", true, ty_lst (SqL.of hp), by decide +kernel, br_f ⟨partsD ps, partsD ps, .lst (SqL.of hp) lx.dp, .lst (SqL.of hw) ly.dp, parts_shaped ok, parts_shaped ok, ?_⟩⟩
  rw [parts_eqv]
  refine br_f ?_
  refine lcd_list (K := K) (a := p) (xs := xs) (fun i => none) (fun i d h => (by cases h)) (SqL.of hp) (fun R h => h) (by omega) (fun x => rfl) (fun i x H1 R e s1 k => ?_) (fun i x d H1 R e h s1 k => (by cases h)) fun l H1 vs n1 s1 t1 a1 => ?_
  · obtain ⟨d, hd, dx⟩ := dpAll_get (K := K) lx.dp e
    rw [List.getElem?_map] at hd
    obtain ⟨z, ez, rfl⟩ := Option.map_eq_some_iff.mp hd
    obtain ⟨a, zs, rfl, hl, _⟩ := dp_lst (dp_mono s1 dx)
    exact ⟨"list", true, ty_lst hl, by decide +kernel, k⟩
  · have e0 : (List.range xs.length).filterMap (fun _ => (none : Option PyData)) = [] := by simp
    rw [e0] at a1
    obtain rfl := dpAll_nil a1
    refine ⟨szr rfl, fun l2 H2 n2 s2 t2 => ⟨.list [], .list [], .lst (SqL.of (s2 _ _ t1)) .nil, .lst (SqL.of t2) .nil, by decide, by decide, ?_⟩⟩
    have e1 : PyData.eqv (.list []) (.list []) = true := by simp [PyData.eqv, PyData.eqvAll]
    rw [e1]
    exact q H2 (s1.trans s2)
/-! ### _law_heights -/
abbrev N__law_heights : List Str := ["_law_found", "_law_rows_here", "_law_tops_here", "_law_highs_here", "_law_pair", "_law_row", "_law_part_here"]
def sp__law_heights (K : PySem.W.Frag) : Sp := fun vs H Q _ => ∃ (p R td : Addr) (xs : List V) (ys : List Str) (g : Str → Int) (rows : List Row) (T : Tops), vs = [.ref p, .ref R, .ref td] ∧ H p = some (.lst xs) ∧ DpAll K H xs (ys.map fun z => pairD z (g z)) ∧ Dp K H (.ref R) (rowsD rows) ∧ TopAt K H td T ∧ TopOf rows T ∧ T.D.length < 64 ∧ Pegs rows ys ∧ HeightsOf rows ys g ∧ Pgs rows ∧ rows.length ≤ 1000 ∧
  ∀ H', Same H H' → Q (.bl true) H'
def lp1__law_heights (K : PySem.W.Frag) : TS :=
  (tFor (iList K (uVar 0)) (gName 4)
  (tSeq (uIfS (uOr (uNot (uT (tCB (cIsi K) (tCons (uVar 4) (tCons (tC (.ty "tuple")) tNil))))) (uOr (uT (tOp kNeI (tCB (cLenQ K) (tCons (uVar 4) tNil)) (tC (.int 2)))) (uNot (uT (tCall (sp__law_whole K) [] E0 (tCons (tOp (cIxT K) (uVar 4) (tC (.int 1))) tNil))))))
  (tRet (tC (.bl false)))
  tNext)
  (uDPut (uVar 3) (tOp (cIxT K) (uVar 4) (tC (.int 0))) (tOp (cIxT K) (uVar 4) (tC (.int 1))))))
def lp2__law_heights (K : PySem.W.Frag) : TS :=
  (tFor (iList K (uVar 1)) (gName 5)
  (uIfS (uT (tOp kNeI (tOp kSub (uDGet (uVar 3) (tOp (cIxT K) (uVar 5) (tC (.int 2)))) (uDGet (uVar 3) (tOp (cIxT K) (uVar 5) (tC (.int 1))))) (tOp (cIxT K) (uVar 5) (tC (.int 3)))))
  (tRet (tC (.bl false)))
  tNext))
def lp3__law_heights (K : PySem.W.Frag) : TS :=
  (tFor (iList K (tCall (sp__law_parts K) [] E0 (tCons (uVar 2) tNil))) (gName 6)
  (uIfS (uT (tOp kNeI (uDGet (uVar 3) (tOp (cIxL K) (uVar 6) (tC (.int 0)))) (tC (.int 0))))
  (tRet (tC (.bl false)))
  tNext))
def t__law_heights (K : PySem.W.Frag) : TS :=
  (tSeq (uIfS (uNot (uT (tCB (cIsi K) (tCons (uVar 0) (tCons (tC (.ty "list")) tNil)))))
  (tRet (tC (.bl false)))
  tNext)
  (tSeq (tAsg uDNew (gName 3))
  (tSeq (lp1__law_heights K)
  (tSeq (uIfS (uT (tOp (rNeD K) (uLc (iList K (uVar 0)) (gName 4) tYes (tOp (cIxT K) (uVar 4) (tC (.int 0))) [4]) (tCB cSortedD (tCons (uVar 2) tNil))))
  (tRet (tC (.bl false)))
  tNext)
  (tSeq (lp2__law_heights K)
  (tSeq (lp3__law_heights K)
  (tRet (tC (.bl true)))))))))
theorem Pegs.ok {rows : List Row} {ys : List Str} (h : Pegs rows ys) (pg : Pgs rows) : ∀ z ∈ ys, PyData.strOk z = true := fun z hz => by
  obtain ⟨r, hr, e | e⟩ := (h.mem z).mp hz
  · rw [e]; exact (pg r hr).1.ok
  · rw [e]; exact (pg r hr).2.ok
theorem Paired.left {α β : Type} {R : α → β → Prop} : ∀ {xs : List α} {ys : List β}, Paired R xs ys → ∀ y ∈ ys, ∃ x ∈ xs, R x y
  | _, _, .nil, y, hy => by cases hy
  | _, _, .cons a t, y, hy => by
    rcases List.mem_cons.mp hy with e | hy
    · exact ⟨_, List.mem_cons_self .., e ▸ a⟩
    · obtain ⟨x, hx, r⟩ := Paired.left t y hy
      exact ⟨x, List.mem_cons_of_mem _ hx, r⟩
theorem rd__law_heights {K : PySem.W.Frag} {vs : List V} {H : Hp} {Q : VK} {E : XK} (h : sp__law_heights K vs H Q E) : t__law_heights K { nx := fun _ H' => Q .non H', rt := Q } (start N__law_heights vs) H := by
  obtain ⟨p, R, td, xs, ys, g, rows, T, rfl, hp, al, hR, hT, tT, lT, hy, hg, pgs, hlen, q⟩ := h
  have hxl : xs.length = ys.length := by rw [dpAll_length al, List.length_map]
  have yl : ys.length < 64 := by
    have := nodup_len hy.nd fun z hz => (tT.dom z).mpr ((hy.mem z).mp hz)
    omega
  refine ⟨"list", true, ty_lst (SqL.of hp), by decide +kernel, br_f ?_⟩
  intro hd H1 n1 s1 t1
  have nph : p ≠ hd := fun z => by rw [z] at hp; rw [hp] at n1; cases n1
  have hp1 := s1 _ _ hp
  refine ⟨p, rfl, ⟨_, SqL.of hp1⟩, for_list (K := K) (a := p) (xs := xs) (fun i σ H' => Chd hd H1 H' ∧ ∃ (kv : List (Key × V)) (w4 : Option V), H' hd = some (.dK kv) ∧ kv.length ≤ i ∧ (∀ z ∈ ys.take i, valV kv (Sum.inr z) = some (.int (g z))) ∧ σ = [some (.ref p), some (.ref R), some (.ref td), some (.ref hd), w4, none, none])
    ⟨fun b o _ h => h, [], none, t1, Nat.le_refl _, fun z h => (by rw [List.take_zero] at h; cases h), rfl⟩ (fun i σ H' _ h => SqL.of (h.1 _ _ nph hp1)) ?_ ?_⟩
  · rintro i x σ H2 e ⟨c2, kv, w4, hd2, hk, hv, rfl⟩
    obtain ⟨dd, hdd, dx⟩ := dpAll_get al e
    rw [List.getElem?_map] at hdd
    obtain ⟨z, ez, rfl⟩ := Option.map_eq_some_iff.mp hdd
    obtain ⟨t, rfl, ht⟩ := pair_at dx
    have ht2 := same_t (same_chd s1 c2 n1) ht
    have hi : i < ys.length := (List.getElem?_eq_some_iff.mp ez).1
    refine ⟨"tuple", true, ty_tup ht2, by decide +kernel, br_f ⟨_, .inr ht2, br_f ⟨_, _, ht2, rfl, .int (g z), "int", rfl, .int _, br_f ?_⟩⟩⟩
    refine ⟨_, _, ht2, rfl, _, _, ht2, rfl, kv, Sum.inr z, hd2, rfl, szl (by omega), fun H3 c3 t3 => ⟨chd_trans c2 c3, _, _, t3, Nat.le_trans (putK_len' ..) (by omega), fun y hy' => ?_, rfl⟩⟩
    rw [valV_put]
    by_cases c : y = z
    · rw [if_pos (by rw [c]), c]
    · rw [if_neg fun h => c (Sum.inr.inj h)]
      rw [List.take_add_one, ez] at hy'
      rcases List.mem_append.mp hy' with m | m
      · exact hv y m
      · exact absurd (by simpa using m) c
  · rintro σ H2 ⟨c2, kv, w4, hd2, hk, hv, rfl⟩
    rw [hxl, List.take_length] at hv
    have s02 := same_chd s1 c2 n1
    have hp2 := s02 _ _ hp
    have al2 := dpAll_mono s02 al
    refine lcd_list (K := K) (a := p) (xs := xs) (fun i => (ys[i]?).bind fun z => some (PyData.str z)) (fun i dd h => ?_) (SqL.of hp2) (fun R h => h) (by omega) (fun x => rfl) (fun i x H3 R e s3 k => ?_) (fun i x dd H3 R e h s3 k => ?_) fun l H3 vs n3 s3 t3 a3 => ?_
    · obtain ⟨z, _, e⟩ := Option.bind_eq_some_iff.mp h
      cases e
      exact TStay.str _
    · have hi : i < ys.length := by rw [← hxl]; exact (List.getElem?_eq_some_iff.mp e).1
      rw [List.getElem?_eq_getElem hi] at k
      exact k
    · obtain ⟨d2, hd2', dx⟩ := dpAll_get al2 e
      rw [List.getElem?_map] at hd2'
      obtain ⟨z, ez, rfl⟩ := Option.map_eq_some_iff.mp hd2'
      obtain ⟨t, rfl, ht⟩ := pair_at dx
      rw [ez] at h
      cases h
      exact ⟨_, _, same_t s3 ht, rfl, k _ H3 (Same.refl H3) (.str z)⟩
    · rw [hxl, filt_at] at a3
      have e1 : ys.filterMap (fun z => some (PyData.str z)) = ys.map PyData.str := by rw [List.filterMap_eq_map']
      rw [e1] at a3
      obtain rfl := dp_strs a3
      obtain ⟨kvs, hk3, hkeys, _⟩ := hT.mono (s02.trans s3)
      refine ⟨kvs, T.D, .inl hk3, hkeys, lT, fun zs pm so l2 H4 n4 s4 t4 => ?_⟩
      have ez := tT.pegs hy pm so
      subst ez
      have ok := hy.ok pgs
      refine ⟨strsD zs, strsD zs, strsD_mk (SqL.of (s4 _ _ t3)), strsD_mk (SqL.of t4), strsD_shaped ok, strsD_shaped ok, ?_⟩
      rw [strs_eqv_self]
      refine br_f ?_
      have s24 := s3.trans s4
      have s04 := s02.trans s24
      have hd4 := s24 _ _ hd2
      have get : ∀ {H' : Hp} {z : Str}, Same H4 H' → z ∈ zs → DGet H' hd (.str z) (some (.int (g z))) := fun {H' z} s hz => by
        rw [← hv z hz]
        exact DGet.k (k := Sum.inr z) (s _ _ hd4)
      obtain ⟨_, xr, er, hRl, alr⟩ := dp_lst (dp_mono s04 hR)
      cases er
      refine ⟨R, rfl, ⟨_, hRl⟩, for_list (K := K) (a := R) (xs := xr) (fun i σ H' => H' = H4 ∧ ∃ w5, σ = [some (.ref p), some (.ref R), some (.ref td), some (.ref hd), w4, w5, none]) ⟨rfl, none, rfl⟩ (fun i σ H' _ h => by rw [h.1]; exact hRl) ?_ ?_⟩
      · rintro i x σ H' e ⟨rfl, w5, rfl⟩
        obtain ⟨dd, hdd, dx⟩ := dpAll_get alr e
        rw [List.getElem?_map] at hdd
        obtain ⟨r, er, rfl⟩ := Option.map_eq_some_iff.mp hdd
        have hr : r ∈ rows := List.mem_of_getElem? er
        obtain ⟨t, rfl, ht⟩ := row_at dx
        have m1 : r.one ∈ zs := (hy.mem _).mpr ⟨r, hr, .inl rfl⟩
        have m2 : r.other ∈ zs := (hy.mem _).mpr ⟨r, hr, .inr rfl⟩
        refine ⟨_, _, ht, rfl, _, get (Same.refl _) m2, _, _, ht, rfl, _, get (Same.refl _) m1, _, _, ht, rfl, br_ff ?_ ⟨rfl, _, rfl⟩⟩
        rw [decide_eq_true (hg.rise r hr)]
        rfl
      · rintro σ H' ⟨rfl, w5, rfl⟩
        refine ⟨td, T, rows, zs, rfl, hT.mono s04, tT, lT, hy, fun lp H5 xp ps n5 s5 t5 lps po => ?_⟩
        refine ⟨lp, rfl, ⟨_, SqL.of t5⟩, for_list (K := K) (a := lp) (xs := xp) (fun i σ H' => H' = H5 ∧ ∃ w6, σ = [some (.ref p), some (.ref R), some (.ref td), some (.ref hd), w4, w5, w6]) ⟨rfl, none, rfl⟩ (fun i σ H' _ h => by rw [h.1]; exact SqL.of t5) ?_ ?_⟩
        · rintro i x σ H' e ⟨rfl, w6, rfl⟩
          have hl : xp.length = ps.length := Paired.length lps
          have hi : i < ps.length := by rw [← hl]; exact (List.getElem?_eq_some_iff.mp e).1
          obtain ⟨part, ep⟩ : ∃ part, ps[i]? = some part := ⟨_, List.getElem?_eq_getElem hi⟩
          obtain ⟨q0, rfl, _, hq⟩ := Paired.get2 lps e ep
          obtain ⟨z, hz, pz⟩ := Paired.left po part (List.mem_of_getElem? ep)
          have hz := mem_firsts.mp hz
          obtain ⟨y, r, rfl⟩ := pz.ne
          have ey := pz.head.mpr hz.2
          subst ey
          refine ⟨_, _, SqL.of hq, at_nat (j := 0) rfl rfl, _, get s5 hz.1, br_ff ?_ ⟨rfl, _, rfl⟩⟩
          rw [hg.zero _ hz.1 hz.2]
          rfl
        · rintro σ H' ⟨rfl, w6, rfl⟩
          exact q H' (s04.trans s5)
/-! ### _law_piece -/
abbrev N__law_piece : List Str := ["_law_sighting_here"]
def sp__law_piece (K : PySem.W.Frag) : Sp := fun vs H Q _ => ∃ (v : V) (s : Sg), vs = [v] ∧ Dp K H v (sgD s) ∧ GoodS s ∧ Q (.str (showS s)) H
def t__law_piece (K : PySem.W.Frag) : TS :=
  (tRet (tOp cAddS (tOp cAddS (tOp cAddS (tOp cAddS (tOp (cIxT K) (uVar 0) (tC (.int 0))) (tC (.str " "))) (tOp (cIxT K) (uVar 0) (tC (.int 1)))) (tC (.str " "))) (tCB cStrI (tCons (tOp (cIxT K) (uVar 0) (tC (.int 2))) tNil))))
theorem rd__law_piece {K : PySem.W.Frag} {vs : List V} {H : Hp} {Q : VK} {E : XK} (h : sp__law_piece K vs H Q E) : t__law_piece K { nx := fun _ H' => Q .non H', rt := Q } (start N__law_piece vs) H := by
  obtain ⟨v, s, rfl, d, g, q⟩ := h
  obtain ⟨a, rfl, ht⟩ := sg_at d
  obtain ⟨l1, l2, l3, l4⟩ := show_lens (c := s.2.2) g.one g.other
  exact ⟨_, _, ht, rfl, l1, _, _, ht, rfl, l2, l3, _, _, ht, rfl, log_bnd g.bnd, l4 g.bnd, q⟩
/-! ### _law_text -/
abbrev N__law_text : List Str := ["_law_rows_here", "_law_row"]
def sp__law_text (K : PySem.W.Frag) : Sp := fun vs H Q _ => ∃ (p : Addr) (xs : List V) (rows : List Row), vs = [.ref p] ∧ SqL K H p xs ∧ DpAll K H xs (rows.map rowD) ∧ (∀ r ∈ rows, GoodS (sgOf r)) ∧ rows.length ≤ 1000 ∧ ∀ (H' : Hp), Same H H' → Q (.str (showAll (rows.map sgOf))) H'
def t__law_text (K : PySem.W.Frag) : TS :=
  (tRet (tM1 (cJoin K) (tC (.str "; ")) (uLc (iList K (uVar 0)) (gName 1) tYes (tCall (sp__law_piece K) [] E0 (tCons (tSl (cSlT K) (uVar 1) (uPart (tC (.int 1))) tNoPart) tNil)) [1])))
/-- texts of sightings, joined -/
theorem lc_shown {K : PySem.W.Frag} {H : Hp} {p : Addr} {xs : List V} {l : List Sg} {tl te : TE} {j : Nat} {σ : L2.St} {Q : VK} (hS : SqL K H p xs) (hx : xs.length = l.length) (hlen : l.length ≤ 1000) (htl : ∀ R, R (.ref p) H → tl σ H R) (hw : ∀ x, wipe ((wipe σ [j]).set j (some x)) [j] = wipe σ [j])
    (he : ∀ (i : Nat) (x : V) (s : Sg) (H1 : Hp) (R : VK), xs[i]? = some x → l[i]? = some s → Same H H1 → (∀ H2, Same H1 H2 → R (.str (showS s)) H2) → te ((wipe σ [j]).set j (some x)) H1 R)
    (q : ∀ (p2 : Addr) (H2 : Hp), H p2 = none → Same H H2 → H2 p2 = some (.lst ((l.map showS).map V.str)) → Q (.ref p2) H2) : uLc (iList K tl) (gName j) tYes te [j] σ H Q := by
  refine lcd_list (K := K) (a := p) (xs := xs) (fun i => (l[i]?).bind fun s => some (PyData.str (showS s))) (fun i dd hd => ?_) hS htl (by omega) hw (fun i x H2 R ex s k => ?_) (fun i x dd H2 R ex hd s k => ?_) fun p2 H2 vs n2 s2 t2 al2 => ?_
  · obtain ⟨r, _, e⟩ := Option.bind_eq_some_iff.mp hd
    cases e
    exact TStay.str _
  · have hi : i < l.length := by rw [← hx]; exact (List.getElem?_eq_some_iff.mp ex).1
    rw [List.getElem?_eq_getElem hi] at k
    exact k
  · have hi : i < l.length := by rw [← hx]; exact (List.getElem?_eq_some_iff.mp ex).1
    obtain ⟨s0, es⟩ : ∃ s0, l[i]? = some s0 := ⟨_, List.getElem?_eq_getElem hi⟩
    rw [es] at hd
    cases hd
    exact he i x s0 H2 R ex es s fun H3 s3 => k _ H3 s3 (.str _)
  · rw [hx, filt_at] at al2
    have e1 : l.filterMap (fun r => some (PyData.str (showS r))) = (l.map showS).map PyData.str := by
      rw [List.filterMap_eq_map', List.map_map]
      rfl
    rw [e1] at al2
    have ev := dp_strs al2
    subst ev
    exact q p2 H2 n2 s2 t2
theorem join_fits {l : List Sg} (g : ∀ s ∈ l, GoodS s) (hlen : l.length ≤ 1000) : ((l.map showS).map (·.length)).sum + (l.map showS).length * ("; " : Str).length ≤ 16777216 := by
  have sm := all_sum g
  rw [List.length_map, semi_len]
  omega
theorem rd__law_text {K : PySem.W.Frag} {vs : List V} {H : Hp} {Q : VK} {E : XK} (h : sp__law_text K vs H Q E) : t__law_text K { nx := fun _ H' => Q .non H', rt := Q } (start N__law_text vs) H := by
  obtain ⟨p, xs, rows, rfl, hS, al, g, hlen, q⟩ := h
  have hx : xs.length = (rows.map sgOf).length := by rw [dpAll_length al, List.length_map, List.length_map]
  have gm := good_map g
  have lm : (rows.map sgOf).length ≤ 1000 := by rw [List.length_map]; exact hlen
  refine ⟨⟨_, rfl⟩, lc_shown (l := rows.map sgOf) hS hx lm (fun R k => k) (fun x => rfl) (fun i x s H1 R ex es s1 k => ?_) fun p2 H2 n2 s2 t2 => ⟨(rows.map sgOf).map showS, SqL.of t2, join_fits gm lm, q H2 s2⟩⟩
  obtain ⟨d0, hd0, dx1⟩ := dpAll_get al ex
  rw [List.getElem?_map] at hd0 es
  obtain ⟨r, er, rfl⟩ := Option.map_eq_some_iff.mp hd0
  rw [er] at es
  cases es
  obtain ⟨a, rfl, ht⟩ := row_at (dp_mono s1 dx1)
  exact ⟨_, ht, (show ¬ (HT.sIx 4 0 (some 1) = 0 ∧ HT.sIx 4 4 none = 4) by decide), fun p4 H4 n4 s4 t4 => ⟨.ref p4, sgOf r, rfl, sg_mk (SqT.of t4), g r (List.mem_of_getElem? er), k H4 s4⟩⟩
/-! ### _law_kept -/
abbrev N__law_kept : List Str := ["_law_book", "_law_sightings", "_law_cells", "_law_rows_here", "_law_tops_here", "_law_box", "_law_k", "_law_sighting_here", "_law_gap_here", "_law_taken", "_law_row"]
/-- what the law keeps: its book, its own rows, its tops, its count -/
structure KS (K : PySem.W.Frag) (A : Ad) (P : List Str) (H0 H : Hp) (b d R Ct td : Addr) (taken : Int) (rows : List Row) (T : Tops) (n : Nat) : Prop where
  bs : BS K A H b d R Ct 200 taken rows
  top : TopAt K H td T
  tof : TopOf rows T
  gd : ∀ r ∈ rows, GoodS (sgOf r)
  pool : Pool P rows
  len : rows.length ≤ n
  tk : taken ≤ n
  nR : H0 R = none
  nC : H0 Ct = none
  nt : H0 td = none
  ch : ChdL [b, d] H0 H
  tp : Tups H0 H
theorem KS.mono {K : PySem.W.Frag} {A : Ad} {P : List Str} {H0 H H' : Hp} {b d R Ct td : Addr} {taken : Int} {rows : List Row} {T : Tops} {n : Nat} (s : Same H H') (k : KS K A P H0 H b d R Ct td taken rows T n) : KS K A P H0 H' b d R Ct td taken rows T n := ⟨k.bs.mono s, k.top.mono s, k.tof, k.gd, k.pool, k.len, k.tk, k.nR, k.nC, k.nt, k.ch.same s, k.tp.trans (tups_of s)⟩
def sp__law_kept (K : PySem.W.Frag) (A : Ad) : Sp := fun vs H Q _ => ∃ (b d p c : Addr) (xs : List V) (l : List Sg) (ns : List Int) (P : List Str), vs = [.ref b, .ref p, .ref c] ∧ BookAt K A H b d 200 0 [] ∧ H p = some (.lst xs) ∧ DpAll K H xs (l.map sgD) ∧ (∀ s ∈ l, GoodS s) ∧ (∀ s ∈ l, s.1 ∈ P ∧ s.2.1 ∈ P) ∧ P.length < 60 ∧ H c = some (.lst (ns.map V.int)) ∧ l.length ≤ ns.length ∧ l.length ≤ 64 ∧
  ∀ (R : Addr) (taken : Int) (rows : List Row) (ys : List V) (H' : Hp), H R = none → ChdL [b, d] H H' → Tups H H' → BookAt K A H' b d 200 taken rows → H' R = some (.lst ys) → DpAll K H' ys (rows.map rowD) → Agr rows → (∀ r ∈ rows, GoodS (sgOf r)) → Pool P rows → rows.length ≤ 64 → Q (.ref R) H'
def lp1__law_kept (K : PySem.W.Frag) (A : Ad) : TS :=
  (tFor (iRng1 (tCons (tCB (cLenQ K) (tCons (uVar 1) tNil)) tNil)) (gName 6)
  (tSeq (tAsg (tOp (cIxL K) (uVar 1) (uVar 6)) (gName 7))
  (tSeq (tAsg (tCall (sp__law_gap K) [] E0 (tCons (uVar 4) (tCons (tOp (cIxT K) (uVar 7) (tC (.int 0))) (tCons (tOp (cIxT K) (uVar 7) (tC (.int 1))) tNil)))) (gName 8))
  (tSeq (tAsg (tC (.bl true)) (gName 9))
  (Evl.tCut (uTryO K (.ref A.Against) (fun _ _ _ => (tAsg (tC (.bl false)) (gName 9))) (fun W => (tDrop (uMethS A.Book "take" (sp_Book_take K A) (WE W) (uVar 0) (tCons (tOp (cIxT K) (uVar 7) (tC (.int 0))) (tCons (tOp (cIxT K) (uVar 7) (tC (.int 1))) (tCons (tOp (cIxT K) (uVar 7) (tC (.int 2))) tNil)))))))
  (tSeq (uIfS (uT (tOp kNeB (uVar 9) (uOrV (tOp (cNon true) (uVar 8) (tC .non)) (tOp (rEqD K) (uVar 8) (tOp (cIxT K) (uVar 7) (tC (.int 2)))))))
  (tRet (tC .non))
  tNext)
  (Evl.tCut (uIfS (uT (uVar 9))
  (tSeq (tAsg (tOp kAdd (tOp (cIxL K) (uVar 5) (tC (.int 0))) (tC (.int 1))) (gSub (uVar 5) (tC (.int 0)) cSetL))
  (tSeq (tDrop (tBM K "list" cApp (uVar 3) (tCons (tOp (cCatT K) (uTup (tCons (tOp (cIxL K) (uVar 5) (tC (.int 0))) tNil)) (uVar 7)) tNil)))
  (tDrop (tCall (sp__law_lay K) [] E0 (tCons (uVar 4) (tCons (tOp (cIxL K) (uVar 3) (tUn kNeg (tC (.int 1)))) tNil))))))
  tNext)
  (uIfS (uAnd (uT (tOp kEqI (tOp kMod (tOp (cIxL K) (uVar 2) (uVar 6)) (tC (.int 5))) (tC (.int 2)))) (uT (tOp (rNeD K) (uVar 3) (uLst tNil))))
  (tSeq (tAsg (tOp (cIxL K) (uVar 3) (tOp kMod (tOp kMod (tOp kDiv (tOp (cIxL K) (uVar 2) (uVar 6)) (tC (.int 5))) (tC (.int 10007))) (tCB (cLenQ K) (tCons (uVar 3) tNil)))) (gName 10))
  (tSeq (tDrop (uMeth A.Book "drop" (sp_Book_drop K A) E0 (uVar 0) (tCons (tOp (cIxT K) (uVar 10) (tC (.int 0))) tNil)))
  (tSeq (tDrop (tBM K "list" (cRemD K) (uVar 3) (tCons (uVar 10) tNil)))
  (tAsg (tCall (sp__law_tops K) [] E0 (tCons (uVar 3) tNil)) (gName 4)))))
  tNext))))))))
def t__law_kept (K : PySem.W.Frag) (A : Ad) : TS :=
  (tSeq (tAsg (uLst tNil) (gName 3))
  (tSeq (tAsg uDNew (gName 4))
  (tSeq (tAsg (uLst (tCons (tC (.int 0)) tNil)) (gName 5))
  (tSeq (lp1__law_kept K A)
  (tRet (uVar 3))))))
theorem TopAt.lst {K : PySem.W.Frag} {H H' : Hp} {d p : Addr} {T : Tops} {xs : List V} (h : TopAt K H d T) (hp : H p = some (.lst xs)) (c : Chd p H H') : TopAt K H' d T := by
  obtain ⟨kvs, hk, h2, h3⟩ := h
  exact ⟨kvs, c _ _ (ne_of hk hp (by intro z; cases z)) hk, h2, fun z hz => by
    obtain ⟨t, a, b⟩ := h3 z hz
    exact ⟨t, a, tups_t (tups_chd c hp True.intro) b⟩⟩
theorem TopAt.keep {K : PySem.W.Frag} {H H' : Hp} {d : Addr} {T : Tops} (h : TopAt K H d T) (tp : Tups H H') (k : ∀ o, H d = some o → H' d = some o) : TopAt K H' d T := by
  obtain ⟨kvs, hk, h2, h3⟩ := h
  exact ⟨kvs, k _ hk, h2, fun z hz => by
    obtain ⟨t, a, b⟩ := h3 z hz
    exact ⟨t, a, tups_t tp b⟩⟩
theorem first_place {rows : List Row} (nd : (rows.map Row.n).Nodup) {j : Nat} {r : Row} (er : rows[j]? = some r) : ∀ (m : Nat) (z : PyData), m < j → (rows.map rowD)[m]? = some z → PyData.eqv z (rowD r) = false := fun m z hm e => by
  rw [List.getElem?_map] at e
  obtain ⟨s, es, rfl⟩ := Option.map_eq_some_iff.mp e
  rw [rowD_eqv]
  refine decide_eq_false fun k => ?_
  subst k
  have e1 : (rows.map Row.n)[m]? = some s.n := by rw [List.getElem?_map, es]; rfl
  have e2 : (rows.map Row.n)[j]? = some s.n := by rw [List.getElem?_map, er]; rfl
  obtain ⟨h1, k1⟩ := List.getElem?_eq_some_iff.mp e1
  obtain ⟨h2, k2⟩ := List.getElem?_eq_some_iff.mp e2
  have := (List.getElem_inj nd).mp (k1.trans k2.symm)
  omega
theorem BS.dropped {K : PySem.W.Frag} {A : Ad} {H H1 H2 : Hp} {b d R Ct : Addr} {most taken : Int} {rows : List Row} {j : Nat} {r : Row} {xs : List V} (S : BS K A H b d R Ct most taken rows) (hR : H R = some (.lst xs)) (al : DpAll K H xs (rows.map rowD)) (er : rows[j]? = some r)
    (c1 : Chd d H H1) (B1 : BookAt K A H1 b d most taken (rows.filter fun s => decide (s.n ≠ r.n))) (c2 : Chd R H1 H2) (t2 : H2 R = some (.lst (xs.eraseIdx j))) : BS K A H2 b d R Ct most taken (rows.filter fun s => decide (s.n ≠ r.n)) := by
  obtain ⟨Rb, Rd, Cb, Cd⟩ := S.nb
  obtain ⟨kvs, hd, _⟩ := S.book.dict
  have hR1 := c1 _ _ Rd hR
  have tp : Tups H H2 := (tups_chd c1 hd True.intro).trans (tups_chd c2 hR1 True.intro)
  refine ⟨B1.chd hR1 c2, ⟨_, t2, ?_⟩, c2 _ _ S.ne.symm (c1 _ _ Cd S.ct), S.ne, S.t0, S.agr.sub fun s hs => (List.mem_filter.mp hs).1, fun s hs => S.pgs s (List.mem_filter.mp hs).1, by have := S.le; have := List.length_filter_le (fun s => decide (s.n ≠ r.n)) rows; omega⟩
  rw [← erase_filter S.book.nd er]
  have a2 := dpAll_erase j al
  have e2 : (rows.map rowD).eraseIdx j = (rows.eraseIdx j).map rowD := by rw [List.eraseIdx_eq_take_drop_succ, List.eraseIdx_eq_take_drop_succ, List.map_append, List.map_take, List.map_drop]
  rw [e2] at a2
  exact prows_tups tp a2
theorem rd__law_kept {K : PySem.W.Frag} {A : Ad} (T : Tx K A) {vs : List V} {H : Hp} {Q : VK} {E : XK} (h : sp__law_kept K A vs H Q E) : t__law_kept K A { nx := fun _ H' => Q .non H', rt := Q } (start N__law_kept vs) H := by
  obtain ⟨b, d, p, c, xs, l, ns, P, rfl, B, hp, al, gl, lP, Pl, hc, lns, ll, q⟩ := h
  have hx : xs.length = l.length := by rw [dpAll_length al, List.length_map]
  have pb := B.ne_lst hp
  have cb := B.ne_lst hc
  refine ⟨szr rfl, fun R H1 nR s1 t1 => ?_⟩
  intro td0 H2 ntd s2 t2
  refine ⟨szr rfl, fun Ct H3 nC s3 t3 => ?_⟩
  have s13 := (s1.trans s2).trans s3
  have hR3 : H3 R = some (.lst []) := s3 _ _ (s2 _ _ t1)
  have RC : R ≠ Ct := ne_of_none (s2 _ _ t1) nC
  have K0 : KS K A P H H3 b d R Ct td0 0 [] Tops.nil 0 := ⟨⟨B.mono s13, ⟨[], hR3, .nil⟩, t3, RC, Int.le_refl _, ⟨fun _ => 0, fun r h => nomatch h⟩, (fun r h => nomatch h), by decide⟩, ⟨[], s3 _ _ t2, rfl, fun z h => nomatch h⟩, TopOf.nil, (fun r h => nomatch h), (fun r h => nomatch h), Nat.le_refl _, Int.le_refl _, nR, (s1.trans s2).free nC, s1.free ntd, ChdL.of s13, tups_of s13⟩
  have keepP : ∀ {H' : Hp}, ChdL [b, d] H H' → H' p = some (.lst xs) := fun ch => ch p _ (by simp [pb.1.symm, pb.2.symm]) hp
  have keepC : ∀ {H' : Hp}, ChdL [b, d] H H' → H' c = some (.lst (ns.map V.int)) := fun ch => ch c _ (by simp [cb.1.symm, cb.2.symm]) hc
  refine ⟨_, .inl (SqL.of (s13 _ _ hp)), _, rfl, by omega, by omega, for_range (lo := 0) (n := (xs.length : Int).toNat) (fun i σ H' => ∃ (taken : Int) (rows : List Row) (U : Tops) (td : Addr) (w6 w7 w8 w9 w10 : Option V), KS K A P H H' b d R Ct td taken rows U i ∧ σ = [some (.ref b), some (.ref p), some (.ref c), some (.ref R), some (.ref td), some (.ref Ct), w6, w7, w8, w9, w10]) ⟨0, [], Tops.nil, td0, _, _, _, _, _, K0, rfl⟩ ?_ ?_⟩
  · rintro i σ H4 hi ⟨taken, rows, U, td, w6, w7, w8, w9, w10, S, rfl⟩
    have hi : i < l.length := by omega
    obtain ⟨s, es⟩ : ∃ s, l[i]? = some s := ⟨_, List.getElem?_eq_getElem hi⟩
    obtain ⟨x, ex⟩ : ∃ x, xs[i]? = some x := ⟨_, List.getElem?_eq_getElem (by omega)⟩
    obtain ⟨cl, ec⟩ : ∃ cl, ns[i]? = some cl := ⟨_, List.getElem?_eq_getElem (by omega)⟩
    obtain ⟨dd, hd, dx⟩ := dpAll_get al ex
    rw [List.getElem?_map, es] at hd
    cases hd
    have ms := List.mem_of_getElem? es
    have gd := gl s ms
    obtain ⟨st, rfl, hst0⟩ := sg_at dx
    have hst := tups_t S.tp hst0
    have hP4 := keepP S.ch
    have hlen := S.len
    refine ⟨_, _, SqL.of hP4, at_nat (j := i) (by omega) ex, _, _, hst, rfl, _, _, hst, rfl, td, U, rows, s.1, s.2.1, rfl, S.top, S.tof, ?_⟩
    have B4 := S.bs.book
    obtain ⟨dx4, hi4⟩ := B4.ins
    obtain ⟨kvs4, hd4, _⟩ := B4.dict
    refine ⟨fun σ' H' => (σ' = [some (.ref b), some (.ref p), some (.ref c), some (.ref R), some (.ref td), some (.ref Ct), some (.int (0 + (i : Int))), some (.ref st), some (gapV (U.gap s.1 s.2.1)), some (.bl true), w10] ∧ (∀ x, U.gap s.1 s.2.1 = some x → x = s.2.2) ∧ Chd2 b d H4 H' ∧ BookAt K A H' b d 200 (taken + 1) (rows ++ [rowOf (taken + 1) s])) ∨
      (σ' = [some (.ref b), some (.ref p), some (.ref c), some (.ref R), some (.ref td), some (.ref Ct), some (.int (0 + (i : Int))), some (.ref st), some (gapV (U.gap s.1 s.2.1)), some (.bl false), w10] ∧ (∃ x, U.gap s.1 s.2.1 = some x ∧ x ≠ s.2.2) ∧ Same H4 H'), ?_, ?_⟩
    · refine ⟨⟨dx4, _, hi4, rfl⟩, _, _, hst, rfl, _, _, hst, rfl, _, _, hst, rfl, b, d, 200, taken, rows, .str s.1, .str s.2.1, .int s.2.2, rfl, B4, by omega, S.bs.t0, gd.one.s7, gd.other.s7, ⟨_, .int _⟩, fun e => absurd (gd.sig.symm.trans e) (by decide), fun _ m => absurd m (by omega), fun one other rise e1 e2 e3 _ lt => ?_⟩
      have e1 := V.str.inj e1
      have e2 := V.str.inj e2
      have e3 := V.int.inj e3
      subst e1 e2 e3
      refine ⟨fun how H5 c5 B5 => .inl ⟨rfl, fun x hx => ?_, c5, B5⟩, fun ss H5 dd p5 zs W _ _ ne _ s5 _ _ _ => ?_⟩
      · obtain ⟨hr, all⟩ := S.tof.gap_some hx
        rcases how with n | ⟨ss, w, e⟩
        · exact absurd hr n
        · exact (all ss w).symm.trans e
      · refine ⟨true, T.slf .against, fun _ a na => .inr ⟨rfl, ?_, s5⟩, fun z => nomatch z⟩
        cases hg : U.gap s.1 s.2.1 with
        | none => exact absurd ⟨ss, W⟩ (S.tof.gap_none hg)
        | some x => exact ⟨x, rfl, fun e => ne (((S.tof.gap_some hg).2 ss W).trans e)⟩
    -- what comes behind
    have rest : ∀ (taken' : Int) (rows' : List Row) (U' : Tops) (w9 : Option V) (H6 : Hp) (P' : L2.St → Hp → Prop) (D : Ends), D.nx = P' → KS K A P H H6 b d R Ct td taken' rows' U' (i + 1) →
        (∀ (taken' : Int) (rows' : List Row) (U' : Tops) (td' : Addr) (w10 : Option V) (H7 : Hp), KS K A P H H7 b d R Ct td' taken' rows' U' (i + 1) → P' [some (.ref b), some (.ref p), some (.ref c), some (.ref R), some (.ref td'), some (.ref Ct), some (.int (0 + (i : Int))), some (.ref st), some (gapV (U.gap s.1 s.2.1)), w9, w10] H7) →
        (uIfS (uAnd (uT (tOp kEqI (tOp kMod (tOp (cIxL K) (uVar 2) (uVar 6)) (tC (.int 5))) (tC (.int 2)))) (uT (tOp (rNeD K) (uVar 3) (uLst tNil))))
  (tSeq (tAsg (tOp (cIxL K) (uVar 3) (tOp kMod (tOp kMod (tOp kDiv (tOp (cIxL K) (uVar 2) (uVar 6)) (tC (.int 5))) (tC (.int 10007))) (tCB (cLenQ K) (tCons (uVar 3) tNil)))) (gName 10))
  (tSeq (tDrop (uMeth A.Book "drop" (sp_Book_drop K A) E0 (uVar 0) (tCons (tOp (cIxT K) (uVar 10) (tC (.int 0))) tNil)))
  (tSeq (tDrop (tBM K "list" (cRemD K) (uVar 3) (tCons (uVar 10) tNil)))
  (tAsg (tCall (sp__law_tops K) [] E0 (tCons (uVar 3) tNil)) (gName 4)))))
  tNext) D [some (.ref b), some (.ref p), some (.ref c), some (.ref R), some (.ref td), some (.ref Ct), some (.int (0 + (i : Int))), some (.ref st), some (gapV (U.gap s.1 s.2.1)), w9, w10] H6 := fun taken' rows' U' w9 H6 P' D eD S6 k => by
      subst eD
      have hC6 := keepC S6.ch
      have evc : (ns.map V.int)[i]? = some (.int cl) := by rw [List.getElem?_map, ec]; rfl
      obtain ⟨ys, hR6, al6⟩ := S6.bs.rl
      have ok := S6.bs.pgs.ok
      refine ⟨_, _, SqL.of hC6, at_nat (j := i) (by omega) evc, by decide, ⟨fun _ => ⟨szr rfl, fun el H7 n7 s7 t7 => ⟨rowsD rows', .list [], .lst (SqL.of (s7 _ _ hR6)) (dpAll_mono s7 al6), .lst (SqL.of t7) .nil, rowsD_shaped ok, by decide, ⟨fun e => ?_, fun _ => k taken' rows' U' td w10 H7 (S6.mono s7)⟩⟩⟩, fun _ => br_f (k taken' rows' U' td w10 H6 S6)⟩⟩
      have rne : rows' ≠ [] := fun z => by
        subst z
        have e0 : PyData.eqv (rowsD []) (.list []) = true := by simp [rowsD, PyData.eqv, PyData.eqvAll]
        rw [e0] at e
        cases e
      have S7 := S6.mono s7
      have hR7 := s7 _ _ hR6
      have al7 := dpAll_mono s7 al6
      have S := S7.bs
      obtain ⟨dx, hi⟩ := S.book.ins
      obtain ⟨kvs, hd, _⟩ := S.book.dict
      obtain ⟨Rb, Rd, Cb, Cd⟩ := S.nb
      have hy : ys.length = rows'.length := by rw [dpAll_length al7, List.length_map]
      have pos : 0 < rows'.length := List.length_pos_iff.mpr rne
      have ix0 : 0 ≤ cl / 5 % 10007 % (ys.length : Int) := Int.emod_nonneg _ (by omega)
      have ix1 : cl / 5 % 10007 % (ys.length : Int) < ys.length := Int.emod_lt_of_pos _ (by omega)
      have hk : (cl / 5 % 10007 % (ys.length : Int)).toNat < ys.length := by omega
      generalize ej : (cl / 5 % 10007 % (ys.length : Int)).toNat = j at hk
      have ey : ys[j]? = some (ys[j]'hk) := List.getElem?_eq_getElem hk
      obtain ⟨dd, hdd, dv⟩ := dpAll_get al7 ey
      rw [List.getElem?_map] at hdd
      obtain ⟨r, er, rfl⟩ := Option.map_eq_some_iff.mp hdd
      obtain ⟨t, etr, ht⟩ := row_at dv
      rw [etr] at ey
      have hr : r ∈ rows' := List.mem_of_getElem? er
      refine ⟨_, _, SqL.of (keepC S7.ch), at_nat (j := i) (by omega) evc, by decide, by decide, _, .inl (SqL.of hR7), by omega, _, _, SqL.of hR7, at_nat (j := j) (by omega) ey, ⟨dx, _, hi, rfl⟩, _, _, ht, rfl, b, d, 200, taken', rows', .int r.n, "int", rfl, S.book, .int _, fun no => absurd rfl (no r hr), fun r' hr' e tt H8 n8 c8 B8 t8 => ?_⟩
      have er' : r' = r := nd_inj S.book.nd hr' hr (V.int.inj e).symm
      subst er'
      have tp8 : Tups H7 H8 := tups_chd c8 hd True.intro
      have ht8 := tups_t tp8 ht
      have hR8 := c8 _ _ Rd hR7
      have al8 := prows_tups tp8 al7
      refine ⟨.inl ⟨rfl, _, SqL.of hR8⟩, ys, rowD r', rows'.map rowD, j, rowD r', hR8, al8, row_mk ht8, rowsD_shaped ok, rowD_shaped (ok _ hr), by rw [List.getElem?_map, er]; rfl, by rw [rowD_eqv]; exact decide_eq_true rfl, first_place S.book.nd er, fun H9 c9 t9 => ?_⟩
      have tp9 : Tups H8 H9 := tups_chd c9 hR8 True.intro
      have S9 := S.dropped hR7 al7 er c8 B8 c9 t9
      obtain ⟨zs, hR9, al9⟩ := S9.rl
      obtain ⟨f, hf⟩ := S9.agr
      have fl := List.length_filter_le (fun s => decide (s.n ≠ r'.n)) rows'
      have h7 := S7.len
      have h7t := S7.tk
      refine ⟨R, zs, _, f, rfl, SqL.of hR9, al9, hf, by omega, fun td' U'' H10 n10 s10 hU'' tU'' => ?_⟩
      have ch9 : ChdL [b, d] H H9 := (S7.ch.chd c8 (by simp)).own c9 S7.nR
      have n0 : H td' = none := by
        cases e : H td' with
        | none => rfl
        | some o =>
          by_cases h : td' ∈ [b, d]
          · simp only [List.mem_cons, List.not_mem_nil, or_false] at h
            obtain ⟨dx9, i9⟩ := S9.book.ins
            obtain ⟨k9, d9, _⟩ := S9.book.dict
            rcases h with rfl | rfl
            · rw [i9] at n10; cases n10
            · rw [d9] at n10; cases n10
          · rw [ch9 _ _ h e] at n10
            cases n10
      exact k taken' _ U'' td' _ H10 ⟨S9.mono s10, hU'', tU'', fun s hs => S7.gd s (List.mem_filter.mp hs).1, fun s hs => S7.pool s (List.mem_filter.mp hs).1, by omega, h7t, S7.nR, S7.nC, n0, ch9.same s10, ((S7.tp.trans tp8).trans tp9).trans (tups_of s10)⟩
    rintro σ' H5 (⟨rfl, ag, c5, B5⟩ | ⟨rfl, ⟨x, hg, nx⟩, s5⟩)
    · have tp5 : Tups H4 H5 := B4.tups2 c5
      have hst5 := tups_t tp5 hst
      -- the sighting is taken
      have fin : ∀ (D : Ends), D.nx = (fun σ H' => ∃ (taken : Int) (rows : List Row) (U : Tops) (td : Addr) (w6 w7 w8 w9 w10 : Option V), KS K A P H H' b d R Ct td taken rows U (i + 1) ∧ σ = [some (.ref b), some (.ref p), some (.ref c), some (.ref R), some (.ref td), some (.ref Ct), w6, w7, w8, w9, w10]) → (Evl.tCut (uIfS (uT (uVar 9))
  (tSeq (tAsg (tOp kAdd (tOp (cIxL K) (uVar 5) (tC (.int 0))) (tC (.int 1))) (gSub (uVar 5) (tC (.int 0)) cSetL))
  (tSeq (tDrop (tBM K "list" cApp (uVar 3) (tCons (tOp (cCatT K) (uTup (tCons (tOp (cIxL K) (uVar 5) (tC (.int 0))) tNil)) (uVar 7)) tNil)))
  (tDrop (tCall (sp__law_lay K) [] E0 (tCons (uVar 4) (tCons (tOp (cIxL K) (uVar 3) (tUn kNeg (tC (.int 1)))) tNil))))))
  tNext)
  (uIfS (uAnd (uT (tOp kEqI (tOp kMod (tOp (cIxL K) (uVar 2) (uVar 6)) (tC (.int 5))) (tC (.int 2)))) (uT (tOp (rNeD K) (uVar 3) (uLst tNil))))
  (tSeq (tAsg (tOp (cIxL K) (uVar 3) (tOp kMod (tOp kMod (tOp kDiv (tOp (cIxL K) (uVar 2) (uVar 6)) (tC (.int 5))) (tC (.int 10007))) (tCB (cLenQ K) (tCons (uVar 3) tNil)))) (gName 10))
  (tSeq (tDrop (uMeth A.Book "drop" (sp_Book_drop K A) E0 (uVar 0) (tCons (tOp (cIxT K) (uVar 10) (tC (.int 0))) tNil)))
  (tSeq (tDrop (tBM K "list" (cRemD K) (uVar 3) (tCons (uVar 10) tNil)))
  (tAsg (tCall (sp__law_tops K) [] E0 (tCons (uVar 3) tNil)) (gName 4)))))
  tNext)) D [some (.ref b), some (.ref p), some (.ref c), some (.ref R), some (.ref td), some (.ref Ct), some (.int (0 + (i : Int))), some (.ref st), some (gapV (U.gap s.1 s.2.1)), some (.bl true), w10] H5 := fun D eD => by
        refine ⟨fun σ' H' => ∃ (U' : Tops), σ' = [some (.ref b), some (.ref p), some (.ref c), some (.ref R), some (.ref td), some (.ref Ct), some (.int (0 + (i : Int))), some (.ref st), some (gapV (U.gap s.1 s.2.1)), some (.bl true), w10] ∧ KS K A P H H' b d R Ct td (taken + 1) (rows ++ [rowOf (taken + 1) s]) U' (i + 1), ?_, ?_⟩
        · obtain ⟨Rb, Rd, Cb, Cd⟩ := S.bs.nb
          obtain ⟨zs, hR, alR⟩ := S.bs.rl
          have hzl : zs.length = rows.length := by rw [dpAll_length alR, List.length_map]
          obtain ⟨kt, hkt, _⟩ := id S.top
          have tb : td ≠ b := ne_of hkt hi4 (by intro z; cases z)
          have td_d : td ≠ d := fun z => by
            obtain ⟨kv0, hd0, _⟩ := B.dict
            have := S.nt
            rw [z, hd0] at this
            cases this
          have ct5 := c5 _ _ Cb Cd S.bs.ct
          have hR5 := c5 _ _ Rb Rd hR
          refine br_t ⟨_, _, SqL.of ct5, at_nat (j := 0) rfl rfl, _, 0, ct5, rfl, fun H6 c6 t6 => ?_⟩
          have t6 : H6 Ct = some (.lst [.int (taken + 1)]) := t6
          have tp6 : Tups H5 H6 := tups_chd c6 ct5 True.intro
          have hR6 := c6 _ _ S.bs.ne hR5
          have hst6 := tups_t tp6 hst5
          have top5 : TopAt K H5 td U := S.top.keep tp5 fun o e => c5 _ _ tb td_d e
          have top6 := top5.lst ct5 c6
          refine ⟨.inl ⟨rfl, _, SqL.of hR6⟩, _, _, SqL.of t6, at_nat (j := 0) rfl rfl, szr rfl, fun tt H7 n7 s7 t7 => ⟨[.int (taken + 1)], sgV s, SqT.of t7, same_t s7 hst6, (fun z => nomatch z), (fun z => nomatch z), szr rfl, fun tn H8 n8 s8 t8 => ⟨zs, s8 _ _ (s7 _ _ hR6), szl (by omega), fun H9 c9 t9 => ?_⟩⟩⟩
          have s78 := s7.trans s8
          have hR8 := s78 _ _ hR6
          have ct9 := c9 _ _ S.bs.ne.symm (s78 _ _ t6)
          have tp9 : Tups H8 H9 := tups_chd c9 hR8 True.intro
          have top9 := (top6.mono s78).lst hR8 c9
          have hn9 := tups_t tp9 (SqT.of (K := K) t8)
          have hlast : atI (zs ++ [V.ref tn]) (-1) = some (.ref tn) := by
            have hl : (zs ++ [V.ref tn]).length = zs.length + 1 := by rw [List.length_append]; rfl
            have hix : ixN (zs ++ [V.ref tn]).length (-1) = some zs.length := by
              unfold ixN
              rw [if_neg (by omega), hl]
              first
                | (rw [if_pos (by omega)]; congr 1; omega)
                | (simp; omega)
            unfold atI
            rw [hix]
            simp
          refine ⟨_, _, SqL.of t9, hlast, td, tn, U, rows, rowOf (taken + 1) s, rfl, top9, S.tof, hn9, ag, by have := S.tof.len S.pool; omega, fun H10 c10 top10 tof10 => ?_⟩
          obtain ⟨kt9, hkt9, _⟩ := id top9
          have tp10 : Tups H9 H10 := tups_chd c10 hkt9 True.intro
          have ntR : td ≠ R := ne_of hkt9 t9 (by intro z; cases z)
          have ntC : td ≠ Ct := ne_of hkt9 ct9 (by intro z; cases z)
          have B9 := ((B5.chd ct5 c6).mono s78).chd hR8 c9
          obtain ⟨dx9, i9⟩ := B9.ins
          have B10 : BookAt K A H10 b d 200 (taken + 1) (rows ++ [rowOf (taken + 1) s]) := B9.keep tp10 (fun o e => c10 _ _ tb.symm e) (fun o e => c10 _ _ td_d.symm e)
          have tpA : Tups H4 H10 := (((tp5.trans tp6).trans (tups_of s78)).trans tp9).trans tp10
          refine ⟨_, rfl, ⟨⟨B10, ⟨_, c10 _ _ ntR.symm t9, ?_⟩, c10 _ _ ntC.symm ct9, S.bs.ne, by have := S.bs.t0; omega, tof10.agr, fun r hr => ?_, by rw [List.length_append]; have := S.len; simp; omega⟩, top10, tof10, fun r hr => ?_, fun r hr => ?_, by rw [List.length_append]; have := S.len; simp; omega, by have := S.tk; omega, S.nR, S.nC, S.nt, ?_, S.tp.trans tpA⟩⟩
          · rw [List.map_append]
            exact dpAll_snoc (prows_tups tpA alR) (row_mk (r := rowOf (taken + 1) s) (tups_t tp10 hn9))
          · rcases List.mem_append.mp hr with m | m
            · exact S.bs.pgs r m
            · rw [List.mem_singleton.mp m]; exact ⟨gd.one, gd.other⟩
          · rcases List.mem_append.mp hr with m | m
            · exact S.gd r m
            · rw [List.mem_singleton.mp m]; exact gd
          · rcases List.mem_append.mp hr with m | m
            · exact S.pool r m
            · rw [List.mem_singleton.mp m]; exact lP s ms
          · exact (((((S.ch.chd2 c5 (by simp) (by simp)).own c6 S.nC).same s78).own c9 S.nR).own c10 S.nt)
        · rintro σ' H6 ⟨U', rfl, S6⟩
          exact rest _ _ _ _ H6 _ D eD S6 fun taken' rows' U' td' w10 H7 S7 => ⟨taken', rows', U', td', _, _, _, _, _, S7, rfl⟩
      cases hg : U.gap s.1 s.2.1 with
      | none =>
        rw [hg] at fin
        exact br_t (br_ff rfl (fin _ rfl))
      | some x =>
        rw [hg] at fin
        refine br_f ⟨_, _, hst5, rfl, .int x, .int s.2.2, .int _, .int _, rfl, rfl, ?_⟩
        rw [int_eqv, decide_eq_true (ag x hg)]
        exact br_ff rfl (fin _ rfl)
    · have S5 := S.mono s5
      have hst5 := same_t s5 hst
      rw [hg] at rest ⊢
      refine br_f ⟨_, _, hst5, rfl, .int x, .int s.2.2, .int _, .int _, rfl, rfl, ?_⟩
      rw [int_eqv, decide_eq_false nx]
      refine br_ff rfl ⟨fun σ' H' => σ' = [some (.ref b), some (.ref p), some (.ref c), some (.ref R), some (.ref td), some (.ref Ct), some (.int (0 + (i : Int))), some (.ref st), some (gapV (some x)), some (.bl false), w10] ∧ H' = H5, br_f ⟨rfl, rfl⟩, ?_⟩
      rintro σ' H6 ⟨rfl, rfl⟩
      have h1 := S5.len
      have h2 := S5.tk
      exact rest _ _ _ _ H6 _ _ rfl ⟨S5.bs, S5.top, S5.tof, S5.gd, S5.pool, by omega, by omega, S5.nR, S5.nC, S5.nt, S5.ch, S5.tp⟩ fun taken' rows' U' td' w10 H7 S7 => ⟨taken', rows', U', td', _, _, _, _, _, S7, rfl⟩
  · rintro σ H4 ⟨taken, rows, U, td, w6, w7, w8, w9, w10, S, rfl⟩
    obtain ⟨ys, hR, alR⟩ := S.bs.rl
    have := S.len
    exact q R taken rows ys H4 nR S.ch S.tp S.bs.book hR alR S.tof.agr S.gd S.pool (by omega)
/-! ### _law_told -/
abbrev N__law_told : List Str := ["_law_book", "_law_rows_here", "_law_some", "_law_cell", "_law_tops_here", "_law_k", "_law_found"]
def sp__law_told (K : PySem.W.Frag) (A : Ad) : Sp := fun vs H Q _ => ∃ (b d R pp : Addr) (most taken cell : Int) (rows : List Row) (xs : List V) (P : List Str), vs = [.ref b, .ref R, .ref pp, .int cell] ∧ BookAt K A H b d most taken rows ∧ SqL K H R xs ∧ DpAll K H xs (rows.map rowD) ∧ Agr rows ∧ (∀ r ∈ rows, GoodS (sgOf r)) ∧
  SqL K H pp (P.map V.str) ∧ (∀ z ∈ P, Pg z) ∧ P.length < 60 ∧ Pool P rows ∧ rows.length ≤ 900 ∧ ∀ H', Same H H' → Q (.bl true) H'
def lp1__law_told (K : PySem.W.Frag) (A : Ad) : TS :=
  (tFor (iRng1 (tCons (tCB (cLenQ K) (tCons (uVar 2) tNil)) tNil)) (gName 5)
  (uIfS (uNot (uT (tCall (sp__law_rise K A) [] E0 (tCons (uVar 0) (tCons (uVar 4) (tCons (tOp (cIxL K) (uVar 2) (uVar 5)) (tCons (tOp (cIxL K) (uVar 2) (tOp kMod (tOp kAdd (uVar 5) (uVar 3)) (tCB (cLenQ K) (tCons (uVar 2) tNil)))) tNil)))))))
  (tRet (tC (.bl false)))
  tNext))
def t__law_told (K : PySem.W.Frag) (A : Ad) : TS :=
  (tSeq (tAsg (tCall (sp__law_tops K) [] E0 (tCons (uVar 1) tNil)) (gName 4))
  (tSeq (uIfS (uOr (uNot (uT (tCall (sp__law_rows K) [] E0 (tCons (uMeth A.Book "kept" (sp_Book_kept K A) E0 (uVar 0) tNil) (tCons (uVar 1) tNil))))) (uNot (uT (tCall (sp__law_heights K) [] E0 (tCons (uMeth A.Book "heights" (sp_Book_heights K A) E0 (uVar 0) tNil) (tCons (uVar 1) (tCons (uVar 4) tNil)))))))
  (tRet (tC (.bl false)))
  tNext)
  (tSeq (uIfS (uNot (uT (tCall (sp__law_alike K) [] E0 (tCons (uMeth A.Book "parts" (sp_Book_parts K A) E0 (uVar 0) tNil) (tCons (tCall (sp__law_parts K) [] E0 (tCons (uVar 4) tNil)) tNil)))))
  (tRet (tC (.bl false)))
  tNext)
  (tSeq (lp1__law_told K A)
  (tSeq (tAsg (tCall (sp_shown K A) [] E0 (tCons (uVar 0) tNil)) (gName 6))
  (tRet (uAndV (tCB (cIsi K) (tCons (uVar 6) (tCons (tC (.ty "str")) tNil))) (tOp kEqS (uVar 6) (tCall (sp__law_text K) [] E0 (tCons (uVar 1) tNil))))))))))
theorem parts_mem {rows : List Row} {ys : List Str} {ps : List (List Str)} (h : PartsOf rows ys ps) {part : List Str} (m : part ∈ ps) : ∃ z ∈ ys, PartOf rows z part := by
  obtain ⟨z, hz, pz⟩ := Paired.left h part m
  exact ⟨z, (mem_firsts.mp hz).1, pz⟩
theorem rd__law_told {K : PySem.W.Frag} {A : Ad} (T : Tx K A) {vs : List V} {H : Hp} {Q : VK} {E : XK} (h : sp__law_told K A vs H Q E) : t__law_told K A { nx := fun _ H' => Q .non H', rt := Q } (start N__law_told vs) H := by
  obtain ⟨b, d, R, pp, most, taken, cell, rows, xs, P, rfl, B, hR, al, ag, g, hpp, pz, lP, hP, hlen, q⟩ := h
  have pgs : Pgs rows := fun r hr => ⟨(g r hr).one, (g r hr).other⟩
  obtain ⟨f, hf⟩ := id ag
  have pl : (P.map V.str).length = P.length := List.length_map ..
  refine ⟨R, xs, rows, f, rfl, hR, al, hf, by omega, fun td U H1 n1 s1 hU tU => ?_⟩
  have lD : U.D.length < 64 := by have := tU.len hP; omega
  have B1 := B.mono s1
  obtain ⟨dx1, hi1⟩ := B1.ins
  refine ⟨⟨dx1, _, hi1, rfl⟩, b, d, most, taken, rows, rfl, B1, fun p H2 xp np s2 hp hal => ?_⟩
  have s02 := s1.trans s2
  refine ⟨.ref p, .ref R, rows, rfl, .lst (SqL.of hp) hal, .lst (same_l s02 hR) (dpAll_mono s02 al), pgs.ok, br_ff rfl ?_⟩
  have B2 := B1.mono s2
  obtain ⟨dx2, hi2⟩ := B2.ins
  refine ⟨⟨dx2, _, hi2, rfl⟩, b, d, most, taken, rows, P, rfl, B2, by omega, hP, by omega, ag, fun p3 H3 xp3 ys gg np3 s3 hp3 hal3 hy hg yl => ?_⟩
  have s03 := s02.trans s3
  refine ⟨p3, R, td, xp3, ys, gg, rows, U, rfl, hp3, hal3, .lst (same_l s03 hR) (dpAll_mono s03 al), (hU.mono s2).mono s3, tU, lD, hy, hg, pgs, by omega, fun H4 s4 => br_ff rfl ?_⟩
  have s04 := s03.trans s4
  have B4 := B.mono s04
  obtain ⟨dx4, hi4⟩ := B4.ins
  have hU4 := hU.mono ((s2.trans s3).trans s4)
  refine ⟨⟨dx4, _, hi4, rfl⟩, b, d, most, taken, rows, P, rfl, B4, by omega, hP, by omega, fun p5 H5 xp5 ps ys5 np5 s5 hp5 lps pnd pln hy5 po => ?_⟩
  refine ⟨td, U, rows, ys5, rfl, hU4.mono s5, tU, lD, hy5, fun w H6 xw qs nw s6 hw lqs qo => ?_⟩
  have eps : ps = qs := paired_uniq po qo
  subst eps
  have ok : ∀ part ∈ ps, ∀ z ∈ part, PyData.strOk z = true := fun part hpart z hz => by
    obtain ⟨y, hy', py⟩ := parts_mem po hpart
    have py1 : Pg y := by
      obtain ⟨r, hr, e | e⟩ := (hy5.mem y).mp hy'
      · rw [e]; exact (pgs r hr).1
      · rw [e]; exact (pgs r hr).2
    exact (reach_pg pgs py1 ((py.mem z).mp hz)).ok
  refine ⟨_, _, p5, w, xp5, xw, ps, rfl, s6 _ _ hp5, lps.mono s6, hw, lqs, ok, by omega, fun H7 s7 => br_f ?_⟩
  have s07 := ((s04.trans s5).trans s6).trans s7
  have hU7 := ((hU4.mono s5).mono s6).mono s7
  have hpp7 := same_l s07 hpp
  refine ⟨_, .inl hpp7, _, rfl, by rw [pl]; omega, by rw [pl]; omega, for_range (lo := 0) (n := ((P.map V.str).length : Int).toNat) (fun i σ H' => Same H7 H' ∧ ∃ w : Option V, σ = [some (.ref b), some (.ref R), some (.ref pp), some (.int cell), some (.ref td), w, none]) ⟨Same.refl H7, _, rfl⟩ ?_ ?_⟩
  · rintro i σ H8 hi ⟨s8, w, rfl⟩
    have hi : i < P.length := by omega
    have s08 := s07.trans s8
    have hpp8 := same_l s8 hpp7
    obtain ⟨one, m1, e1⟩ := at_map V.str (xs := P) (i := 0 + (i : Int)) (by omega) (by omega)
    obtain ⟨other, m2, e2⟩ := at_map V.str (xs := P) (i := (0 + (i : Int) + cell) % ((P.map V.str).length : Int)) (Int.emod_nonneg _ (by omega)) (by rw [pl]; exact Int.emod_lt_of_pos _ (by omega))
    refine ⟨_, _, hpp8, e1, _, .inl hpp8, by rw [pl]; omega, _, _, hpp8, e2, b, d, td, most, taken, rows, U, one, other, P, rfl, B.mono s08, hU7.mono s8, tU, pz _ m1, pz _ m2, by omega, m1, hP, by omega, pgs, fun H9 s9 => br_f ⟨s8.trans s9, _, rfl⟩⟩
  · rintro σ H8 ⟨s8, w, rfl⟩
    have s08 := s07.trans s8
    refine ⟨b, d, most, taken, rows, rfl, B.mono s08, g, by omega, fun H9 s9 => ⟨"str", true, (Knd.str (showAll (rows.map sgOf)) ?_).ty, by decide +kernel, br_t ⟨R, xs, rows, rfl, same_l (s08.trans s9) hR, dpAll_mono (s08.trans s9) al, g, by omega, fun H10 s10 => ?_⟩⟩⟩
    · have := showAll_len (l := rows.map sgOf) (good_map g)
      rw [List.length_map] at this
      omega
    · show Q (.bl (decide (showAll (rows.map sgOf) = showAll (rows.map sgOf)))) H10
      rw [decide_eq_true rfl]
      exact q H10 ((s08.trans s9).trans s10)
/-! ### _law_numbered -/
abbrev N__law_numbered : List Str := ["_law_sightings", "_law_k"]
def sp__law_numbered (K : PySem.W.Frag) : Sp := fun vs H Q _ => ∃ (p : Addr) (xs : List V) (l : List Sg), vs = [.ref p] ∧ SqL K H p xs ∧ DpAll K H xs (l.map sgD) ∧ l.length ≤ 1000 ∧
  ∀ (p2 : Addr) (ys : List V) (H' : Hp), H p2 = none → Same H H' → H' p2 = some (.lst ys) → DpAll K H' ys ((numb 0 l).map rowD) → Q (.ref p2) H'
def t__law_numbered (K : PySem.W.Frag) : TS :=
  (tRet (uLc (iRng1 (tCons (tCB (cLenQ K) (tCons (uVar 0) tNil)) tNil)) (gName 1) tYes (tOp (cCatT K) (uTup (tCons (tOp kAdd (uVar 1) (tC (.int 1))) tNil)) (tOp (cIxL K) (uVar 0) (uVar 1))) [1]))
theorem rd__law_numbered {K : PySem.W.Frag} {vs : List V} {H : Hp} {Q : VK} {E : XK} (h : sp__law_numbered K vs H Q E) : t__law_numbered K { nx := fun _ H' => Q .non H', rt := Q } (start N__law_numbered vs) H := by
  obtain ⟨p, xs, l, rfl, hS, al, hlen, q⟩ := h
  have hx : xs.length = l.length := by rw [dpAll_length al, List.length_map]
  refine lcd_range (K := K) (n := xs.length) (fun i => ((numb 0 l)[i]?).bind fun r => some (rowD r)) (fun i dd hd => ?_) (fun R k => ⟨_, .inl hS, k⟩) (by omega) (fun x => rfl) (fun i H1 R hi s k => ?_) (fun i dd H1 R hi hd s k => ?_) fun p2 H2 vs2 n2 s2 t2 al2 => ?_
  · obtain ⟨r, _, e⟩ := Option.bind_eq_some_iff.mp hd
    cases e
    exact TStay.row _
  · have hl : i < (numb 0 l).length := by rw [numb_len]; omega
    rw [List.getElem?_eq_getElem hl] at k
    exact k
  · obtain ⟨s0, es⟩ : ∃ s0, l[i]? = some s0 := ⟨_, List.getElem?_eq_getElem (by omega)⟩
    have hl : i < (numb 0 l).length := by rw [numb_len]; omega
    have er : (numb 0 l)[i]? = some ⟨(i : Int) + 1, s0.1, s0.2.1, s0.2.2⟩ := by
      have e := List.getElem?_eq_getElem hl
      rw [e, numb_at 0 l i _ s0 e es, Nat.zero_add]
    rw [er] at hd
    cases hd
    obtain ⟨x, ex⟩ : ∃ x, xs[i]? = some x := ⟨_, List.getElem?_eq_getElem hi⟩
    obtain ⟨d0, hd0, dx⟩ := dpAll_get al ex
    rw [List.getElem?_map, es] at hd0
    cases hd0
    obtain ⟨a, rfl, ht⟩ := sg_at (dp_mono s dx)
    refine ⟨szr rfl, fun tt H3 n3 s3 t3 => ⟨_, _, same_l (s.trans s3) hS, at_nat (j := i) (by omega) ex, [.int (0 + (i : Int) + 1)], sgV s0, SqT.of t3, same_t s3 ht, (fun z => nomatch z), (fun z => nomatch z), szr rfl, fun tn H4 n4 s4 t4 => k _ H4 (s3.trans s4) ?_⟩⟩
    have e0 : (0 : Int) + (i : Int) + 1 = i + 1 := by omega
    rw [e0] at t4
    exact row_mk (r := ⟨(i : Int) + 1, s0.1, s0.2.1, s0.2.2⟩) (SqT.of t4)
  · have e : xs.length = (numb 0 l).length := by rw [numb_len, hx]
    rw [e, filt_at, List.filterMap_eq_map'] at al2
    exact q p2 vs2 H2 n2 s2 t2 al2
/-! ### _law_due -/
abbrev N__law_due : List Str := ["_law_sightings", "_law_most", "_law_rows_here", "_law_tops_here", "_law_sighting_here", "_law_gap_here"]
def dueD (kind : Str) (rows : List Row) (sD : PyData) (g : Option Int) : PyData := .tuple [.str kind, rowsD rows, sD, gapD g]
/-- the first that is refused is full -/
def FullR (l : List Sg) (M : Int) (D : PyData) : Prop := ∃ (i : Nat) (s : Sg) (T : Tops), l[i]? = some s ∧ (i : Int) = M ∧ TopOf (numb 0 (l.take i)) T ∧ D = dueD "full" (numb 0 (l.take i)) (sgD s) (T.gap s.1 s.2.1)
/-- the first that is refused is against -/
def AgainstR (l : List Sg) (M : Int) (D : PyData) : Prop := ∃ (i : Nat) (s : Sg) (T : Tops) (x : Int), l[i]? = some s ∧ (i : Int) < M ∧ TopOf (numb 0 (l.take i)) T ∧ T.gap s.1 s.2.1 = some x ∧ x ≠ s.2.2 ∧ D = dueD "against" (numb 0 (l.take i)) (sgD s) (some x)
def DueR (l : List Sg) (M : Int) (D : PyData) : Prop := FullR l M D ∨ AgainstR l M D ∨ ((l.length : Int) ≤ M ∧ Agr (numb 0 l) ∧ D = dueD "none" (numb 0 l) .none (some 0))
def sp__law_due (K : PySem.W.Frag) : Sp := fun vs H Q _ => ∃ (p : Addr) (xs : List V) (l : List Sg) (M : Int), vs = [.ref p, .int M] ∧ SqL K H p xs ∧ DpAll K H xs (l.map sgD) ∧ l.length ≤ 1000 ∧ 0 ≤ M ∧
  ∀ (v : V) (D : PyData) (H' : Hp), Same H H' → DueR l M D → Dp K H' v D → Q v H'
def lp1__law_due (K : PySem.W.Frag) : TS :=
  (tFor (iList K (uVar 0)) (gName 4)
  (tSeq (tAsg (tCall (sp__law_gap K) [] E0 (tCons (uVar 3) (tCons (tOp (cIxT K) (uVar 4) (tC (.int 0))) (tCons (tOp (cIxT K) (uVar 4) (tC (.int 1))) tNil)))) (gName 5))
  (tSeq (uIfS (uT (tOp kEqI (tCB (cLenQ K) (tCons (uVar 2) tNil)) (uVar 1)))
  (tRet (uTup (tCons (tC (.str "full")) (tCons (uVar 2) (tCons (uVar 4) (tCons (uVar 5) tNil))))))
  tNext)
  (tSeq (uIfS (uAnd (uT (tOp (cNon false) (uVar 5) (tC .non))) (uT (tOp (rNeD K) (uVar 5) (tOp (cIxT K) (uVar 4) (tC (.int 2))))))
  (tRet (uTup (tCons (tC (.str "against")) (tCons (uVar 2) (tCons (uVar 4) (tCons (uVar 5) tNil))))))
  tNext)
  (tSeq (tDrop (tBM K "list" cApp (uVar 2) (tCons (tOp (cCatT K) (uTup (tCons (tOp kAdd (tCB (cLenQ K) (tCons (uVar 2) tNil)) (tC (.int 1))) tNil)) (uVar 4)) tNil)))
  (tDrop (tCall (sp__law_lay K) [] E0 (tCons (uVar 3) (tCons (tOp (cIxL K) (uVar 2) (tUn kNeg (tC (.int 1)))) tNil)))))))))
def t__law_due (K : PySem.W.Frag) : TS :=
  (tSeq (tAsg (uLst tNil) (gName 2))
  (tSeq (tAsg uDNew (gName 3))
  (tSeq (lp1__law_due K)
  (tRet (uTup (tCons (tC (.str "none")) (tCons (uVar 2) (tCons (tC .non) (tCons (tC (.int 0)) tNil)))))))))
/-! ### a text comes to one thing alone -/
theorem numS_inj {a b : Int} (ha : Bnd a) (hb : Bnd b) (e : numS a = numS b) : a = b := by
  have h1 := numS_int ha
  have h2 := numS_int hb
  rw [e, h2] at h1
  exact (Option.some.inj h1).symm
theorem showS_inj {s t : Sg} (gs : GoodS s) (gt : GoodS t) (e : showS s = showS t) : s = t := by
  have h := split_one gs
  rw [e, split_one gt] at h
  simp only [List.cons.injEq, and_true] at h
  obtain ⟨h1, h2, h3⟩ := h
  have h4 := numS_inj gt.bnd gs.bnd h3
  obtain ⟨a, b, c⟩ := s
  obtain ⟨a', b', c'⟩ := t
  simp only at h1 h2 h4
  rw [h1, h2, h4]
theorem shows_inj : ∀ {l m : List Sg}, (∀ s ∈ l, GoodS s) → (∀ s ∈ m, GoodS s) → l.map showS = m.map showS → l = m
  | [], [], _, _, _ => rfl
  | [], _ :: _, _, _, e => by cases e
  | _ :: _, [], _, _, e => by cases e
  | s :: l, t :: m, gl, gm, e => by
    rw [List.map_cons, List.map_cons] at e
    obtain ⟨e1, e2⟩ := List.cons.inj e
    rw [showS_inj (gl s (List.mem_cons_self ..)) (gm t (List.mem_cons_self ..)) e1, shows_inj (fun u hu => gl u (List.mem_cons_of_mem _ hu)) (fun u hu => gm u (List.mem_cons_of_mem _ hu)) e2]
theorem numb_pre : ∀ (k : Nat) (l : List Sg) (i : Nat), numb k (l.take i) = (numb k l).take i
  | _, [], i => by simp [numb]
  | _, _ :: _, 0 => rfl
  | k, s :: l, i + 1 => by
    show _ :: numb (k + 1) (l.take i) = _ :: (numb (k + 1) l).take i
    rw [numb_pre]
/-- rows that agree have no row against the ones ahead -/
theorem agr_no {l : List Sg} {i j : Nat} {s : Sg} (es : l[i]? = some s) (lt : i < j) (ag : Agr (numb 0 (l.take j))) : ¬ ∃ ss, Way (numb 0 (l.take i)) s.1 ss s.2.1 ∧ total ss ≠ s.2.2 := by
  rintro ⟨ss, w, ne⟩
  obtain ⟨f, hf⟩ := ag
  have sub : ∀ r ∈ numb 0 (l.take i), r ∈ numb 0 (l.take j) := fun r hr => by
    rw [numb_pre] at hr ⊢
    have e : (numb 0 l).take i = ((numb 0 l).take j).take i := by rw [List.take_take, Nat.min_eq_left (by omega)]
    rw [e] at hr
    exact List.mem_of_mem_take hr
  have t : total ss = f s.2.1 - f s.1 := way_sum (fun r hr => hf r (sub r hr)) w
  have hm : (⟨(i : Int) + 1, s.1, s.2.1, s.2.2⟩ : Row) ∈ numb 0 (l.take j) := by
    have e : numb 0 (l.take (i + 1)) = numb 0 (l.take i) ++ [⟨(i : Int) + 1, s.1, s.2.1, s.2.2⟩] := numb_take es
    have m : (⟨(i : Int) + 1, s.1, s.2.1, s.2.2⟩ : Row) ∈ numb 0 (l.take (i + 1)) := by rw [e]; simp
    rw [numb_pre] at m ⊢
    have e2 : (numb 0 l).take (i + 1) = ((numb 0 l).take j).take (i + 1) := by rw [List.take_take, Nat.min_eq_left (by omega)]
    rw [e2] at m
    exact List.mem_of_mem_take m
  exact ne (t.trans (hf _ hm).symm)
theorem rd__law_due {K : PySem.W.Frag} {vs : List V} {H : Hp} {Q : VK} {E : XK} (h : sp__law_due K vs H Q E) : t__law_due K { nx := fun _ H' => Q .non H', rt := Q } (start N__law_due vs) H := by
  obtain ⟨p, xs, l, M, rfl, hS, al, hlen, m0, q⟩ := h
  have hx : xs.length = l.length := by rw [dpAll_length al, List.length_map]
  refine ⟨szr rfl, fun R H1 nR s1 t1 => ?_⟩
  intro td H2 ntd s2 t2
  have s02 := s1.trans s2
  have ntd0 := s1.free ntd
  refine ⟨p, rfl, ⟨_, same_l s02 hS⟩, for_list (K := K) (a := p) (xs := xs) (fun i σ H' => Same H H' ∧ (i : Int) ≤ M ∧ ∃ (U : Tops) (ys : List V) (w4 w5 : Option V), TopAt K H' td U ∧ TopOf (numb 0 (l.take i)) U ∧ U.D.length ≤ 2 * i ∧ H' R = some (.lst ys) ∧ DpAll K H' ys ((numb 0 (l.take i)).map rowD) ∧ σ = [some (.ref p), some (.int M), some (.ref R), some (.ref td), w4, w5]) ⟨s02, by omega, Tops.nil, [], _, _, ⟨[], t2, rfl, fun z h => nomatch h⟩, TopOf.nil, Nat.le_refl _, s2 _ _ t1, .nil, rfl⟩ (fun i σ H' _ h => same_l h.1 hS) ?_ ?_⟩
  · rintro i x σ H3 ex ⟨s3, im, U, ys, w4, w5, hU, tU, lU, hR, alR, rfl⟩
    obtain ⟨dd, hd, dx⟩ := dpAll_get al ex
    rw [List.getElem?_map] at hd
    obtain ⟨s, es, rfl⟩ := Option.map_eq_some_iff.mp hd
    obtain ⟨st, rfl, hst⟩ := sg_at (dp_mono s3 dx)
    have hi : i < l.length := (List.getElem?_eq_some_iff.mp es).1
    have yl : ys.length = i := by rw [dpAll_length alR, List.length_map, numb_len, List.length_take]; omega
    have told : ∀ (kind : Str) (D : PyData), DueR l M D → D = dueD kind (numb 0 (l.take i)) (sgD s) (U.gap s.1 s.2.1) → (tRet (uTup (tCons (tC (.str kind)) (tCons (uVar 2) (tCons (uVar 4) (tCons (uVar 5) tNil)))))) { nx := fun _ H' => Q .non H', rt := Q } [some (.ref p), some (.int M), some (.ref R), some (.ref td), some (.ref st), some (gapV (U.gap s.1 s.2.1))] H3 := fun kind D hD eD => by
      refine ⟨szr rfl, fun t H4 n4 s4 t4 => q (.ref t) D H4 (s3.trans s4) hD ?_⟩
      rw [eD]
      exact .tup (SqT.of t4) (.cons (.str _) (.cons (.lst (SqL.of (s4 _ _ hR)) (dpAll_mono s4 alR)) (.cons (sg_mk (same_t s4 hst)) (.cons (gapD_mk _) .nil))))
    refine ⟨_, _, hst, rfl, _, _, hst, rfl, td, U, _, s.1, s.2.1, rfl, hU, tU, _, .inl (SqL.of hR), ⟨fun e => ?_, fun e => ?_⟩⟩
    · have e := of_decide_eq_true e
      exact told "full" _ (.inl ⟨i, s, U, es, by omega, tU, rfl⟩) rfl
    have e := of_decide_eq_false e
    have nt : numb 0 (l.take (i + 1)) = numb 0 (l.take i) ++ [⟨(i : Int) + 1, s.1, s.2.1, s.2.2⟩] := numb_take es
    have fin : ∀ (D : Ends), D.nx = (fun σ H' => Same H H' ∧ ((i + 1 : Nat) : Int) ≤ M ∧ ∃ (U : Tops) (ys : List V) (w4 w5 : Option V), TopAt K H' td U ∧ TopOf (numb 0 (l.take (i + 1))) U ∧ U.D.length ≤ 2 * (i + 1) ∧ H' R = some (.lst ys) ∧ DpAll K H' ys ((numb 0 (l.take (i + 1))).map rowD) ∧ σ = [some (.ref p), some (.int M), some (.ref R), some (.ref td), w4, w5]) →
        (∀ x, U.gap s.1 s.2.1 = some x → x = s.2.2) → (tSeq (tDrop (tBM K "list" cApp (uVar 2) (tCons (tOp (cCatT K) (uTup (tCons (tOp kAdd (tCB (cLenQ K) (tCons (uVar 2) tNil)) (tC (.int 1))) tNil)) (uVar 4)) tNil)))
  (tDrop (tCall (sp__law_lay K) [] E0 (tCons (uVar 3) (tCons (tOp (cIxL K) (uVar 2) (tUn kNeg (tC (.int 1)))) tNil))))) D [some (.ref p), some (.int M), some (.ref R), some (.ref td), some (.ref st), some (gapV (U.gap s.1 s.2.1))] H3 := fun D eD ag => by
      refine ⟨.inl ⟨rfl, _, SqL.of hR⟩, _, .inl (SqL.of hR), szr rfl, fun tt H7 n7 s7 t7 => ⟨[.int ((ys.length : Int) + 1)], sgV s, SqT.of t7, same_t s7 hst, (fun z => nomatch z), (fun z => nomatch z), szr rfl, fun tn H8 n8 s8 t8 => ⟨ys, s8 _ _ (s7 _ _ hR), szl (by omega), fun H9 c9 t9 => ?_⟩⟩⟩
      have s78 := s7.trans s8
      have hR8 := s78 _ _ hR
      have tp9 : Tups H8 H9 := tups_chd c9 hR8 True.intro
      have top9 := (hU.mono s78).lst hR8 c9
      rw [yl] at t8
      have hn9 : SqT K H9 tn (rowV ⟨(i : Int) + 1, s.1, s.2.1, s.2.2⟩) := tups_t tp9 (SqT.of (K := K) t8)
      have hlast : atI (ys ++ [V.ref tn]) (-1) = some (.ref tn) := by
        have hl : (ys ++ [V.ref tn]).length = ys.length + 1 := by rw [List.length_append]; rfl
        have hix : ixN (ys ++ [V.ref tn]).length (-1) = some ys.length := by
          unfold ixN
          rw [if_neg (by omega), hl]
          first
            | (rw [if_pos (by omega)]; congr 1; omega)
            | (simp; omega)
        unfold atI
        rw [hix]
        simp
      refine ⟨_, _, SqL.of t9, hlast, td, tn, U, _, ⟨(i : Int) + 1, s.1, s.2.1, s.2.2⟩, rfl, top9, tU, hn9, ag, by omega, fun H10 c10 top10 tof10 => ?_⟩
      rw [eD]
      obtain ⟨kt9, hkt9, _⟩ := id top9
      have tp10 : Tups H9 H10 := tups_chd c10 hkt9 True.intro
      have ntR : td ≠ R := ne_of hkt9 t9 (by intro z; cases z)
      have ll := Tops.lay_len U ⟨(i : Int) + 1, s.1, s.2.1, s.2.2⟩
      refine ⟨same_chd (same_chd (s3.trans s78) c9 nR) c10 ntd0, by omega, _, _, _, _, top10, by rw [nt]; exact tof10, by omega, c10 _ _ ntR.symm t9, ?_, rfl⟩
      rw [nt, List.map_append]
      exact dpAll_snoc (prows_tups (((tups_of s78).trans tp9).trans tp10) alR) (row_mk (r := ⟨(i : Int) + 1, s.1, s.2.1, s.2.2⟩) (tups_t tp10 hn9))
    cases hg : U.gap s.1 s.2.1 with
    | none =>
      rw [hg] at fin
      exact br_f (br_f (fin _ rfl fun x z => nomatch z))
    | some x =>
      rw [hg] at fin told
      refine br_t ⟨_, _, hst, rfl, .int x, .int s.2.2, .int _, .int _, rfl, rfl, ?_⟩
      rw [int_eqv]
      by_cases c : x = s.2.2
      · rw [decide_eq_true c]
        exact br_f (fin _ rfl fun y z => by rw [← Option.some.inj z]; exact c)
      · rw [decide_eq_false c]
        exact br_t (told "against" _ (.inr (.inl ⟨i, s, U, x, es, by omega, tU, hg, c, rfl⟩)) rfl)
  · rintro σ H3 ⟨s3, im, U, ys, w4, w5, hU, tU, lU, hR, alR, rfl⟩
    rw [hx] at im tU alR
    rw [List.take_length] at tU alR
    refine ⟨szr rfl, fun t H4 n4 s4 t4 => q (.ref t) (dueD "none" (numb 0 l) .none (some 0)) H4 (s3.trans s4) (.inr (.inr ⟨im, tU.agr, rfl⟩)) ?_⟩
    exact .tup (SqT.of t4) (.cons (.str _) (.cons (.lst (SqL.of (s4 _ _ hR)) (dpAll_mono s4 alR)) (.cons .non (.cons (.int _) .nil))))
/-! ### _law_read -/
abbrev N__law_read : List Str := ["_law_text_here", "_law_most"]
def sp__law_read (K : PySem.W.Frag) (A : Ad) : Sp := fun vs H Q E => ∃ (z : Str) (M : Int), vs = [.str z, .int M] ∧ sp_read K A [.str z, .int M] H Q E
def t__law_read (K : PySem.W.Frag) (A : Ad) (E : XK) : TS :=
  (tSeq (uIfS (uT (tOp kEqI (uVar 1) (tC (.int 200))))
  (tRet (tCall (sp_read K A) [.int 200] E (tCons (uVar 0) tNil)))
  tNext)
  (tRet (tCall (sp_read K A) [] E (tCons (uVar 0) (tCons (uVar 1) tNil)))))
theorem rd__law_read {K : PySem.W.Frag} {A : Ad} (T : Tx K A) {vs : List V} {H : Hp} {Q : VK} {E : XK} (h : sp__law_read K A vs H Q E) : t__law_read K A E { nx := fun _ H' => Q .non H', rt := Q } (start N__law_read vs) H := by
  obtain ⟨z, M, rfl, q⟩ := h
  refine ⟨fun e => ?_, fun _ => q⟩
  have e : M = 200 := of_decide_eq_true e
  subst e
  exact q
/-! ### _law_refused -/
abbrev N__law_refused : List Str := ["_law_text_here", "_law_most", "_law_due_here", "_law_refused_here", "_law_trail", "_law_e", "_law_sighting_here", "_law_step_here"]
def RefR (z : Str) (M : Int) (D : PyData) : Prop := (¬ Told z ∧ D = dueD "text" [] .none (some 0)) ∨ ∃ l, (∀ s ∈ l, GoodS s) ∧ z = showAll l ∧ (FullR l M D ∨ AgainstR l M D)
def sp__law_refused (K : PySem.W.Frag) (A : Ad) : Sp := fun vs H Q _ => ∃ (z : Str) (M : Int) (dv : V) (D : PyData), vs = [.str z, .int M, dv] ∧ z.length ≤ 6000 ∧ 0 ≤ M ∧ RefR z M D ∧ Dp K H dv D ∧ ∀ H', Same H H' → Q (.bl true) H'
def t__law_refused (K : PySem.W.Frag) (A : Ad) : TS :=
  (tSeq (tAsg (tC .non) (gName 3))
  (tSeq (tAsg (uLst tNil) (gName 4))
  (Evl.tCut (uTryK2 K (.ref A.Against) (.ref A.PegError) 5 (fun a cls d => (tSeq (tAsg (uVar 5) (gName 3))
  (tAsg (tXf a cls d A.Against "trail" (uVar 5)) (gName 4)))) (fun a cls d => (tAsg (uVar 5) (gName 3))) (fun W => (tDrop (tCallS (sp__law_read K A) (WE W) (tCons (uVar 0) (tCons (uVar 1) tNil))))))
  (tSeq (uIfS (uOr (uT (tOp (cNon true) (uVar 3) (tC .non))) (uT (tOp kNeS (tCall (sp__law_kind K A) [] E0 (tCons (uVar 3) tNil)) (tOp (cIxT K) (uVar 2) (tC (.int 0))))))
  (tRet (tC (.bl false)))
  tNext)
  (tSeq (uIfS (uT (tOp kNeS (tOp (cIxT K) (uVar 2) (tC (.int 0))) (tC (.str "against"))))
  (tRet (tC (.bl true)))
  tNext)
  (tSeq (tAsg (tOp (cIxT K) (uVar 2) (tC (.int 2))) (gName 6))
  (tSeq (uIfS (uNot (uT (tCall (sp__law_way K) [] E0 (tCons (uVar 4) (tCons (tOp (cIxT K) (uVar 2) (tC (.int 1))) (tCons (tOp (cIxT K) (uVar 6) (tC (.int 0))) (tCons (tOp (cIxT K) (uVar 6) (tC (.int 1))) tNil)))))))
  (tRet (tC (.bl false)))
  tNext)
  (tRet (tOp (rEqD K) (tCB (cSum K) (tCons (uLc (iList K (uVar 4)) (gName 7) tYes (tOp (cIxT K) (uVar 7) (tC (.int 3))) [7]) tNil)) (tOp (cIxT K) (uVar 2) (tC (.int 3))))))))))))
theorem dictOk_mono {H H' : Hp} {d : Option Addr} (s : Same H H') (h : DictOk H d) : DictOk H' d := by
  cases d with
  | none => exact True.intro
  | some dd =>
    obtain ⟨fs, h⟩ := h
    exact ⟨fs, s _ _ h⟩
/-- the sum of the steps' rises -/
theorem lcd_rises {K : PySem.W.Frag} {H : Hp} {a : Addr} {xs : List V} {ss : List Row} {tl te : TE} {j : Nat} {σ : L2.St} {Q : VK} (hl : SqL K H a xs) (al : DpAll K H xs (ss.map rowD)) (htl : ∀ R, R (.ref a) H → tl σ H R) (hlen : ss.length ≤ 3000) (hw : ∀ x, wipe ((wipe σ [j]).set j (some x)) [j] = wipe σ [j])
    (he : ∀ (r : Row) (t : Addr) (H1 : Hp) (R : VK), SqT K H1 t (rowV r) → R (.int r.rise) H1 → te ((wipe σ [j]).set j (some (.ref t))) H1 R)
    (q : ∀ (p : Addr) (H2 : Hp), H p = none → Same H H2 → H2 p = some (.lst ((ss.map Row.rise).map V.int)) → Q (.ref p) H2) : uLc (iList K tl) (gName j) tYes te [j] σ H Q := by
  have hx : xs.length = ss.length := by rw [dpAll_length al, List.length_map]
  refine lc_map (K := K) (a := a) (xs := xs) (fun i => .int ((ss[i]?.map Row.rise).getD 0)) hl htl (by omega) hw (fun i v H3 R e s3 k => ?_) (fun np H3 n3 s3 t3 => ?_)
  · obtain ⟨dd, hd, dv⟩ := dpAll_get al e
    rw [List.getElem?_map] at hd
    obtain ⟨r, er, rfl⟩ := Option.map_eq_some_iff.mp hd
    obtain ⟨t, rfl, ht⟩ := row_at dv
    refine he r t H3 R (same_t s3 ht) ?_
    have z := k H3 (Same.refl H3)
    rw [er] at z
    exact z
  · refine q np H3 n3 s3 ?_
    rw [t3, hx, List.map_map]
    refine congrArg (fun l => some (HO.lst l)) (List.ext_getElem? fun i => ?_)
    rw [List.getElem?_map, List.getElem?_map]
    by_cases c : i < ss.length
    · rw [List.getElem?_range c, List.getElem?_eq_getElem c]
      simp [List.getElem?_eq_getElem c]
    · rw [List.getElem?_eq_none (by simpa using c), List.getElem?_eq_none (by simpa using c)]
      rfl
theorem same_text {l m : List Sg} {z : Str} (gl : ∀ s ∈ l, GoodS s) (gm : ∀ s ∈ m, GoodS s) (e : z = showAll l) (e' : z = showAll m) : m = l := (shows_inj gl gm (told_one gl gm (e.symm.trans e'))).symm
theorem numb_ok {l : List Sg} (g : ∀ s ∈ l, GoodS s) (k : Nat) : ∀ r ∈ numb k l, r.Ok := fun r hr => by
  have m := g _ (numb_mem hr)
  exact ⟨m.one.ok, m.other.ok⟩
theorem against_way {l : List Sg} {i : Nat} {s : Sg} {T : Tops} {x : Int} (tT : TopOf (numb 0 (l.take i)) T) (g : T.gap s.1 s.2.1 = some x) (ne : x ≠ s.2.2) : ∃ ss, Way (numb 0 (l.take i)) s.1 ss s.2.1 ∧ total ss ≠ s.2.2 := by
  obtain ⟨⟨ss, w⟩, all⟩ := tT.gap_some g
  exact ⟨ss, w, fun e => ne ((all ss w).symm.trans e)⟩
/-- how a text is refused -/
theorem ref_call {K : PySem.W.Frag} {A : Ad} {z : Str} {M : Int} {D : PyData} (hz : z.length ≤ 6000) (m0 : 0 ≤ M) (h : RefR z M D) : ∃ (rows : List Row) (sD : PyData) (g : Option Int) (e : Er), D = dueD (kindOf e) rows sD g ∧ (e = .against → ∃ (s : Sg) (x : Int), sD = sgD s ∧ g = some x ∧ (∀ r ∈ rows, r.Ok) ∧ ∀ ss, Way rows s.1 ss s.2.1 → total ss = x) ∧
    ∀ (H : Hp) (EW : XK) (R : VK), (e ≠ .against → ∀ H1, Same H H1 → EW (.ref (A.er e)) none H1) → (∀ s, e = .against → sD = sgD s → ∀ (ss : List Row) (H1 : Hp) (dd p : Addr) (xs : List V), Way rows s.1 ss s.2.1 → Simple ss s.2.1 → ss.length ≤ 2001 → H p = none → Same H H1 → H1 dd = some (.xd [("trail", .ref p)]) → H1 p = some (.lst xs) → DpAll K H1 xs (ss.map rowD) → EW (.ref A.Against) (some dd) H1) → sp_read K A [.str z, .int M] H R EW := by
  rcases h with ⟨nt, rfl⟩ | ⟨l, gl, ez, ⟨i, s, T, es, im, tT, rfl⟩ | ⟨i, s, T, x, es, im, tT, hg, ne, rfl⟩⟩
  · refine ⟨[], .none, some 0, .text, rfl, (fun e => nomatch e), fun H EW R h1 h2 => ⟨z, M, rfl, hz, m0, fun _ H1 s1 => h1 (fun e => nomatch e) H1 s1, fun l gl ez => absurd ⟨l, gl, ez⟩ nt⟩⟩
  · have hi := (List.getElem?_eq_some_iff.mp es).1
    refine ⟨_, _, _, .full, rfl, (fun e => nomatch e), fun H EW R h1 h2 => ⟨z, M, rfl, hz, m0, fun nt => absurd ⟨l, gl, ez⟩ nt, fun m gm em => ?_⟩⟩
    have e := same_text gl gm ez em
    subst e
    refine ⟨fun j hj jm ag H1 s1 => h1 (fun e => nomatch e) H1 s1, fun j t et jm ag ss H1 dd p xs W S hss nt => ?_, fun lm => by omega⟩
    exact absurd ⟨ss, W, nt⟩ (agr_no et (by omega) tT.agr)
  · have hi := (List.getElem?_eq_some_iff.mp es).1
    have w := against_way tT hg ne
    refine ⟨_, _, _, .against, rfl, fun _ => ⟨s, x, rfl, rfl, fun r hr => ?_, fun ss W => (tT.gap_some hg).2 ss W⟩, fun H EW R h1 h2 => ⟨z, M, rfl, hz, m0, fun nt => absurd ⟨l, gl, ez⟩ nt, fun m gm em => ?_⟩⟩
    · exact numb_ok gl 0 r (by rw [numb_pre] at hr; exact List.mem_of_mem_take hr)
    have e := same_text gl gm ez em
    subst e
    refine ⟨fun j hj jm ag => absurd w (agr_no es (by omega) ag), fun j t et jm ag ss H1 dd p xs W S hss nt np s1 t1 tp al => ?_, fun lm ag => absurd w (agr_no es hi (by rw [List.take_length]; exact ag))⟩
    rcases Nat.lt_trichotomy j i with c | c | c
    · exact absurd ⟨ss, W, nt⟩ (agr_no et c tT.agr)
    · subst c
      rw [es] at et
      cases et
      exact h2 s rfl rfl ss H1 dd p xs W S hss np s1 t1 tp al
    · exact absurd w (agr_no es c ag)
theorem kind_against {e : Er} (h : kindOf e = "against") : e = .against := by
  cases e <;> first | rfl | exact absurd h (by decide)
theorem rd__law_refused {K : PySem.W.Frag} {A : Ad} (T : Tx K A) {vs : List V} {H : Hp} {Q : VK} {E : XK} (h : sp__law_refused K A vs H Q E) : t__law_refused K A { nx := fun _ H' => Q .non H', rt := Q } (start N__law_refused vs) H := by
  obtain ⟨z, M, dv, D, rfl, hz, m0, hr, dD, q⟩ := h
  obtain ⟨rows, sD, g, e, rfl, hag, call⟩ := ref_call (K := K) (A := A) hz m0 hr
  obtain ⟨t, vs4, rfl, ht, al4⟩ := dp_tup dD
  obtain ⟨k0, _, rfl, d0, al4⟩ := dpAll_cons al4
  obtain ⟨k1, _, rfl, d1, al4⟩ := dpAll_cons al4
  obtain ⟨k2, _, rfl, d2, al4⟩ := dpAll_cons al4
  obtain ⟨k3, _, rfl, d3, al4⟩ := dpAll_cons al4
  obtain rfl := dpAll_nil al4
  obtain rfl := dp_str d0
  refine ⟨szr rfl, fun e0 H1 n1 s1 t1 => ?_⟩
  refine ⟨fun σ' H' => ∃ (a : Addr) (d : Option Addr) (tr : Addr), σ' = [some (.str z), some (.int M), some (.ref t), some (.ref a), some (.ref tr), none, none, none] ∧ H' a = some (ErO (.ref (A.er e)) d a) ∧ DictOk H' d ∧ Same H H' ∧ (∀ s, e = .against → sD = sgD s → ∃ (ys : List V) (ss : List Row), H' tr = some (.lst ys) ∧ DpAll K H' ys (ss.map rowD) ∧ Way rows s.1 ss s.2.1 ∧ Simple ss s.2.1 ∧ ss.length ≤ 2001), ⟨z, M, rfl, call H1 _ _ (fun ne H2 s2 => ?_) fun s ea es ss H2 dd p xs W S hss np s2 t2 tp al => ?_⟩, ?_⟩
  · exact ⟨decide (e = .against), T.exm e .against, fun z => absurd (of_decide_eq_true z) ne, fun _ => ⟨true, T.peg e, fun _ a na H4 na4 s4 t4 => ⟨a, none, e0, rfl, t4, True.intro, (s1.trans s2).trans s4, fun s ea => absurd ea ne⟩, fun z => nomatch z⟩⟩
  · subst ea
    refine ⟨true, T.slf .against, fun _ a na => ⟨rfl, rfl, dd, _, .ref p, rfl, t2, rfl, fun H4 na4 s4 t4 => ⟨a, some dd, p, rfl, t4, ⟨_, s4 _ _ t2⟩, (s1.trans s2).trans s4, fun s' _ es' => ?_⟩⟩, fun z => nomatch z⟩
    have e1 : sgD s = sgD s' := es.symm.trans es'
    have e2 : s = s' := by
      unfold sgD sigD at e1
      simp only [PyData.tuple.injEq, List.cons.injEq, PyData.str.injEq, PyData.int.injEq, and_true] at e1
      obtain ⟨h1, h2, h3⟩ := e1
      obtain ⟨a1, b1, c1⟩ := s
      obtain ⟨a2, b2, c2⟩ := s'
      simp only at h1 h2 h3
      rw [h1, h2, h3]
    subst e2
    exact ⟨xs, ss, s4 _ _ tp, dpAll_mono s4 al, W, S, hss⟩
  · rintro σ' H2 ⟨a, d, tr, rfl, ha, hd, s2, htr⟩
    have ht2 := same_t s2 ht
    refine br_f ⟨a, d, e, rfl, ha, hd, _, _, ht2, rfl, br_ff (by rw [decide_eq_true rfl]; rfl) ⟨_, _, ht2, rfl, ⟨fun _ => q H2 s2, fun e1 => ?_⟩⟩⟩
    have ea : e = .against := kind_against (by simpa using e1)
    subst ea
    obtain ⟨s, x, rfl, rfl, ok, all⟩ := hag rfl
    obtain ⟨ys, ss, hy, al, W, S, hss⟩ := htr s rfl rfl
    obtain ⟨st, rfl, hst⟩ := sg_at (dp_mono s2 d2)
    obtain rfl := dp_int d3
    have yl : ys.length = ss.length := by rw [dpAll_length al, List.length_map]
    refine ⟨_, _, ht2, rfl, _, _, ht2, rfl, _, _, hst, rfl, _, _, hst, rfl, tr, k1, s.1, s.2.1, ys, ss, rows, rfl, SqL.of hy, al, dp_mono s2 d1, ok, W, S, hss, fun H3 s3 => br_ff rfl ?_⟩
    refine lcd_rises (SqL.of (s3 _ _ hy)) (dpAll_mono s3 al) (fun R h => h) (by omega) (fun x => rfl) (fun r t H6 R ht k => ⟨_, _, ht, rfl, k⟩) fun l6 H6 n6 s6 t6 => ?_
    have s36 := s3.trans s6
    refine ⟨ss.map Row.rise, SqL.of t6, _, _, same_t s36 ht2, rfl, .int (total ss), .int x, .int _, .int _, rfl, rfl, ?_⟩
    rw [int_eqv, decide_eq_true (all ss W)]
    exact q H6 (s2.trans s36)
/-! ### _law_reads -/
abbrev N__law_reads : List Str := ["_law_sightings", "_law_most", "_law_some", "_law_cell", "_law_due_here", "_law_text_here", "_law_sighting_here"]
def sp__law_reads (K : PySem.W.Frag) (A : Ad) : Sp := fun vs H Q _ => ∃ (p pp : Addr) (M cell : Int) (xs : List V) (l : List Sg) (P : List Str), vs = [.ref p, .int M, .ref pp, .int cell] ∧ SqL K H p xs ∧ DpAll K H xs (l.map sgD) ∧ (∀ s ∈ l, GoodS s) ∧ l.length ≤ 64 ∧ 0 ≤ M ∧ (∀ s ∈ l, s.1 ∈ P ∧ s.2.1 ∈ P) ∧
  SqL K H pp (P.map V.str) ∧ (∀ z ∈ P, Pg z) ∧ P.length < 60 ∧ ∀ H', Same H H' → Q (.bl true) H'
def t__law_reads (K : PySem.W.Frag) (A : Ad) : TS :=
  (tSeq (tAsg (tCall (sp__law_due K) [] E0 (tCons (uVar 0) (tCons (uVar 1) tNil))) (gName 4))
  (tSeq (tAsg (tM1 (cJoin K) (tC (.str "; ")) (uLc (iList K (uVar 0)) (gName 6) tYes (tCall (sp__law_piece K) [] E0 (tCons (uVar 6) tNil)) [6])) (gName 5))
  (tSeq (uIfS (uT (tOp kNeS (tOp (cIxT K) (uVar 4) (tC (.int 0))) (tC (.str "none"))))
  (tRet (tCall (sp__law_refused K A) [] E0 (tCons (uVar 5) (tCons (uVar 1) (tCons (uVar 4) tNil)))))
  tNext)
  (tRet (tCall (sp__law_told K A) [] E0 (tCons (tCall (sp__law_read K A) [] E0 (tCons (uVar 5) (tCons (uVar 1) tNil))) (tCons (tOp (cIxT K) (uVar 4) (tC (.int 1))) (tCons (uVar 2) (tCons (uVar 3) tNil)))))))))
theorem rd__law_reads {K : PySem.W.Frag} {A : Ad} (T : Tx K A) {vs : List V} {H : Hp} {Q : VK} {E : XK} (h : sp__law_reads K A vs H Q E) : t__law_reads K A { nx := fun _ H' => Q .non H', rt := Q } (start N__law_reads vs) H := by
  obtain ⟨p, pp, M, cell, xs, l, P, rfl, hS, al, gl, hlen, m0, lP, hpp, pz, Pl, q⟩ := h
  have hx : xs.length = l.length := by rw [dpAll_length al, List.length_map]
  have lz := showAll_len gl
  refine ⟨p, xs, l, M, rfl, hS, al, by omega, m0, fun dv D H1 s1 hD dD => ⟨⟨_, rfl⟩, lc_shown (l := l) (same_l s1 hS) hx (by omega) (fun R k => k) (fun x => rfl) (fun i x s H2 R ex es s2 k => ?_) fun p2 H2 n2 s2 t2 => ⟨l.map showS, SqL.of t2, join_fits gl (by omega), ?_⟩⟩⟩
  · obtain ⟨d0, hd0, dx1⟩ := dpAll_get al ex
    rw [List.getElem?_map, es] at hd0
    cases hd0
    exact ⟨x, s, rfl, dp_mono (s1.trans s2) dx1, gl s (List.mem_of_getElem? es), k H2 (Same.refl H2)⟩
  show (tSeq _ _) _ [_, _, _, _, _, some (.str (showAll l)), _] H2
  have s02 := s1.trans s2
  have dD2 := dp_mono s2 dD
  rcases hD with hF | hG | ⟨lm, ag, rfl⟩
  · obtain ⟨i, s, U, es, im, tU, eD⟩ := id hF
    rw [eD] at dD2
    obtain ⟨t, vs4, rfl, ht, al4⟩ := dp_tup dD2
    obtain ⟨k0, _, rfl, d0, al4⟩ := dpAll_cons al4
    obtain ⟨k1, _, rfl, d1, al4⟩ := dpAll_cons al4
    obtain ⟨k2, _, rfl, d2, al4⟩ := dpAll_cons al4
    obtain ⟨k3, _, rfl, d3, al4⟩ := dpAll_cons al4
    obtain rfl := dpAll_nil al4
    obtain rfl := dp_str d0
    exact ⟨_, _, ht, rfl, br_tt (by decide) ⟨showAll l, M, .ref t, D, rfl, by omega, m0, .inr ⟨l, gl, rfl, .inl hF⟩, dp_mono s2 dD, fun H3 s3 => q H3 (s02.trans s3)⟩⟩
  · obtain ⟨i, s, U, x, es, im, tU, hg, ne, eD⟩ := id hG
    rw [eD] at dD2
    obtain ⟨t, vs4, rfl, ht, al4⟩ := dp_tup dD2
    obtain ⟨k0, _, rfl, d0, al4⟩ := dpAll_cons al4
    obtain ⟨k1, _, rfl, d1, al4⟩ := dpAll_cons al4
    obtain ⟨k2, _, rfl, d2, al4⟩ := dpAll_cons al4
    obtain ⟨k3, _, rfl, d3, al4⟩ := dpAll_cons al4
    obtain rfl := dpAll_nil al4
    obtain rfl := dp_str d0
    exact ⟨_, _, ht, rfl, br_tt (by decide) ⟨showAll l, M, .ref t, D, rfl, by omega, m0, .inr ⟨l, gl, rfl, .inr hG⟩, dp_mono s2 dD, fun H3 s3 => q H3 (s02.trans s3)⟩⟩
  · obtain ⟨t, vs4, rfl, ht, al4⟩ := dp_tup dD2
    obtain ⟨k0, _, rfl, d0, al4⟩ := dpAll_cons al4
    obtain ⟨k1, _, rfl, d1, al4⟩ := dpAll_cons al4
    obtain ⟨k2, _, rfl, d2, al4⟩ := dpAll_cons al4
    obtain ⟨k3, _, rfl, d3, al4⟩ := dpAll_cons al4
    obtain rfl := dpAll_nil al4
    obtain rfl := dp_str d0
    obtain ⟨R, ys, rfl, hR, alR⟩ := dp_lst d1
    refine ⟨_, _, ht, rfl, br_ff (by decide) ⟨showAll l, M, rfl, showAll l, M, rfl, by omega, m0, fun nt => absurd ⟨l, gl, rfl⟩ nt, fun m gm em => ?_⟩⟩
    have e := same_text gl gm rfl em
    subst e
    refine ⟨fun j hj jm => by omega, fun j u eu jm ag' ss H3 dd p3 zs W S hss nt => ?_, fun _ _ b d H3 nb nd s3 B => ?_⟩
    · have hj := (List.getElem?_eq_some_iff.mp eu).1
      exact absurd ⟨ss, W, nt⟩ (agr_no eu hj (by rw [List.take_length]; exact ag))
    · have s03 := s02.trans s3
      refine ⟨_, _, same_t s3 ht, rfl, b, d, R, pp, M, _, cell, numb 0 m, ys, P, rfl, B, same_l s3 hR, dpAll_mono s3 alR, ag, fun r hr => gm _ (numb_mem hr), same_l s03 hpp, pz, Pl, fun r hr => lP _ (numb_mem hr), by rw [numb_len]; omega, fun H4 s4 => q H4 (s03.trans s4)⟩
/-! ### _law_odd_piece -/
abbrev N__law_odd_piece : List Str := ["_law_one", "_law_other", "_law_cell", "_law_some"]
/-- a piece that is no row, put in -/
def OddP (z : Str) : Prop := 1 ≤ z.length ∧ z.length ≤ 100 ∧ ((59 ∉ z.cps.toList ∧ ¬ SgT z) ∨ ∃ o : List Nat, z.cps.toList = o ++ [59] ∧ 59 ∉ o)
def odds10 (one other : Str) : List Str := [one ++ " " ++ other, one ++ "  " ++ other ++ " 1", one ++ " " ++ other ++ " 01", one ++ " " ++ other ++ " -0", one ++ " " ++ other ++ " +1", one ++ " " ++ other ++ " 1 ", "A" ++ cutS one (some 1) none ++ " " ++ other ++ " 1", one ++ "abcdefgh " ++ other ++ " 0", " " ++ one ++ " " ++ other ++ " 0", one ++ " " ++ other ++ " --1", one ++ " " ++ other ++ " " ++ numS (10 ^ 60), one ++ " " ++ other ++ " -1" ++ repS "0" 60, one ++ " " ++ other ++ " 1;", one ++ " " ++ other ++ " -"]
def sp__law_odd_piece (K : PySem.W.Frag) : Sp := fun vs H Q _ => ∃ (one other : Str) (c : Int), vs = [.str one, .str other, .int c] ∧ Pg one ∧ Pg other ∧ ∀ (z : Str) (H' : Hp), Same H H' → OddP z → Q (.str z) H'
def t__law_odd_piece (K : PySem.W.Frag) : TS :=
  (tSeq (tAsg (uLst (tCons (tOp cAddS (tOp cAddS (uVar 0) (tC (.str " "))) (uVar 1)) (tCons (tOp cAddS (tOp cAddS (tOp cAddS (uVar 0) (tC (.str "  "))) (uVar 1)) (tC (.str " 1"))) (tCons (tOp cAddS (tOp cAddS (tOp cAddS (uVar 0) (tC (.str " "))) (uVar 1)) (tC (.str " 01"))) (tCons (tOp cAddS (tOp cAddS (tOp cAddS (uVar 0) (tC (.str " "))) (uVar 1)) (tC (.str " -0"))) tNil))))) (gName 3))
  (tSeq (tAsg (tOp cCat (uVar 3) (uLst (tCons (tOp cAddS (tOp cAddS (tOp cAddS (uVar 0) (tC (.str " "))) (uVar 1)) (tC (.str " +1"))) (tCons (tOp cAddS (tOp cAddS (tOp cAddS (uVar 0) (tC (.str " "))) (uVar 1)) (tC (.str " 1 "))) (tCons (tOp cAddS (tOp cAddS (tOp cAddS (tOp cAddS (tC (.str "A")) (tSl cSlS (uVar 0) (uPart (tC (.int 1))) tNoPart)) (tC (.str " "))) (uVar 1)) (tC (.str " 1"))) tNil))))) (gName 3))
  (tSeq (tAsg (tOp cCat (uVar 3) (uLst (tCons (tOp cAddS (tOp cAddS (tOp cAddS (uVar 0) (tC (.str "abcdefgh "))) (uVar 1)) (tC (.str " 0"))) (tCons (tOp cAddS (tOp cAddS (tOp cAddS (tOp cAddS (tC (.str " ")) (uVar 0)) (tC (.str " "))) (uVar 1)) (tC (.str " 0"))) (tCons (tOp cAddS (tOp cAddS (tOp cAddS (uVar 0) (tC (.str " "))) (uVar 1)) (tC (.str " --1"))) tNil))))) (gName 3))
  (tSeq (tAsg (tOp cCat (uVar 3) (uLst (tCons (tOp cAddS (tOp cAddS (tOp cAddS (tOp cAddS (uVar 0) (tC (.str " "))) (uVar 1)) (tC (.str " "))) (tCB cStrI (tCons (tOp kPow (tC (.int 10)) (tC (.int 60))) tNil))) (tCons (tOp cAddS (tOp cAddS (tOp cAddS (tOp cAddS (uVar 0) (tC (.str " "))) (uVar 1)) (tC (.str " -1"))) (tOp cMulS (tC (.str "0")) (tC (.int 60)))) tNil)))) (gName 3))
  (tSeq (tAsg (tOp cCat (uVar 3) (uLst (tCons (tOp cAddS (tOp cAddS (tOp cAddS (uVar 0) (tC (.str " "))) (uVar 1)) (tC (.str " 1;"))) (tCons (tOp cAddS (tOp cAddS (tOp cAddS (uVar 0) (tC (.str " "))) (uVar 1)) (tC (.str " -"))) tNil)))) (gName 3))
  (tRet (tOp (cIxL K) (uVar 3) (tOp kMod (uVar 2) (tC (.int 14))))))))))
def Fr (a : Str) : Prop := 32 ∉ a.cps.toList ∧ 59 ∉ a.cps.toList
theorem Pg.fr {a : Str} (h : Pg a) : Fr a := ⟨fun m => by have := h.signs 32 m; omega, fun m => by have := h.signs 59 m; omega⟩
theorem Pg.pos {a : Str} (h : Pg a) : 1 ≤ a.length := by
  obtain ⟨n, az, h1, _⟩ := h
  rw [az.len]
  exact h1
theorem frs_free {ws : List Str} (h : ∀ w ∈ ws, Fr w) : 59 ∉ (Txt.join " " ws).cps.toList := by
  rw [TL.join_eq]
  have e : (Str.join " " ws).cps.toList = TL.joinL (" " : Str).cps.toList (ws.map TL.tl) := TL.tl_join _ _
  rw [e, blank_tl]
  induction ws with
  | nil => exact fun m => nomatch m
  | cons w ws ih =>
    have ih := ih (fun v hv => h v (List.mem_cons_of_mem _ hv)) (TL.tl_join _ _)
    have fw := (h w (List.mem_cons_self ..)).2
    cases ws with
    | nil => exact fw
    | cons v ws =>
      intro m
      have m : 59 ∈ w.cps.toList ++ (32 :: TL.joinL [32] ((v :: ws).map TL.tl)) := m
      rcases List.mem_append.mp m with m | m
      · exact fw m
      · rcases List.mem_cons.mp m with m | m
        · omega
        · exact ih m
theorem odd_of {z : Str} {ws : List Str} (e : z = Txt.join " " ws) (hne : ws ≠ []) (fr : ∀ w ∈ ws, Fr w) (bad : ∀ a b c, ws = [a, b, c] → Pg a → Pg b → Rise c → False) (l1 : 1 ≤ z.length) (l2 : z.length ≤ 100) : OddP z := by
  refine ⟨l1, l2, .inl ⟨by rw [e]; exact frs_free fr, fun s => ?_⟩⟩
  obtain ⟨a, b, c, es, h1, h2, h3⟩ := sg_inv s
  rw [e, TL.split_join (s := 32) (S := []) blank_tl (by decide +kernel) hne fun p hp => (fr p hp).1] at es
  exact bad a b c es h1 h2 h3
theorem join2 (a b : Str) : Txt.join " " [a, b] = a ++ " " ++ b := by
  refine TL.ext_tl ?_
  rw [TL.join_eq, TL.tl_join]
  show a.cps.toList ++ ((" " : Str).cps.toList ++ b.cps.toList) = (a ++ " " ++ b).cps.toList
  simp only [str_app_codes, List.append_assoc]
theorem join3 (a b c : Str) : Txt.join " " [a, b, c] = a ++ " " ++ b ++ " " ++ c := by
  refine TL.ext_tl ?_
  rw [TL.join_eq, TL.tl_join]
  show a.cps.toList ++ ((" " : Str).cps.toList ++ (b.cps.toList ++ ((" " : Str).cps.toList ++ c.cps.toList))) = (a ++ " " ++ b ++ " " ++ c).cps.toList
  simp only [str_app_codes, List.append_assoc]
theorem join4 (a b c d : Str) : Txt.join " " [a, b, c, d] = a ++ " " ++ b ++ " " ++ c ++ " " ++ d := by
  refine TL.ext_tl ?_
  rw [TL.join_eq, TL.tl_join]
  show a.cps.toList ++ ((" " : Str).cps.toList ++ (b.cps.toList ++ ((" " : Str).cps.toList ++ (c.cps.toList ++ ((" " : Str).cps.toList ++ d.cps.toList))))) = (a ++ " " ++ b ++ " " ++ c ++ " " ++ d).cps.toList
  simp only [str_app_codes, List.append_assoc]
theorem str_assoc (a b c : Str) : a ++ b ++ c = a ++ (b ++ c) := TL.ext_tl (by
  show (a ++ b ++ c).cps.toList = (a ++ (b ++ c)).cps.toList
  simp only [str_app_codes, List.append_assoc])
theorem odd3 {z a b c : Str} (e : z = a ++ " " ++ b ++ " " ++ c) (fa : Fr a) (fb : Fr b) (fc : Fr c) (bad : Pg a → Pg b → Rise c → False) (l1 : 1 ≤ z.length) (l2 : z.length ≤ 100) : OddP z :=
  odd_of (ws := [a, b, c]) (e.trans (join3 a b c).symm) (by simp) (fun w hw => by
    simp only [List.mem_cons, List.not_mem_nil, or_false] at hw
    rcases hw with rfl | rfl | rfl <;> assumption) (fun x y w h h1 h2 h3 => by
    simp only [List.cons.injEq, and_true] at h
    obtain ⟨rfl, rfl, rfl⟩ := h
    exact bad h1 h2 h3) l1 l2
theorem odd4 {z a b c d : Str} (e : z = a ++ " " ++ b ++ " " ++ c ++ " " ++ d) (fa : Fr a) (fb : Fr b) (fc : Fr c) (fd : Fr d) (l1 : 1 ≤ z.length) (l2 : z.length ≤ 100) : OddP z :=
  odd_of (ws := [a, b, c, d]) (e.trans (join4 a b c d).symm) (by simp) (fun w hw => by
    simp only [List.mem_cons, List.not_mem_nil, or_false] at hw
    rcases hw with rfl | rfl | rfl | rfl <;> assumption) (fun x y w h => by simp at h) l1 l2
theorem figs_minus_len {w : Str} (h : w.cps.toList.take 1 = [45]) : w.length = (figsOf w).length + 1 := by
  have m : cutS w none (some 1) = "-" := TL.ext_tl (by
    show (cutS w none (some 1)).cps.toList = ("-" : Str).cps.toList
    rw [cut_one, h, minus_tl])
  have e := congrArg List.length (figs_minus m)
  rw [List.length_cons, ← str_len, ← str_len] at e
  exact e
theorem no_big : ¬ Rise (numS (10 ^ 60)) := by
  rintro ⟨c, hb, e⟩
  have h1 := hb.1
  have h2 := hb.2
  have e : (numS (10 ^ 60)).cps.toList = (numS c).cps.toList := by rw [e]
  rcases numS_cases (10 ^ 60) with ⟨_, e1⟩ | ⟨h, _⟩
  · rcases numS_cases c with ⟨h0, e2⟩ | ⟨h0, e2⟩
    · rw [e1, e2] at e
      have := TL.numL_inj e
      omega
    · rw [e1, e2] at e
      have m := TL.numL_digits (10 ^ 60 : Int).toNat 45 (by rw [e]; exact List.mem_cons_self ..)
      omega
  · exact absurd h (by decide)
theorem rd__law_odd_piece {K : PySem.W.Frag} {vs : List V} {H : Hp} {Q : VK} {E : XK} (h : sp__law_odd_piece K vs H Q E) : t__law_odd_piece K { nx := fun _ H' => Q .non H', rt := Q } (start N__law_odd_piece vs) H := by
  obtain ⟨one, other, c, rfl, g1, g2, q⟩ := h
  have p60 : CPow 10 60 := ⟨by decide, by decide, by decide⟩
  have l1 := g1.sz
  have l2 := g2.sz
  have k1 := g1.pos
  have lc := cut_len one (some 1) none
  have n0 : (" " : Str).length = 1 := by decide +kernel
  have n1 : ("  " : Str).length = 2 := by decide +kernel
  have n2 : (" 1" : Str).length = 2 := by decide +kernel
  have n3 : (" 01" : Str).length = 3 := by decide +kernel
  have n4 : (" -0" : Str).length = 3 := by decide +kernel
  have n5 : (" +1" : Str).length = 3 := by decide +kernel
  have n6 : (" 1 " : Str).length = 3 := by decide +kernel
  have n7 : ("A" : Str).length = 1 := by decide +kernel
  have n8 : ("abcdefgh " : Str).length = 9 := by decide +kernel
  have n9 : (" 0" : Str).length = 2 := by decide +kernel
  have n10 : (" --1" : Str).length = 4 := by decide +kernel
  have n11 : (" -1" : Str).length = 3 := by decide +kernel
  have n12 : ("0" : Str).length = 1 := by decide +kernel
  have n13 : (" 1;" : Str).length = 3 := by decide +kernel
  have n14 : (" -" : Str).length = 2 := by decide +kernel
  have nr := repS_len "0" 60
  have nb : (numS (10 ^ 60)).length ≤ 63 := by
    rcases numS_cases (10 ^ 60) with ⟨_, e1⟩ | ⟨h, _⟩
    · rw [str_len, e1]
      exact Nat.le_trans (TL.numL_len (k := 61) (by decide) (by decide)) (by decide)
    · exact absurd h (by decide)
  refine ⟨(by first | exact sz (by omega) | (simp only [str_app_len]; exact sz (by omega))), (by first | exact sz (by omega) | (simp only [str_app_len]; exact sz (by omega))), (by first | exact sz (by omega) | (simp only [str_app_len]; exact sz (by omega))), (by first | exact sz (by omega) | (simp only [str_app_len]; exact sz (by omega))), (by first | exact sz (by omega) | (simp only [str_app_len]; exact sz (by omega))), (by first | exact sz (by omega) | (simp only [str_app_len]; exact sz (by omega))), (by first | exact sz (by omega) | (simp only [str_app_len]; exact sz (by omega))), (by first | exact sz (by omega) | (simp only [str_app_len]; exact sz (by omega))), (by first | exact sz (by omega) | (simp only [str_app_len]; exact sz (by omega))), (by first | exact sz (by omega) | (simp only [str_app_len]; exact sz (by omega))), (by first | exact sz (by omega) | (simp only [str_app_len]; exact sz (by omega))), szr rfl, fun p1 H1 m1 s1 t1 => ?_⟩
  refine ⟨(by first | exact sz (by omega) | (simp only [str_app_len]; exact sz (by omega))), (by first | exact sz (by omega) | (simp only [str_app_len]; exact sz (by omega))), (by first | exact sz (by omega) | (simp only [str_app_len]; exact sz (by omega))), (by first | exact sz (by omega) | (simp only [str_app_len]; exact sz (by omega))), (by first | exact sz (by omega) | (simp only [str_app_len]; exact sz (by omega))), (by first | exact sz (by omega) | (simp only [str_app_len]; exact sz (by omega))), (by first | exact sz (by omega) | (simp only [str_app_len]; exact sz (by omega))), (by first | exact sz (by omega) | (simp only [str_app_len]; exact sz (by omega))), (by first | exact sz (by omega) | (simp only [str_app_len]; exact sz (by omega))), (by first | exact sz (by omega) | (simp only [str_app_len]; exact sz (by omega))), (by first | exact sz (by omega) | (simp only [str_app_len]; exact sz (by omega))), szr rfl, fun p2 H2 m2 s2 t2 => ⟨_, _, s2 _ _ t1, t2, szr rfl, fun p3 H3 m3 s3 t3 => ?_⟩⟩
  refine ⟨(by first | exact sz (by omega) | (simp only [str_app_len]; exact sz (by omega))), (by first | exact sz (by omega) | (simp only [str_app_len]; exact sz (by omega))), (by first | exact sz (by omega) | (simp only [str_app_len]; exact sz (by omega))), (by first | exact sz (by omega) | (simp only [str_app_len]; exact sz (by omega))), (by first | exact sz (by omega) | (simp only [str_app_len]; exact sz (by omega))), (by first | exact sz (by omega) | (simp only [str_app_len]; exact sz (by omega))), (by first | exact sz (by omega) | (simp only [str_app_len]; exact sz (by omega))), (by first | exact sz (by omega) | (simp only [str_app_len]; exact sz (by omega))), (by first | exact sz (by omega) | (simp only [str_app_len]; exact sz (by omega))), (by first | exact sz (by omega) | (simp only [str_app_len]; exact sz (by omega))), szr rfl, fun p4 H4 m4 s4 t4 => ⟨_, _, s4 _ _ t3, t4, szr rfl, fun p5 H5 m5 s5 t5 => ?_⟩⟩
  have e60 : (10 : Int) ^ (60 : Int).toNat = 10 ^ 60 := rfl
  refine ⟨(by first | exact sz (by omega) | (simp only [str_app_len]; exact sz (by omega))), (by first | exact sz (by omega) | (simp only [str_app_len]; exact sz (by omega))), (by first | exact sz (by omega) | (simp only [str_app_len]; exact sz (by omega))), p60, ?_⟩
  rw [e60]
  refine ⟨by decide, (show _ + (numS (10 ^ 60)).length ≤ sizeLine from (by first | exact sz (by omega) | (simp only [str_app_len]; exact sz (by omega)))), (by first | exact sz (by omega) | (simp only [str_app_len]; exact sz (by omega))), (by first | exact sz (by omega) | (simp only [str_app_len]; exact sz (by omega))), (by first | exact sz (by omega) | (simp only [str_app_len]; exact sz (by omega))), by decide, by decide, by omega, by omega, (show _ + (repS "0" 60).length ≤ sizeLine from (by first | exact sz (by omega) | (simp only [str_app_len]; exact sz (by omega)))), szr rfl, fun p6 H6 m6 s6 t6 => ⟨_, _, s6 _ _ t5, t6, szr rfl, fun p7 H7 m7 s7 t7 => ?_⟩⟩
  refine ⟨(by first | exact sz (by omega) | (simp only [str_app_len]; exact sz (by omega))), (by first | exact sz (by omega) | (simp only [str_app_len]; exact sz (by omega))), (by first | exact sz (by omega) | (simp only [str_app_len]; exact sz (by omega))), (by first | exact sz (by omega) | (simp only [str_app_len]; exact sz (by omega))), (by first | exact sz (by omega) | (simp only [str_app_len]; exact sz (by omega))), (by first | exact sz (by omega) | (simp only [str_app_len]; exact sz (by omega))), szr rfl, fun p8 H8 m8 s8 t8 => ⟨_, _, s8 _ _ t7, t8, szr rfl, fun p9 H9 m9 s9 t9 => ?_⟩⟩
  have t9 : H9 p9 = some (.lst ((odds10 one other).map V.str)) := t9
  obtain ⟨z, hz, ez⟩ := at_map V.str (xs := odds10 one other) (i := c % 14) (Int.emod_nonneg _ (by decide)) (Int.emod_lt_of_pos c (show (0 : Int) < 14 by decide))
  refine ⟨by decide, _, _, SqL.of t9, ez, q z H9 ((((((((s1.trans s2).trans s3).trans s4).trans s5).trans s6).trans s7).trans s8).trans s9) ?_⟩
  clear t1 t2 t3 t4 t5 t6 t7 t8 t9 ez
  have f1 := g1.fr
  have f2 := g2.fr
  have lit : ∀ (a b : Str), (" " ++ b : Str) = a → ∀ x : Str, x ++ a = x ++ " " ++ b := fun a b e x => by rw [← e, str_assoc]
  have fe : Fr "" := ⟨by decide +kernel, by decide +kernel⟩
  have figs : ∀ (w : Str) (l : List Nat), (figsOf w).cps.toList = l → Rise w → (l ≠ [] ∧ (∀ c ∈ l, 48 ≤ c ∧ c ≤ 57) ∧ ∀ d r, l = d :: r → r ≠ [] → d ≠ 48) := fun w l e r => by
    have f := figs_of_rise r
    refine ⟨fun z => f.ne (TL.ext_tl (by show (figsOf w).cps.toList = _; rw [e, z]; exact none_tl.symm)), by rw [← e]; exact f.all, by rw [← e]; exact f.hd⟩
  have M := hz
  unfold odds10 at M
  simp only [List.mem_cons, List.not_mem_nil, or_false] at M
  rcases M with rfl | rfl | rfl | rfl | rfl | rfl | rfl | rfl | rfl | rfl | rfl | rfl | rfl | rfl
  · exact odd_of (ws := [one, other]) (join2 one other).symm (by simp) (fun w hw => by
      simp only [List.mem_cons, List.not_mem_nil, or_false] at hw
      rcases hw with rfl | rfl <;> assumption) (fun x y w h => by simp at h) (by simp only [str_app_len]; omega) (by simp only [str_app_len]; omega)
  · refine odd4 (a := one) (b := "") (c := other) (d := "1") ?_ f1 fe f2 ⟨by decide +kernel, by decide +kernel⟩ (by simp only [str_app_len]; omega) (by simp only [str_app_len]; omega)
    rw [lit " 1" "1" (by decide +kernel), ← show (" " ++ "" ++ " " : Str) = "  " by decide +kernel, str_assoc one, str_assoc one, str_assoc (" " : Str)]
    simp only [str_assoc]
  · exact odd3 (a := one) (b := other) (c := "01") (lit " 01" "01" (by decide +kernel) _) f1 f2 ⟨by decide +kernel, by decide +kernel⟩ (fun _ _ r => (figs "01" [48, 49] (by decide +kernel) r).2.2 48 [49] rfl (by decide) rfl) (by simp only [str_app_len]; omega) (by simp only [str_app_len]; omega)
  · exact odd3 (a := one) (b := other) (c := "-0") (lit " -0" "-0" (by decide +kernel) _) f1 f2 ⟨by decide +kernel, by decide +kernel⟩ (fun _ _ r => (figs_of_rise r).nz rfl) (by simp only [str_app_len]; omega) (by simp only [str_app_len]; omega)
  · exact odd3 (a := one) (b := other) (c := "+1") (lit " +1" "+1" (by decide +kernel) _) f1 f2 ⟨by decide +kernel, by decide +kernel⟩ (fun _ _ r => absurd ((figs "+1" [43, 49] (by decide +kernel) r).2.1 43 (by decide)) (by decide)) (by simp only [str_app_len]; omega) (by simp only [str_app_len]; omega)
  · refine odd4 (a := one) (b := other) (c := "1") (d := "") ?_ f1 f2 ⟨by decide +kernel, by decide +kernel⟩ fe (by simp only [str_app_len]; omega) (by simp only [str_app_len]; omega)
    rw [← show (" " ++ "1" ++ " " ++ "" : Str) = " 1 " by decide +kernel]
    simp only [str_assoc]
  · have fA : Fr ("A" ++ cutS one (some 1) none) := by
      have sub : ∀ x ∈ ("A" ++ cutS one (some 1) none : Str).cps.toList, x = 65 ∨ x ∈ one.cps.toList := fun x hx => by
        rw [str_app_codes, cut_rest] at hx
        rcases List.mem_append.mp hx with h | h
        · have e : ("A" : Str).cps.toList = [65] := by decide +kernel
          rw [e] at h
          exact .inl (List.mem_singleton.mp h)
        · exact .inr (List.mem_of_mem_drop h)
      exact ⟨fun m => by rcases sub _ m with h | h; (· omega); exact f1.1 h, fun m => by rcases sub _ m with h | h; (· omega); exact f1.2 h⟩
    refine odd3 (a := "A" ++ cutS one (some 1) none) (b := other) (c := "1") (lit " 1" "1" (by decide +kernel) _) fA f2 ⟨by decide +kernel, by decide +kernel⟩ (fun pa _ _ => ?_) (by simp only [str_app_len]; omega) (by simp only [str_app_len]; omega)
    have := pa.signs 65 (by
      rw [str_app_codes]
      exact List.mem_append_left _ (by decide +kernel))
    omega
  · have f8 : Fr (one ++ "abcdefgh") := ⟨fun m => by rw [str_app_codes] at m; rcases List.mem_append.mp m with h | h; (· exact f1.1 h); exact absurd h (by decide +kernel), fun m => by rw [str_app_codes] at m; rcases List.mem_append.mp m with h | h; (· exact f1.2 h); exact absurd h (by decide +kernel)⟩
    refine odd3 (a := one ++ "abcdefgh") (b := other) (c := "0") ?_ f8 f2 ⟨by decide +kernel, by decide +kernel⟩ (fun pa _ _ => ?_) (by simp only [str_app_len]; omega) (by simp only [str_app_len]; omega)
    · rw [lit " 0" "0" (by decide +kernel), ← show ("abcdefgh" ++ " " : Str) = "abcdefgh " by decide +kernel]
      simp only [str_assoc]
    · have := pa.sz
      have e8 : ("abcdefgh" : Str).length = 8 := by decide +kernel
      rw [str_app_len] at this
      omega
  · refine odd4 (a := "") (b := one) (c := other) (d := "0") ?_ fe f1 f2 ⟨by decide +kernel, by decide +kernel⟩ (by simp only [str_app_len]; omega) (by simp only [str_app_len]; omega)
    rw [lit " 0" "0" (by decide +kernel), show ("" ++ " " : Str) = " " by decide +kernel]
  · exact odd3 (a := one) (b := other) (c := "--1") (lit " --1" "--1" (by decide +kernel) _) f1 f2 ⟨by decide +kernel, by decide +kernel⟩ (fun _ _ r => absurd ((figs "--1" [45, 49] (by decide +kernel) r).2.1 45 (by decide)) (by decide)) (by simp only [str_app_len]; omega) (by simp only [str_app_len]; omega)
  · exact odd3 (a := one) (b := other) (c := numS (10 ^ 60)) rfl f1 f2 ⟨fun m => by rcases numS_signs _ _ m with h | h <;> omega, fun m => by rcases numS_signs _ _ m with h | h <;> omega⟩ (fun _ _ r => no_big r) (by simp only [str_app_len]; omega) (by simp only [str_app_len]; omega)
  · have cw : ("-1" ++ repS "0" 60 : Str).cps.toList = 45 :: 49 :: (List.replicate 60 [48]).flatten := by
      rw [str_app_codes, repS_tl, show ("-1" : Str).cps.toList = [45, 49] by decide +kernel, show ("0" : Str).cps.toList = [48] by decide +kernel]
      rfl
    have sub : ∀ x ∈ ("-1" ++ repS "0" 60 : Str).cps.toList, x = 45 ∨ x = 49 ∨ x = 48 := fun x hx => by
      rw [cw] at hx
      rcases List.mem_cons.mp hx with h | hx
      · exact .inl h
      rcases List.mem_cons.mp hx with h | hx
      · exact .inr (.inl h)
      · obtain ⟨y, hy, hx⟩ := List.mem_flatten.mp hx
        rw [(List.mem_replicate.mp hy).2] at hx
        exact .inr (.inr (List.mem_singleton.mp hx))
    refine odd3 (a := one) (b := other) (c := "-1" ++ repS "0" 60) ?_ f1 f2 ⟨fun m => by rcases sub _ m with h | h | h <;> omega, fun m => by rcases sub _ m with h | h | h <;> omega⟩ (fun _ _ r => ?_) (by simp only [str_app_len]; omega) (by simp only [str_app_len]; omega)
    · rw [← show (" " ++ "-1" : Str) = " -1" by decide +kernel]
      simp only [str_assoc]
    · have le := (figs_of_rise r).le
      have e := figs_minus_len (w := "-1" ++ repS "0" 60) (by rw [cw]; rfl)
      have e1 : ("-1" : Str).length = 2 := by decide +kernel
      rw [str_app_len] at e
      omega
  · refine ⟨(by simp only [str_app_len]; omega), (by simp only [str_app_len]; omega), .inr ⟨one.cps.toList ++ 32 :: (other.cps.toList ++ [32, 49]), ?_, fun m => ?_⟩⟩
    · simp only [str_app_codes, blank_tl, show (" 1;" : Str).cps.toList = [32, 49, 59] by decide +kernel, List.append_assoc, List.cons_append, List.nil_append]
    · rcases List.mem_append.mp m with h | m
      · exact f1.2 h
      rcases List.mem_cons.mp m with h | m
      · omega
      rcases List.mem_append.mp m with h | m
      · exact f2.2 h
      · exact absurd m (by decide)
  · exact odd3 (a := one) (b := other) (c := "-") (lit " -" "-" (by decide +kernel) _) f1 f2 ⟨by decide +kernel, by decide +kernel⟩ (fun _ _ r => (figs "-" [] (by decide +kernel) r).1 rfl) (by simp only [str_app_len]; omega) (by simp only [str_app_len]; omega)
/-! ### _law_no_text -/
abbrev N__law_no_text : List Str := ["_law_sightings", "_law_most", "_law_some", "_law_cell", "_law_pieces", "_law_sighting_here", "_law_at", "_law_odd", "_law_text_here"]
def sp__law_no_text (K : PySem.W.Frag) (A : Ad) : Sp := fun vs H Q _ => ∃ (p pp : Addr) (M cell : Int) (xs : List V) (l : List Sg) (P : List Str), vs = [.ref p, .int M, .ref pp, .int cell] ∧ SqL K H p xs ∧ DpAll K H xs (l.map sgD) ∧ (∀ s ∈ l, GoodS s) ∧ l.length ≤ 64 ∧ 0 ≤ M ∧ 0 ≤ cell ∧
  SqL K H pp (P.map V.str) ∧ (∀ z ∈ P, Pg z) ∧ P ≠ [] ∧ P.length < 60 ∧ ∀ H', Same H H' → Q (.bl true) H'
def t__law_no_text (K : PySem.W.Frag) (A : Ad) : TS :=
  (tSeq (tAsg (uLc (iList K (uVar 0)) (gName 5) tYes (tCall (sp__law_piece K) [] E0 (tCons (uVar 5) tNil)) [5]) (gName 4))
  (tSeq (tAsg (tOp kMod (tOp kDiv (uVar 3) (tC (.int 14))) (tOp kAdd (tCB (cLenQ K) (tCons (uVar 4) tNil)) (tC (.int 1)))) (gName 6))
  (tSeq (tAsg (tCall (sp__law_odd_piece K) [] E0 (tCons (tOp (cIxL K) (uVar 2) (tC (.int 0))) (tCons (tOp (cIxL K) (uVar 2) (tOp kMod (tOp kDiv (uVar 3) (tC (.int 7))) (tCB (cLenQ K) (tCons (uVar 2) tNil)))) (tCons (uVar 3) tNil)))) (gName 7))
  (tSeq (tAsg (tM1 (cJoin K) (tC (.str "; ")) (tOp cCat (tOp cCat (tSl (cSlL K) (uVar 4) tNoPart (uPart (uVar 6))) (uLst (tCons (uVar 7) tNil))) (tSl (cSlL K) (uVar 4) (uPart (uVar 6)) tNoPart))) (gName 8))
  (Evl.tCut (uIfS (uAnd (uT (tOp kEqI (tOp kMod (uVar 3) (tC (.int 3))) (tC (.int 0)))) (uT (tOp kGt (tCB (cLenQ K) (tCons (uVar 4) tNil)) (tC (.int 1)))))
  (tAsg (tM1 (cJoin K) (tC (.str ";")) (uVar 4)) (gName 8))
  tNext)
  (tRet (tCall (sp__law_refused K A) [] E0 (tCons (uVar 8) (tCons (uVar 1) (tCons (uTup (tCons (tC (.str "text")) (tCons (uLst tNil) (tCons (tC .non) (tCons (tC (.int 0)) tNil))))) tNil))))))))))
def headB : List Nat → Bool
  | [] => false
  | c :: _ => decide (c = 32)
/-- behind each semicolon a blank -/
def semiB : List Nat → Bool
  | [] => true
  | c :: r => if c = 59 then (headB r && semiB r) else semiB r
theorem semi_free : ∀ (p q : List Nat), 59 ∉ p → semiB (p ++ q) = semiB q
  | [], q, _ => rfl
  | c :: p, q, h => by
    have hc : ¬ c = 59 := fun e => h (by rw [e]; exact List.mem_cons_self ..)
    have ih := semi_free p q fun m => h (List.mem_cons_of_mem _ m)
    show (if c = 59 then (headB (p ++ q) && semiB (p ++ q)) else semiB (p ++ q)) = _
    rw [if_neg hc, ih]
theorem semi_sep (q : List Nat) : semiB (59 :: 32 :: q) = semiB q := by
  show (if (59 : Nat) = 59 then (headB (32 :: q) && (if (32 : Nat) = 59 then (headB q && semiB q) else semiB q)) else _) = semiB q
  rw [if_pos rfl, if_neg (by decide)]
  rfl
theorem joinL_cons {S p : List Nat} : ∀ {ps : List (List Nat)}, ps ≠ [] → TL.joinL S (p :: ps) = p ++ (S ++ TL.joinL S ps)
  | [], h => absurd rfl h
  | _ :: _, _ => rfl
theorem semi_join : ∀ ps : List (List Nat), (∀ p ∈ ps, 59 ∉ p) → semiB (TL.joinL [59, 32] ps) = true
  | [], _ => rfl
  | [p], h => by
    have e := semi_free p [] (h p (List.mem_cons_self ..))
    rw [List.append_nil] at e
    exact e
  | p :: q :: r, h => by
    show semiB (p ++ (59 :: 32 :: TL.joinL [59, 32] (q :: r))) = true
    rw [semi_free _ _ (h p (List.mem_cons_self ..)), semi_sep]
    exact semi_join (q :: r) fun x hx => h x (List.mem_cons_of_mem _ hx)
theorem join_codes (y : Str) (ps : List Str) : (Txt.join y ps).cps.toList = TL.joinL y.cps.toList (ps.map TL.tl) := by
  rw [TL.join_eq]
  exact TL.tl_join _ _
theorem told_semi {z : Str} (h : Told z) : semiB z.cps.toList = true := by
  obtain ⟨l, g, e⟩ := h
  have e2 := join_codes "; " (l.map showS)
  have e3 : z.cps.toList = TL.joinL [59, 32] ((l.map showS).map TL.tl) := by
    rw [e, ← semi_tl]
    exact e2
  rw [e3]
  refine semi_join _ fun p hp => ?_
  obtain ⟨y, hy, rfl⟩ := List.mem_map.mp hp
  obtain ⟨s, hs, rfl⟩ := List.mem_map.mp hy
  exact (g s hs).free
theorem semi_bad (o : List Nat) (ho : 59 ∉ o) (B : List (List Nat)) : ∀ A : List (List Nat), (∀ p ∈ A, 59 ∉ p) → semiB (TL.joinL [59, 32] (A ++ (o ++ [59]) :: B)) = false
  | [], _ => by
    cases B with
    | nil =>
      show semiB (o ++ [59]) = false
      rw [semi_free _ _ ho]
      rfl
    | cons b B =>
      show semiB ((o ++ [59]) ++ (59 :: 32 :: TL.joinL [59, 32] (b :: B))) = false
      rw [List.append_assoc, semi_free _ _ ho]
      rfl
  | a :: A, h => by
    have ne : A ++ (o ++ [59]) :: B ≠ [] := by simp
    show semiB (TL.joinL [59, 32] (a :: (A ++ (o ++ [59]) :: B))) = false
    rw [joinL_cons ne, semi_free _ _ (h a (List.mem_cons_self ..))]
    show semiB (59 :: 32 :: TL.joinL [59, 32] (A ++ (o ++ [59]) :: B)) = false
    rw [semi_sep]
    exact semi_bad o ho B A fun p hp => h p (List.mem_cons_of_mem _ hp)
theorem semi_tight {p q : List Nat} {c : Nat} {r : List (List Nat)} (hp : 59 ∉ p) (hc : c ≠ 32) : semiB (TL.joinL [59] (p :: (c :: q) :: r)) = false := by
  show semiB (p ++ (59 :: TL.joinL [59] ((c :: q) :: r))) = false
  rw [semi_free _ _ hp]
  obtain ⟨t, et⟩ : ∃ t, TL.joinL [59] ((c :: q) :: r) = c :: t := by
    cases r with
    | nil => exact ⟨q, rfl⟩
    | cons a r => exact ⟨_, rfl⟩
  rw [et]
  show (if (59 : Nat) = 59 then (headB (c :: t) && semiB (c :: t)) else _) = false
  rw [if_pos rfl]
  have e0 : headB (c :: t) = false := decide_eq_false hc
  rw [e0]
  rfl
theorem put_not {l : List Sg} (g : ∀ s ∈ l, GoodS s) {o : Str} (ho : OddP o) (k : Nat) : ¬ Told (Txt.join "; " ((l.map showS).take k ++ [o] ++ (l.map showS).drop k)) := fun h => by
  have fr : ∀ y ∈ l.map showS, 59 ∉ y.cps.toList := fun y hy => by
    obtain ⟨s, hs, rfl⟩ := List.mem_map.mp hy
    exact (g s hs).free
  obtain ⟨h1, h2, ⟨f, ns⟩ | ⟨w, ew, fw⟩⟩ := ho
  · have hne : ((l.map showS).take k ++ [o] ++ (l.map showS).drop k) ≠ [] := by simp
    have es : Txt.split (Txt.join "; " ((l.map showS).take k ++ [o] ++ (l.map showS).drop k)) "; " = (l.map showS).take k ++ [o] ++ (l.map showS).drop k := TL.split_join (s := 59) (S := [32]) semi_tl (by decide +kernel) hne fun y hy => by
      rcases List.mem_append.mp hy with hy | hy
      · rcases List.mem_append.mp hy with hy | hy
        · exact fr y (List.mem_of_mem_take hy)
        · rw [List.mem_singleton.mp hy]
          exact f
      · exact fr y (List.mem_of_mem_drop hy)
    have mo : o ∈ (l.map showS).take k ++ [o] ++ (l.map showS).drop k := by simp
    have zne : Txt.join "; " ((l.map showS).take k ++ [o] ++ (l.map showS).drop k) ≠ "" := fun e => by
      have q := (split_len (z := Txt.join "; " ((l.map showS).take k ++ [o] ++ (l.map showS).drop k)) semi_1).2 o (by rw [es]; exact mo)
      rw [e] at q
      have e0 : ("" : Str).length = 0 := by decide +kernel
      omega
    exact ns ((told_parts zne).mp h o (by rw [es]; exact mo))
  · have e := told_semi h
    rw [join_codes, semi_tl, List.map_append, List.map_append] at e
    have e2 : ((l.map showS).take k).map TL.tl ++ [o].map TL.tl ++ ((l.map showS).drop k).map TL.tl = ((l.map showS).take k).map TL.tl ++ (w ++ [59]) :: ((l.map showS).drop k).map TL.tl := by
      have eo : TL.tl o = w ++ [59] := ew
      rw [List.append_assoc]
      show _ ++ (TL.tl o :: _) = _
      rw [eo]
      rfl
    rw [e2, semi_bad w fw] at e
    · cases e
    · intro y hy
      obtain ⟨x, hx, rfl⟩ := List.mem_map.mp hy
      exact fr x (List.mem_of_mem_take hx)
theorem tight_not {l : List Sg} (g : ∀ s ∈ l, GoodS s) (h : 1 < l.length) : ¬ Told (Txt.join ";" (l.map showS)) := fun t => by
  have e := told_semi t
  rw [join_codes, show (";" : Str).cps.toList = [59] by decide +kernel] at e
  match l, g, h, e with
  | s :: u :: l, g, _, e =>
    obtain ⟨c, q, ec, hc⟩ : ∃ c q, TL.tl (showS u) = c :: q ∧ c ≠ 32 := by
      have gu := g u (List.mem_cons_of_mem _ (List.mem_cons_self ..))
      have e1 : (showS u).cps.toList = u.1.cps.toList ++ 32 :: (u.2.1.cps.toList ++ 32 :: (numS u.2.2).cps.toList) := showR_tl _ _ _
      have p1 := gu.one.pos
      rw [str_len] at p1
      cases ez : u.1.cps.toList with
      | nil => rw [ez] at p1; exact absurd p1 (by decide)
      | cons c q =>
        refine ⟨c, q ++ 32 :: (u.2.1.cps.toList ++ 32 :: (numS u.2.2).cps.toList), ?_, fun z => ?_⟩
        · show (showS u).cps.toList = _
          rw [e1, ez]
          rfl
        · have := gu.one.signs c (by rw [ez]; exact List.mem_cons_self ..)
          omega
    have e : semiB (TL.joinL [59] (TL.tl (showS s) :: TL.tl (showS u) :: (l.map showS).map TL.tl)) = true := e
    rw [ec, semi_tight (g s (List.mem_cons_self ..)).free hc] at e
    cases e
theorem rd__law_no_text {K : PySem.W.Frag} {A : Ad} (T : Tx K A) {vs : List V} {H : Hp} {Q : VK} {E : XK} (h : sp__law_no_text K A vs H Q E) : t__law_no_text K A { nx := fun _ H' => Q .non H', rt := Q } (start N__law_no_text vs) H := by
  obtain ⟨p, pp, M, cell, xs, l, P, rfl, hS, al, gl, hlen, m0, c0, hpp, pz, Pne, Pl, q⟩ := h
  have hx : xs.length = l.length := by rw [dpAll_length al, List.length_map]
  have pl : (P.map V.str).length = P.length := List.length_map ..
  have Ppos : 0 < P.length := List.length_pos_iff.mpr Pne
  refine lc_shown (l := l) hS hx (by omega) (fun R k => k) (fun x => rfl) (fun i x s H2 R ex es s2 k => ?_) fun p1 H1 n1 s1 t1 => ?_
  · obtain ⟨d0, hd0, dx1⟩ := dpAll_get al ex
    rw [List.getElem?_map, es] at hd0
    cases hd0
    exact ⟨x, s, rfl, dp_mono s2 dx1, gl s (List.mem_of_getElem? es), k H2 (Same.refl H2)⟩
  have wl : ((l.map showS).map V.str).length = l.length := by rw [List.length_map, List.length_map]
  refine ⟨by decide, _, .inl (SqL.of t1), by rw [wl]; omega, ?_⟩
  have k0 := Int.emod_nonneg (cell / 14) (show (((l.map showS).map V.str).length : Int) + 1 ≠ 0 by omega)
  have k1 := Int.emod_lt_of_pos (cell / 14) (show (0 : Int) < (((l.map showS).map V.str).length : Int) + 1 by omega)
  obtain ⟨k, ek⟩ : ∃ k : Nat, cell / 14 % ((((l.map showS).map V.str).length : Int) + 1) = (k : Int) := ⟨_, (Int.toNat_of_nonneg k0).symm⟩
  have hpp1 := same_l s1 hpp
  obtain ⟨one, mo, eo⟩ := at_map V.str (xs := P) (i := 0) (by omega) (by omega)
  obtain ⟨other, mt, et⟩ := at_map V.str (xs := P) (i := cell / 7 % ((P.map V.str).length : Int)) (Int.emod_nonneg _ (by omega)) (by rw [pl]; exact Int.emod_lt_of_pos _ (by omega))
  refine ⟨_, _, hpp1, eo, by decide, _, .inl hpp1, by rw [pl]; omega, _, _, hpp1, et, one, other, cell, rfl, pz _ mo, pz _ mt, fun o H2 s2 hodd => ?_⟩
  have sm := all_sum gl
  refine ⟨⟨_, rfl⟩, _, SqL.of (s2 _ _ t1), fun p4 H4 n4 s4 t4 => ⟨szr rfl, fun p5 H5 n5 s5 t5 => ⟨_, _, s5 _ _ t4, t5, ?_, fun p6 H6 n6 s6 t6 => ⟨_, SqL.of (s6 _ _ (s5 _ _ (s4 _ _ (s2 _ _ t1)))), fun p7 H7 n7 s7 t7 => ⟨_, _, s7 _ _ t6, t7, ?_, fun p8 H8 n8 s8 t8 => ?_⟩⟩⟩⟩⟩
  · rw [ek, cut_take, List.length_take, wl]
    exact sz (by simp only [List.length_cons, List.length_nil]; omega)
  · rw [ek, cut_take, cut_drop, List.length_append, List.length_take, List.length_drop, wl]
    exact sz (by simp only [List.length_cons, List.length_nil]; omega)
  rw [ek, cut_take, cut_drop] at t8
  have t8 : H8 p8 = some (.lst (((l.map showS).take k ++ [o] ++ (l.map showS).drop k).map V.str)) := by
    rw [t8]
    simp [List.map_take, List.map_drop]
  have sumb : (((l.map showS).take k ++ [o] ++ (l.map showS).drop k).map (·.length)).sum ≤ 79 * l.length + 100 := by
    have e1 : (((l.map showS).take k).map (·.length)).sum + (((l.map showS).drop k).map (·.length)).sum = ((l.map showS).map (·.length)).sum := by
      rw [← List.sum_append, ← List.map_append, List.take_append_drop]
    have lo := hodd.2.1
    rw [List.map_append, List.map_append, List.sum_append, List.sum_append]
    simp only [List.map_cons, List.map_nil, List.sum_cons, List.sum_nil]
    omega
  have cnt : ((l.map showS).take k ++ [o] ++ (l.map showS).drop k).length ≤ l.length + 1 := by
    rw [List.length_append, List.length_append, List.length_take, List.length_drop, List.length_map]
    simp only [List.length_cons, List.length_nil]
    omega
  have jl := join_len "; " ((l.map showS).take k ++ [o] ++ (l.map showS).drop k)
  rw [semi_len] at jl
  refine ⟨_, SqL.of t8, by rw [semi_len]; omega, ?_⟩
  have nt1 := put_not gl hodd k
  have lz1 : (Txt.join "; " ((l.map showS).take k ++ [o] ++ (l.map showS).drop k)).length ≤ 6000 := by omega
  generalize Txt.join "; " ((l.map showS).take k ++ [o] ++ (l.map showS).drop k) = z1 at nt1 lz1
  have s08 : Same H H8 := (((((s1.trans s2).trans s4).trans s5).trans s6).trans s7).trans s8
  have t18 : H8 p1 = some (.lst ((l.map showS).map V.str)) := s8 _ _ (s7 _ _ (s6 _ _ (s5 _ _ (s4 _ _ (s2 _ _ t1)))))
  refine ⟨fun σ' H' => H' = H8 ∧ ∃ (z : Str) (w5 w6 w7 : Option V), ¬ Told z ∧ z.length ≤ 6000 ∧ σ' = [some (.ref p), some (.int M), some (.ref pp), some (.int cell), some (.ref p1), w5, w6, w7, some (.str z)], ?_, ?_⟩
  · refine ⟨by decide, ⟨fun _ => ⟨_, .inl (SqL.of t18), ⟨fun e => ⟨⟨_, rfl⟩, l.map showS, SqL.of t18, ?_, rfl, Txt.join ";" (l.map showS), _, _, _, tight_not gl ?_, ?_, rfl⟩, fun _ => ⟨rfl, z1, _, _, _, nt1, lz1, rfl⟩⟩⟩, fun _ => br_f ⟨rfl, z1, _, _, _, nt1, lz1, rfl⟩⟩⟩
    · have e1 : (";" : Str).length = 1 := by decide +kernel
      rw [e1, List.length_map]
      omega
    · have e := of_decide_eq_true e
      rw [wl] at e
      omega
    · have j2 := join_len ";" (l.map showS)
      have e1 : (";" : Str).length = 1 := by decide +kernel
      rw [e1, List.length_map] at j2
      omega
  rintro σ' H' ⟨rfl, z, w5, w6, w7, nt, lz, rfl⟩
  refine ⟨szr rfl, fun p9 H9 n9 s9 t9 => ⟨szr rfl, fun t H10 n10 s10 t10 => ⟨z, M, .ref t, dueD "text" [] .none (some 0), rfl, lz, m0, .inl ⟨nt, rfl⟩, .tup (SqT.of t10) (.cons (.str _) (.cons (.lst (SqL.of (s10 _ _ t9)) .nil) (.cons .non (.cons (.int _) .nil)))), fun H11 s11 => q H11 (((s08.trans s9).trans s10).trans s11)⟩⟩⟩
/-! ### law -/
abbrev N_law : List Str := ["_law_script", "_law_some", "_law_highs_here", "_law_cell", "_law_most", "_law_sightings", "_law_k", "_law_book", "_law_rows_here", "_law_left", "_law_row", "_law_again"]
def sp_law (K : PySem.W.Frag) : Sp := fun vs H Q _ => ∃ (a : Addr) (ns : List Int), vs = [.ref a] ∧ SqL K H a (ns.map V.int) ∧ ns.length ≤ 63 ∧ ∀ (H' : Hp), Q (.bl true) H'
def t_law (K : PySem.W.Frag) (A : Ad) : TS :=
  (tSeq (tAsg (tCall (sp__law_pegs K) [] E0 (tCons (tCall (sp__law_cell_at K) [] E0 (tCons (uVar 0) (tCons (tC (.int 0)) tNil))) (tCons (tOp kAdd (tC (.int 2)) (tOp kMod (tCall (sp__law_cell_at K) [] E0 (tCons (uVar 0) (tCons (tC (.int 1)) tNil))) (tC (.int 6)))) tNil))) (gName 1))
  (tSeq (tAsg (tCall (sp__law_highs K) [] E0 (tCons (uVar 1) (tCons (tCall (sp__law_cell_at K) [] E0 (tCons (uVar 0) (tCons (tC (.int 2)) tNil))) tNil))) (gName 2))
  (tSeq (tAsg (tOp kMod (tOp kMul (tOp kAdd (tOp kMod (tCall (sp__law_cell_at K) [] E0 (tCons (uVar 0) (tCons (tC (.int 3)) tNil))) (tC (.int 1000003))) (tC (.int 5))) (tC (.int 48271))) (tC (.int 1000003))) (gName 3))
  (tSeq (tAsg (tOp kMod (uVar 3) (tC (.int 41))) (gName 4))
  (Evl.tCut (uIfS (uT (tOp kEqI (tOp kMod (tOp kDiv (uVar 3) (tC (.int 41))) (tC (.int 3))) (tC (.int 0))))
  (tAsg (tC (.int 200)) (gName 4))
  tNext)
  (tSeq (tAsg (uLc (iRng2 (tCons (tC (.int 4)) (tCons (tCB cMin (tCons (tCB (cLenQ K) (tCons (uVar 0) tNil)) (tCons (tC (.int 64)) tNil))) tNil))) (gName 6) tYes (tCall (sp__law_sighting K) [] E0 (tCons (uVar 1) (tCons (uVar 2) (tCons (tOp (cIxL K) (uVar 0) (uVar 6)) (tCons (uVar 6) tNil))))) [6]) (gName 5))
  (tSeq (tAsg (tMake A.Book (sp_Book___init__ K A) [.int 200] E0 tNil) (gName 7))
  (tSeq (tAsg (tCall (sp__law_kept K A) [] E0 (tCons (uVar 7) (tCons (uVar 5) (tCons (tSl (cSlL K) (uVar 0) (uPart (tC (.int 4))) (uPart (tC (.int 64)))) tNil)))) (gName 8))
  (tSeq (uIfS (uOr (uT (tOp (cNon true) (uVar 8) (tC .non))) (uNot (uT (tCall (sp__law_told K A) [] E0 (tCons (uVar 7) (tCons (uVar 8) (tCons (uVar 1) (tCons (uVar 3) tNil))))))))
  (tRet (tC (.bl false)))
  tNext)
  (tSeq (tAsg (uLc (iList K (uVar 8)) (gName 10) tYes (tSl (cSlT K) (uVar 10) (uPart (tC (.int 1))) tNoPart) [10]) (gName 9))
  (tSeq (tAsg (tCall (sp_read K A) [.int 200] E0 (tCons (tCall (sp__law_text K) [] E0 (tCons (uVar 8) tNil)) tNil)) (gName 11))
  (tSeq (uIfS (uNot (uT (tCall (sp__law_told K A) [] E0 (tCons (uVar 11) (tCons (tCall (sp__law_numbered K) [] E0 (tCons (uVar 9) tNil)) (tCons (uVar 1) (tCons (tOp kDiv (uVar 3) (tC (.int 3))) tNil)))))))
  (tRet (tC (.bl false)))
  tNext)
  (tSeq (uIfS (uOr (uNot (uT (tCall (sp__law_reads K A) [] E0 (tCons (uVar 5) (tCons (uVar 4) (tCons (uVar 1) (tCons (uVar 3) tNil))))))) (uNot (uT (tCall (sp__law_reads K A) [] E0 (tCons (uVar 9) (tCons (uVar 4) (tCons (uVar 1) (tCons (uVar 3) tNil))))))))
  (tRet (tC (.bl false)))
  tNext)
  (tRet (tCall (sp__law_no_text K A) [] E0 (tCons (uVar 5) (tCons (uVar 4) (tCons (uVar 1) (tCons (tOp kMod (tOp kMul (uVar 3) (tC (.int 48271))) (tC (.int 999983))) tNil)))))))))))))))))))
theorem rd_law {K : PySem.W.Frag} {A : Ad} (T : Tx K A) {vs : List V} {H : Hp} {Q : VK} {E : XK} (h : sp_law K vs H Q E) : t_law K A { nx := fun _ H' => Q .non H', rt := Q } (start N_law vs) H := by
  obtain ⟨a, ns, rfl, hS, hn, q⟩ := h
  have hlen : (ns.map V.int).length = ns.length := List.length_map ..
  refine ⟨a, ns, 0, rfl, hS, by decide, fun c0 => ⟨a, ns, 1, rfl, hS, by decide, fun c1 => ⟨by decide, c0, 2 + c1 % 6, rfl, by omega, by omega, fun pp pool H1 n1 s1 t1 pl pz => ?_⟩⟩⟩
  have pb : 2 ≤ pool.length ∧ pool.length ≤ 7 := by omega
  have pne : pool ≠ [] := fun z => by
    rw [z] at pb
    exact absurd pb.1 (by decide)
  refine ⟨a, ns, 2, rfl, same_l s1 hS, by decide, fun c2 => ⟨pp, pool, c2, rfl, SqL.of t1, by omega, fun hd f H2 n2 s2 hf => ?_⟩⟩
  have s02 := s1.trans s2
  have hP2 : H2 pp = some (.lst (pool.map V.str)) := s2 _ _ t1
  refine ⟨a, ns, 3, rfl, same_l s02 hS, by decide, fun c3 => ⟨by decide, .inr (by decide), by decide, ?_⟩⟩
  have g0 : 0 ≤ (c3 % 1000003 + 5) * 48271 % 1000003 := Int.emod_nonneg _ (by decide)
  generalize (c3 % 1000003 + 5) * 48271 % 1000003 = cell at g0 ⊢
  refine ⟨by decide, fun σ' H' => H' = H2 ∧ ∃ M : Int, 0 ≤ M ∧ σ' = [some (.ref a), some (.ref pp), some (.ref hd), some (.int cell), some (.int M), none, none, none, none, none, none, none], ⟨by decide, by decide, ⟨fun _ => ⟨rfl, 200, by decide, rfl⟩, fun _ => ⟨rfl, _, by omega, rfl⟩⟩⟩, ?_⟩
  rintro σ' H2 ⟨rfl, M, M0, rfl⟩
  refine uLc_of ⟨_, .inl (same_l s02 hS), 4, _, rfl, ?_, fun D hD => ?_⟩
  · rw [hlen]
    refine ⟨by omega, by omega, ?_, ?_⟩ <;> split <;> omega
  refine lc_range (lo := 4) (n := ((if (64 : Int) < ((ns.map V.int).length : Int) then (64 : Int) else ((ns.map V.int).length : Int)) - 4).toNat) (fun i H' => Same H2 H' ∧ ∃ (l : List Sg) (ys : List V), H' D = some (.lst ys) ∧ DpAll K H' ys (l.map sgD) ∧ l.length = i ∧ (∀ s ∈ l, GoodS s) ∧ ∀ s ∈ l, s.1 ∈ pool ∧ s.2.1 ∈ pool) ⟨same_new hD, [], [], upd_same, .nil, rfl, (fun s h => nomatch h), fun s h => nomatch h⟩ ?_ ?_
  · rintro i H3 hi ⟨s3, l, ys, hD3, al, ll, gl, lP⟩
    rw [hlen] at hi
    have hik : (4 : Int) + i < ns.length ∧ (i : Int) < 60 := by split at hi <;> omega
    obtain ⟨cl, _, hc⟩ := at_map V.int (xs := ns) (i := 4 + (i : Int)) (by omega) hik.1
    have yl : ys.length = i := by rw [dpAll_length al, List.length_map, ll]
    refine ⟨rfl, _, _, same_l (s02.trans s3) hS, hc, pp, hd, pool, f, cl, _, rfl, SqL.of (s3 _ _ hP2), pne, by omega, hf.mono s3, fun t s H4 n4 s4 t4 m1 m2 bg => ⟨ys, s4 _ _ hD3, szl (by omega), same_mut (s3.trans s4) hD, l ++ [s], ys ++ [.ref t], upd_same, ?_, by rw [List.length_append, ll]; rfl, fun u hu => ?_, fun u hu => ?_⟩⟩
    · have tp2 : Tups H4 (upd H4 D (.lst (ys ++ [V.ref t]))) := (Tups.refl H4).mut (s4 _ _ hD3) True.intro
      have tp : Tups H3 (upd H4 D (.lst (ys ++ [V.ref t]))) := (tups_of s4).trans tp2
      rw [List.map_append]
      refine dpAll_append (TStay.all tp (fun d hd => ?_) al) (.cons (TStay.sg s K _ _ _ tp2 (sg_mk (SqT.of t4))) .nil)
      obtain ⟨u, _, rfl⟩ := List.mem_map.mp hd
      exact TStay.sg u
    · rcases List.mem_append.mp hu with hu | hu
      · exact gl u hu
      · rw [List.mem_singleton.mp hu]
        exact ⟨pz _ m1, pz _ m2, bg⟩
    · rcases List.mem_append.mp hu with hu | hu
      · exact lP u hu
      · rw [List.mem_singleton.mp hu]
        exact ⟨m1, m2⟩
  rintro H3 ⟨s3, l, ys, hD3, al, ll, gl, lP⟩
  have lb : l.length ≤ 60 ∧ (l.length : Int) ≤ (ns.length : Int) - 4 ∨ l.length = 0 := by
    rw [hlen] at ll
    split at ll <;> omega
  have s03 := s02.trans s3
  have hP3 := s3 _ _ hP2
  intro b dx nb ndx ne
  refine ⟨b, dx, 200, rfl, upd_same, fun d H4 nd c4 B => ⟨rfl, ?_⟩⟩
  have s4 : Same H3 H4 := made_same nb ndx c4
  refine ⟨_, same_l (s03.trans s4) hS, fun cs H5 n5 s5 t5 => ?_⟩
  have s35 := s4.trans s5
  have hD5 := s35 _ _ hD3
  have al5 := dpAll_mono s35 al
  have B5 := B.mono s5
  have hP5 := s35 _ _ hP3
  have e5 : cutV (ns.map V.int) (some 4) (some 64) = ((ns.drop (HT.sIx (ns.map V.int).length 0 (some 4))).take (HT.sIx (ns.map V.int).length (ns.map V.int).length (some 64) - HT.sIx (ns.map V.int).length 0 (some 4))).map V.int := by
    unfold cutV
    rw [List.map_take, List.map_drop]
  rw [e5] at t5
  have x1 : HT.sIx (ns.map V.int).length 0 (some 4) = min 4 ns.length := by
    rw [hlen]
    rfl
  have x2 : HT.sIx (ns.map V.int).length (ns.map V.int).length (some 64) = min 64 ns.length := by
    rw [hlen]
    rfl
  rw [x1, x2] at t5
  refine ⟨b, d, D, cs, ys, l, _, pool, rfl, B5, hD5, al5, gl, lP, by omega, t5, ?_, by omega, fun R taken rows zs H6 nR c6 tp6 B6 hR alR ag gd hPl rl => ?_⟩
  · rw [List.length_take, List.length_drop]
    omega
  have nD := B5.ne_lst hD5
  have nP := B5.ne_lst hP5
  have hD6 : H6 D = some (.lst ys) := c6 D _ (by simp [nD.1.symm, nD.2.symm]) hD5
  have hP6 : H6 pp = some (.lst (pool.map V.str)) := c6 pp _ (by simp [nP.1.symm, nP.2.symm]) hP5
  have al6 : DpAll K H6 ys (l.map sgD) := TStay.all tp6 (fun d hd => by
    obtain ⟨u, _, rfl⟩ := List.mem_map.mp hd
    exact TStay.sg u) al5
  refine br_f ⟨b, d, R, pp, 200, taken, cell, rows, zs, pool, rfl, B6, SqL.of hR, alR, ag, gd, SqL.of hP6, pz, by omega, hPl, by omega, fun H7 s7 => br_f ?_⟩
  have zl : zs.length = rows.length := by rw [dpAll_length alR, List.length_map]
  have gm := good_map gd
  have rm : (rows.map sgOf).length = rows.length := List.length_map ..
  refine lcd_list (K := K) (a := R) (xs := zs) (fun i => (rows[i]?).bind fun r => some (sgD (sgOf r))) (fun i dd hd => ?_) (SqL.of (s7 _ _ hR)) (fun R k => k) (by omega) (fun x => rfl) (fun i x H8 R' ex s8 k => ?_) (fun i x dd H8 R' ex hd s8 k => ?_) fun L H8 us n8 s8 t8 al8 => ?_
  · obtain ⟨r, _, e⟩ := Option.bind_eq_some_iff.mp hd
    cases e
    exact TStay.sg _
  · have hi : i < rows.length := by rw [← zl]; exact (List.getElem?_eq_some_iff.mp ex).1
    rw [List.getElem?_eq_getElem hi] at k
    exact k
  · obtain ⟨d0, hd0, dx1⟩ := dpAll_get alR ex
    rw [List.getElem?_map] at hd0
    obtain ⟨r, er, rfl⟩ := Option.map_eq_some_iff.mp hd0
    rw [er] at hd
    cases hd
    obtain ⟨t, rfl, ht⟩ := row_at (dp_mono (s7.trans s8) dx1)
    exact ⟨_, ht, (show ¬ (HT.sIx 4 0 (some 1) = 0 ∧ HT.sIx 4 4 none = 4) by decide), fun p4 H9 n9 s9 t9 => k _ H9 s9 (sg_mk (SqT.of t9))⟩
  rw [zl, filt_at, List.filterMap_eq_map'] at al8
  have em : rows.map (fun r => sgD (sgOf r)) = (rows.map sgOf).map sgD := by rw [List.map_map]; rfl
  rw [em] at al8
  have s68 := s7.trans s8
  have sl := showAll_len gm
  refine ⟨R, zs, rows, rfl, SqL.of (s68 _ _ hR), dpAll_mono s68 alR, gd, by omega, fun H9 s9 => ⟨showAll (rows.map sgOf), 200, rfl, by omega, by decide, fun nt => absurd ⟨_, gm, rfl⟩ nt, fun m gm' em' => ?_⟩⟩
  have e := same_text gm gm' rfl em'
  subst e
  have agm : Agr (numb 0 (rows.map sgOf)) := by
    obtain ⟨ff, hff⟩ := ag
    refine ⟨ff, fun r hr => ?_⟩
    obtain ⟨r0, hr0, e⟩ := List.mem_map.mp (numb_mem hr)
    have e0 := hff r0 hr0
    have x1 : r0.one = r.one := congrArg (fun s : Sg => s.1) e
    have x2 : r0.other = r.other := congrArg (fun s : Sg => s.2.1) e
    have x3 : r0.rise = r.rise := congrArg (fun s : Sg => s.2.2) e
    rw [← x1, ← x2, ← x3]
    exact e0
  have gpm : ∀ s ∈ rows.map sgOf, s.1 ∈ pool ∧ s.2.1 ∈ pool := fun s hs => by
    obtain ⟨r, hr, rfl⟩ := List.mem_map.mp hs
    exact hPl r hr
  refine ⟨fun j hj jm => by omega, fun j u eu jm ag' ss H10 dd p3 ws W S hss nt => ?_, fun _ _ b2 d2 H10 nb2 nd2 s10 B10 => ?_⟩
  · have hj := (List.getElem?_eq_some_iff.mp eu).1
    exact absurd ⟨ss, W, nt⟩ (agr_no eu hj (by rw [List.take_length]; exact agm))
  have s8A := s9.trans s10
  have s6A := s68.trans s8A
  refine ⟨L, us, rows.map sgOf, rfl, SqL.of (s8A _ _ t8), dpAll_mono s8A al8, by omega, fun p2 vs2 H11 n11 s11 t11 al11 => ⟨by decide, b2, d2, p2, pp, 200, _, cell / 3, numb 0 (rows.map sgOf), vs2, pool, rfl, B10.mono s11, SqL.of t11, al11, agm, fun r hr => gm _ (numb_mem hr), SqL.of ((s6A.trans s11) _ _ hP6), pz, by omega, fun r hr => gpm _ (numb_mem hr), by rw [numb_len]; omega, fun H12 s12 => br_f ?_⟩⟩
  have s8C := (s8A.trans s11).trans s12
  have s6C := s68.trans s8C
  refine ⟨D, pp, M, cell, ys, l, pool, rfl, SqL.of (s6C _ _ hD6), dpAll_mono s6C al6, gl, by omega, M0, lP, SqL.of (s6C _ _ hP6), pz, by omega, fun H13 s13 => br_f ⟨L, pp, M, cell, us, rows.map sgOf, pool, rfl, SqL.of ((s8C.trans s13) _ _ t8), dpAll_mono (s8C.trans s13) al8, gm, by omega, M0, gpm, SqL.of ((s6C.trans s13) _ _ hP6), pz, by omega, fun H14 s14 => br_f ?_⟩⟩
  have s6E := (s6C.trans s13).trans s14
  refine ⟨.inr (by decide), by decide, D, pp, M, _, ys, l, pool, rfl, SqL.of (s6E _ _ hD6), dpAll_mono s6E al6, gl, by omega, M0, Int.emod_nonneg _ (by decide), SqL.of (s6E _ _ hP6), pz, pne, by omega, fun H15 s15 => q H15⟩
def top (i : Nat) : Stmt := PySem.Challenge.pw_pegrise_k10_whole_written_and_read.main.body.getD i (.Pass ⟨0, 0, 0, 0⟩)
/-- what the names of the module hold -/
structure Mg (mg : Str → Option Value) : Prop where
  m_int : mg "int" = none
  m_isinstance : mg "isinstance" = none
  m_bool : mg "bool" = none
  m_str : mg "str" = none
  m_len : mg "len" = none
  m_tuple : mg "tuple" = none
  m_abs : mg "abs" = none
  m_list : mg "list" = none
  m_reversed : mg "reversed" = none
  m_sorted : mg "sorted" = none
  m_range : mg "range" = none
  m_ValueError : mg "ValueError" = none
  m_sum : mg "sum" = none
  m_min : mg "min" = none
  x_LETTERS : ∃ t, mg "LETTERS" = some (.str "abcdefghijklmnopqrstuvwxyz" t)
  x_BOUND : ∃ t, mg "BOUND" = some (.int (10 ^ 60) t)
  x_FIGURES : ∃ t, mg "FIGURES" = some (.str "0123456789" t)
/-- where the names of the classes lead -/
structure Gx (mg : Str → Option Value) (K : PySem.W.Frag) (A : Ad) : Prop where
  g_Book : mg "Book" = some (.ref A.Book)
  g_PegError : mg "PegError" = some (.ref A.PegError)
  g_NoSighting : mg "NoSighting" = some (.ref A.NoSighting)
  g_Full : mg "Full" = some (.ref A.Full)
  g_Against : mg "Against" = some (.ref A.Against)
  g_NoNumber : mg "NoNumber" = some (.ref A.NoNumber)
  g_NoWay : mg "NoWay" = some (.ref A.NoWay)
  g_NoText : mg "NoText" = some (.ref A.NoText)
  x_NoSighting : PySem.W.excIn K A.NoSighting [.type "ValueError", .type "Exception", .type "BaseException", .type "object"] "ValueError.__new__" = true
  k_NoSighting : PySem.W.keepIn K (.ref A.NoSighting) = true
  b_NoSighting : PySem.W.subIn K (.ref A.NoSighting) (.type "BaseException") = some true
  t_NoSighting : PySem.W.typeIn K (.ref A.NoSighting) = some (.type "type")
  x_Full : PySem.W.excIn K A.Full [.type "ValueError", .type "Exception", .type "BaseException", .type "object"] "ValueError.__new__" = true
  k_Full : PySem.W.keepIn K (.ref A.Full) = true
  b_Full : PySem.W.subIn K (.ref A.Full) (.type "BaseException") = some true
  t_Full : PySem.W.typeIn K (.ref A.Full) = some (.type "type")
  x_NoNumber : PySem.W.excIn K A.NoNumber [.type "ValueError", .type "Exception", .type "BaseException", .type "object"] "ValueError.__new__" = true
  k_NoNumber : PySem.W.keepIn K (.ref A.NoNumber) = true
  b_NoNumber : PySem.W.subIn K (.ref A.NoNumber) (.type "BaseException") = some true
  t_NoNumber : PySem.W.typeIn K (.ref A.NoNumber) = some (.type "type")
  x_NoText : PySem.W.excIn K A.NoText [.type "ValueError", .type "Exception", .type "BaseException", .type "object"] "ValueError.__new__" = true
  k_NoText : PySem.W.keepIn K (.ref A.NoText) = true
  b_NoText : PySem.W.subIn K (.ref A.NoText) (.type "BaseException") = some true
  t_NoText : PySem.W.typeIn K (.ref A.NoText) = some (.type "type")
section
variable {P : Program} {w : World} {K : PySem.W.Frag} {mg : Str → Option Value} {base : Heap}
abbrev s_Against___init__ : Stmt := inClass (top 5) 0
theorem sc_Against___init__ : FnScope N_Against___init__ ["self", "trail"] (defScope s_Against___init__) := ⟨rfl, rfl, rfl, by decide +kernel, rfl, by decide +kernel, by decide +kernel⟩
theorem ok_Against___init__ {A : Ad} {f : Addr} {fd : FuncData} (F : Fun K "__init__" "Against.__init__" s_Against___init__ f fd) (iC : PySem.W.findIn K (.ref A.Against) "__init__" = some (some (.ref f))) (tI : PySem.W.typeIn K (.ref f) = some (.type "function")) (hb : Binds K fd ["self", "trail"] []) (M : Mg mg) (G : Gx mg K A) (T : Tx K A)  :
    CalE P w K mg base 1 A.Against "Against" ["self", "trail"] (sp_Against___init__ K A) := by
  refine ⟨f, fd, T.o_Against, iC, tI, F.ok sc_Against___init__ (fun vs H Q E h => ?_) (fun cdv A' outer s H vs Q E hr h => ?_), G.g_Against, hb⟩
  · unfold sp_Against___init__ at h
    first
      | (obtain ⟨rfl, _⟩ := h; rfl)
      | (obtain ⟨_, rfl, _⟩ := h; rfl)
      | (obtain ⟨_, _, rfl, _⟩ := h; rfl)
      | (obtain ⟨_, _, _, rfl, _⟩ := h; rfl)
      | (obtain ⟨_, _, _, _, rfl, _⟩ := h; rfl)
      | (obtain ⟨_, _, _, _, _, rfl, _⟩ := h; rfl)
      | (obtain ⟨_, _, _, _, _, _, rfl, _⟩ := h; rfl)
      | (obtain ⟨_, _, _, _, _, _, _, rfl, _⟩ := h; rfl)
      | (obtain ⟨_, _, _, _, _, _, _, _, rfl, _⟩ := h; rfl)
      | (obtain ⟨_, _, _, _, _, _, _, _, _, rfl, _⟩ := h; rfl)
      | (obtain ⟨_, _, _, _, _, _, _, _, _, _, rfl, _⟩ := h; rfl)
      | (obtain ⟨_, _, _, _, _, _, _, _, _, _, _, rfl, _⟩ := h; rfl)
      | (obtain ⟨_, _, _, _, _, _, _, _, _, _, _, _, rfl, _⟩ := h; rfl)
      | (obtain ⟨_, _, _, _, _, _, _, _, _, _, _, _, _, rfl, _⟩ := h; rfl)
      | (obtain ⟨_, _, _, _, _, _, _, _, _, _, _, _, _, _, rfl, _⟩ := h; rfl)
      | (obtain ⟨_, _, _, _, _, _, _, _, _, _, _, _, _, _, _, rfl, _⟩ := h; rfl)
      | (obtain ⟨_, _, _, _, _, _, _, _, _, _, _, _, _, _, _, _, rfl, _⟩ := h; rfl)
      | (obtain ⟨_, _, _, _, _, _, _, _, _, _, _, _, _, _, _, _, _, rfl, _⟩ := h; rfl)
      | (obtain ⟨_, _, _, _, _, _, _, _, _, _, _, _, _, _, _, _, _, _, rfl, _⟩ := h; rfl)
      | (obtain ⟨_, _, _, _, _, _, _, _, _, _, _, _, _, _, _, _, _, _, _, rfl, _⟩ := h; rfl)
      | (obtain ⟨_, _, _, _, _, _, _, _, _, _, _, _, _, _, _, _, _, _, _, _, rfl, _⟩ := h; rfl)
      | (obtain ⟨_, _, _, _, _, _, _, _, _, _, _, _, _, _, _, _, _, _, _, _, _, rfl, _⟩ := h; rfl)
      | (obtain ⟨_, _, _, _, _, _, _, _, _, _, _, _, _, _, _, _, _, _, _, _, _, _, rfl, _⟩ := h; rfl)
      | (obtain ⟨_, _, _, _, _, _, _, _, _, _, _, _, _, _, _, _, _, _, _, _, _, _, _, rfl, _⟩ := h; rfl)
      | (obtain ⟨_, _, _, _, _, _, _, _, _, _, _, _, _, _, _, _, _, _, _, _, _, _, _, _, rfl, _⟩ := h; rfl)
      | (obtain ⟨_, _, _, _, _, _, _, _, _, _, _, _, _, _, _, _, _, _, _, _, _, _, _, _, _, rfl, _⟩ := h; rfl)
      | (obtain ⟨_, _, _, _, _, _, _, _, _, _, _, _, _, _, _, _, _, _, _, _, _, _, _, _, _, _, rfl, _⟩ := h; rfl)
      | (obtain ⟨_, _, _, _, _, _, _, _, _, _, _, _, _, _, _, _, _, _, _, _, _, _, _, _, _, _, _, rfl, _⟩ := h; rfl)
  have hu := hu_of hr
  have hu64 := hr.units
  have hu65 := hr.u65
  have nd := sc_Against___init__.nd
  exact ⟨t_Against___init__ K A, (pss_cons (ps_expr (pe_ownInit (by rfl) G.g_PegError T.iRd T.iGa T.iVi (pa_cons (uv 0) (pa_cons pe_str pa_nil))))
  (pss_one (ps_ost (uv 0) (uv 1)))), rd_Against___init__ T h⟩
abbrev s_NoWay___init__ : Stmt := inClass (top 7) 0
theorem sc_NoWay___init__ : FnScope N_NoWay___init__ ["self", "near"] (defScope s_NoWay___init__) := ⟨rfl, rfl, rfl, by decide +kernel, rfl, by decide +kernel, by decide +kernel⟩
theorem ok_NoWay___init__ {A : Ad} {f : Addr} {fd : FuncData} (F : Fun K "__init__" "NoWay.__init__" s_NoWay___init__ f fd) (iC : PySem.W.findIn K (.ref A.NoWay) "__init__" = some (some (.ref f))) (tI : PySem.W.typeIn K (.ref f) = some (.type "function")) (hb : Binds K fd ["self", "near"] []) (M : Mg mg) (G : Gx mg K A) (T : Tx K A)  :
    CalE P w K mg base 1 A.NoWay "NoWay" ["self", "near"] (sp_NoWay___init__ K A) := by
  refine ⟨f, fd, T.o_NoWay, iC, tI, F.ok sc_NoWay___init__ (fun vs H Q E h => ?_) (fun cdv A' outer s H vs Q E hr h => ?_), G.g_NoWay, hb⟩
  · unfold sp_NoWay___init__ at h
    first
      | (obtain ⟨rfl, _⟩ := h; rfl)
      | (obtain ⟨_, rfl, _⟩ := h; rfl)
      | (obtain ⟨_, _, rfl, _⟩ := h; rfl)
      | (obtain ⟨_, _, _, rfl, _⟩ := h; rfl)
      | (obtain ⟨_, _, _, _, rfl, _⟩ := h; rfl)
      | (obtain ⟨_, _, _, _, _, rfl, _⟩ := h; rfl)
      | (obtain ⟨_, _, _, _, _, _, rfl, _⟩ := h; rfl)
      | (obtain ⟨_, _, _, _, _, _, _, rfl, _⟩ := h; rfl)
      | (obtain ⟨_, _, _, _, _, _, _, _, rfl, _⟩ := h; rfl)
      | (obtain ⟨_, _, _, _, _, _, _, _, _, rfl, _⟩ := h; rfl)
      | (obtain ⟨_, _, _, _, _, _, _, _, _, _, rfl, _⟩ := h; rfl)
      | (obtain ⟨_, _, _, _, _, _, _, _, _, _, _, rfl, _⟩ := h; rfl)
      | (obtain ⟨_, _, _, _, _, _, _, _, _, _, _, _, rfl, _⟩ := h; rfl)
      | (obtain ⟨_, _, _, _, _, _, _, _, _, _, _, _, _, rfl, _⟩ := h; rfl)
      | (obtain ⟨_, _, _, _, _, _, _, _, _, _, _, _, _, _, rfl, _⟩ := h; rfl)
      | (obtain ⟨_, _, _, _, _, _, _, _, _, _, _, _, _, _, _, rfl, _⟩ := h; rfl)
      | (obtain ⟨_, _, _, _, _, _, _, _, _, _, _, _, _, _, _, _, rfl, _⟩ := h; rfl)
      | (obtain ⟨_, _, _, _, _, _, _, _, _, _, _, _, _, _, _, _, _, rfl, _⟩ := h; rfl)
      | (obtain ⟨_, _, _, _, _, _, _, _, _, _, _, _, _, _, _, _, _, _, rfl, _⟩ := h; rfl)
      | (obtain ⟨_, _, _, _, _, _, _, _, _, _, _, _, _, _, _, _, _, _, _, rfl, _⟩ := h; rfl)
      | (obtain ⟨_, _, _, _, _, _, _, _, _, _, _, _, _, _, _, _, _, _, _, _, rfl, _⟩ := h; rfl)
      | (obtain ⟨_, _, _, _, _, _, _, _, _, _, _, _, _, _, _, _, _, _, _, _, _, rfl, _⟩ := h; rfl)
      | (obtain ⟨_, _, _, _, _, _, _, _, _, _, _, _, _, _, _, _, _, _, _, _, _, _, rfl, _⟩ := h; rfl)
      | (obtain ⟨_, _, _, _, _, _, _, _, _, _, _, _, _, _, _, _, _, _, _, _, _, _, _, rfl, _⟩ := h; rfl)
      | (obtain ⟨_, _, _, _, _, _, _, _, _, _, _, _, _, _, _, _, _, _, _, _, _, _, _, _, rfl, _⟩ := h; rfl)
      | (obtain ⟨_, _, _, _, _, _, _, _, _, _, _, _, _, _, _, _, _, _, _, _, _, _, _, _, _, rfl, _⟩ := h; rfl)
      | (obtain ⟨_, _, _, _, _, _, _, _, _, _, _, _, _, _, _, _, _, _, _, _, _, _, _, _, _, _, rfl, _⟩ := h; rfl)
      | (obtain ⟨_, _, _, _, _, _, _, _, _, _, _, _, _, _, _, _, _, _, _, _, _, _, _, _, _, _, _, rfl, _⟩ := h; rfl)
  have hu := hu_of hr
  have hu64 := hr.units
  have hu65 := hr.u65
  have nd := sc_NoWay___init__.nd
  exact ⟨t_NoWay___init__ K A, (pss_cons (ps_expr (pe_ownInit (by rfl) G.g_PegError T.iRd T.iGa T.iVi (pa_cons (uv 0) (pa_cons pe_str pa_nil))))
  (pss_one (ps_ost (uv 0) (uv 1)))), rd_NoWay___init__ T h⟩
abbrev s_is_whole : Stmt := top 12
theorem sc_is_whole : FnScope N_is_whole ["thing"] (defScope s_is_whole) := ⟨rfl, rfl, rfl, by decide +kernel, rfl, by decide +kernel, by decide +kernel⟩
theorem ok_is_whole {f : Addr} {fd : FuncData} (F : Fun K "is_whole" "is_whole" s_is_whole f fd) (hm : mg "is_whole" = some (.ref f)) (hb : Binds K fd ["thing"] []) (M : Mg mg)  :
    Cal P w K mg base CX0 1 "is_whole" ["thing"] (sp_is_whole K) := by
  refine ⟨f, fd, F.ok sc_is_whole (fun vs H Q E h => ?_) (fun cdv A' outer s H vs Q E hr h => ?_), hm, F.kp, hb⟩
  · unfold sp_is_whole at h
    first
      | (obtain ⟨rfl, _⟩ := h; rfl)
      | (obtain ⟨_, rfl, _⟩ := h; rfl)
      | (obtain ⟨_, _, rfl, _⟩ := h; rfl)
      | (obtain ⟨_, _, _, rfl, _⟩ := h; rfl)
      | (obtain ⟨_, _, _, _, rfl, _⟩ := h; rfl)
      | (obtain ⟨_, _, _, _, _, rfl, _⟩ := h; rfl)
      | (obtain ⟨_, _, _, _, _, _, rfl, _⟩ := h; rfl)
      | (obtain ⟨_, _, _, _, _, _, _, rfl, _⟩ := h; rfl)
      | (obtain ⟨_, _, _, _, _, _, _, _, rfl, _⟩ := h; rfl)
      | (obtain ⟨_, _, _, _, _, _, _, _, _, rfl, _⟩ := h; rfl)
      | (obtain ⟨_, _, _, _, _, _, _, _, _, _, rfl, _⟩ := h; rfl)
      | (obtain ⟨_, _, _, _, _, _, _, _, _, _, _, rfl, _⟩ := h; rfl)
      | (obtain ⟨_, _, _, _, _, _, _, _, _, _, _, _, rfl, _⟩ := h; rfl)
      | (obtain ⟨_, _, _, _, _, _, _, _, _, _, _, _, _, rfl, _⟩ := h; rfl)
      | (obtain ⟨_, _, _, _, _, _, _, _, _, _, _, _, _, _, rfl, _⟩ := h; rfl)
      | (obtain ⟨_, _, _, _, _, _, _, _, _, _, _, _, _, _, _, rfl, _⟩ := h; rfl)
      | (obtain ⟨_, _, _, _, _, _, _, _, _, _, _, _, _, _, _, _, rfl, _⟩ := h; rfl)
      | (obtain ⟨_, _, _, _, _, _, _, _, _, _, _, _, _, _, _, _, _, rfl, _⟩ := h; rfl)
      | (obtain ⟨_, _, _, _, _, _, _, _, _, _, _, _, _, _, _, _, _, _, rfl, _⟩ := h; rfl)
      | (obtain ⟨_, _, _, _, _, _, _, _, _, _, _, _, _, _, _, _, _, _, _, rfl, _⟩ := h; rfl)
      | (obtain ⟨_, _, _, _, _, _, _, _, _, _, _, _, _, _, _, _, _, _, _, _, rfl, _⟩ := h; rfl)
      | (obtain ⟨_, _, _, _, _, _, _, _, _, _, _, _, _, _, _, _, _, _, _, _, _, rfl, _⟩ := h; rfl)
      | (obtain ⟨_, _, _, _, _, _, _, _, _, _, _, _, _, _, _, _, _, _, _, _, _, _, rfl, _⟩ := h; rfl)
      | (obtain ⟨_, _, _, _, _, _, _, _, _, _, _, _, _, _, _, _, _, _, _, _, _, _, _, rfl, _⟩ := h; rfl)
      | (obtain ⟨_, _, _, _, _, _, _, _, _, _, _, _, _, _, _, _, _, _, _, _, _, _, _, _, rfl, _⟩ := h; rfl)
      | (obtain ⟨_, _, _, _, _, _, _, _, _, _, _, _, _, _, _, _, _, _, _, _, _, _, _, _, _, rfl, _⟩ := h; rfl)
      | (obtain ⟨_, _, _, _, _, _, _, _, _, _, _, _, _, _, _, _, _, _, _, _, _, _, _, _, _, _, rfl, _⟩ := h; rfl)
      | (obtain ⟨_, _, _, _, _, _, _, _, _, _, _, _, _, _, _, _, _, _, _, _, _, _, _, _, _, _, _, rfl, _⟩ := h; rfl)
  have hu := hu_of hr
  have hu64 := hr.units
  have hu65 := hr.u65
  have nd := sc_is_whole.nd
  exact ⟨t_is_whole K, (pss_one (ps_ret (v_and (pe_callB b_isi (by rfl) M.m_isinstance (by decide +kernel) (pa_cons (uv 0) (pa_cons (pe_bltn (v := .ty "int") (by rfl) M.m_int (by decide +kernel) rfl) pa_nil))) (pe_one (v_not (pe_callB b_isi (by rfl) M.m_isinstance (by decide +kernel) (pa_cons (uv 0) (pa_cons (pe_bltn (v := .ty "bool") (by rfl) M.m_bool (by decide +kernel) rfl) pa_nil)))))))), rd_is_whole h⟩
abbrev s_is_peg : Stmt := top 13
theorem sc_is_peg : FnScope N_is_peg ["thing"] (defScope s_is_peg) := ⟨rfl, rfl, rfl, by decide +kernel, rfl, by decide +kernel, by decide +kernel⟩
theorem ok_is_peg {f : Addr} {fd : FuncData} (F : Fun K "is_peg" "is_peg" s_is_peg f fd) (hm : mg "is_peg" = some (.ref f)) (hb : Binds K fd ["thing"] []) (M : Mg mg)  :
    Cal P w K mg base CX0 1 "is_peg" ["thing"] (sp_is_peg K) := by
  obtain ⟨_, m_LETTERS⟩ := M.x_LETTERS
  refine ⟨f, fd, F.ok sc_is_peg (fun vs H Q E h => ?_) (fun cdv A' outer s H vs Q E hr h => ?_), hm, F.kp, hb⟩
  · unfold sp_is_peg at h
    first
      | (obtain ⟨rfl, _⟩ := h; rfl)
      | (obtain ⟨_, rfl, _⟩ := h; rfl)
      | (obtain ⟨_, _, rfl, _⟩ := h; rfl)
      | (obtain ⟨_, _, _, rfl, _⟩ := h; rfl)
      | (obtain ⟨_, _, _, _, rfl, _⟩ := h; rfl)
      | (obtain ⟨_, _, _, _, _, rfl, _⟩ := h; rfl)
      | (obtain ⟨_, _, _, _, _, _, rfl, _⟩ := h; rfl)
      | (obtain ⟨_, _, _, _, _, _, _, rfl, _⟩ := h; rfl)
      | (obtain ⟨_, _, _, _, _, _, _, _, rfl, _⟩ := h; rfl)
      | (obtain ⟨_, _, _, _, _, _, _, _, _, rfl, _⟩ := h; rfl)
      | (obtain ⟨_, _, _, _, _, _, _, _, _, _, rfl, _⟩ := h; rfl)
      | (obtain ⟨_, _, _, _, _, _, _, _, _, _, _, rfl, _⟩ := h; rfl)
      | (obtain ⟨_, _, _, _, _, _, _, _, _, _, _, _, rfl, _⟩ := h; rfl)
      | (obtain ⟨_, _, _, _, _, _, _, _, _, _, _, _, _, rfl, _⟩ := h; rfl)
      | (obtain ⟨_, _, _, _, _, _, _, _, _, _, _, _, _, _, rfl, _⟩ := h; rfl)
      | (obtain ⟨_, _, _, _, _, _, _, _, _, _, _, _, _, _, _, rfl, _⟩ := h; rfl)
      | (obtain ⟨_, _, _, _, _, _, _, _, _, _, _, _, _, _, _, _, rfl, _⟩ := h; rfl)
      | (obtain ⟨_, _, _, _, _, _, _, _, _, _, _, _, _, _, _, _, _, rfl, _⟩ := h; rfl)
      | (obtain ⟨_, _, _, _, _, _, _, _, _, _, _, _, _, _, _, _, _, _, rfl, _⟩ := h; rfl)
      | (obtain ⟨_, _, _, _, _, _, _, _, _, _, _, _, _, _, _, _, _, _, _, rfl, _⟩ := h; rfl)
      | (obtain ⟨_, _, _, _, _, _, _, _, _, _, _, _, _, _, _, _, _, _, _, _, rfl, _⟩ := h; rfl)
      | (obtain ⟨_, _, _, _, _, _, _, _, _, _, _, _, _, _, _, _, _, _, _, _, _, rfl, _⟩ := h; rfl)
      | (obtain ⟨_, _, _, _, _, _, _, _, _, _, _, _, _, _, _, _, _, _, _, _, _, _, rfl, _⟩ := h; rfl)
      | (obtain ⟨_, _, _, _, _, _, _, _, _, _, _, _, _, _, _, _, _, _, _, _, _, _, _, rfl, _⟩ := h; rfl)
      | (obtain ⟨_, _, _, _, _, _, _, _, _, _, _, _, _, _, _, _, _, _, _, _, _, _, _, _, rfl, _⟩ := h; rfl)
      | (obtain ⟨_, _, _, _, _, _, _, _, _, _, _, _, _, _, _, _, _, _, _, _, _, _, _, _, _, rfl, _⟩ := h; rfl)
      | (obtain ⟨_, _, _, _, _, _, _, _, _, _, _, _, _, _, _, _, _, _, _, _, _, _, _, _, _, _, rfl, _⟩ := h; rfl)
      | (obtain ⟨_, _, _, _, _, _, _, _, _, _, _, _, _, _, _, _, _, _, _, _, _, _, _, _, _, _, _, rfl, _⟩ := h; rfl)
  have hu := hu_of hr
  have hu64 := hr.units
  have hu65 := hr.u65
  have nd := sc_is_peg.nd
  exact ⟨t_is_peg K, (pss_cons (s_if (PW.pt (w_or (t_not (t_val (pe_callB b_isi (by rfl) M.m_isinstance (by decide +kernel) (pa_cons (uv 0) (pa_cons (pe_bltn (v := .ty "str") (by rfl) M.m_str (by decide +kernel) rfl) pa_nil))))) (w_or (t_cmp (c_op o_lt (pe_callB l_str (by rfl) M.m_len (by decide +kernel) (pa_cons (uv 0) pa_nil)) pe_int)) (pw_or1 (t_cmp (c_op o_gt (pe_callB l_str (by rfl) M.m_len (by decide +kernel) (pa_cons (uv 0) pa_nil)) pe_int))))))
  (pss_one (ps_ret pe_bl))
  pss_nil)
  (pss_cons (ps_for pnever rfl (pi_str (uv 0)) (pg_name (i := 1) nd rfl (by first | exact Or.inl rfl | exact Or.inr rfl))
  (pss_one (s_if (t_cmp (c_op o_notInSign (uv 1) (pe_glob (by rfl) m_LETTERS ⟨_, rfl⟩)))
  (pss_one (ps_ret pe_bl))
  pss_nil)))
  (pss_one (ps_ret pe_bl)))), rd_is_peg h⟩
abbrev s_is_sighting : Stmt := top 14
theorem sc_is_sighting : FnScope N_is_sighting ["thing"] (defScope s_is_sighting) := ⟨rfl, rfl, rfl, by decide +kernel, rfl, by decide +kernel, by decide +kernel⟩
theorem ok_is_sighting {f : Addr} {fd : FuncData} (F : Fun K "is_sighting" "is_sighting" s_is_sighting f fd) (hm : mg "is_sighting" = some (.ref f)) (hb : Binds K fd ["thing"] []) (M : Mg mg) (c_is_peg : Cal P w K mg base CX0 1 "is_peg" ["thing"] (sp_is_peg K)) (c_is_whole : Cal P w K mg base CX0 1 "is_whole" ["thing"] (sp_is_whole K)) :
    Cal P w K mg base CX0 2 "is_sighting" ["thing"] (sp_is_sighting K) := by
  obtain ⟨_, m_BOUND⟩ := M.x_BOUND
  refine ⟨f, fd, F.ok sc_is_sighting (fun vs H Q E h => ?_) (fun cdv A' outer s H vs Q E hr h => ?_), hm, F.kp, hb⟩
  · unfold sp_is_sighting at h
    first
      | (obtain ⟨rfl, _⟩ := h; rfl)
      | (obtain ⟨_, rfl, _⟩ := h; rfl)
      | (obtain ⟨_, _, rfl, _⟩ := h; rfl)
      | (obtain ⟨_, _, _, rfl, _⟩ := h; rfl)
      | (obtain ⟨_, _, _, _, rfl, _⟩ := h; rfl)
      | (obtain ⟨_, _, _, _, _, rfl, _⟩ := h; rfl)
      | (obtain ⟨_, _, _, _, _, _, rfl, _⟩ := h; rfl)
      | (obtain ⟨_, _, _, _, _, _, _, rfl, _⟩ := h; rfl)
      | (obtain ⟨_, _, _, _, _, _, _, _, rfl, _⟩ := h; rfl)
      | (obtain ⟨_, _, _, _, _, _, _, _, _, rfl, _⟩ := h; rfl)
      | (obtain ⟨_, _, _, _, _, _, _, _, _, _, rfl, _⟩ := h; rfl)
      | (obtain ⟨_, _, _, _, _, _, _, _, _, _, _, rfl, _⟩ := h; rfl)
      | (obtain ⟨_, _, _, _, _, _, _, _, _, _, _, _, rfl, _⟩ := h; rfl)
      | (obtain ⟨_, _, _, _, _, _, _, _, _, _, _, _, _, rfl, _⟩ := h; rfl)
      | (obtain ⟨_, _, _, _, _, _, _, _, _, _, _, _, _, _, rfl, _⟩ := h; rfl)
      | (obtain ⟨_, _, _, _, _, _, _, _, _, _, _, _, _, _, _, rfl, _⟩ := h; rfl)
      | (obtain ⟨_, _, _, _, _, _, _, _, _, _, _, _, _, _, _, _, rfl, _⟩ := h; rfl)
      | (obtain ⟨_, _, _, _, _, _, _, _, _, _, _, _, _, _, _, _, _, rfl, _⟩ := h; rfl)
      | (obtain ⟨_, _, _, _, _, _, _, _, _, _, _, _, _, _, _, _, _, _, rfl, _⟩ := h; rfl)
      | (obtain ⟨_, _, _, _, _, _, _, _, _, _, _, _, _, _, _, _, _, _, _, rfl, _⟩ := h; rfl)
      | (obtain ⟨_, _, _, _, _, _, _, _, _, _, _, _, _, _, _, _, _, _, _, _, rfl, _⟩ := h; rfl)
      | (obtain ⟨_, _, _, _, _, _, _, _, _, _, _, _, _, _, _, _, _, _, _, _, _, rfl, _⟩ := h; rfl)
      | (obtain ⟨_, _, _, _, _, _, _, _, _, _, _, _, _, _, _, _, _, _, _, _, _, _, rfl, _⟩ := h; rfl)
      | (obtain ⟨_, _, _, _, _, _, _, _, _, _, _, _, _, _, _, _, _, _, _, _, _, _, _, rfl, _⟩ := h; rfl)
      | (obtain ⟨_, _, _, _, _, _, _, _, _, _, _, _, _, _, _, _, _, _, _, _, _, _, _, _, rfl, _⟩ := h; rfl)
      | (obtain ⟨_, _, _, _, _, _, _, _, _, _, _, _, _, _, _, _, _, _, _, _, _, _, _, _, _, rfl, _⟩ := h; rfl)
      | (obtain ⟨_, _, _, _, _, _, _, _, _, _, _, _, _, _, _, _, _, _, _, _, _, _, _, _, _, _, rfl, _⟩ := h; rfl)
      | (obtain ⟨_, _, _, _, _, _, _, _, _, _, _, _, _, _, _, _, _, _, _, _, _, _, _, _, _, _, _, rfl, _⟩ := h; rfl)
  have hu := hu_of hr
  have hu64 := hr.units
  have hu65 := hr.u65
  have nd := sc_is_sighting.nd
  exact ⟨t_is_sighting K, (pss_cons (s_if (PW.pt (w_or (t_not (t_val (pe_callB b_isi (by rfl) M.m_isinstance (by decide +kernel) (pa_cons (uv 0) (pa_cons (pe_bltn (v := .ty "tuple") (by rfl) M.m_tuple (by decide +kernel) rfl) pa_nil))))) (pw_or1 (t_cmp (c_op o_neI (pe_callB l_seq (by rfl) M.m_len (by decide +kernel) (pa_cons (uv 0) pa_nil)) pe_int)))))
  (pss_one (ps_ret pe_bl))
  pss_nil)
  (pss_cons (s_if (PW.pt (w_or (t_not (t_val (c_is_peg.pe (hr.mono (by decide)) pass0 (pa_cons (pe_ix x_tup (uv 0) pe_int plainIx) pa_nil)))) (pw_or1 (t_not (t_val (c_is_peg.pe (hr.mono (by decide)) pass0 (pa_cons (pe_ix x_tup (uv 0) pe_int plainIx) pa_nil)))))))
  (pss_one (ps_ret pe_bl))
  pss_nil)
  (pss_one (ps_ret (v_and (c_is_whole.pe (hr.mono (by decide)) pass0 (pa_cons (pe_ix x_tup (uv 0) pe_int plainIx) pa_nil)) (pe_one (e_cmp (c_op o_lt (pe_callB b_abs (by rfl) M.m_abs (by decide +kernel) (pa_cons (pe_ix x_tup (uv 0) pe_int plainIx) pa_nil)) (pe_glob (by rfl) m_BOUND ⟨_, rfl⟩))))))))), rd_is_sighting h⟩
abbrev s_row_turned : Stmt := top 16
theorem sc_row_turned : FnScope N_row_turned ["row"] (defScope s_row_turned) := ⟨rfl, rfl, rfl, by decide +kernel, rfl, by decide +kernel, by decide +kernel⟩
theorem ok_row_turned {f : Addr} {fd : FuncData} (F : Fun K "row_turned" "row_turned" s_row_turned f fd) (hm : mg "row_turned" = some (.ref f)) (hb : Binds K fd ["row"] []) (M : Mg mg)  :
    Cal P w K mg base CX0 1 "row_turned" ["row"] (sp_row_turned K) := by
  refine ⟨f, fd, F.ok sc_row_turned (fun vs H Q E h => ?_) (fun cdv A' outer s H vs Q E hr h => ?_), hm, F.kp, hb⟩
  · unfold sp_row_turned at h
    first
      | (obtain ⟨rfl, _⟩ := h; rfl)
      | (obtain ⟨_, rfl, _⟩ := h; rfl)
      | (obtain ⟨_, _, rfl, _⟩ := h; rfl)
      | (obtain ⟨_, _, _, rfl, _⟩ := h; rfl)
      | (obtain ⟨_, _, _, _, rfl, _⟩ := h; rfl)
      | (obtain ⟨_, _, _, _, _, rfl, _⟩ := h; rfl)
      | (obtain ⟨_, _, _, _, _, _, rfl, _⟩ := h; rfl)
      | (obtain ⟨_, _, _, _, _, _, _, rfl, _⟩ := h; rfl)
      | (obtain ⟨_, _, _, _, _, _, _, _, rfl, _⟩ := h; rfl)
      | (obtain ⟨_, _, _, _, _, _, _, _, _, rfl, _⟩ := h; rfl)
      | (obtain ⟨_, _, _, _, _, _, _, _, _, _, rfl, _⟩ := h; rfl)
      | (obtain ⟨_, _, _, _, _, _, _, _, _, _, _, rfl, _⟩ := h; rfl)
      | (obtain ⟨_, _, _, _, _, _, _, _, _, _, _, _, rfl, _⟩ := h; rfl)
      | (obtain ⟨_, _, _, _, _, _, _, _, _, _, _, _, _, rfl, _⟩ := h; rfl)
      | (obtain ⟨_, _, _, _, _, _, _, _, _, _, _, _, _, _, rfl, _⟩ := h; rfl)
      | (obtain ⟨_, _, _, _, _, _, _, _, _, _, _, _, _, _, _, rfl, _⟩ := h; rfl)
      | (obtain ⟨_, _, _, _, _, _, _, _, _, _, _, _, _, _, _, _, rfl, _⟩ := h; rfl)
      | (obtain ⟨_, _, _, _, _, _, _, _, _, _, _, _, _, _, _, _, _, rfl, _⟩ := h; rfl)
      | (obtain ⟨_, _, _, _, _, _, _, _, _, _, _, _, _, _, _, _, _, _, rfl, _⟩ := h; rfl)
      | (obtain ⟨_, _, _, _, _, _, _, _, _, _, _, _, _, _, _, _, _, _, _, rfl, _⟩ := h; rfl)
      | (obtain ⟨_, _, _, _, _, _, _, _, _, _, _, _, _, _, _, _, _, _, _, _, rfl, _⟩ := h; rfl)
      | (obtain ⟨_, _, _, _, _, _, _, _, _, _, _, _, _, _, _, _, _, _, _, _, _, rfl, _⟩ := h; rfl)
      | (obtain ⟨_, _, _, _, _, _, _, _, _, _, _, _, _, _, _, _, _, _, _, _, _, _, rfl, _⟩ := h; rfl)
      | (obtain ⟨_, _, _, _, _, _, _, _, _, _, _, _, _, _, _, _, _, _, _, _, _, _, _, rfl, _⟩ := h; rfl)
      | (obtain ⟨_, _, _, _, _, _, _, _, _, _, _, _, _, _, _, _, _, _, _, _, _, _, _, _, rfl, _⟩ := h; rfl)
      | (obtain ⟨_, _, _, _, _, _, _, _, _, _, _, _, _, _, _, _, _, _, _, _, _, _, _, _, _, rfl, _⟩ := h; rfl)
      | (obtain ⟨_, _, _, _, _, _, _, _, _, _, _, _, _, _, _, _, _, _, _, _, _, _, _, _, _, _, rfl, _⟩ := h; rfl)
      | (obtain ⟨_, _, _, _, _, _, _, _, _, _, _, _, _, _, _, _, _, _, _, _, _, _, _, _, _, _, _, rfl, _⟩ := h; rfl)
  have hu := hu_of hr
  have hu64 := hr.units
  have hu65 := hr.u65
  have nd := sc_row_turned.nd
  exact ⟨t_row_turned K, (pss_one (ps_ret (e_tup (pa_cons (pe_ix x_tup (uv 0) pe_int plainIx) (pa_cons (pe_ix x_tup (uv 0) pe_int plainIx) (pa_cons (pe_ix x_tup (uv 0) pe_int plainIx) (pa_cons (pe_op o_sub pe_int (pe_ix x_tup (uv 0) pe_int plainIx)) pa_nil))))))), rd_row_turned h⟩
abbrev s_total : Stmt := top 17
theorem sc_total : FnScope N_total ["steps"] (defScope s_total) := ⟨rfl, rfl, rfl, by decide +kernel, rfl, by decide +kernel, by decide +kernel⟩
theorem ok_total {f : Addr} {fd : FuncData} (F : Fun K "total" "total" s_total f fd) (hm : mg "total" = some (.ref f)) (hb : Binds K fd ["steps"] []) (M : Mg mg)  :
    Cal P w K mg base CX0 1 "total" ["steps"] (sp_total K) := by
  refine ⟨f, fd, F.ok sc_total (fun vs H Q E h => ?_) (fun cdv A' outer s H vs Q E hr h => ?_), hm, F.kp, hb⟩
  · unfold sp_total at h
    first
      | (obtain ⟨rfl, _⟩ := h; rfl)
      | (obtain ⟨_, rfl, _⟩ := h; rfl)
      | (obtain ⟨_, _, rfl, _⟩ := h; rfl)
      | (obtain ⟨_, _, _, rfl, _⟩ := h; rfl)
      | (obtain ⟨_, _, _, _, rfl, _⟩ := h; rfl)
      | (obtain ⟨_, _, _, _, _, rfl, _⟩ := h; rfl)
      | (obtain ⟨_, _, _, _, _, _, rfl, _⟩ := h; rfl)
      | (obtain ⟨_, _, _, _, _, _, _, rfl, _⟩ := h; rfl)
      | (obtain ⟨_, _, _, _, _, _, _, _, rfl, _⟩ := h; rfl)
      | (obtain ⟨_, _, _, _, _, _, _, _, _, rfl, _⟩ := h; rfl)
      | (obtain ⟨_, _, _, _, _, _, _, _, _, _, rfl, _⟩ := h; rfl)
      | (obtain ⟨_, _, _, _, _, _, _, _, _, _, _, rfl, _⟩ := h; rfl)
      | (obtain ⟨_, _, _, _, _, _, _, _, _, _, _, _, rfl, _⟩ := h; rfl)
      | (obtain ⟨_, _, _, _, _, _, _, _, _, _, _, _, _, rfl, _⟩ := h; rfl)
      | (obtain ⟨_, _, _, _, _, _, _, _, _, _, _, _, _, _, rfl, _⟩ := h; rfl)
      | (obtain ⟨_, _, _, _, _, _, _, _, _, _, _, _, _, _, _, rfl, _⟩ := h; rfl)
      | (obtain ⟨_, _, _, _, _, _, _, _, _, _, _, _, _, _, _, _, rfl, _⟩ := h; rfl)
      | (obtain ⟨_, _, _, _, _, _, _, _, _, _, _, _, _, _, _, _, _, rfl, _⟩ := h; rfl)
      | (obtain ⟨_, _, _, _, _, _, _, _, _, _, _, _, _, _, _, _, _, _, rfl, _⟩ := h; rfl)
      | (obtain ⟨_, _, _, _, _, _, _, _, _, _, _, _, _, _, _, _, _, _, _, rfl, _⟩ := h; rfl)
      | (obtain ⟨_, _, _, _, _, _, _, _, _, _, _, _, _, _, _, _, _, _, _, _, rfl, _⟩ := h; rfl)
      | (obtain ⟨_, _, _, _, _, _, _, _, _, _, _, _, _, _, _, _, _, _, _, _, _, rfl, _⟩ := h; rfl)
      | (obtain ⟨_, _, _, _, _, _, _, _, _, _, _, _, _, _, _, _, _, _, _, _, _, _, rfl, _⟩ := h; rfl)
      | (obtain ⟨_, _, _, _, _, _, _, _, _, _, _, _, _, _, _, _, _, _, _, _, _, _, _, rfl, _⟩ := h; rfl)
      | (obtain ⟨_, _, _, _, _, _, _, _, _, _, _, _, _, _, _, _, _, _, _, _, _, _, _, _, rfl, _⟩ := h; rfl)
      | (obtain ⟨_, _, _, _, _, _, _, _, _, _, _, _, _, _, _, _, _, _, _, _, _, _, _, _, _, rfl, _⟩ := h; rfl)
      | (obtain ⟨_, _, _, _, _, _, _, _, _, _, _, _, _, _, _, _, _, _, _, _, _, _, _, _, _, _, rfl, _⟩ := h; rfl)
      | (obtain ⟨_, _, _, _, _, _, _, _, _, _, _, _, _, _, _, _, _, _, _, _, _, _, _, _, _, _, _, rfl, _⟩ := h; rfl)
  have hu := hu_of hr
  have hu64 := hr.units
  have hu65 := hr.u65
  have nd := sc_total.nd
  exact ⟨t_total K, (pss_cons (ps_set (i := 1) nd rfl (by first | exact Or.inl rfl | exact Or.inr rfl) pe_int)
  (pss_cons (ps_for pnever rfl (pi_list (uv 0)) (pg_name (i := 2) nd rfl (by first | exact Or.inl rfl | exact Or.inr rfl))
  (pss_one (ps_set (i := 1) nd rfl (by first | exact Or.inl rfl | exact Or.inr rfl) (pe_op o_add (uv 1) (pe_ix x_tup (uv 2) pe_int plainIx)))))
  (pss_one (ps_ret (uv 1))))), rd_total h⟩
abbrev s_leaving : Stmt := top 18
theorem sc_leaving : FnScope N_leaving ["rows"] (defScope s_leaving) := ⟨rfl, rfl, rfl, by decide +kernel, rfl, by decide +kernel, by decide +kernel⟩
theorem ok_leaving {f : Addr} {fd : FuncData} (F : Fun K "leaving" "leaving" s_leaving f fd) (hm : mg "leaving" = some (.ref f)) (hb : Binds K fd ["rows"] []) (M : Mg mg) (c_row_turned : Cal P w K mg base CX0 1 "row_turned" ["row"] (sp_row_turned K)) :
    Cal P w K mg base CX0 2 "leaving" ["rows"] (sp_leaving K) := by
  refine ⟨f, fd, F.ok sc_leaving (fun vs H Q E h => ?_) (fun cdv A' outer s H vs Q E hr h => ?_), hm, F.kp, hb⟩
  · unfold sp_leaving at h
    first
      | (obtain ⟨rfl, _⟩ := h; rfl)
      | (obtain ⟨_, rfl, _⟩ := h; rfl)
      | (obtain ⟨_, _, rfl, _⟩ := h; rfl)
      | (obtain ⟨_, _, _, rfl, _⟩ := h; rfl)
      | (obtain ⟨_, _, _, _, rfl, _⟩ := h; rfl)
      | (obtain ⟨_, _, _, _, _, rfl, _⟩ := h; rfl)
      | (obtain ⟨_, _, _, _, _, _, rfl, _⟩ := h; rfl)
      | (obtain ⟨_, _, _, _, _, _, _, rfl, _⟩ := h; rfl)
      | (obtain ⟨_, _, _, _, _, _, _, _, rfl, _⟩ := h; rfl)
      | (obtain ⟨_, _, _, _, _, _, _, _, _, rfl, _⟩ := h; rfl)
      | (obtain ⟨_, _, _, _, _, _, _, _, _, _, rfl, _⟩ := h; rfl)
      | (obtain ⟨_, _, _, _, _, _, _, _, _, _, _, rfl, _⟩ := h; rfl)
      | (obtain ⟨_, _, _, _, _, _, _, _, _, _, _, _, rfl, _⟩ := h; rfl)
      | (obtain ⟨_, _, _, _, _, _, _, _, _, _, _, _, _, rfl, _⟩ := h; rfl)
      | (obtain ⟨_, _, _, _, _, _, _, _, _, _, _, _, _, _, rfl, _⟩ := h; rfl)
      | (obtain ⟨_, _, _, _, _, _, _, _, _, _, _, _, _, _, _, rfl, _⟩ := h; rfl)
      | (obtain ⟨_, _, _, _, _, _, _, _, _, _, _, _, _, _, _, _, rfl, _⟩ := h; rfl)
      | (obtain ⟨_, _, _, _, _, _, _, _, _, _, _, _, _, _, _, _, _, rfl, _⟩ := h; rfl)
      | (obtain ⟨_, _, _, _, _, _, _, _, _, _, _, _, _, _, _, _, _, _, rfl, _⟩ := h; rfl)
      | (obtain ⟨_, _, _, _, _, _, _, _, _, _, _, _, _, _, _, _, _, _, _, rfl, _⟩ := h; rfl)
      | (obtain ⟨_, _, _, _, _, _, _, _, _, _, _, _, _, _, _, _, _, _, _, _, rfl, _⟩ := h; rfl)
      | (obtain ⟨_, _, _, _, _, _, _, _, _, _, _, _, _, _, _, _, _, _, _, _, _, rfl, _⟩ := h; rfl)
      | (obtain ⟨_, _, _, _, _, _, _, _, _, _, _, _, _, _, _, _, _, _, _, _, _, _, rfl, _⟩ := h; rfl)
      | (obtain ⟨_, _, _, _, _, _, _, _, _, _, _, _, _, _, _, _, _, _, _, _, _, _, _, rfl, _⟩ := h; rfl)
      | (obtain ⟨_, _, _, _, _, _, _, _, _, _, _, _, _, _, _, _, _, _, _, _, _, _, _, _, rfl, _⟩ := h; rfl)
      | (obtain ⟨_, _, _, _, _, _, _, _, _, _, _, _, _, _, _, _, _, _, _, _, _, _, _, _, _, rfl, _⟩ := h; rfl)
      | (obtain ⟨_, _, _, _, _, _, _, _, _, _, _, _, _, _, _, _, _, _, _, _, _, _, _, _, _, _, rfl, _⟩ := h; rfl)
      | (obtain ⟨_, _, _, _, _, _, _, _, _, _, _, _, _, _, _, _, _, _, _, _, _, _, _, _, _, _, _, rfl, _⟩ := h; rfl)
  have hu := hu_of hr
  have hu64 := hr.units
  have hu65 := hr.u65
  have nd := sc_leaving.nd
  exact ⟨t_leaving K, (pss_cons (ps_set (i := 1) nd rfl (by first | exact Or.inl rfl | exact Or.inr rfl) e_dnew)
  (pss_cons (ps_for pnever rfl (pi_list (uv 0)) (pg_name (i := 2) nd rfl (by first | exact Or.inl rfl | exact Or.inr rfl))
  (pss_cons (ps_expr (pe_bm PySem.F.plainAttrs_list PySem.F.slot_list_append PySem.F.type_list_append m_append (e_dsetd (uv 1) (pe_ix x_tup (uv 2) pe_int plainIx) (e_lst pa_nil) ⟨rfl, rfl, rfl, rfl⟩) (pa_cons (uv 2) pa_nil)))
  (pss_one (ps_expr (pe_bm PySem.F.plainAttrs_list PySem.F.slot_list_append PySem.F.type_list_append m_append (e_dsetd (uv 1) (pe_ix x_tup (uv 2) pe_int plainIx) (e_lst pa_nil) ⟨rfl, rfl, rfl, rfl⟩) (pa_cons (c_row_turned.pe (hr.mono (by decide)) pass0 (pa_cons (uv 2) pa_nil)) pa_nil))))))
  (pss_one (ps_ret (uv 1))))), rd_leaving h⟩
abbrev s_reached : Stmt := top 19
theorem sc_reached : FnScope N_reached ["links", "one"] (defScope s_reached) := ⟨rfl, rfl, rfl, by decide +kernel, rfl, by decide +kernel, by decide +kernel⟩
theorem ok_reached {f : Addr} {fd : FuncData} (F : Fun K "reached" "reached" s_reached f fd) (hm : mg "reached" = some (.ref f)) (hb : Binds K fd ["links", "one"] []) (M : Mg mg)  :
    Cal P w K mg base CX0 1 "reached" ["links", "one"] (sp_reached K) := by
  refine ⟨f, fd, F.ok sc_reached (fun vs H Q E h => ?_) (fun cdv A' outer s H vs Q E hr h => ?_), hm, F.kp, hb⟩
  · unfold sp_reached at h
    first
      | (obtain ⟨rfl, _⟩ := h; rfl)
      | (obtain ⟨_, rfl, _⟩ := h; rfl)
      | (obtain ⟨_, _, rfl, _⟩ := h; rfl)
      | (obtain ⟨_, _, _, rfl, _⟩ := h; rfl)
      | (obtain ⟨_, _, _, _, rfl, _⟩ := h; rfl)
      | (obtain ⟨_, _, _, _, _, rfl, _⟩ := h; rfl)
      | (obtain ⟨_, _, _, _, _, _, rfl, _⟩ := h; rfl)
      | (obtain ⟨_, _, _, _, _, _, _, rfl, _⟩ := h; rfl)
      | (obtain ⟨_, _, _, _, _, _, _, _, rfl, _⟩ := h; rfl)
      | (obtain ⟨_, _, _, _, _, _, _, _, _, rfl, _⟩ := h; rfl)
      | (obtain ⟨_, _, _, _, _, _, _, _, _, _, rfl, _⟩ := h; rfl)
      | (obtain ⟨_, _, _, _, _, _, _, _, _, _, _, rfl, _⟩ := h; rfl)
      | (obtain ⟨_, _, _, _, _, _, _, _, _, _, _, _, rfl, _⟩ := h; rfl)
      | (obtain ⟨_, _, _, _, _, _, _, _, _, _, _, _, _, rfl, _⟩ := h; rfl)
      | (obtain ⟨_, _, _, _, _, _, _, _, _, _, _, _, _, _, rfl, _⟩ := h; rfl)
      | (obtain ⟨_, _, _, _, _, _, _, _, _, _, _, _, _, _, _, rfl, _⟩ := h; rfl)
      | (obtain ⟨_, _, _, _, _, _, _, _, _, _, _, _, _, _, _, _, rfl, _⟩ := h; rfl)
      | (obtain ⟨_, _, _, _, _, _, _, _, _, _, _, _, _, _, _, _, _, rfl, _⟩ := h; rfl)
      | (obtain ⟨_, _, _, _, _, _, _, _, _, _, _, _, _, _, _, _, _, _, rfl, _⟩ := h; rfl)
      | (obtain ⟨_, _, _, _, _, _, _, _, _, _, _, _, _, _, _, _, _, _, _, rfl, _⟩ := h; rfl)
      | (obtain ⟨_, _, _, _, _, _, _, _, _, _, _, _, _, _, _, _, _, _, _, _, rfl, _⟩ := h; rfl)
      | (obtain ⟨_, _, _, _, _, _, _, _, _, _, _, _, _, _, _, _, _, _, _, _, _, rfl, _⟩ := h; rfl)
      | (obtain ⟨_, _, _, _, _, _, _, _, _, _, _, _, _, _, _, _, _, _, _, _, _, _, rfl, _⟩ := h; rfl)
      | (obtain ⟨_, _, _, _, _, _, _, _, _, _, _, _, _, _, _, _, _, _, _, _, _, _, _, rfl, _⟩ := h; rfl)
      | (obtain ⟨_, _, _, _, _, _, _, _, _, _, _, _, _, _, _, _, _, _, _, _, _, _, _, _, rfl, _⟩ := h; rfl)
      | (obtain ⟨_, _, _, _, _, _, _, _, _, _, _, _, _, _, _, _, _, _, _, _, _, _, _, _, _, rfl, _⟩ := h; rfl)
      | (obtain ⟨_, _, _, _, _, _, _, _, _, _, _, _, _, _, _, _, _, _, _, _, _, _, _, _, _, _, rfl, _⟩ := h; rfl)
      | (obtain ⟨_, _, _, _, _, _, _, _, _, _, _, _, _, _, _, _, _, _, _, _, _, _, _, _, _, _, _, rfl, _⟩ := h; rfl)
  have hu := hu_of hr
  have hu64 := hr.units
  have hu65 := hr.u65
  have nd := sc_reached.nd
  exact ⟨t_reached K, (pss_cons (ps_set (i := 2) nd rfl (by first | exact Or.inl rfl | exact Or.inr rfl) (e_disp1 (uv 1) pe_non))
  (pss_cons (ps_set (i := 3) nd rfl (by first | exact Or.inl rfl | exact Or.inr rfl) pe_int)
  (pss_cons (ps_set (i := 4) nd rfl (by first | exact Or.inl rfl | exact Or.inr rfl) (e_lst (pa_cons (uv 1) pa_nil)))
  (pss_cons (s_while pnever (t_cmp (c_op o_lt (uv 3) (pe_callB l_seq (by rfl) M.m_len (by decide +kernel) (pa_cons (uv 4) pa_nil))))
  (pss_cons (ps_for pnever rfl (pi_list (e_dget2 hu (uv 0) (pe_ix x_list (uv 4) (uv 3) plainIx) (e_lst pa_nil) ⟨rfl, rfl, rfl, rfl⟩)) (pg_name (i := 5) nd rfl (by first | exact Or.inl rfl | exact Or.inr rfl))
  (pss_one (s_if (t_cmp (c_dnotin hu (pe_ix x_tup (uv 5) pe_int plainIx) (uv 2)))
  (pss_cons (s_dput hu (uv 2) (pe_ix x_tup (uv 5) pe_int plainIx) (uv 5) rfl)
  (pss_one (ps_expr (pe_bm PySem.F.plainAttrs_list PySem.F.slot_list_append PySem.F.type_list_append m_append (uv 4) (pa_cons (pe_ix x_tup (uv 5) pe_int plainIx) pa_nil)))))
  pss_nil)))
  (pss_one (ps_set (i := 3) nd rfl (by first | exact Or.inl rfl | exact Or.inr rfl) (pe_op o_add (uv 3) pe_int)))))
  (pss_one (ps_ret (uv 2))))))), rd_reached h⟩
abbrev s_way_along : Stmt := top 20
theorem sc_way_along : FnScope N_way_along ["rows", "one", "other"] (defScope s_way_along) := ⟨rfl, rfl, rfl, by decide +kernel, rfl, by decide +kernel, by decide +kernel⟩
theorem ok_way_along {f : Addr} {fd : FuncData} (F : Fun K "way_along" "way_along" s_way_along f fd) (hm : mg "way_along" = some (.ref f)) (hb : Binds K fd ["rows", "one", "other"] []) (M : Mg mg) (c_reached : Cal P w K mg base CX0 1 "reached" ["links", "one"] (sp_reached K)) (c_leaving : Cal P w K mg base CX0 2 "leaving" ["rows"] (sp_leaving K)) :
    Cal P w K mg base CX0 3 "way_along" ["rows", "one", "other"] (sp_way_along K) := by
  refine ⟨f, fd, F.ok sc_way_along (fun vs H Q E h => ?_) (fun cdv A' outer s H vs Q E hr h => ?_), hm, F.kp, hb⟩
  · unfold sp_way_along at h
    first
      | (obtain ⟨rfl, _⟩ := h; rfl)
      | (obtain ⟨_, rfl, _⟩ := h; rfl)
      | (obtain ⟨_, _, rfl, _⟩ := h; rfl)
      | (obtain ⟨_, _, _, rfl, _⟩ := h; rfl)
      | (obtain ⟨_, _, _, _, rfl, _⟩ := h; rfl)
      | (obtain ⟨_, _, _, _, _, rfl, _⟩ := h; rfl)
      | (obtain ⟨_, _, _, _, _, _, rfl, _⟩ := h; rfl)
      | (obtain ⟨_, _, _, _, _, _, _, rfl, _⟩ := h; rfl)
      | (obtain ⟨_, _, _, _, _, _, _, _, rfl, _⟩ := h; rfl)
      | (obtain ⟨_, _, _, _, _, _, _, _, _, rfl, _⟩ := h; rfl)
      | (obtain ⟨_, _, _, _, _, _, _, _, _, _, rfl, _⟩ := h; rfl)
      | (obtain ⟨_, _, _, _, _, _, _, _, _, _, _, rfl, _⟩ := h; rfl)
      | (obtain ⟨_, _, _, _, _, _, _, _, _, _, _, _, rfl, _⟩ := h; rfl)
      | (obtain ⟨_, _, _, _, _, _, _, _, _, _, _, _, _, rfl, _⟩ := h; rfl)
      | (obtain ⟨_, _, _, _, _, _, _, _, _, _, _, _, _, _, rfl, _⟩ := h; rfl)
      | (obtain ⟨_, _, _, _, _, _, _, _, _, _, _, _, _, _, _, rfl, _⟩ := h; rfl)
      | (obtain ⟨_, _, _, _, _, _, _, _, _, _, _, _, _, _, _, _, rfl, _⟩ := h; rfl)
      | (obtain ⟨_, _, _, _, _, _, _, _, _, _, _, _, _, _, _, _, _, rfl, _⟩ := h; rfl)
      | (obtain ⟨_, _, _, _, _, _, _, _, _, _, _, _, _, _, _, _, _, _, rfl, _⟩ := h; rfl)
      | (obtain ⟨_, _, _, _, _, _, _, _, _, _, _, _, _, _, _, _, _, _, _, rfl, _⟩ := h; rfl)
      | (obtain ⟨_, _, _, _, _, _, _, _, _, _, _, _, _, _, _, _, _, _, _, _, rfl, _⟩ := h; rfl)
      | (obtain ⟨_, _, _, _, _, _, _, _, _, _, _, _, _, _, _, _, _, _, _, _, _, rfl, _⟩ := h; rfl)
      | (obtain ⟨_, _, _, _, _, _, _, _, _, _, _, _, _, _, _, _, _, _, _, _, _, _, rfl, _⟩ := h; rfl)
      | (obtain ⟨_, _, _, _, _, _, _, _, _, _, _, _, _, _, _, _, _, _, _, _, _, _, _, rfl, _⟩ := h; rfl)
      | (obtain ⟨_, _, _, _, _, _, _, _, _, _, _, _, _, _, _, _, _, _, _, _, _, _, _, _, rfl, _⟩ := h; rfl)
      | (obtain ⟨_, _, _, _, _, _, _, _, _, _, _, _, _, _, _, _, _, _, _, _, _, _, _, _, _, rfl, _⟩ := h; rfl)
      | (obtain ⟨_, _, _, _, _, _, _, _, _, _, _, _, _, _, _, _, _, _, _, _, _, _, _, _, _, _, rfl, _⟩ := h; rfl)
      | (obtain ⟨_, _, _, _, _, _, _, _, _, _, _, _, _, _, _, _, _, _, _, _, _, _, _, _, _, _, _, rfl, _⟩ := h; rfl)
  have hu := hu_of hr
  have hu64 := hr.units
  have hu65 := hr.u65
  have nd := sc_way_along.nd
  exact ⟨t_way_along K, (pss_cons (ps_set (i := 3) nd rfl (by first | exact Or.inl rfl | exact Or.inr rfl) (c_reached.pe (hr.mono (by decide)) pass0 (pa_cons (c_leaving.pe (hr.mono (by decide)) pass0 (pa_cons (uv 0) pa_nil)) (pa_cons (uv 1) pa_nil))))
  (pss_cons (s_if (t_cmp (c_dnotin hu (uv 2) (uv 3)))
  (pss_one (ps_ret pe_non))
  pss_nil)
  (pss_cons (ps_set (i := 4) nd rfl (by first | exact Or.inl rfl | exact Or.inr rfl) (e_lst pa_nil))
  (pss_cons (ps_set (i := 5) nd rfl (by first | exact Or.inl rfl | exact Or.inr rfl) (u_dget hu (uv 3) (uv 2)))
  (pss_cons (s_while pnever (t_cmp (c_op o_notN (uv 5) pe_non))
  (pss_cons (ps_expr (pe_bm PySem.F.plainAttrs_list PySem.F.slot_list_append PySem.F.type_list_append m_append (uv 4) (pa_cons (uv 5) pa_nil)))
  (pss_one (ps_set (i := 5) nd rfl (by first | exact Or.inl rfl | exact Or.inr rfl) (u_dget hu (uv 3) (pe_ix x_tup (uv 5) pe_int plainIx))))))
  (pss_one (ps_ret (e_listRev rfl (by rfl) M.m_list (by decide +kernel) (by rfl) M.m_reversed (uv 4))))))))), rd_way_along h⟩
abbrev s_part_of : Stmt := top 21
theorem sc_part_of : FnScope N_part_of ["rows", "one"] (defScope s_part_of) := ⟨rfl, rfl, rfl, by decide +kernel, rfl, by decide +kernel, by decide +kernel⟩
theorem ok_part_of {f : Addr} {fd : FuncData} (F : Fun K "part_of" "part_of" s_part_of f fd) (hm : mg "part_of" = some (.ref f)) (hb : Binds K fd ["rows", "one"] []) (M : Mg mg) (c_reached : Cal P w K mg base CX0 1 "reached" ["links", "one"] (sp_reached K)) (c_leaving : Cal P w K mg base CX0 2 "leaving" ["rows"] (sp_leaving K)) :
    Cal P w K mg base CX0 3 "part_of" ["rows", "one"] (sp_part_of K) := by
  refine ⟨f, fd, F.ok sc_part_of (fun vs H Q E h => ?_) (fun cdv A' outer s H vs Q E hr h => ?_), hm, F.kp, hb⟩
  · unfold sp_part_of at h
    first
      | (obtain ⟨rfl, _⟩ := h; rfl)
      | (obtain ⟨_, rfl, _⟩ := h; rfl)
      | (obtain ⟨_, _, rfl, _⟩ := h; rfl)
      | (obtain ⟨_, _, _, rfl, _⟩ := h; rfl)
      | (obtain ⟨_, _, _, _, rfl, _⟩ := h; rfl)
      | (obtain ⟨_, _, _, _, _, rfl, _⟩ := h; rfl)
      | (obtain ⟨_, _, _, _, _, _, rfl, _⟩ := h; rfl)
      | (obtain ⟨_, _, _, _, _, _, _, rfl, _⟩ := h; rfl)
      | (obtain ⟨_, _, _, _, _, _, _, _, rfl, _⟩ := h; rfl)
      | (obtain ⟨_, _, _, _, _, _, _, _, _, rfl, _⟩ := h; rfl)
      | (obtain ⟨_, _, _, _, _, _, _, _, _, _, rfl, _⟩ := h; rfl)
      | (obtain ⟨_, _, _, _, _, _, _, _, _, _, _, rfl, _⟩ := h; rfl)
      | (obtain ⟨_, _, _, _, _, _, _, _, _, _, _, _, rfl, _⟩ := h; rfl)
      | (obtain ⟨_, _, _, _, _, _, _, _, _, _, _, _, _, rfl, _⟩ := h; rfl)
      | (obtain ⟨_, _, _, _, _, _, _, _, _, _, _, _, _, _, rfl, _⟩ := h; rfl)
      | (obtain ⟨_, _, _, _, _, _, _, _, _, _, _, _, _, _, _, rfl, _⟩ := h; rfl)
      | (obtain ⟨_, _, _, _, _, _, _, _, _, _, _, _, _, _, _, _, rfl, _⟩ := h; rfl)
      | (obtain ⟨_, _, _, _, _, _, _, _, _, _, _, _, _, _, _, _, _, rfl, _⟩ := h; rfl)
      | (obtain ⟨_, _, _, _, _, _, _, _, _, _, _, _, _, _, _, _, _, _, rfl, _⟩ := h; rfl)
      | (obtain ⟨_, _, _, _, _, _, _, _, _, _, _, _, _, _, _, _, _, _, _, rfl, _⟩ := h; rfl)
      | (obtain ⟨_, _, _, _, _, _, _, _, _, _, _, _, _, _, _, _, _, _, _, _, rfl, _⟩ := h; rfl)
      | (obtain ⟨_, _, _, _, _, _, _, _, _, _, _, _, _, _, _, _, _, _, _, _, _, rfl, _⟩ := h; rfl)
      | (obtain ⟨_, _, _, _, _, _, _, _, _, _, _, _, _, _, _, _, _, _, _, _, _, _, rfl, _⟩ := h; rfl)
      | (obtain ⟨_, _, _, _, _, _, _, _, _, _, _, _, _, _, _, _, _, _, _, _, _, _, _, rfl, _⟩ := h; rfl)
      | (obtain ⟨_, _, _, _, _, _, _, _, _, _, _, _, _, _, _, _, _, _, _, _, _, _, _, _, rfl, _⟩ := h; rfl)
      | (obtain ⟨_, _, _, _, _, _, _, _, _, _, _, _, _, _, _, _, _, _, _, _, _, _, _, _, _, rfl, _⟩ := h; rfl)
      | (obtain ⟨_, _, _, _, _, _, _, _, _, _, _, _, _, _, _, _, _, _, _, _, _, _, _, _, _, _, rfl, _⟩ := h; rfl)
      | (obtain ⟨_, _, _, _, _, _, _, _, _, _, _, _, _, _, _, _, _, _, _, _, _, _, _, _, _, _, _, rfl, _⟩ := h; rfl)
  have hu := hu_of hr
  have hu64 := hr.units
  have hu65 := hr.u65
  have nd := sc_part_of.nd
  exact ⟨t_part_of K, (pss_one (ps_ret (pe_callB (b_sortedD rfl) (by rfl) M.m_sorted (by decide +kernel) (pa_cons (c_reached.pe (hr.mono (by decide)) pass0 (pa_cons (c_leaving.pe (hr.mono (by decide)) pass0 (pa_cons (uv 0) pa_nil)) (pa_cons (uv 1) pa_nil))) pa_nil)))), rd_part_of h⟩
abbrev s_Book___init__ : Stmt := inClass (top 23) 0
theorem sc_Book___init__ : FnScope N_Book___init__ ["self", "most"] (defScope s_Book___init__) := ⟨rfl, rfl, rfl, by decide +kernel, rfl, by decide +kernel, by decide +kernel⟩
theorem ok_Book___init__ {A : Ad} {f : Addr} {fd : FuncData} (F : FunD K "__init__" "Book.__init__" (defArgs s_Book___init__) (defBody s_Book___init__) (defScope s_Book___init__) [.int 200] [] f fd) (hM : Mk K A.Book f) (b1 : Binds K fd ["self", "most"] []) (b0 : ∃ ds, Vals [.int 200] ds ∧ Binds K fd ["self", "most"] ds) (M : Mg mg) (G : Gx mg K A) (T : Tx K A)  :
    CalK P w K mg base 1 A.Book "Book" ["self", "most"] (sp_Book___init__ K A) [.int 200] := by
  refine ⟨f, fd, hM, F.ok sc_Book___init__ (fun vs H Q E h => ?_) (fun cdv A' outer s H vs Q E hr h => ?_), G.g_Book, b1, b0⟩
  · unfold sp_Book___init__ at h
    first
      | (obtain ⟨rfl, _⟩ := h; rfl)
      | (obtain ⟨_, rfl, _⟩ := h; rfl)
      | (obtain ⟨_, _, rfl, _⟩ := h; rfl)
      | (obtain ⟨_, _, _, rfl, _⟩ := h; rfl)
      | (obtain ⟨_, _, _, _, rfl, _⟩ := h; rfl)
      | (obtain ⟨_, _, _, _, _, rfl, _⟩ := h; rfl)
      | (obtain ⟨_, _, _, _, _, _, rfl, _⟩ := h; rfl)
      | (obtain ⟨_, _, _, _, _, _, _, rfl, _⟩ := h; rfl)
      | (obtain ⟨_, _, _, _, _, _, _, _, rfl, _⟩ := h; rfl)
      | (obtain ⟨_, _, _, _, _, _, _, _, _, rfl, _⟩ := h; rfl)
      | (obtain ⟨_, _, _, _, _, _, _, _, _, _, rfl, _⟩ := h; rfl)
      | (obtain ⟨_, _, _, _, _, _, _, _, _, _, _, rfl, _⟩ := h; rfl)
      | (obtain ⟨_, _, _, _, _, _, _, _, _, _, _, _, rfl, _⟩ := h; rfl)
      | (obtain ⟨_, _, _, _, _, _, _, _, _, _, _, _, _, rfl, _⟩ := h; rfl)
      | (obtain ⟨_, _, _, _, _, _, _, _, _, _, _, _, _, _, rfl, _⟩ := h; rfl)
      | (obtain ⟨_, _, _, _, _, _, _, _, _, _, _, _, _, _, _, rfl, _⟩ := h; rfl)
      | (obtain ⟨_, _, _, _, _, _, _, _, _, _, _, _, _, _, _, _, rfl, _⟩ := h; rfl)
      | (obtain ⟨_, _, _, _, _, _, _, _, _, _, _, _, _, _, _, _, _, rfl, _⟩ := h; rfl)
      | (obtain ⟨_, _, _, _, _, _, _, _, _, _, _, _, _, _, _, _, _, _, rfl, _⟩ := h; rfl)
      | (obtain ⟨_, _, _, _, _, _, _, _, _, _, _, _, _, _, _, _, _, _, _, rfl, _⟩ := h; rfl)
      | (obtain ⟨_, _, _, _, _, _, _, _, _, _, _, _, _, _, _, _, _, _, _, _, rfl, _⟩ := h; rfl)
      | (obtain ⟨_, _, _, _, _, _, _, _, _, _, _, _, _, _, _, _, _, _, _, _, _, rfl, _⟩ := h; rfl)
      | (obtain ⟨_, _, _, _, _, _, _, _, _, _, _, _, _, _, _, _, _, _, _, _, _, _, rfl, _⟩ := h; rfl)
      | (obtain ⟨_, _, _, _, _, _, _, _, _, _, _, _, _, _, _, _, _, _, _, _, _, _, _, rfl, _⟩ := h; rfl)
      | (obtain ⟨_, _, _, _, _, _, _, _, _, _, _, _, _, _, _, _, _, _, _, _, _, _, _, _, rfl, _⟩ := h; rfl)
      | (obtain ⟨_, _, _, _, _, _, _, _, _, _, _, _, _, _, _, _, _, _, _, _, _, _, _, _, _, rfl, _⟩ := h; rfl)
      | (obtain ⟨_, _, _, _, _, _, _, _, _, _, _, _, _, _, _, _, _, _, _, _, _, _, _, _, _, _, rfl, _⟩ := h; rfl)
      | (obtain ⟨_, _, _, _, _, _, _, _, _, _, _, _, _, _, _, _, _, _, _, _, _, _, _, _, _, _, _, rfl, _⟩ := h; rfl)
  have hu := hu_of hr
  have hu64 := hr.units
  have hu65 := hr.u65
  have nd := sc_Book___init__.nd
  exact ⟨t_Book___init__ K A, (pss_cons (s_fld (uv 0) (uv 1) rfl)
  (pss_cons (s_fld (uv 0) pe_int rfl)
  (pss_one (s_fld (uv 0) e_dnew rfl)))), rd_Book___init__ T h⟩
abbrev s_Book_kept : Stmt := inClass (top 23) 1
theorem sc_Book_kept : FnScope N_Book_kept ["self"] (defScope s_Book_kept) := ⟨rfl, rfl, rfl, by decide +kernel, rfl, by decide +kernel, by decide +kernel⟩
theorem ok_Book_kept {A : Ad} {f : Addr} {fd : FuncData} (F : Fun K "kept" "Book.kept" s_Book_kept f fd) (hm : Meth K A.Book "kept" f) (hb : Binds K fd ["self"] []) (M : Mg mg) (G : Gx mg K A) (T : Tx K A)  :
    CalM P w K mg base CX0 1 A.Book "kept" ["self"] (sp_Book_kept K A) := by
  refine ⟨f, fd, F.ok sc_Book_kept (fun vs H Q E h => ?_) (fun cdv A' outer s H vs Q E hr h => ?_), hm, hb⟩
  · unfold sp_Book_kept at h
    first
      | (obtain ⟨rfl, _⟩ := h; rfl)
      | (obtain ⟨_, rfl, _⟩ := h; rfl)
      | (obtain ⟨_, _, rfl, _⟩ := h; rfl)
      | (obtain ⟨_, _, _, rfl, _⟩ := h; rfl)
      | (obtain ⟨_, _, _, _, rfl, _⟩ := h; rfl)
      | (obtain ⟨_, _, _, _, _, rfl, _⟩ := h; rfl)
      | (obtain ⟨_, _, _, _, _, _, rfl, _⟩ := h; rfl)
      | (obtain ⟨_, _, _, _, _, _, _, rfl, _⟩ := h; rfl)
      | (obtain ⟨_, _, _, _, _, _, _, _, rfl, _⟩ := h; rfl)
      | (obtain ⟨_, _, _, _, _, _, _, _, _, rfl, _⟩ := h; rfl)
      | (obtain ⟨_, _, _, _, _, _, _, _, _, _, rfl, _⟩ := h; rfl)
      | (obtain ⟨_, _, _, _, _, _, _, _, _, _, _, rfl, _⟩ := h; rfl)
      | (obtain ⟨_, _, _, _, _, _, _, _, _, _, _, _, rfl, _⟩ := h; rfl)
      | (obtain ⟨_, _, _, _, _, _, _, _, _, _, _, _, _, rfl, _⟩ := h; rfl)
      | (obtain ⟨_, _, _, _, _, _, _, _, _, _, _, _, _, _, rfl, _⟩ := h; rfl)
      | (obtain ⟨_, _, _, _, _, _, _, _, _, _, _, _, _, _, _, rfl, _⟩ := h; rfl)
      | (obtain ⟨_, _, _, _, _, _, _, _, _, _, _, _, _, _, _, _, rfl, _⟩ := h; rfl)
      | (obtain ⟨_, _, _, _, _, _, _, _, _, _, _, _, _, _, _, _, _, rfl, _⟩ := h; rfl)
      | (obtain ⟨_, _, _, _, _, _, _, _, _, _, _, _, _, _, _, _, _, _, rfl, _⟩ := h; rfl)
      | (obtain ⟨_, _, _, _, _, _, _, _, _, _, _, _, _, _, _, _, _, _, _, rfl, _⟩ := h; rfl)
      | (obtain ⟨_, _, _, _, _, _, _, _, _, _, _, _, _, _, _, _, _, _, _, _, rfl, _⟩ := h; rfl)
      | (obtain ⟨_, _, _, _, _, _, _, _, _, _, _, _, _, _, _, _, _, _, _, _, _, rfl, _⟩ := h; rfl)
      | (obtain ⟨_, _, _, _, _, _, _, _, _, _, _, _, _, _, _, _, _, _, _, _, _, _, rfl, _⟩ := h; rfl)
      | (obtain ⟨_, _, _, _, _, _, _, _, _, _, _, _, _, _, _, _, _, _, _, _, _, _, _, rfl, _⟩ := h; rfl)
      | (obtain ⟨_, _, _, _, _, _, _, _, _, _, _, _, _, _, _, _, _, _, _, _, _, _, _, _, rfl, _⟩ := h; rfl)
      | (obtain ⟨_, _, _, _, _, _, _, _, _, _, _, _, _, _, _, _, _, _, _, _, _, _, _, _, _, rfl, _⟩ := h; rfl)
      | (obtain ⟨_, _, _, _, _, _, _, _, _, _, _, _, _, _, _, _, _, _, _, _, _, _, _, _, _, _, rfl, _⟩ := h; rfl)
      | (obtain ⟨_, _, _, _, _, _, _, _, _, _, _, _, _, _, _, _, _, _, _, _, _, _, _, _, _, _, _, rfl, _⟩ := h; rfl)
  have hu := hu_of hr
  have hu64 := hr.units
  have hu65 := hr.u65
  have nd := sc_Book_kept.nd
  exact ⟨t_Book_kept K A, (pss_one (ps_ret (e_listVals rfl (e_fld (uv 0) rfl) (by rfl) M.m_list (by decide +kernel)))), rd_Book_kept T h⟩
abbrev s_Book_take : Stmt := inClass (top 23) 2
theorem sc_Book_take : FnScope N_Book_take ["self", "one", "other", "rise"] (defScope s_Book_take) := ⟨rfl, rfl, rfl, by decide +kernel, rfl, by decide +kernel, by decide +kernel⟩
theorem ok_Book_take {A : Ad} {f : Addr} {fd : FuncData} (F : Fun K "take" "Book.take" s_Book_take f fd) (hm : Meth K A.Book "take" f) (hb : Binds K fd ["self", "one", "other", "rise"] []) (M : Mg mg) (G : Gx mg K A) (T : Tx K A) (c_is_sighting : Cal P w K mg base CX0 2 "is_sighting" ["thing"] (sp_is_sighting K)) (c_way_along : Cal P w K mg base CX0 3 "way_along" ["rows", "one", "other"] (sp_way_along K)) (c_Book_kept : CalM P w K mg base CX0 1 A.Book "kept" ["self"] (sp_Book_kept K A)) (c_total : Cal P w K mg base CX0 1 "total" ["steps"] (sp_total K)) (c_Against___init__ : CalE P w K mg base 1 A.Against "Against" ["self", "trail"] (sp_Against___init__ K A)) :
    CalM P w K mg base (L2.CX P w) 4 A.Book "take" ["self", "one", "other", "rise"] (sp_Book_take K A) := by
  refine ⟨f, fd, F.okX sc_Book_take (fun vs H Q E h => ?_) (fun cdv A' outer s H vs Q E hr h => ?_), hm, hb⟩
  · unfold sp_Book_take at h
    first
      | (obtain ⟨rfl, _⟩ := h; rfl)
      | (obtain ⟨_, rfl, _⟩ := h; rfl)
      | (obtain ⟨_, _, rfl, _⟩ := h; rfl)
      | (obtain ⟨_, _, _, rfl, _⟩ := h; rfl)
      | (obtain ⟨_, _, _, _, rfl, _⟩ := h; rfl)
      | (obtain ⟨_, _, _, _, _, rfl, _⟩ := h; rfl)
      | (obtain ⟨_, _, _, _, _, _, rfl, _⟩ := h; rfl)
      | (obtain ⟨_, _, _, _, _, _, _, rfl, _⟩ := h; rfl)
      | (obtain ⟨_, _, _, _, _, _, _, _, rfl, _⟩ := h; rfl)
      | (obtain ⟨_, _, _, _, _, _, _, _, _, rfl, _⟩ := h; rfl)
      | (obtain ⟨_, _, _, _, _, _, _, _, _, _, rfl, _⟩ := h; rfl)
      | (obtain ⟨_, _, _, _, _, _, _, _, _, _, _, rfl, _⟩ := h; rfl)
      | (obtain ⟨_, _, _, _, _, _, _, _, _, _, _, _, rfl, _⟩ := h; rfl)
      | (obtain ⟨_, _, _, _, _, _, _, _, _, _, _, _, _, rfl, _⟩ := h; rfl)
      | (obtain ⟨_, _, _, _, _, _, _, _, _, _, _, _, _, _, rfl, _⟩ := h; rfl)
      | (obtain ⟨_, _, _, _, _, _, _, _, _, _, _, _, _, _, _, rfl, _⟩ := h; rfl)
      | (obtain ⟨_, _, _, _, _, _, _, _, _, _, _, _, _, _, _, _, rfl, _⟩ := h; rfl)
      | (obtain ⟨_, _, _, _, _, _, _, _, _, _, _, _, _, _, _, _, _, rfl, _⟩ := h; rfl)
      | (obtain ⟨_, _, _, _, _, _, _, _, _, _, _, _, _, _, _, _, _, _, rfl, _⟩ := h; rfl)
      | (obtain ⟨_, _, _, _, _, _, _, _, _, _, _, _, _, _, _, _, _, _, _, rfl, _⟩ := h; rfl)
      | (obtain ⟨_, _, _, _, _, _, _, _, _, _, _, _, _, _, _, _, _, _, _, _, rfl, _⟩ := h; rfl)
      | (obtain ⟨_, _, _, _, _, _, _, _, _, _, _, _, _, _, _, _, _, _, _, _, _, rfl, _⟩ := h; rfl)
      | (obtain ⟨_, _, _, _, _, _, _, _, _, _, _, _, _, _, _, _, _, _, _, _, _, _, rfl, _⟩ := h; rfl)
      | (obtain ⟨_, _, _, _, _, _, _, _, _, _, _, _, _, _, _, _, _, _, _, _, _, _, _, rfl, _⟩ := h; rfl)
      | (obtain ⟨_, _, _, _, _, _, _, _, _, _, _, _, _, _, _, _, _, _, _, _, _, _, _, _, rfl, _⟩ := h; rfl)
      | (obtain ⟨_, _, _, _, _, _, _, _, _, _, _, _, _, _, _, _, _, _, _, _, _, _, _, _, _, rfl, _⟩ := h; rfl)
      | (obtain ⟨_, _, _, _, _, _, _, _, _, _, _, _, _, _, _, _, _, _, _, _, _, _, _, _, _, _, rfl, _⟩ := h; rfl)
      | (obtain ⟨_, _, _, _, _, _, _, _, _, _, _, _, _, _, _, _, _, _, _, _, _, _, _, _, _, _, _, rfl, _⟩ := h; rfl)
  have hu := hu_of hr
  have hu64 := hr.units
  have hu65 := hr.u65
  have nd := sc_Book_take.nd
  exact ⟨t_Book_take K A E, (pss_cons (s_if (t_not (t_val (c_is_sighting.pe (hr.mono (by decide)) pass0 (pa_cons (e_tup (pa_cons (uv 1) (pa_cons (uv 2) (pa_cons (uv 3) pa_nil)))) pa_nil))))
  (pss_one (ps_raise rfl (takes_of rfl rfl rfl rfl) (pmk_own PySem.F.excBase_ValueError G.x_NoSighting G.g_NoSighting G.k_NoSighting (raises_own G.b_NoSighting G.t_NoSighting) (by exact rfl))))
  pss_nil)
  (pss_cons (s_if (t_cmp (c_op o_ge (pe_callB l_dict (by rfl) M.m_len (by decide +kernel) (pa_cons (e_fld (uv 0) rfl) pa_nil)) (e_fld (uv 0) rfl)))
  (pss_one (ps_raise rfl (takes_of rfl rfl rfl rfl) (pmk_own PySem.F.excBase_ValueError G.x_Full G.g_Full G.k_Full (raises_own G.b_Full G.t_Full) (by exact rfl))))
  pss_nil)
  (pss_cons (ps_set (i := 4) nd rfl (by first | exact Or.inl rfl | exact Or.inr rfl) (c_way_along.pe (hr.mono (by decide)) pass0 (pa_cons (c_Book_kept.pe0 T.cl (hr.mono (by decide)) pass0 (uv 0)) (pa_cons (uv 1) (pa_cons (uv 2) pa_nil)))))
  (pss_cons (s_if (PW.pt (w_and (t_cmp (c_op o_notN (uv 4) pe_non)) (pw_and1 (t_cmp (c_op (op_neD hu64) (c_total.pe (hr.mono (by decide)) pass0 (pa_cons (uv 4) pa_nil)) (uv 3))))))
  (pss_one (ps_raise rfl (takes_of rfl rfl rfl rfl) (c_Against___init__.pmk (hr.mono (by decide)) (pa_cons (uv 4) pa_nil))))
  pss_nil)
  (pss_cons (s_fld (uv 0) (pe_op o_add (e_fld (uv 0) rfl) pe_int) rfl)
  (pss_cons (s_dput hu (e_fld (uv 0) rfl) (e_fld (uv 0) rfl) (e_tup (pa_cons (e_fld (uv 0) rfl) (pa_cons (uv 1) (pa_cons (uv 2) (pa_cons (uv 3) pa_nil))))) rfl)
  (pss_one (ps_ret (e_fld (uv 0) rfl))))))))), rd_Book_take T h⟩
abbrev s_Book_row_by : Stmt := inClass (top 23) 3
theorem sc_Book_row_by : FnScope N_Book_row_by ["self", "number"] (defScope s_Book_row_by) := ⟨rfl, rfl, rfl, by decide +kernel, rfl, by decide +kernel, by decide +kernel⟩
theorem ok_Book_row_by {A : Ad} {f : Addr} {fd : FuncData} (F : Fun K "row_by" "Book.row_by" s_Book_row_by f fd) (hm : Meth K A.Book "row_by" f) (hb : Binds K fd ["self", "number"] []) (M : Mg mg) (G : Gx mg K A) (T : Tx K A) (c_is_whole : Cal P w K mg base CX0 1 "is_whole" ["thing"] (sp_is_whole K)) :
    CalM P w K mg base (L2.CX P w) 2 A.Book "row_by" ["self", "number"] (sp_Book_row_by K A) := by
  refine ⟨f, fd, F.okX sc_Book_row_by (fun vs H Q E h => ?_) (fun cdv A' outer s H vs Q E hr h => ?_), hm, hb⟩
  · unfold sp_Book_row_by at h
    first
      | (obtain ⟨rfl, _⟩ := h; rfl)
      | (obtain ⟨_, rfl, _⟩ := h; rfl)
      | (obtain ⟨_, _, rfl, _⟩ := h; rfl)
      | (obtain ⟨_, _, _, rfl, _⟩ := h; rfl)
      | (obtain ⟨_, _, _, _, rfl, _⟩ := h; rfl)
      | (obtain ⟨_, _, _, _, _, rfl, _⟩ := h; rfl)
      | (obtain ⟨_, _, _, _, _, _, rfl, _⟩ := h; rfl)
      | (obtain ⟨_, _, _, _, _, _, _, rfl, _⟩ := h; rfl)
      | (obtain ⟨_, _, _, _, _, _, _, _, rfl, _⟩ := h; rfl)
      | (obtain ⟨_, _, _, _, _, _, _, _, _, rfl, _⟩ := h; rfl)
      | (obtain ⟨_, _, _, _, _, _, _, _, _, _, rfl, _⟩ := h; rfl)
      | (obtain ⟨_, _, _, _, _, _, _, _, _, _, _, rfl, _⟩ := h; rfl)
      | (obtain ⟨_, _, _, _, _, _, _, _, _, _, _, _, rfl, _⟩ := h; rfl)
      | (obtain ⟨_, _, _, _, _, _, _, _, _, _, _, _, _, rfl, _⟩ := h; rfl)
      | (obtain ⟨_, _, _, _, _, _, _, _, _, _, _, _, _, _, rfl, _⟩ := h; rfl)
      | (obtain ⟨_, _, _, _, _, _, _, _, _, _, _, _, _, _, _, rfl, _⟩ := h; rfl)
      | (obtain ⟨_, _, _, _, _, _, _, _, _, _, _, _, _, _, _, _, rfl, _⟩ := h; rfl)
      | (obtain ⟨_, _, _, _, _, _, _, _, _, _, _, _, _, _, _, _, _, rfl, _⟩ := h; rfl)
      | (obtain ⟨_, _, _, _, _, _, _, _, _, _, _, _, _, _, _, _, _, _, rfl, _⟩ := h; rfl)
      | (obtain ⟨_, _, _, _, _, _, _, _, _, _, _, _, _, _, _, _, _, _, _, rfl, _⟩ := h; rfl)
      | (obtain ⟨_, _, _, _, _, _, _, _, _, _, _, _, _, _, _, _, _, _, _, _, rfl, _⟩ := h; rfl)
      | (obtain ⟨_, _, _, _, _, _, _, _, _, _, _, _, _, _, _, _, _, _, _, _, _, rfl, _⟩ := h; rfl)
      | (obtain ⟨_, _, _, _, _, _, _, _, _, _, _, _, _, _, _, _, _, _, _, _, _, _, rfl, _⟩ := h; rfl)
      | (obtain ⟨_, _, _, _, _, _, _, _, _, _, _, _, _, _, _, _, _, _, _, _, _, _, _, rfl, _⟩ := h; rfl)
      | (obtain ⟨_, _, _, _, _, _, _, _, _, _, _, _, _, _, _, _, _, _, _, _, _, _, _, _, rfl, _⟩ := h; rfl)
      | (obtain ⟨_, _, _, _, _, _, _, _, _, _, _, _, _, _, _, _, _, _, _, _, _, _, _, _, _, rfl, _⟩ := h; rfl)
      | (obtain ⟨_, _, _, _, _, _, _, _, _, _, _, _, _, _, _, _, _, _, _, _, _, _, _, _, _, _, rfl, _⟩ := h; rfl)
      | (obtain ⟨_, _, _, _, _, _, _, _, _, _, _, _, _, _, _, _, _, _, _, _, _, _, _, _, _, _, _, rfl, _⟩ := h; rfl)
  have hu := hu_of hr
  have hu64 := hr.units
  have hu65 := hr.u65
  have nd := sc_Book_row_by.nd
  exact ⟨t_Book_row_by K A E, (pss_cons (s_if (PW.pt (w_or (t_not (t_val (c_is_whole.pe (hr.mono (by decide)) pass0 (pa_cons (uv 1) pa_nil)))) (pw_or1 (t_cmp (c_dnotin hu (uv 1) (e_fld (uv 0) rfl))))))
  (pss_one (ps_raise rfl (takes_of rfl rfl rfl rfl) (pmk_own PySem.F.excBase_ValueError G.x_NoNumber G.g_NoNumber G.k_NoNumber (raises_own G.b_NoNumber G.t_NoNumber) (by exact rfl))))
  pss_nil)
  (pss_one (ps_ret (u_dget hu (e_fld (uv 0) rfl) (uv 1))))), rd_Book_row_by T h⟩
abbrev s_Book_drop : Stmt := inClass (top 23) 4
theorem sc_Book_drop : FnScope N_Book_drop ["self", "number"] (defScope s_Book_drop) := ⟨rfl, rfl, rfl, by decide +kernel, rfl, by decide +kernel, by decide +kernel⟩
theorem ok_Book_drop {A : Ad} {f : Addr} {fd : FuncData} (F : Fun K "drop" "Book.drop" s_Book_drop f fd) (hm : Meth K A.Book "drop" f) (hb : Binds K fd ["self", "number"] []) (M : Mg mg) (G : Gx mg K A) (T : Tx K A) (c_Book_row_by : CalM P w K mg base (L2.CX P w) 2 A.Book "row_by" ["self", "number"] (sp_Book_row_by K A)) :
    CalM P w K mg base (L2.CX P w) 3 A.Book "drop" ["self", "number"] (sp_Book_drop K A) := by
  refine ⟨f, fd, F.okX sc_Book_drop (fun vs H Q E h => ?_) (fun cdv A' outer s H vs Q E hr h => ?_), hm, hb⟩
  · unfold sp_Book_drop at h
    first
      | (obtain ⟨rfl, _⟩ := h; rfl)
      | (obtain ⟨_, rfl, _⟩ := h; rfl)
      | (obtain ⟨_, _, rfl, _⟩ := h; rfl)
      | (obtain ⟨_, _, _, rfl, _⟩ := h; rfl)
      | (obtain ⟨_, _, _, _, rfl, _⟩ := h; rfl)
      | (obtain ⟨_, _, _, _, _, rfl, _⟩ := h; rfl)
      | (obtain ⟨_, _, _, _, _, _, rfl, _⟩ := h; rfl)
      | (obtain ⟨_, _, _, _, _, _, _, rfl, _⟩ := h; rfl)
      | (obtain ⟨_, _, _, _, _, _, _, _, rfl, _⟩ := h; rfl)
      | (obtain ⟨_, _, _, _, _, _, _, _, _, rfl, _⟩ := h; rfl)
      | (obtain ⟨_, _, _, _, _, _, _, _, _, _, rfl, _⟩ := h; rfl)
      | (obtain ⟨_, _, _, _, _, _, _, _, _, _, _, rfl, _⟩ := h; rfl)
      | (obtain ⟨_, _, _, _, _, _, _, _, _, _, _, _, rfl, _⟩ := h; rfl)
      | (obtain ⟨_, _, _, _, _, _, _, _, _, _, _, _, _, rfl, _⟩ := h; rfl)
      | (obtain ⟨_, _, _, _, _, _, _, _, _, _, _, _, _, _, rfl, _⟩ := h; rfl)
      | (obtain ⟨_, _, _, _, _, _, _, _, _, _, _, _, _, _, _, rfl, _⟩ := h; rfl)
      | (obtain ⟨_, _, _, _, _, _, _, _, _, _, _, _, _, _, _, _, rfl, _⟩ := h; rfl)
      | (obtain ⟨_, _, _, _, _, _, _, _, _, _, _, _, _, _, _, _, _, rfl, _⟩ := h; rfl)
      | (obtain ⟨_, _, _, _, _, _, _, _, _, _, _, _, _, _, _, _, _, _, rfl, _⟩ := h; rfl)
      | (obtain ⟨_, _, _, _, _, _, _, _, _, _, _, _, _, _, _, _, _, _, _, rfl, _⟩ := h; rfl)
      | (obtain ⟨_, _, _, _, _, _, _, _, _, _, _, _, _, _, _, _, _, _, _, _, rfl, _⟩ := h; rfl)
      | (obtain ⟨_, _, _, _, _, _, _, _, _, _, _, _, _, _, _, _, _, _, _, _, _, rfl, _⟩ := h; rfl)
      | (obtain ⟨_, _, _, _, _, _, _, _, _, _, _, _, _, _, _, _, _, _, _, _, _, _, rfl, _⟩ := h; rfl)
      | (obtain ⟨_, _, _, _, _, _, _, _, _, _, _, _, _, _, _, _, _, _, _, _, _, _, _, rfl, _⟩ := h; rfl)
      | (obtain ⟨_, _, _, _, _, _, _, _, _, _, _, _, _, _, _, _, _, _, _, _, _, _, _, _, rfl, _⟩ := h; rfl)
      | (obtain ⟨_, _, _, _, _, _, _, _, _, _, _, _, _, _, _, _, _, _, _, _, _, _, _, _, _, rfl, _⟩ := h; rfl)
      | (obtain ⟨_, _, _, _, _, _, _, _, _, _, _, _, _, _, _, _, _, _, _, _, _, _, _, _, _, _, rfl, _⟩ := h; rfl)
      | (obtain ⟨_, _, _, _, _, _, _, _, _, _, _, _, _, _, _, _, _, _, _, _, _, _, _, _, _, _, _, rfl, _⟩ := h; rfl)
  have hu := hu_of hr
  have hu64 := hr.units
  have hu65 := hr.u65
  have nd := sc_Book_drop.nd
  exact ⟨t_Book_drop K A E, (pss_cons (ps_set (i := 2) nd rfl (by first | exact Or.inl rfl | exact Or.inr rfl) (c_Book_row_by.pe T.cl (hr.mono (by decide)) (passes_call (takes_of rfl rfl rfl rfl) (fun _ _ _ _ h => h)) (uv 0) (pa_cons (uv 1) pa_nil)))
  (pss_cons (ps_expr (e_dpop1 (e_fld (uv 0) rfl) (uv 1) ⟨rfl, rfl, rfl, rfl⟩))
  (pss_one (ps_ret (e_tup (pa_cons (pe_ix x_tup (uv 2) pe_int plainIx) (pa_cons (pe_ix x_tup (uv 2) pe_int plainIx) (pa_cons (pe_ix x_tup (uv 2) pe_int plainIx) pa_nil)))))))), rd_Book_drop T h⟩
abbrev s_Book_way : Stmt := inClass (top 23) 5
theorem sc_Book_way : FnScope N_Book_way ["self", "one", "other"] (defScope s_Book_way) := ⟨rfl, rfl, rfl, by decide +kernel, rfl, by decide +kernel, by decide +kernel⟩
theorem ok_Book_way {A : Ad} {f : Addr} {fd : FuncData} (F : Fun K "way" "Book.way" s_Book_way f fd) (hm : Meth K A.Book "way" f) (hb : Binds K fd ["self", "one", "other"] []) (M : Mg mg) (G : Gx mg K A) (T : Tx K A) (c_is_peg : Cal P w K mg base CX0 1 "is_peg" ["thing"] (sp_is_peg K)) (c_Book_kept : CalM P w K mg base CX0 1 A.Book "kept" ["self"] (sp_Book_kept K A)) (c_way_along : Cal P w K mg base CX0 3 "way_along" ["rows", "one", "other"] (sp_way_along K)) (c_part_of : Cal P w K mg base CX0 3 "part_of" ["rows", "one"] (sp_part_of K)) (c_NoWay___init__ : CalE P w K mg base 1 A.NoWay "NoWay" ["self", "near"] (sp_NoWay___init__ K A)) :
    CalM P w K mg base (L2.CX P w) 4 A.Book "way" ["self", "one", "other"] (sp_Book_way K A) := by
  refine ⟨f, fd, F.okX sc_Book_way (fun vs H Q E h => ?_) (fun cdv A' outer s H vs Q E hr h => ?_), hm, hb⟩
  · unfold sp_Book_way at h
    first
      | (obtain ⟨rfl, _⟩ := h; rfl)
      | (obtain ⟨_, rfl, _⟩ := h; rfl)
      | (obtain ⟨_, _, rfl, _⟩ := h; rfl)
      | (obtain ⟨_, _, _, rfl, _⟩ := h; rfl)
      | (obtain ⟨_, _, _, _, rfl, _⟩ := h; rfl)
      | (obtain ⟨_, _, _, _, _, rfl, _⟩ := h; rfl)
      | (obtain ⟨_, _, _, _, _, _, rfl, _⟩ := h; rfl)
      | (obtain ⟨_, _, _, _, _, _, _, rfl, _⟩ := h; rfl)
      | (obtain ⟨_, _, _, _, _, _, _, _, rfl, _⟩ := h; rfl)
      | (obtain ⟨_, _, _, _, _, _, _, _, _, rfl, _⟩ := h; rfl)
      | (obtain ⟨_, _, _, _, _, _, _, _, _, _, rfl, _⟩ := h; rfl)
      | (obtain ⟨_, _, _, _, _, _, _, _, _, _, _, rfl, _⟩ := h; rfl)
      | (obtain ⟨_, _, _, _, _, _, _, _, _, _, _, _, rfl, _⟩ := h; rfl)
      | (obtain ⟨_, _, _, _, _, _, _, _, _, _, _, _, _, rfl, _⟩ := h; rfl)
      | (obtain ⟨_, _, _, _, _, _, _, _, _, _, _, _, _, _, rfl, _⟩ := h; rfl)
      | (obtain ⟨_, _, _, _, _, _, _, _, _, _, _, _, _, _, _, rfl, _⟩ := h; rfl)
      | (obtain ⟨_, _, _, _, _, _, _, _, _, _, _, _, _, _, _, _, rfl, _⟩ := h; rfl)
      | (obtain ⟨_, _, _, _, _, _, _, _, _, _, _, _, _, _, _, _, _, rfl, _⟩ := h; rfl)
      | (obtain ⟨_, _, _, _, _, _, _, _, _, _, _, _, _, _, _, _, _, _, rfl, _⟩ := h; rfl)
      | (obtain ⟨_, _, _, _, _, _, _, _, _, _, _, _, _, _, _, _, _, _, _, rfl, _⟩ := h; rfl)
      | (obtain ⟨_, _, _, _, _, _, _, _, _, _, _, _, _, _, _, _, _, _, _, _, rfl, _⟩ := h; rfl)
      | (obtain ⟨_, _, _, _, _, _, _, _, _, _, _, _, _, _, _, _, _, _, _, _, _, rfl, _⟩ := h; rfl)
      | (obtain ⟨_, _, _, _, _, _, _, _, _, _, _, _, _, _, _, _, _, _, _, _, _, _, rfl, _⟩ := h; rfl)
      | (obtain ⟨_, _, _, _, _, _, _, _, _, _, _, _, _, _, _, _, _, _, _, _, _, _, _, rfl, _⟩ := h; rfl)
      | (obtain ⟨_, _, _, _, _, _, _, _, _, _, _, _, _, _, _, _, _, _, _, _, _, _, _, _, rfl, _⟩ := h; rfl)
      | (obtain ⟨_, _, _, _, _, _, _, _, _, _, _, _, _, _, _, _, _, _, _, _, _, _, _, _, _, rfl, _⟩ := h; rfl)
      | (obtain ⟨_, _, _, _, _, _, _, _, _, _, _, _, _, _, _, _, _, _, _, _, _, _, _, _, _, _, rfl, _⟩ := h; rfl)
      | (obtain ⟨_, _, _, _, _, _, _, _, _, _, _, _, _, _, _, _, _, _, _, _, _, _, _, _, _, _, _, rfl, _⟩ := h; rfl)
  have hu := hu_of hr
  have hu64 := hr.units
  have hu65 := hr.u65
  have nd := sc_Book_way.nd
  exact ⟨t_Book_way K A E, (pss_cons (s_if (PW.pt (w_or (t_not (t_val (c_is_peg.pe (hr.mono (by decide)) pass0 (pa_cons (uv 1) pa_nil)))) (pw_or1 (t_not (t_val (c_is_peg.pe (hr.mono (by decide)) pass0 (pa_cons (uv 2) pa_nil)))))))
  (pss_one (ps_raise rfl (takes_of rfl rfl rfl rfl) (pmk_own PySem.F.excBase_ValueError G.x_NoSighting G.g_NoSighting G.k_NoSighting (raises_own G.b_NoSighting G.t_NoSighting) (by exact rfl))))
  pss_nil)
  (pss_cons (ps_set (i := 3) nd rfl (by first | exact Or.inl rfl | exact Or.inr rfl) (c_Book_kept.pe0 T.cl (hr.mono (by decide)) pass0 (uv 0)))
  (pss_cons (ps_set (i := 4) nd rfl (by first | exact Or.inl rfl | exact Or.inr rfl) (c_way_along.pe (hr.mono (by decide)) pass0 (pa_cons (uv 3) (pa_cons (uv 1) (pa_cons (uv 2) pa_nil)))))
  (pss_cons (s_if (t_cmp (c_op o_isN (uv 4) pe_non))
  (pss_one (ps_raise rfl (takes_of rfl rfl rfl rfl) (c_NoWay___init__.pmk (hr.mono (by decide)) (pa_cons (c_part_of.pe (hr.mono (by decide)) pass0 (pa_cons (uv 3) (pa_cons (uv 1) pa_nil))) pa_nil))))
  pss_nil)
  (pss_one (ps_ret (uv 4))))))), rd_Book_way T h⟩
abbrev s_Book_rise : Stmt := inClass (top 23) 6
theorem sc_Book_rise : FnScope N_Book_rise ["self", "one", "other"] (defScope s_Book_rise) := ⟨rfl, rfl, rfl, by decide +kernel, rfl, by decide +kernel, by decide +kernel⟩
theorem ok_Book_rise {A : Ad} {f : Addr} {fd : FuncData} (F : Fun K "rise" "Book.rise" s_Book_rise f fd) (hm : Meth K A.Book "rise" f) (hb : Binds K fd ["self", "one", "other"] []) (M : Mg mg) (G : Gx mg K A) (T : Tx K A) (c_total : Cal P w K mg base CX0 1 "total" ["steps"] (sp_total K)) (c_Book_way : CalM P w K mg base (L2.CX P w) 4 A.Book "way" ["self", "one", "other"] (sp_Book_way K A)) :
    CalM P w K mg base (L2.CX P w) 5 A.Book "rise" ["self", "one", "other"] (sp_Book_rise K A) := by
  refine ⟨f, fd, F.okX sc_Book_rise (fun vs H Q E h => ?_) (fun cdv A' outer s H vs Q E hr h => ?_), hm, hb⟩
  · unfold sp_Book_rise at h
    first
      | (obtain ⟨rfl, _⟩ := h; rfl)
      | (obtain ⟨_, rfl, _⟩ := h; rfl)
      | (obtain ⟨_, _, rfl, _⟩ := h; rfl)
      | (obtain ⟨_, _, _, rfl, _⟩ := h; rfl)
      | (obtain ⟨_, _, _, _, rfl, _⟩ := h; rfl)
      | (obtain ⟨_, _, _, _, _, rfl, _⟩ := h; rfl)
      | (obtain ⟨_, _, _, _, _, _, rfl, _⟩ := h; rfl)
      | (obtain ⟨_, _, _, _, _, _, _, rfl, _⟩ := h; rfl)
      | (obtain ⟨_, _, _, _, _, _, _, _, rfl, _⟩ := h; rfl)
      | (obtain ⟨_, _, _, _, _, _, _, _, _, rfl, _⟩ := h; rfl)
      | (obtain ⟨_, _, _, _, _, _, _, _, _, _, rfl, _⟩ := h; rfl)
      | (obtain ⟨_, _, _, _, _, _, _, _, _, _, _, rfl, _⟩ := h; rfl)
      | (obtain ⟨_, _, _, _, _, _, _, _, _, _, _, _, rfl, _⟩ := h; rfl)
      | (obtain ⟨_, _, _, _, _, _, _, _, _, _, _, _, _, rfl, _⟩ := h; rfl)
      | (obtain ⟨_, _, _, _, _, _, _, _, _, _, _, _, _, _, rfl, _⟩ := h; rfl)
      | (obtain ⟨_, _, _, _, _, _, _, _, _, _, _, _, _, _, _, rfl, _⟩ := h; rfl)
      | (obtain ⟨_, _, _, _, _, _, _, _, _, _, _, _, _, _, _, _, rfl, _⟩ := h; rfl)
      | (obtain ⟨_, _, _, _, _, _, _, _, _, _, _, _, _, _, _, _, _, rfl, _⟩ := h; rfl)
      | (obtain ⟨_, _, _, _, _, _, _, _, _, _, _, _, _, _, _, _, _, _, rfl, _⟩ := h; rfl)
      | (obtain ⟨_, _, _, _, _, _, _, _, _, _, _, _, _, _, _, _, _, _, _, rfl, _⟩ := h; rfl)
      | (obtain ⟨_, _, _, _, _, _, _, _, _, _, _, _, _, _, _, _, _, _, _, _, rfl, _⟩ := h; rfl)
      | (obtain ⟨_, _, _, _, _, _, _, _, _, _, _, _, _, _, _, _, _, _, _, _, _, rfl, _⟩ := h; rfl)
      | (obtain ⟨_, _, _, _, _, _, _, _, _, _, _, _, _, _, _, _, _, _, _, _, _, _, rfl, _⟩ := h; rfl)
      | (obtain ⟨_, _, _, _, _, _, _, _, _, _, _, _, _, _, _, _, _, _, _, _, _, _, _, rfl, _⟩ := h; rfl)
      | (obtain ⟨_, _, _, _, _, _, _, _, _, _, _, _, _, _, _, _, _, _, _, _, _, _, _, _, rfl, _⟩ := h; rfl)
      | (obtain ⟨_, _, _, _, _, _, _, _, _, _, _, _, _, _, _, _, _, _, _, _, _, _, _, _, _, rfl, _⟩ := h; rfl)
      | (obtain ⟨_, _, _, _, _, _, _, _, _, _, _, _, _, _, _, _, _, _, _, _, _, _, _, _, _, _, rfl, _⟩ := h; rfl)
      | (obtain ⟨_, _, _, _, _, _, _, _, _, _, _, _, _, _, _, _, _, _, _, _, _, _, _, _, _, _, _, rfl, _⟩ := h; rfl)
  have hu := hu_of hr
  have hu64 := hr.units
  have hu65 := hr.u65
  have nd := sc_Book_rise.nd
  exact ⟨t_Book_rise K A E, (pss_one (ps_ret (c_total.pe (hr.mono (by decide)) pass0 (pa_cons (c_Book_way.pe T.cl (hr.mono (by decide)) (passes_call (takes_of rfl rfl rfl rfl) (fun _ _ _ _ h => h)) (uv 0) (pa_cons (uv 1) (pa_cons (uv 2) pa_nil))) pa_nil)))), rd_Book_rise T h⟩
abbrev s_Book_parts : Stmt := inClass (top 23) 7
theorem sc_Book_parts : FnScope N_Book_parts ["self"] (defScope s_Book_parts) := ⟨rfl, rfl, rfl, by decide +kernel, rfl, by decide +kernel, by decide +kernel⟩
theorem ok_Book_parts {A : Ad} {f : Addr} {fd : FuncData} (F : Fun K "parts" "Book.parts" s_Book_parts f fd) (hm : Meth K A.Book "parts" f) (hb : Binds K fd ["self"] []) (M : Mg mg) (G : Gx mg K A) (T : Tx K A) (c_leaving : Cal P w K mg base CX0 2 "leaving" ["rows"] (sp_leaving K)) (c_Book_kept : CalM P w K mg base CX0 1 A.Book "kept" ["self"] (sp_Book_kept K A)) (c_reached : Cal P w K mg base CX0 1 "reached" ["links", "one"] (sp_reached K)) :
    CalM P w K mg base CX0 3 A.Book "parts" ["self"] (sp_Book_parts K A) := by
  refine ⟨f, fd, F.ok sc_Book_parts (fun vs H Q E h => ?_) (fun cdv A' outer s H vs Q E hr h => ?_), hm, hb⟩
  · unfold sp_Book_parts at h
    first
      | (obtain ⟨rfl, _⟩ := h; rfl)
      | (obtain ⟨_, rfl, _⟩ := h; rfl)
      | (obtain ⟨_, _, rfl, _⟩ := h; rfl)
      | (obtain ⟨_, _, _, rfl, _⟩ := h; rfl)
      | (obtain ⟨_, _, _, _, rfl, _⟩ := h; rfl)
      | (obtain ⟨_, _, _, _, _, rfl, _⟩ := h; rfl)
      | (obtain ⟨_, _, _, _, _, _, rfl, _⟩ := h; rfl)
      | (obtain ⟨_, _, _, _, _, _, _, rfl, _⟩ := h; rfl)
      | (obtain ⟨_, _, _, _, _, _, _, _, rfl, _⟩ := h; rfl)
      | (obtain ⟨_, _, _, _, _, _, _, _, _, rfl, _⟩ := h; rfl)
      | (obtain ⟨_, _, _, _, _, _, _, _, _, _, rfl, _⟩ := h; rfl)
      | (obtain ⟨_, _, _, _, _, _, _, _, _, _, _, rfl, _⟩ := h; rfl)
      | (obtain ⟨_, _, _, _, _, _, _, _, _, _, _, _, rfl, _⟩ := h; rfl)
      | (obtain ⟨_, _, _, _, _, _, _, _, _, _, _, _, _, rfl, _⟩ := h; rfl)
      | (obtain ⟨_, _, _, _, _, _, _, _, _, _, _, _, _, _, rfl, _⟩ := h; rfl)
      | (obtain ⟨_, _, _, _, _, _, _, _, _, _, _, _, _, _, _, rfl, _⟩ := h; rfl)
      | (obtain ⟨_, _, _, _, _, _, _, _, _, _, _, _, _, _, _, _, rfl, _⟩ := h; rfl)
      | (obtain ⟨_, _, _, _, _, _, _, _, _, _, _, _, _, _, _, _, _, rfl, _⟩ := h; rfl)
      | (obtain ⟨_, _, _, _, _, _, _, _, _, _, _, _, _, _, _, _, _, _, rfl, _⟩ := h; rfl)
      | (obtain ⟨_, _, _, _, _, _, _, _, _, _, _, _, _, _, _, _, _, _, _, rfl, _⟩ := h; rfl)
      | (obtain ⟨_, _, _, _, _, _, _, _, _, _, _, _, _, _, _, _, _, _, _, _, rfl, _⟩ := h; rfl)
      | (obtain ⟨_, _, _, _, _, _, _, _, _, _, _, _, _, _, _, _, _, _, _, _, _, rfl, _⟩ := h; rfl)
      | (obtain ⟨_, _, _, _, _, _, _, _, _, _, _, _, _, _, _, _, _, _, _, _, _, _, rfl, _⟩ := h; rfl)
      | (obtain ⟨_, _, _, _, _, _, _, _, _, _, _, _, _, _, _, _, _, _, _, _, _, _, _, rfl, _⟩ := h; rfl)
      | (obtain ⟨_, _, _, _, _, _, _, _, _, _, _, _, _, _, _, _, _, _, _, _, _, _, _, _, rfl, _⟩ := h; rfl)
      | (obtain ⟨_, _, _, _, _, _, _, _, _, _, _, _, _, _, _, _, _, _, _, _, _, _, _, _, _, rfl, _⟩ := h; rfl)
      | (obtain ⟨_, _, _, _, _, _, _, _, _, _, _, _, _, _, _, _, _, _, _, _, _, _, _, _, _, _, rfl, _⟩ := h; rfl)
      | (obtain ⟨_, _, _, _, _, _, _, _, _, _, _, _, _, _, _, _, _, _, _, _, _, _, _, _, _, _, _, rfl, _⟩ := h; rfl)
  have hu := hu_of hr
  have hu64 := hr.units
  have hu65 := hr.u65
  have nd := sc_Book_parts.nd
  exact ⟨t_Book_parts K A, (pss_cons (ps_set (i := 1) nd rfl (by first | exact Or.inl rfl | exact Or.inr rfl) (c_leaving.pe (hr.mono (by decide)) pass0 (pa_cons (c_Book_kept.pe0 T.cl (hr.mono (by decide)) pass0 (uv 0)) pa_nil)))
  (pss_cons (ps_set (i := 2) nd rfl (by first | exact Or.inl rfl | exact Or.inr rfl) e_dnew)
  (pss_cons (ps_set (i := 3) nd rfl (by first | exact Or.inl rfl | exact Or.inr rfl) (e_lst pa_nil))
  (pss_cons (ps_for pnever rfl (pi_list (pe_callB (b_sortedD rfl) (by rfl) M.m_sorted (by decide +kernel) (pa_cons (uv 1) pa_nil))) (pg_name (i := 4) nd rfl (by first | exact Or.inl rfl | exact Or.inr rfl))
  (pss_one (s_if (t_cmp (c_dnotin hu (uv 4) (uv 2)))
  (pss_cons (ps_set (i := 5) nd rfl (by first | exact Or.inl rfl | exact Or.inr rfl) (pe_callB (b_sortedD rfl) (by rfl) M.m_sorted (by decide +kernel) (pa_cons (c_reached.pe (hr.mono (by decide)) pass0 (pa_cons (uv 1) (pa_cons (uv 4) pa_nil))) pa_nil)))
  (pss_cons (ps_for pnever rfl (pi_list (uv 5)) (pg_name (i := 6) nd rfl (by first | exact Or.inl rfl | exact Or.inr rfl))
  (pss_one (s_dput hu (uv 2) (uv 6) pe_bl rfl)))
  (pss_one (ps_expr (pe_bm PySem.F.plainAttrs_list PySem.F.slot_list_append PySem.F.type_list_append m_append (uv 3) (pa_cons (uv 5) pa_nil))))))
  pss_nil)))
  (pss_one (ps_ret (uv 3))))))), rd_Book_parts T h⟩
abbrev s_Book_heights : Stmt := inClass (top 23) 8
theorem sc_Book_heights : FnScope N_Book_heights ["self"] (defScope s_Book_heights) := ⟨rfl, rfl, rfl, by decide +kernel, rfl, by decide +kernel, by decide +kernel⟩
theorem ok_Book_heights {A : Ad} {f : Addr} {fd : FuncData} (F : Fun K "heights" "Book.heights" s_Book_heights f fd) (hm : Meth K A.Book "heights" f) (hb : Binds K fd ["self"] []) (M : Mg mg) (G : Gx mg K A) (T : Tx K A) (c_leaving : Cal P w K mg base CX0 2 "leaving" ["rows"] (sp_leaving K)) (c_Book_kept : CalM P w K mg base CX0 1 A.Book "kept" ["self"] (sp_Book_kept K A)) (c_reached : Cal P w K mg base CX0 1 "reached" ["links", "one"] (sp_reached K)) :
    CalM P w K mg base CX0 3 A.Book "heights" ["self"] (sp_Book_heights K A) := by
  refine ⟨f, fd, F.ok sc_Book_heights (fun vs H Q E h => ?_) (fun cdv A' outer s H vs Q E hr h => ?_), hm, hb⟩
  · unfold sp_Book_heights at h
    first
      | (obtain ⟨rfl, _⟩ := h; rfl)
      | (obtain ⟨_, rfl, _⟩ := h; rfl)
      | (obtain ⟨_, _, rfl, _⟩ := h; rfl)
      | (obtain ⟨_, _, _, rfl, _⟩ := h; rfl)
      | (obtain ⟨_, _, _, _, rfl, _⟩ := h; rfl)
      | (obtain ⟨_, _, _, _, _, rfl, _⟩ := h; rfl)
      | (obtain ⟨_, _, _, _, _, _, rfl, _⟩ := h; rfl)
      | (obtain ⟨_, _, _, _, _, _, _, rfl, _⟩ := h; rfl)
      | (obtain ⟨_, _, _, _, _, _, _, _, rfl, _⟩ := h; rfl)
      | (obtain ⟨_, _, _, _, _, _, _, _, _, rfl, _⟩ := h; rfl)
      | (obtain ⟨_, _, _, _, _, _, _, _, _, _, rfl, _⟩ := h; rfl)
      | (obtain ⟨_, _, _, _, _, _, _, _, _, _, _, rfl, _⟩ := h; rfl)
      | (obtain ⟨_, _, _, _, _, _, _, _, _, _, _, _, rfl, _⟩ := h; rfl)
      | (obtain ⟨_, _, _, _, _, _, _, _, _, _, _, _, _, rfl, _⟩ := h; rfl)
      | (obtain ⟨_, _, _, _, _, _, _, _, _, _, _, _, _, _, rfl, _⟩ := h; rfl)
      | (obtain ⟨_, _, _, _, _, _, _, _, _, _, _, _, _, _, _, rfl, _⟩ := h; rfl)
      | (obtain ⟨_, _, _, _, _, _, _, _, _, _, _, _, _, _, _, _, rfl, _⟩ := h; rfl)
      | (obtain ⟨_, _, _, _, _, _, _, _, _, _, _, _, _, _, _, _, _, rfl, _⟩ := h; rfl)
      | (obtain ⟨_, _, _, _, _, _, _, _, _, _, _, _, _, _, _, _, _, _, rfl, _⟩ := h; rfl)
      | (obtain ⟨_, _, _, _, _, _, _, _, _, _, _, _, _, _, _, _, _, _, _, rfl, _⟩ := h; rfl)
      | (obtain ⟨_, _, _, _, _, _, _, _, _, _, _, _, _, _, _, _, _, _, _, _, rfl, _⟩ := h; rfl)
      | (obtain ⟨_, _, _, _, _, _, _, _, _, _, _, _, _, _, _, _, _, _, _, _, _, rfl, _⟩ := h; rfl)
      | (obtain ⟨_, _, _, _, _, _, _, _, _, _, _, _, _, _, _, _, _, _, _, _, _, _, rfl, _⟩ := h; rfl)
      | (obtain ⟨_, _, _, _, _, _, _, _, _, _, _, _, _, _, _, _, _, _, _, _, _, _, _, rfl, _⟩ := h; rfl)
      | (obtain ⟨_, _, _, _, _, _, _, _, _, _, _, _, _, _, _, _, _, _, _, _, _, _, _, _, rfl, _⟩ := h; rfl)
      | (obtain ⟨_, _, _, _, _, _, _, _, _, _, _, _, _, _, _, _, _, _, _, _, _, _, _, _, _, rfl, _⟩ := h; rfl)
      | (obtain ⟨_, _, _, _, _, _, _, _, _, _, _, _, _, _, _, _, _, _, _, _, _, _, _, _, _, _, rfl, _⟩ := h; rfl)
      | (obtain ⟨_, _, _, _, _, _, _, _, _, _, _, _, _, _, _, _, _, _, _, _, _, _, _, _, _, _, _, rfl, _⟩ := h; rfl)
  have hu := hu_of hr
  have hu64 := hr.units
  have hu65 := hr.u65
  have nd := sc_Book_heights.nd
  exact ⟨t_Book_heights K A, (pss_cons (ps_set (i := 1) nd rfl (by first | exact Or.inl rfl | exact Or.inr rfl) (c_leaving.pe (hr.mono (by decide)) pass0 (pa_cons (c_Book_kept.pe0 T.cl (hr.mono (by decide)) pass0 (uv 0)) pa_nil)))
  (pss_cons (ps_set (i := 2) nd rfl (by first | exact Or.inl rfl | exact Or.inr rfl) e_dnew)
  (pss_cons (ps_for pnever rfl (pi_list (pe_callB (b_sortedD rfl) (by rfl) M.m_sorted (by decide +kernel) (pa_cons (uv 1) pa_nil))) (pg_name (i := 3) nd rfl (by first | exact Or.inl rfl | exact Or.inr rfl))
  (pss_one (s_if (t_cmp (c_dnotin hu (uv 3) (uv 2)))
  (pss_one (ps_for pnever rfl (pi_items (U.e_freeze (c_reached.pe (hr.mono (by decide)) pass0 (pa_cons (uv 1) (pa_cons (uv 3) pa_nil))))) (pg_tup rfl (pgs_cons (pg_name (i := 4) nd rfl (by first | exact Or.inl rfl | exact Or.inr rfl)) (pgs_cons (pg_name (i := 5) nd rfl (by first | exact Or.inl rfl | exact Or.inr rfl)) pgs_nil)))
  (pss_one (s_if (t_cmp (c_op o_isN (uv 5) pe_non))
  (pss_one (s_dput hu (uv 2) (uv 4) pe_int rfl))
  (pss_one (s_dput hu (uv 2) (uv 4) (pe_op o_add (u_dget hu (uv 2) (pe_ix x_tup (uv 5) pe_int plainIx)) (pe_ix x_tup (uv 5) pe_int plainIx)) rfl))))))
  pss_nil)))
  (pss_one (ps_ret (u_lc (own := [("peg", 3)]) (g := (gName 3)) (tt := tYes) rfl nd (pi_list (pe_callB (b_sortedD rfl) (by rfl) M.m_sorted (by decide +kernel) (pa_cons (uv 2) pa_nil))) (blkOk_by (N := N_Book_heights) (sc := defScope s_Book_heights) (own := [("peg", 3)]) (by decide +kernel)) (fun _ _ _ _ _ => (pg_name (i := 3) nd rfl (by first | exact Or.inl rfl | exact Or.inr rfl))) (fun _ _ _ _ _ => pts_nil) (fun _ _ _ _ _ => (e_tup (pa_cons (uv 3) (pa_cons (u_dget hu (uv 2) (uv 3)) pa_nil)))))))))), rd_Book_heights T h⟩
abbrev s_row_shown : Stmt := top 26
theorem sc_row_shown : FnScope N_row_shown ["row"] (defScope s_row_shown) := ⟨rfl, rfl, rfl, by decide +kernel, rfl, by decide +kernel, by decide +kernel⟩
theorem ok_row_shown {f : Addr} {fd : FuncData} (F : Fun K "row_shown" "row_shown" s_row_shown f fd) (hm : mg "row_shown" = some (.ref f)) (hb : Binds K fd ["row"] []) (M : Mg mg)  :
    Cal P w K mg base CX0 1 "row_shown" ["row"] (sp_row_shown K) := by
  refine ⟨f, fd, F.ok sc_row_shown (fun vs H Q E h => ?_) (fun cdv A' outer s H vs Q E hr h => ?_), hm, F.kp, hb⟩
  · unfold sp_row_shown at h
    first
      | (obtain ⟨rfl, _⟩ := h; rfl)
      | (obtain ⟨_, rfl, _⟩ := h; rfl)
      | (obtain ⟨_, _, rfl, _⟩ := h; rfl)
      | (obtain ⟨_, _, _, rfl, _⟩ := h; rfl)
      | (obtain ⟨_, _, _, _, rfl, _⟩ := h; rfl)
      | (obtain ⟨_, _, _, _, _, rfl, _⟩ := h; rfl)
      | (obtain ⟨_, _, _, _, _, _, rfl, _⟩ := h; rfl)
      | (obtain ⟨_, _, _, _, _, _, _, rfl, _⟩ := h; rfl)
      | (obtain ⟨_, _, _, _, _, _, _, _, rfl, _⟩ := h; rfl)
      | (obtain ⟨_, _, _, _, _, _, _, _, _, rfl, _⟩ := h; rfl)
      | (obtain ⟨_, _, _, _, _, _, _, _, _, _, rfl, _⟩ := h; rfl)
      | (obtain ⟨_, _, _, _, _, _, _, _, _, _, _, rfl, _⟩ := h; rfl)
      | (obtain ⟨_, _, _, _, _, _, _, _, _, _, _, _, rfl, _⟩ := h; rfl)
      | (obtain ⟨_, _, _, _, _, _, _, _, _, _, _, _, _, rfl, _⟩ := h; rfl)
      | (obtain ⟨_, _, _, _, _, _, _, _, _, _, _, _, _, _, rfl, _⟩ := h; rfl)
      | (obtain ⟨_, _, _, _, _, _, _, _, _, _, _, _, _, _, _, rfl, _⟩ := h; rfl)
      | (obtain ⟨_, _, _, _, _, _, _, _, _, _, _, _, _, _, _, _, rfl, _⟩ := h; rfl)
      | (obtain ⟨_, _, _, _, _, _, _, _, _, _, _, _, _, _, _, _, _, rfl, _⟩ := h; rfl)
      | (obtain ⟨_, _, _, _, _, _, _, _, _, _, _, _, _, _, _, _, _, _, rfl, _⟩ := h; rfl)
      | (obtain ⟨_, _, _, _, _, _, _, _, _, _, _, _, _, _, _, _, _, _, _, rfl, _⟩ := h; rfl)
      | (obtain ⟨_, _, _, _, _, _, _, _, _, _, _, _, _, _, _, _, _, _, _, _, rfl, _⟩ := h; rfl)
      | (obtain ⟨_, _, _, _, _, _, _, _, _, _, _, _, _, _, _, _, _, _, _, _, _, rfl, _⟩ := h; rfl)
      | (obtain ⟨_, _, _, _, _, _, _, _, _, _, _, _, _, _, _, _, _, _, _, _, _, _, rfl, _⟩ := h; rfl)
      | (obtain ⟨_, _, _, _, _, _, _, _, _, _, _, _, _, _, _, _, _, _, _, _, _, _, _, rfl, _⟩ := h; rfl)
      | (obtain ⟨_, _, _, _, _, _, _, _, _, _, _, _, _, _, _, _, _, _, _, _, _, _, _, _, rfl, _⟩ := h; rfl)
      | (obtain ⟨_, _, _, _, _, _, _, _, _, _, _, _, _, _, _, _, _, _, _, _, _, _, _, _, _, rfl, _⟩ := h; rfl)
      | (obtain ⟨_, _, _, _, _, _, _, _, _, _, _, _, _, _, _, _, _, _, _, _, _, _, _, _, _, _, rfl, _⟩ := h; rfl)
      | (obtain ⟨_, _, _, _, _, _, _, _, _, _, _, _, _, _, _, _, _, _, _, _, _, _, _, _, _, _, _, rfl, _⟩ := h; rfl)
  have hu := hu_of hr
  have hu64 := hr.units
  have hu65 := hr.u65
  have nd := sc_row_shown.nd
  exact ⟨t_row_shown K, (pss_one (ps_ret (pe_op o_addS (pe_op o_addS (pe_op o_addS (pe_op o_addS (pe_ix x_tup (uv 0) pe_int plainIx) pe_str) (pe_ix x_tup (uv 0) pe_int plainIx)) pe_str) (pe_callTy b_str (by rfl) M.m_str (by decide +kernel) (pa_cons (pe_ix x_tup (uv 0) pe_int plainIx) pa_nil))))), rd_row_shown h⟩
abbrev s_shown : Stmt := top 27
theorem sc_shown : FnScope N_shown ["book"] (defScope s_shown) := ⟨rfl, rfl, rfl, by decide +kernel, rfl, by decide +kernel, by decide +kernel⟩
theorem ok_shown {A : Ad} {f : Addr} {fd : FuncData} (F : Fun K "shown" "shown" s_shown f fd) (hm : mg "shown" = some (.ref f)) (hb : Binds K fd ["book"] []) (M : Mg mg) (G : Gx mg K A) (T : Tx K A) (c_Book_kept : CalM P w K mg base CX0 1 A.Book "kept" ["self"] (sp_Book_kept K A)) (c_row_shown : Cal P w K mg base CX0 1 "row_shown" ["row"] (sp_row_shown K)) :
    Cal P w K mg base CX0 2 "shown" ["book"] (sp_shown K A) := by
  refine ⟨f, fd, F.ok sc_shown (fun vs H Q E h => ?_) (fun cdv A' outer s H vs Q E hr h => ?_), hm, F.kp, hb⟩
  · unfold sp_shown at h
    first
      | (obtain ⟨rfl, _⟩ := h; rfl)
      | (obtain ⟨_, rfl, _⟩ := h; rfl)
      | (obtain ⟨_, _, rfl, _⟩ := h; rfl)
      | (obtain ⟨_, _, _, rfl, _⟩ := h; rfl)
      | (obtain ⟨_, _, _, _, rfl, _⟩ := h; rfl)
      | (obtain ⟨_, _, _, _, _, rfl, _⟩ := h; rfl)
      | (obtain ⟨_, _, _, _, _, _, rfl, _⟩ := h; rfl)
      | (obtain ⟨_, _, _, _, _, _, _, rfl, _⟩ := h; rfl)
      | (obtain ⟨_, _, _, _, _, _, _, _, rfl, _⟩ := h; rfl)
      | (obtain ⟨_, _, _, _, _, _, _, _, _, rfl, _⟩ := h; rfl)
      | (obtain ⟨_, _, _, _, _, _, _, _, _, _, rfl, _⟩ := h; rfl)
      | (obtain ⟨_, _, _, _, _, _, _, _, _, _, _, rfl, _⟩ := h; rfl)
      | (obtain ⟨_, _, _, _, _, _, _, _, _, _, _, _, rfl, _⟩ := h; rfl)
      | (obtain ⟨_, _, _, _, _, _, _, _, _, _, _, _, _, rfl, _⟩ := h; rfl)
      | (obtain ⟨_, _, _, _, _, _, _, _, _, _, _, _, _, _, rfl, _⟩ := h; rfl)
      | (obtain ⟨_, _, _, _, _, _, _, _, _, _, _, _, _, _, _, rfl, _⟩ := h; rfl)
      | (obtain ⟨_, _, _, _, _, _, _, _, _, _, _, _, _, _, _, _, rfl, _⟩ := h; rfl)
      | (obtain ⟨_, _, _, _, _, _, _, _, _, _, _, _, _, _, _, _, _, rfl, _⟩ := h; rfl)
      | (obtain ⟨_, _, _, _, _, _, _, _, _, _, _, _, _, _, _, _, _, _, rfl, _⟩ := h; rfl)
      | (obtain ⟨_, _, _, _, _, _, _, _, _, _, _, _, _, _, _, _, _, _, _, rfl, _⟩ := h; rfl)
      | (obtain ⟨_, _, _, _, _, _, _, _, _, _, _, _, _, _, _, _, _, _, _, _, rfl, _⟩ := h; rfl)
      | (obtain ⟨_, _, _, _, _, _, _, _, _, _, _, _, _, _, _, _, _, _, _, _, _, rfl, _⟩ := h; rfl)
      | (obtain ⟨_, _, _, _, _, _, _, _, _, _, _, _, _, _, _, _, _, _, _, _, _, _, rfl, _⟩ := h; rfl)
      | (obtain ⟨_, _, _, _, _, _, _, _, _, _, _, _, _, _, _, _, _, _, _, _, _, _, _, rfl, _⟩ := h; rfl)
      | (obtain ⟨_, _, _, _, _, _, _, _, _, _, _, _, _, _, _, _, _, _, _, _, _, _, _, _, rfl, _⟩ := h; rfl)
      | (obtain ⟨_, _, _, _, _, _, _, _, _, _, _, _, _, _, _, _, _, _, _, _, _, _, _, _, _, rfl, _⟩ := h; rfl)
      | (obtain ⟨_, _, _, _, _, _, _, _, _, _, _, _, _, _, _, _, _, _, _, _, _, _, _, _, _, _, rfl, _⟩ := h; rfl)
      | (obtain ⟨_, _, _, _, _, _, _, _, _, _, _, _, _, _, _, _, _, _, _, _, _, _, _, _, _, _, _, rfl, _⟩ := h; rfl)
  have hu := hu_of hr
  have hu64 := hr.units
  have hu65 := hr.u65
  have nd := sc_shown.nd
  exact ⟨t_shown K A, (pss_one (ps_ret (e_join pe_str (u_lc (own := [("row", 1)]) (g := (gName 1)) (tt := tYes) rfl nd (pi_list (c_Book_kept.pe0 T.cl (hr.mono (by decide)) pass0 (uv 0))) (blkOk_by (N := N_shown) (sc := defScope s_shown) (own := [("row", 1)]) (by decide +kernel)) (fun _ _ _ _ _ => (pg_name (i := 1) nd rfl (by first | exact Or.inl rfl | exact Or.inr rfl))) (fun _ _ _ _ _ => pts_nil) (fun _ _ _ _ _ => (c_row_shown.pe (hr.mono (by decide)) pass0 (pa_cons (uv 1) pa_nil))))))), rd_shown T h⟩
abbrev s_rise_of : Stmt := top 28
theorem sc_rise_of : FnScope N_rise_of ["word"] (defScope s_rise_of) := ⟨rfl, rfl, rfl, by decide +kernel, rfl, by decide +kernel, by decide +kernel⟩
theorem ok_rise_of {A : Ad} {f : Addr} {fd : FuncData} (F : Fun K "rise_of" "rise_of" s_rise_of f fd) (hm : mg "rise_of" = some (.ref f)) (hb : Binds K fd ["word"] []) (M : Mg mg) (G : Gx mg K A) (T : Tx K A)  :
    Cal P w K mg base (L2.CX P w) 1 "rise_of" ["word"] (sp_rise_of K A) := by
  obtain ⟨_, m_FIGURES⟩ := M.x_FIGURES
  refine ⟨f, fd, F.okX sc_rise_of (fun vs H Q E h => ?_) (fun cdv A' outer s H vs Q E hr h => ?_), hm, F.kp, hb⟩
  · unfold sp_rise_of at h
    first
      | (obtain ⟨rfl, _⟩ := h; rfl)
      | (obtain ⟨_, rfl, _⟩ := h; rfl)
      | (obtain ⟨_, _, rfl, _⟩ := h; rfl)
      | (obtain ⟨_, _, _, rfl, _⟩ := h; rfl)
      | (obtain ⟨_, _, _, _, rfl, _⟩ := h; rfl)
      | (obtain ⟨_, _, _, _, _, rfl, _⟩ := h; rfl)
      | (obtain ⟨_, _, _, _, _, _, rfl, _⟩ := h; rfl)
      | (obtain ⟨_, _, _, _, _, _, _, rfl, _⟩ := h; rfl)
      | (obtain ⟨_, _, _, _, _, _, _, _, rfl, _⟩ := h; rfl)
      | (obtain ⟨_, _, _, _, _, _, _, _, _, rfl, _⟩ := h; rfl)
      | (obtain ⟨_, _, _, _, _, _, _, _, _, _, rfl, _⟩ := h; rfl)
      | (obtain ⟨_, _, _, _, _, _, _, _, _, _, _, rfl, _⟩ := h; rfl)
      | (obtain ⟨_, _, _, _, _, _, _, _, _, _, _, _, rfl, _⟩ := h; rfl)
      | (obtain ⟨_, _, _, _, _, _, _, _, _, _, _, _, _, rfl, _⟩ := h; rfl)
      | (obtain ⟨_, _, _, _, _, _, _, _, _, _, _, _, _, _, rfl, _⟩ := h; rfl)
      | (obtain ⟨_, _, _, _, _, _, _, _, _, _, _, _, _, _, _, rfl, _⟩ := h; rfl)
      | (obtain ⟨_, _, _, _, _, _, _, _, _, _, _, _, _, _, _, _, rfl, _⟩ := h; rfl)
      | (obtain ⟨_, _, _, _, _, _, _, _, _, _, _, _, _, _, _, _, _, rfl, _⟩ := h; rfl)
      | (obtain ⟨_, _, _, _, _, _, _, _, _, _, _, _, _, _, _, _, _, _, rfl, _⟩ := h; rfl)
      | (obtain ⟨_, _, _, _, _, _, _, _, _, _, _, _, _, _, _, _, _, _, _, rfl, _⟩ := h; rfl)
      | (obtain ⟨_, _, _, _, _, _, _, _, _, _, _, _, _, _, _, _, _, _, _, _, rfl, _⟩ := h; rfl)
      | (obtain ⟨_, _, _, _, _, _, _, _, _, _, _, _, _, _, _, _, _, _, _, _, _, rfl, _⟩ := h; rfl)
      | (obtain ⟨_, _, _, _, _, _, _, _, _, _, _, _, _, _, _, _, _, _, _, _, _, _, rfl, _⟩ := h; rfl)
      | (obtain ⟨_, _, _, _, _, _, _, _, _, _, _, _, _, _, _, _, _, _, _, _, _, _, _, rfl, _⟩ := h; rfl)
      | (obtain ⟨_, _, _, _, _, _, _, _, _, _, _, _, _, _, _, _, _, _, _, _, _, _, _, _, rfl, _⟩ := h; rfl)
      | (obtain ⟨_, _, _, _, _, _, _, _, _, _, _, _, _, _, _, _, _, _, _, _, _, _, _, _, _, rfl, _⟩ := h; rfl)
      | (obtain ⟨_, _, _, _, _, _, _, _, _, _, _, _, _, _, _, _, _, _, _, _, _, _, _, _, _, _, rfl, _⟩ := h; rfl)
      | (obtain ⟨_, _, _, _, _, _, _, _, _, _, _, _, _, _, _, _, _, _, _, _, _, _, _, _, _, _, _, rfl, _⟩ := h; rfl)
  have hu := hu_of hr
  have hu64 := hr.units
  have hu65 := hr.u65
  have nd := sc_rise_of.nd
  exact ⟨t_rise_of K A E, (pss_cons (ps_set (i := 1) nd rfl (by first | exact Or.inl rfl | exact Or.inr rfl) (uv 0))
  (Evl.pss_cut (s_if (t_cmp (c_op o_eqS (pe_slice s_str (uv 0) po_none (p_some pe_int)) pe_str))
  (pss_one (ps_set (i := 1) nd rfl (by first | exact Or.inl rfl | exact Or.inr rfl) (pe_slice s_str (uv 0) (p_some pe_int) po_none)))
  pss_nil)
  (pss_cons (s_if (PW.pt (w_or (t_cmp (c_op o_eqS (uv 1) pe_str)) (w_or (t_cmp (c_op o_gt (pe_callB l_str (by rfl) M.m_len (by decide +kernel) (pa_cons (uv 1) pa_nil)) pe_int)) (pw_or1 (t_cmp (c_op o_eqS (uv 0) pe_str))))))
  (pss_one (ps_raise rfl (takes_of rfl rfl rfl rfl) (pmk_own PySem.F.excBase_ValueError G.x_NoText G.g_NoText G.k_NoText (raises_own G.b_NoText G.t_NoText) (by exact rfl))))
  pss_nil)
  (pss_cons (ps_for (passes_of rfl) rfl (pi_str (uv 1)) (pg_name (i := 2) nd rfl (by first | exact Or.inl rfl | exact Or.inr rfl))
  (pss_one (s_if (t_cmp (c_op o_notInSign (uv 2) (pe_glob (by rfl) m_FIGURES ⟨_, rfl⟩)))
  (pss_one (ps_raise rfl (takes_of rfl rfl rfl rfl) (pmk_own PySem.F.excBase_ValueError G.x_NoText G.g_NoText G.k_NoText (raises_own G.b_NoText G.t_NoText) (by exact rfl))))
  pss_nil)))
  (pss_cons (s_if (PW.pt (w_and (t_cmp (c_op o_eqS (pe_ix x_str (uv 1) pe_int plainIx) pe_str)) (pw_and1 (t_cmp (c_op o_gt (pe_callB l_str (by rfl) M.m_len (by decide +kernel) (pa_cons (uv 1) pa_nil)) pe_int)))))
  (pss_one (ps_raise rfl (takes_of rfl rfl rfl rfl) (pmk_own PySem.F.excBase_ValueError G.x_NoText G.g_NoText G.k_NoText (raises_own G.b_NoText G.t_NoText) (by exact rfl))))
  pss_nil)
  (pss_one (ps_ret (pe_callTy b_intS (by rfl) M.m_int (by decide +kernel) (pa_cons (uv 0) pa_nil))))))))), rd_rise_of T h⟩
abbrev s_sighting_of : Stmt := top 29
theorem sc_sighting_of : FnScope N_sighting_of ["text"] (defScope s_sighting_of) := ⟨rfl, rfl, rfl, by decide +kernel, rfl, by decide +kernel, by decide +kernel⟩
theorem ok_sighting_of {A : Ad} {f : Addr} {fd : FuncData} (F : Fun K "sighting_of" "sighting_of" s_sighting_of f fd) (hm : mg "sighting_of" = some (.ref f)) (hb : Binds K fd ["text"] []) (M : Mg mg) (G : Gx mg K A) (T : Tx K A) (c_is_peg : Cal P w K mg base CX0 1 "is_peg" ["thing"] (sp_is_peg K)) (c_rise_of : Cal P w K mg base (L2.CX P w) 1 "rise_of" ["word"] (sp_rise_of K A)) :
    Cal P w K mg base (L2.CX P w) 2 "sighting_of" ["text"] (sp_sighting_of K A) := by
  refine ⟨f, fd, F.okX sc_sighting_of (fun vs H Q E h => ?_) (fun cdv A' outer s H vs Q E hr h => ?_), hm, F.kp, hb⟩
  · unfold sp_sighting_of at h
    first
      | (obtain ⟨rfl, _⟩ := h; rfl)
      | (obtain ⟨_, rfl, _⟩ := h; rfl)
      | (obtain ⟨_, _, rfl, _⟩ := h; rfl)
      | (obtain ⟨_, _, _, rfl, _⟩ := h; rfl)
      | (obtain ⟨_, _, _, _, rfl, _⟩ := h; rfl)
      | (obtain ⟨_, _, _, _, _, rfl, _⟩ := h; rfl)
      | (obtain ⟨_, _, _, _, _, _, rfl, _⟩ := h; rfl)
      | (obtain ⟨_, _, _, _, _, _, _, rfl, _⟩ := h; rfl)
      | (obtain ⟨_, _, _, _, _, _, _, _, rfl, _⟩ := h; rfl)
      | (obtain ⟨_, _, _, _, _, _, _, _, _, rfl, _⟩ := h; rfl)
      | (obtain ⟨_, _, _, _, _, _, _, _, _, _, rfl, _⟩ := h; rfl)
      | (obtain ⟨_, _, _, _, _, _, _, _, _, _, _, rfl, _⟩ := h; rfl)
      | (obtain ⟨_, _, _, _, _, _, _, _, _, _, _, _, rfl, _⟩ := h; rfl)
      | (obtain ⟨_, _, _, _, _, _, _, _, _, _, _, _, _, rfl, _⟩ := h; rfl)
      | (obtain ⟨_, _, _, _, _, _, _, _, _, _, _, _, _, _, rfl, _⟩ := h; rfl)
      | (obtain ⟨_, _, _, _, _, _, _, _, _, _, _, _, _, _, _, rfl, _⟩ := h; rfl)
      | (obtain ⟨_, _, _, _, _, _, _, _, _, _, _, _, _, _, _, _, rfl, _⟩ := h; rfl)
      | (obtain ⟨_, _, _, _, _, _, _, _, _, _, _, _, _, _, _, _, _, rfl, _⟩ := h; rfl)
      | (obtain ⟨_, _, _, _, _, _, _, _, _, _, _, _, _, _, _, _, _, _, rfl, _⟩ := h; rfl)
      | (obtain ⟨_, _, _, _, _, _, _, _, _, _, _, _, _, _, _, _, _, _, _, rfl, _⟩ := h; rfl)
      | (obtain ⟨_, _, _, _, _, _, _, _, _, _, _, _, _, _, _, _, _, _, _, _, rfl, _⟩ := h; rfl)
      | (obtain ⟨_, _, _, _, _, _, _, _, _, _, _, _, _, _, _, _, _, _, _, _, _, rfl, _⟩ := h; rfl)
      | (obtain ⟨_, _, _, _, _, _, _, _, _, _, _, _, _, _, _, _, _, _, _, _, _, _, rfl, _⟩ := h; rfl)
      | (obtain ⟨_, _, _, _, _, _, _, _, _, _, _, _, _, _, _, _, _, _, _, _, _, _, _, rfl, _⟩ := h; rfl)
      | (obtain ⟨_, _, _, _, _, _, _, _, _, _, _, _, _, _, _, _, _, _, _, _, _, _, _, _, rfl, _⟩ := h; rfl)
      | (obtain ⟨_, _, _, _, _, _, _, _, _, _, _, _, _, _, _, _, _, _, _, _, _, _, _, _, _, rfl, _⟩ := h; rfl)
      | (obtain ⟨_, _, _, _, _, _, _, _, _, _, _, _, _, _, _, _, _, _, _, _, _, _, _, _, _, _, rfl, _⟩ := h; rfl)
      | (obtain ⟨_, _, _, _, _, _, _, _, _, _, _, _, _, _, _, _, _, _, _, _, _, _, _, _, _, _, _, rfl, _⟩ := h; rfl)
  have hu := hu_of hr
  have hu64 := hr.units
  have hu65 := hr.u65
  have nd := sc_sighting_of.nd
  exact ⟨t_sighting_of K A E, (pss_cons (ps_set (i := 1) nd rfl (by first | exact Or.inl rfl | exact Or.inr rfl) (e_split (uv 0) pe_str))
  (pss_cons (s_if (PW.pt (w_or (t_cmp (c_op o_neI (pe_callB l_seq (by rfl) M.m_len (by decide +kernel) (pa_cons (uv 1) pa_nil)) pe_int)) (w_or (t_not (t_val (c_is_peg.pe (hr.mono (by decide)) pass0 (pa_cons (pe_ix x_list (uv 1) pe_int plainIx) pa_nil)))) (pw_or1 (t_not (t_val (c_is_peg.pe (hr.mono (by decide)) pass0 (pa_cons (pe_ix x_list (uv 1) pe_int plainIx) pa_nil))))))))
  (pss_one (ps_raise rfl (takes_of rfl rfl rfl rfl) (pmk_own PySem.F.excBase_ValueError G.x_NoText G.g_NoText G.k_NoText (raises_own G.b_NoText G.t_NoText) (by exact rfl))))
  pss_nil)
  (pss_one (ps_ret (e_tup (pa_cons (pe_ix x_list (uv 1) pe_int plainIx) (pa_cons (pe_ix x_list (uv 1) pe_int plainIx) (pa_cons (c_rise_of.pe (hr.mono (by decide)) (passes_call (takes_of rfl rfl rfl rfl) (fun _ _ _ _ h => h)) (pa_cons (pe_ix x_list (uv 1) pe_int plainIx) pa_nil)) pa_nil)))))))), rd_sighting_of T h⟩
abbrev s_read : Stmt := top 30
theorem sc_read : FnScope N_read ["text", "most"] (defScope s_read) := ⟨rfl, rfl, rfl, by decide +kernel, rfl, by decide +kernel, by decide +kernel⟩
theorem ok_read {A : Ad} {f : Addr} {fd : FuncData} (F : FunD K "read" "read" (defArgs s_read) (defBody s_read) (defScope s_read) [.int 200] [] f fd) (hm : mg "read" = some (.ref f)) (b1 : Binds K fd ["text", "most"] []) (b0 : ∃ ds, Vals [.int 200] ds ∧ Binds K fd ["text", "most"] ds) (M : Mg mg) (G : Gx mg K A) (T : Tx K A) (c_sighting_of : Cal P w K mg base (L2.CX P w) 2 "sighting_of" ["text"] (sp_sighting_of K A)) (c_Book___init__ : CalK P w K mg base 1 A.Book "Book" ["self", "most"] (sp_Book___init__ K A) [.int 200]) (c_Book_take : CalM P w K mg base (L2.CX P w) 4 A.Book "take" ["self", "one", "other", "rise"] (sp_Book_take K A)) :
    CalD P w K mg base (L2.CX P w) 5 "read" ["text", "most"] (sp_read K A) [.int 200] := by
  refine ⟨f, fd, F.ok sc_read (fun vs H Q E h => ?_) (fun cdv A' outer s H vs Q E hr h => ?_), hm, F.kp, b1, b0⟩
  · unfold sp_read at h
    first
      | (obtain ⟨rfl, _⟩ := h; rfl)
      | (obtain ⟨_, rfl, _⟩ := h; rfl)
      | (obtain ⟨_, _, rfl, _⟩ := h; rfl)
      | (obtain ⟨_, _, _, rfl, _⟩ := h; rfl)
      | (obtain ⟨_, _, _, _, rfl, _⟩ := h; rfl)
      | (obtain ⟨_, _, _, _, _, rfl, _⟩ := h; rfl)
      | (obtain ⟨_, _, _, _, _, _, rfl, _⟩ := h; rfl)
      | (obtain ⟨_, _, _, _, _, _, _, rfl, _⟩ := h; rfl)
      | (obtain ⟨_, _, _, _, _, _, _, _, rfl, _⟩ := h; rfl)
      | (obtain ⟨_, _, _, _, _, _, _, _, _, rfl, _⟩ := h; rfl)
      | (obtain ⟨_, _, _, _, _, _, _, _, _, _, rfl, _⟩ := h; rfl)
      | (obtain ⟨_, _, _, _, _, _, _, _, _, _, _, rfl, _⟩ := h; rfl)
      | (obtain ⟨_, _, _, _, _, _, _, _, _, _, _, _, rfl, _⟩ := h; rfl)
      | (obtain ⟨_, _, _, _, _, _, _, _, _, _, _, _, _, rfl, _⟩ := h; rfl)
      | (obtain ⟨_, _, _, _, _, _, _, _, _, _, _, _, _, _, rfl, _⟩ := h; rfl)
      | (obtain ⟨_, _, _, _, _, _, _, _, _, _, _, _, _, _, _, rfl, _⟩ := h; rfl)
      | (obtain ⟨_, _, _, _, _, _, _, _, _, _, _, _, _, _, _, _, rfl, _⟩ := h; rfl)
      | (obtain ⟨_, _, _, _, _, _, _, _, _, _, _, _, _, _, _, _, _, rfl, _⟩ := h; rfl)
      | (obtain ⟨_, _, _, _, _, _, _, _, _, _, _, _, _, _, _, _, _, _, rfl, _⟩ := h; rfl)
      | (obtain ⟨_, _, _, _, _, _, _, _, _, _, _, _, _, _, _, _, _, _, _, rfl, _⟩ := h; rfl)
      | (obtain ⟨_, _, _, _, _, _, _, _, _, _, _, _, _, _, _, _, _, _, _, _, rfl, _⟩ := h; rfl)
      | (obtain ⟨_, _, _, _, _, _, _, _, _, _, _, _, _, _, _, _, _, _, _, _, _, rfl, _⟩ := h; rfl)
      | (obtain ⟨_, _, _, _, _, _, _, _, _, _, _, _, _, _, _, _, _, _, _, _, _, _, rfl, _⟩ := h; rfl)
      | (obtain ⟨_, _, _, _, _, _, _, _, _, _, _, _, _, _, _, _, _, _, _, _, _, _, _, rfl, _⟩ := h; rfl)
      | (obtain ⟨_, _, _, _, _, _, _, _, _, _, _, _, _, _, _, _, _, _, _, _, _, _, _, _, rfl, _⟩ := h; rfl)
      | (obtain ⟨_, _, _, _, _, _, _, _, _, _, _, _, _, _, _, _, _, _, _, _, _, _, _, _, _, rfl, _⟩ := h; rfl)
      | (obtain ⟨_, _, _, _, _, _, _, _, _, _, _, _, _, _, _, _, _, _, _, _, _, _, _, _, _, _, rfl, _⟩ := h; rfl)
      | (obtain ⟨_, _, _, _, _, _, _, _, _, _, _, _, _, _, _, _, _, _, _, _, _, _, _, _, _, _, _, rfl, _⟩ := h; rfl)
  have hu := hu_of hr
  have hu64 := hr.units
  have hu65 := hr.u65
  have nd := sc_read.nd
  exact ⟨t_read K A E, (pss_cons (ps_set (i := 2) nd rfl (by first | exact Or.inl rfl | exact Or.inr rfl) (e_lst pa_nil))
  (Evl.pss_cut (s_if (t_cmp (c_op o_neS (uv 0) pe_str))
  (pss_one (u_setLcx (i := 2) (own := [("part", 3)]) (g := (gName 3)) (tt := tYes) (E := E) rfl rfl (takes_of rfl rfl rfl rfl) rfl nd rfl rfl (sw_true rfl rfl rfl (by decide +kernel)) (pi_list (e_split (uv 0) pe_str)) (blkOk_by (N := N_read) (sc := defScope s_read) (own := [("part", 3)]) (by decide +kernel)) (fun _ _ _ _ _ => (pg_name (i := 3) nd rfl (by first | exact Or.inl rfl | exact Or.inr rfl))) (fun _ _ _ _ _ => pts_nil) (fun _ _ _ _ _ => (c_sighting_of.pe (hr.mono (by decide)) passB (pa_cons (uv 3) pa_nil)))))
  pss_nil)
  (pss_cons (ps_set (i := 4) nd rfl (by first | exact Or.inl rfl | exact Or.inr rfl) (c_Book___init__.pe (hr.mono (by decide)) (pa_cons (uv 1) pa_nil)))
  (pss_cons (ps_for (passes_of rfl) rfl (pi_list (uv 2)) (pg_tup rfl (pgs_cons (pg_name (i := 5) nd rfl (by first | exact Or.inl rfl | exact Or.inr rfl)) (pgs_cons (pg_name (i := 6) nd rfl (by first | exact Or.inl rfl | exact Or.inr rfl)) (pgs_cons (pg_name (i := 7) nd rfl (by first | exact Or.inl rfl | exact Or.inr rfl)) pgs_nil))))
  (pss_one (ps_expr (c_Book_take.pe T.cl (hr.mono (by decide)) (passes_call (takes_of rfl rfl rfl rfl) (fun _ _ _ _ h => h)) (uv 4) (pa_cons (uv 5) (pa_cons (uv 6) (pa_cons (uv 7) pa_nil)))))))
  (pss_one (ps_ret (uv 4))))))), rd_read T h⟩
abbrev s__law_cell_at : Stmt := top 32
theorem sc__law_cell_at : FnScope N__law_cell_at ["_law_script", "_law_k"] (defScope s__law_cell_at) := ⟨rfl, rfl, rfl, by decide +kernel, rfl, by decide +kernel, by decide +kernel⟩
theorem ok__law_cell_at {f : Addr} {fd : FuncData} (F : Fun K "_law_cell_at" "_law_cell_at" s__law_cell_at f fd) (hm : mg "_law_cell_at" = some (.ref f)) (hb : Binds K fd ["_law_script", "_law_k"] []) (M : Mg mg)  :
    Cal P w K mg base CX0 1 "_law_cell_at" ["_law_script", "_law_k"] (sp__law_cell_at K) := by
  refine ⟨f, fd, F.ok sc__law_cell_at (fun vs H Q E h => ?_) (fun cdv A' outer s H vs Q E hr h => ?_), hm, F.kp, hb⟩
  · unfold sp__law_cell_at at h
    first
      | (obtain ⟨rfl, _⟩ := h; rfl)
      | (obtain ⟨_, rfl, _⟩ := h; rfl)
      | (obtain ⟨_, _, rfl, _⟩ := h; rfl)
      | (obtain ⟨_, _, _, rfl, _⟩ := h; rfl)
      | (obtain ⟨_, _, _, _, rfl, _⟩ := h; rfl)
      | (obtain ⟨_, _, _, _, _, rfl, _⟩ := h; rfl)
      | (obtain ⟨_, _, _, _, _, _, rfl, _⟩ := h; rfl)
      | (obtain ⟨_, _, _, _, _, _, _, rfl, _⟩ := h; rfl)
      | (obtain ⟨_, _, _, _, _, _, _, _, rfl, _⟩ := h; rfl)
      | (obtain ⟨_, _, _, _, _, _, _, _, _, rfl, _⟩ := h; rfl)
      | (obtain ⟨_, _, _, _, _, _, _, _, _, _, rfl, _⟩ := h; rfl)
      | (obtain ⟨_, _, _, _, _, _, _, _, _, _, _, rfl, _⟩ := h; rfl)
      | (obtain ⟨_, _, _, _, _, _, _, _, _, _, _, _, rfl, _⟩ := h; rfl)
      | (obtain ⟨_, _, _, _, _, _, _, _, _, _, _, _, _, rfl, _⟩ := h; rfl)
      | (obtain ⟨_, _, _, _, _, _, _, _, _, _, _, _, _, _, rfl, _⟩ := h; rfl)
      | (obtain ⟨_, _, _, _, _, _, _, _, _, _, _, _, _, _, _, rfl, _⟩ := h; rfl)
      | (obtain ⟨_, _, _, _, _, _, _, _, _, _, _, _, _, _, _, _, rfl, _⟩ := h; rfl)
      | (obtain ⟨_, _, _, _, _, _, _, _, _, _, _, _, _, _, _, _, _, rfl, _⟩ := h; rfl)
      | (obtain ⟨_, _, _, _, _, _, _, _, _, _, _, _, _, _, _, _, _, _, rfl, _⟩ := h; rfl)
      | (obtain ⟨_, _, _, _, _, _, _, _, _, _, _, _, _, _, _, _, _, _, _, rfl, _⟩ := h; rfl)
      | (obtain ⟨_, _, _, _, _, _, _, _, _, _, _, _, _, _, _, _, _, _, _, _, rfl, _⟩ := h; rfl)
      | (obtain ⟨_, _, _, _, _, _, _, _, _, _, _, _, _, _, _, _, _, _, _, _, _, rfl, _⟩ := h; rfl)
      | (obtain ⟨_, _, _, _, _, _, _, _, _, _, _, _, _, _, _, _, _, _, _, _, _, _, rfl, _⟩ := h; rfl)
      | (obtain ⟨_, _, _, _, _, _, _, _, _, _, _, _, _, _, _, _, _, _, _, _, _, _, _, rfl, _⟩ := h; rfl)
      | (obtain ⟨_, _, _, _, _, _, _, _, _, _, _, _, _, _, _, _, _, _, _, _, _, _, _, _, rfl, _⟩ := h; rfl)
      | (obtain ⟨_, _, _, _, _, _, _, _, _, _, _, _, _, _, _, _, _, _, _, _, _, _, _, _, _, rfl, _⟩ := h; rfl)
      | (obtain ⟨_, _, _, _, _, _, _, _, _, _, _, _, _, _, _, _, _, _, _, _, _, _, _, _, _, _, rfl, _⟩ := h; rfl)
      | (obtain ⟨_, _, _, _, _, _, _, _, _, _, _, _, _, _, _, _, _, _, _, _, _, _, _, _, _, _, _, rfl, _⟩ := h; rfl)
  have hu := hu_of hr
  have hu64 := hr.units
  have hu65 := hr.u65
  have nd := sc__law_cell_at.nd
  exact ⟨t__law_cell_at K, (pss_cons (s_if (t_cmp (c_op o_lt (uv 1) (pe_callB l_seq (by rfl) M.m_len (by decide +kernel) (pa_cons (uv 0) pa_nil))))
  (pss_one (ps_ret (pe_ix x_list (uv 0) (uv 1) plainIx)))
  pss_nil)
  (pss_one (ps_ret pe_int))), rd__law_cell_at h⟩
abbrev s__law_whole : Stmt := top 33
theorem sc__law_whole : FnScope N__law_whole ["_law_found"] (defScope s__law_whole) := ⟨rfl, rfl, rfl, by decide +kernel, rfl, by decide +kernel, by decide +kernel⟩
theorem ok__law_whole {f : Addr} {fd : FuncData} (F : Fun K "_law_whole" "_law_whole" s__law_whole f fd) (hm : mg "_law_whole" = some (.ref f)) (hb : Binds K fd ["_law_found"] []) (M : Mg mg)  :
    Cal P w K mg base CX0 1 "_law_whole" ["_law_found"] (sp__law_whole K) := by
  refine ⟨f, fd, F.ok sc__law_whole (fun vs H Q E h => ?_) (fun cdv A' outer s H vs Q E hr h => ?_), hm, F.kp, hb⟩
  · unfold sp__law_whole at h
    first
      | (obtain ⟨rfl, _⟩ := h; rfl)
      | (obtain ⟨_, rfl, _⟩ := h; rfl)
      | (obtain ⟨_, _, rfl, _⟩ := h; rfl)
      | (obtain ⟨_, _, _, rfl, _⟩ := h; rfl)
      | (obtain ⟨_, _, _, _, rfl, _⟩ := h; rfl)
      | (obtain ⟨_, _, _, _, _, rfl, _⟩ := h; rfl)
      | (obtain ⟨_, _, _, _, _, _, rfl, _⟩ := h; rfl)
      | (obtain ⟨_, _, _, _, _, _, _, rfl, _⟩ := h; rfl)
      | (obtain ⟨_, _, _, _, _, _, _, _, rfl, _⟩ := h; rfl)
      | (obtain ⟨_, _, _, _, _, _, _, _, _, rfl, _⟩ := h; rfl)
      | (obtain ⟨_, _, _, _, _, _, _, _, _, _, rfl, _⟩ := h; rfl)
      | (obtain ⟨_, _, _, _, _, _, _, _, _, _, _, rfl, _⟩ := h; rfl)
      | (obtain ⟨_, _, _, _, _, _, _, _, _, _, _, _, rfl, _⟩ := h; rfl)
      | (obtain ⟨_, _, _, _, _, _, _, _, _, _, _, _, _, rfl, _⟩ := h; rfl)
      | (obtain ⟨_, _, _, _, _, _, _, _, _, _, _, _, _, _, rfl, _⟩ := h; rfl)
      | (obtain ⟨_, _, _, _, _, _, _, _, _, _, _, _, _, _, _, rfl, _⟩ := h; rfl)
      | (obtain ⟨_, _, _, _, _, _, _, _, _, _, _, _, _, _, _, _, rfl, _⟩ := h; rfl)
      | (obtain ⟨_, _, _, _, _, _, _, _, _, _, _, _, _, _, _, _, _, rfl, _⟩ := h; rfl)
      | (obtain ⟨_, _, _, _, _, _, _, _, _, _, _, _, _, _, _, _, _, _, rfl, _⟩ := h; rfl)
      | (obtain ⟨_, _, _, _, _, _, _, _, _, _, _, _, _, _, _, _, _, _, _, rfl, _⟩ := h; rfl)
      | (obtain ⟨_, _, _, _, _, _, _, _, _, _, _, _, _, _, _, _, _, _, _, _, rfl, _⟩ := h; rfl)
      | (obtain ⟨_, _, _, _, _, _, _, _, _, _, _, _, _, _, _, _, _, _, _, _, _, rfl, _⟩ := h; rfl)
      | (obtain ⟨_, _, _, _, _, _, _, _, _, _, _, _, _, _, _, _, _, _, _, _, _, _, rfl, _⟩ := h; rfl)
      | (obtain ⟨_, _, _, _, _, _, _, _, _, _, _, _, _, _, _, _, _, _, _, _, _, _, _, rfl, _⟩ := h; rfl)
      | (obtain ⟨_, _, _, _, _, _, _, _, _, _, _, _, _, _, _, _, _, _, _, _, _, _, _, _, rfl, _⟩ := h; rfl)
      | (obtain ⟨_, _, _, _, _, _, _, _, _, _, _, _, _, _, _, _, _, _, _, _, _, _, _, _, _, rfl, _⟩ := h; rfl)
      | (obtain ⟨_, _, _, _, _, _, _, _, _, _, _, _, _, _, _, _, _, _, _, _, _, _, _, _, _, _, rfl, _⟩ := h; rfl)
      | (obtain ⟨_, _, _, _, _, _, _, _, _, _, _, _, _, _, _, _, _, _, _, _, _, _, _, _, _, _, _, rfl, _⟩ := h; rfl)
  have hu := hu_of hr
  have hu64 := hr.units
  have hu65 := hr.u65
  have nd := sc__law_whole.nd
  exact ⟨t__law_whole K, (pss_one (ps_ret (v_and (pe_callB b_isi (by rfl) M.m_isinstance (by decide +kernel) (pa_cons (uv 0) (pa_cons (pe_bltn (v := .ty "int") (by rfl) M.m_int (by decide +kernel) rfl) pa_nil))) (pe_one (v_not (pe_callB b_isi (by rfl) M.m_isinstance (by decide +kernel) (pa_cons (uv 0) (pa_cons (pe_bltn (v := .ty "bool") (by rfl) M.m_bool (by decide +kernel) rfl) pa_nil)))))))), rd__law_whole h⟩
abbrev s__law_word : Stmt := top 34
theorem sc__law_word : FnScope N__law_word ["_law_number"] (defScope s__law_word) := ⟨rfl, rfl, rfl, by decide +kernel, rfl, by decide +kernel, by decide +kernel⟩
theorem ok__law_word {f : Addr} {fd : FuncData} (F : Fun K "_law_word" "_law_word" s__law_word f fd) (hm : mg "_law_word" = some (.ref f)) (hb : Binds K fd ["_law_number"] []) (M : Mg mg)  :
    Cal P w K mg base CX0 1 "_law_word" ["_law_number"] (sp__law_word K) := by
  refine ⟨f, fd, F.ok sc__law_word (fun vs H Q E h => ?_) (fun cdv A' outer s H vs Q E hr h => ?_), hm, F.kp, hb⟩
  · unfold sp__law_word at h
    first
      | (obtain ⟨rfl, _⟩ := h; rfl)
      | (obtain ⟨_, rfl, _⟩ := h; rfl)
      | (obtain ⟨_, _, rfl, _⟩ := h; rfl)
      | (obtain ⟨_, _, _, rfl, _⟩ := h; rfl)
      | (obtain ⟨_, _, _, _, rfl, _⟩ := h; rfl)
      | (obtain ⟨_, _, _, _, _, rfl, _⟩ := h; rfl)
      | (obtain ⟨_, _, _, _, _, _, rfl, _⟩ := h; rfl)
      | (obtain ⟨_, _, _, _, _, _, _, rfl, _⟩ := h; rfl)
      | (obtain ⟨_, _, _, _, _, _, _, _, rfl, _⟩ := h; rfl)
      | (obtain ⟨_, _, _, _, _, _, _, _, _, rfl, _⟩ := h; rfl)
      | (obtain ⟨_, _, _, _, _, _, _, _, _, _, rfl, _⟩ := h; rfl)
      | (obtain ⟨_, _, _, _, _, _, _, _, _, _, _, rfl, _⟩ := h; rfl)
      | (obtain ⟨_, _, _, _, _, _, _, _, _, _, _, _, rfl, _⟩ := h; rfl)
      | (obtain ⟨_, _, _, _, _, _, _, _, _, _, _, _, _, rfl, _⟩ := h; rfl)
      | (obtain ⟨_, _, _, _, _, _, _, _, _, _, _, _, _, _, rfl, _⟩ := h; rfl)
      | (obtain ⟨_, _, _, _, _, _, _, _, _, _, _, _, _, _, _, rfl, _⟩ := h; rfl)
      | (obtain ⟨_, _, _, _, _, _, _, _, _, _, _, _, _, _, _, _, rfl, _⟩ := h; rfl)
      | (obtain ⟨_, _, _, _, _, _, _, _, _, _, _, _, _, _, _, _, _, rfl, _⟩ := h; rfl)
      | (obtain ⟨_, _, _, _, _, _, _, _, _, _, _, _, _, _, _, _, _, _, rfl, _⟩ := h; rfl)
      | (obtain ⟨_, _, _, _, _, _, _, _, _, _, _, _, _, _, _, _, _, _, _, rfl, _⟩ := h; rfl)
      | (obtain ⟨_, _, _, _, _, _, _, _, _, _, _, _, _, _, _, _, _, _, _, _, rfl, _⟩ := h; rfl)
      | (obtain ⟨_, _, _, _, _, _, _, _, _, _, _, _, _, _, _, _, _, _, _, _, _, rfl, _⟩ := h; rfl)
      | (obtain ⟨_, _, _, _, _, _, _, _, _, _, _, _, _, _, _, _, _, _, _, _, _, _, rfl, _⟩ := h; rfl)
      | (obtain ⟨_, _, _, _, _, _, _, _, _, _, _, _, _, _, _, _, _, _, _, _, _, _, _, rfl, _⟩ := h; rfl)
      | (obtain ⟨_, _, _, _, _, _, _, _, _, _, _, _, _, _, _, _, _, _, _, _, _, _, _, _, rfl, _⟩ := h; rfl)
      | (obtain ⟨_, _, _, _, _, _, _, _, _, _, _, _, _, _, _, _, _, _, _, _, _, _, _, _, _, rfl, _⟩ := h; rfl)
      | (obtain ⟨_, _, _, _, _, _, _, _, _, _, _, _, _, _, _, _, _, _, _, _, _, _, _, _, _, _, rfl, _⟩ := h; rfl)
      | (obtain ⟨_, _, _, _, _, _, _, _, _, _, _, _, _, _, _, _, _, _, _, _, _, _, _, _, _, _, _, rfl, _⟩ := h; rfl)
  have hu := hu_of hr
  have hu64 := hr.units
  have hu65 := hr.u65
  have nd := sc__law_word.nd
  exact ⟨t__law_word K, (pss_cons (ps_set (i := 1) nd rfl (by first | exact Or.inl rfl | exact Or.inr rfl) pe_str)
  (pss_cons (ps_for pnever rfl (pi_range1 (by rfl) M.m_range (pa_cons pe_int pa_nil)) (pg_name (i := 2) nd rfl (by first | exact Or.inl rfl | exact Or.inr rfl))
  (pss_one (ps_set (i := 1) nd rfl (by first | exact Or.inl rfl | exact Or.inr rfl) (pe_op o_addS (uv 1) (pe_ix x_str pe_str (pe_op o_mod (pe_op o_mod (pe_op o_mul (uv 0) (pe_op o_add (pe_op o_mul (uv 2) (uv 2)) pe_int)) pe_int) pe_int) plainIx)))))
  (pss_one (ps_ret (uv 1))))), rd__law_word h⟩
abbrev s__law_pegs : Stmt := top 35
theorem sc__law_pegs : FnScope N__law_pegs ["_law_cell", "_law_many"] (defScope s__law_pegs) := ⟨rfl, rfl, rfl, by decide +kernel, rfl, by decide +kernel, by decide +kernel⟩
theorem ok__law_pegs {f : Addr} {fd : FuncData} (F : Fun K "_law_pegs" "_law_pegs" s__law_pegs f fd) (hm : mg "_law_pegs" = some (.ref f)) (hb : Binds K fd ["_law_cell", "_law_many"] []) (M : Mg mg) (c__law_word : Cal P w K mg base CX0 1 "_law_word" ["_law_number"] (sp__law_word K)) :
    Cal P w K mg base CX0 2 "_law_pegs" ["_law_cell", "_law_many"] (sp__law_pegs K) := by
  refine ⟨f, fd, F.ok sc__law_pegs (fun vs H Q E h => ?_) (fun cdv A' outer s H vs Q E hr h => ?_), hm, F.kp, hb⟩
  · unfold sp__law_pegs at h
    first
      | (obtain ⟨rfl, _⟩ := h; rfl)
      | (obtain ⟨_, rfl, _⟩ := h; rfl)
      | (obtain ⟨_, _, rfl, _⟩ := h; rfl)
      | (obtain ⟨_, _, _, rfl, _⟩ := h; rfl)
      | (obtain ⟨_, _, _, _, rfl, _⟩ := h; rfl)
      | (obtain ⟨_, _, _, _, _, rfl, _⟩ := h; rfl)
      | (obtain ⟨_, _, _, _, _, _, rfl, _⟩ := h; rfl)
      | (obtain ⟨_, _, _, _, _, _, _, rfl, _⟩ := h; rfl)
      | (obtain ⟨_, _, _, _, _, _, _, _, rfl, _⟩ := h; rfl)
      | (obtain ⟨_, _, _, _, _, _, _, _, _, rfl, _⟩ := h; rfl)
      | (obtain ⟨_, _, _, _, _, _, _, _, _, _, rfl, _⟩ := h; rfl)
      | (obtain ⟨_, _, _, _, _, _, _, _, _, _, _, rfl, _⟩ := h; rfl)
      | (obtain ⟨_, _, _, _, _, _, _, _, _, _, _, _, rfl, _⟩ := h; rfl)
      | (obtain ⟨_, _, _, _, _, _, _, _, _, _, _, _, _, rfl, _⟩ := h; rfl)
      | (obtain ⟨_, _, _, _, _, _, _, _, _, _, _, _, _, _, rfl, _⟩ := h; rfl)
      | (obtain ⟨_, _, _, _, _, _, _, _, _, _, _, _, _, _, _, rfl, _⟩ := h; rfl)
      | (obtain ⟨_, _, _, _, _, _, _, _, _, _, _, _, _, _, _, _, rfl, _⟩ := h; rfl)
      | (obtain ⟨_, _, _, _, _, _, _, _, _, _, _, _, _, _, _, _, _, rfl, _⟩ := h; rfl)
      | (obtain ⟨_, _, _, _, _, _, _, _, _, _, _, _, _, _, _, _, _, _, rfl, _⟩ := h; rfl)
      | (obtain ⟨_, _, _, _, _, _, _, _, _, _, _, _, _, _, _, _, _, _, _, rfl, _⟩ := h; rfl)
      | (obtain ⟨_, _, _, _, _, _, _, _, _, _, _, _, _, _, _, _, _, _, _, _, rfl, _⟩ := h; rfl)
      | (obtain ⟨_, _, _, _, _, _, _, _, _, _, _, _, _, _, _, _, _, _, _, _, _, rfl, _⟩ := h; rfl)
      | (obtain ⟨_, _, _, _, _, _, _, _, _, _, _, _, _, _, _, _, _, _, _, _, _, _, rfl, _⟩ := h; rfl)
      | (obtain ⟨_, _, _, _, _, _, _, _, _, _, _, _, _, _, _, _, _, _, _, _, _, _, _, rfl, _⟩ := h; rfl)
      | (obtain ⟨_, _, _, _, _, _, _, _, _, _, _, _, _, _, _, _, _, _, _, _, _, _, _, _, rfl, _⟩ := h; rfl)
      | (obtain ⟨_, _, _, _, _, _, _, _, _, _, _, _, _, _, _, _, _, _, _, _, _, _, _, _, _, rfl, _⟩ := h; rfl)
      | (obtain ⟨_, _, _, _, _, _, _, _, _, _, _, _, _, _, _, _, _, _, _, _, _, _, _, _, _, _, rfl, _⟩ := h; rfl)
      | (obtain ⟨_, _, _, _, _, _, _, _, _, _, _, _, _, _, _, _, _, _, _, _, _, _, _, _, _, _, _, rfl, _⟩ := h; rfl)
  have hu := hu_of hr
  have hu64 := hr.units
  have hu65 := hr.u65
  have nd := sc__law_pegs.nd
  exact ⟨t__law_pegs K, (pss_cons (ps_set (i := 2) nd rfl (by first | exact Or.inl rfl | exact Or.inr rfl) (pe_op o_mod (pe_op o_mul (pe_op o_add (pe_op o_mod (uv 0) pe_int) pe_int) pe_int) pe_int))
  (pss_cons (ps_set (i := 3) nd rfl (by first | exact Or.inl rfl | exact Or.inr rfl) (c__law_word.pe (hr.mono (by decide)) pass0 (pa_cons (uv 2) pa_nil)))
  (pss_cons (ps_set (i := 4) nd rfl (by first | exact Or.inl rfl | exact Or.inr rfl) (pe_op o_mod (pe_op o_div (uv 2) pe_int) pe_int))
  (pss_cons (ps_set (i := 5) nd rfl (by first | exact Or.inl rfl | exact Or.inr rfl) (pe_op o_add (pe_op o_add (uv 4) pe_int) (pe_op o_mod (pe_op o_div (uv 2) pe_int) (pe_op o_sub pe_int (uv 4)))))
  (pss_cons (ps_set (i := 6) nd rfl (by first | exact Or.inl rfl | exact Or.inr rfl) (e_lst pa_nil))
  (pss_cons (ps_for pnever rfl (pi_range1 (by rfl) M.m_range (pa_cons (uv 1) pa_nil)) (pg_name (i := 7) nd rfl (by first | exact Or.inl rfl | exact Or.inr rfl))
  (pss_cons (ps_set (i := 8) nd rfl (by first | exact Or.inl rfl | exact Or.inr rfl) (pe_ix x_str pe_str (pe_op o_mod (pe_op o_add (pe_op o_div (uv 2) pe_int) (pe_op o_mul pe_int (uv 7))) pe_int) plainIx))
  (pss_one (s_if (t_cmp (c_op o_eqI (pe_op o_mod (uv 2) pe_int) pe_int))
  (pss_one (ps_expr (pe_bm PySem.F.plainAttrs_list PySem.F.slot_list_append PySem.F.type_list_append m_append (uv 6) (pa_cons (pe_slice s_str (uv 3) po_none (p_some (pe_op o_add pe_int (uv 7)))) pa_nil))))
  (pss_one (s_if (t_cmp (c_op o_eqI (pe_op o_mod (uv 2) pe_int) pe_int))
  (pss_one (ps_expr (pe_bm PySem.F.plainAttrs_list PySem.F.slot_list_append PySem.F.type_list_append m_append (uv 6) (pa_cons (pe_op o_addS (pe_op o_addS (pe_slice s_str (uv 3) po_none (p_some (uv 4))) (uv 8)) (pe_slice s_str (uv 3) (p_some (pe_op o_add (uv 4) pe_int)) (p_some (uv 5)))) pa_nil))))
  (pss_cons (ps_set (i := 9) nd rfl (by first | exact Or.inl rfl | exact Or.inr rfl) (c__law_word.pe (hr.mono (by decide)) pass0 (pa_cons (pe_op o_add (pe_op o_div (uv 2) pe_int) (pe_op o_mul (pe_op o_mul pe_int (uv 7)) (uv 7))) pa_nil)))
  (pss_one (ps_expr (pe_bm PySem.F.plainAttrs_list PySem.F.slot_list_append PySem.F.type_list_append m_append (uv 6) (pa_cons (pe_slice s_str (uv 9) po_none (p_some (pe_op o_add pe_int (pe_op o_mod (pe_op o_add (pe_op o_div (uv 2) pe_int) (pe_op o_mul pe_int (uv 7))) pe_int)))) pa_nil)))))))))))
  (pss_one (ps_ret (uv 6))))))))), rd__law_pegs h⟩
abbrev s__law_highs : Stmt := top 36
theorem sc__law_highs : FnScope N__law_highs ["_law_some", "_law_cell"] (defScope s__law_highs) := ⟨rfl, rfl, rfl, by decide +kernel, rfl, by decide +kernel, by decide +kernel⟩
theorem ok__law_highs {f : Addr} {fd : FuncData} (F : Fun K "_law_highs" "_law_highs" s__law_highs f fd) (hm : mg "_law_highs" = some (.ref f)) (hb : Binds K fd ["_law_some", "_law_cell"] []) (M : Mg mg)  :
    Cal P w K mg base CX0 1 "_law_highs" ["_law_some", "_law_cell"] (sp__law_highs K) := by
  refine ⟨f, fd, F.ok sc__law_highs (fun vs H Q E h => ?_) (fun cdv A' outer s H vs Q E hr h => ?_), hm, F.kp, hb⟩
  · unfold sp__law_highs at h
    first
      | (obtain ⟨rfl, _⟩ := h; rfl)
      | (obtain ⟨_, rfl, _⟩ := h; rfl)
      | (obtain ⟨_, _, rfl, _⟩ := h; rfl)
      | (obtain ⟨_, _, _, rfl, _⟩ := h; rfl)
      | (obtain ⟨_, _, _, _, rfl, _⟩ := h; rfl)
      | (obtain ⟨_, _, _, _, _, rfl, _⟩ := h; rfl)
      | (obtain ⟨_, _, _, _, _, _, rfl, _⟩ := h; rfl)
      | (obtain ⟨_, _, _, _, _, _, _, rfl, _⟩ := h; rfl)
      | (obtain ⟨_, _, _, _, _, _, _, _, rfl, _⟩ := h; rfl)
      | (obtain ⟨_, _, _, _, _, _, _, _, _, rfl, _⟩ := h; rfl)
      | (obtain ⟨_, _, _, _, _, _, _, _, _, _, rfl, _⟩ := h; rfl)
      | (obtain ⟨_, _, _, _, _, _, _, _, _, _, _, rfl, _⟩ := h; rfl)
      | (obtain ⟨_, _, _, _, _, _, _, _, _, _, _, _, rfl, _⟩ := h; rfl)
      | (obtain ⟨_, _, _, _, _, _, _, _, _, _, _, _, _, rfl, _⟩ := h; rfl)
      | (obtain ⟨_, _, _, _, _, _, _, _, _, _, _, _, _, _, rfl, _⟩ := h; rfl)
      | (obtain ⟨_, _, _, _, _, _, _, _, _, _, _, _, _, _, _, rfl, _⟩ := h; rfl)
      | (obtain ⟨_, _, _, _, _, _, _, _, _, _, _, _, _, _, _, _, rfl, _⟩ := h; rfl)
      | (obtain ⟨_, _, _, _, _, _, _, _, _, _, _, _, _, _, _, _, _, rfl, _⟩ := h; rfl)
      | (obtain ⟨_, _, _, _, _, _, _, _, _, _, _, _, _, _, _, _, _, _, rfl, _⟩ := h; rfl)
      | (obtain ⟨_, _, _, _, _, _, _, _, _, _, _, _, _, _, _, _, _, _, _, rfl, _⟩ := h; rfl)
      | (obtain ⟨_, _, _, _, _, _, _, _, _, _, _, _, _, _, _, _, _, _, _, _, rfl, _⟩ := h; rfl)
      | (obtain ⟨_, _, _, _, _, _, _, _, _, _, _, _, _, _, _, _, _, _, _, _, _, rfl, _⟩ := h; rfl)
      | (obtain ⟨_, _, _, _, _, _, _, _, _, _, _, _, _, _, _, _, _, _, _, _, _, _, rfl, _⟩ := h; rfl)
      | (obtain ⟨_, _, _, _, _, _, _, _, _, _, _, _, _, _, _, _, _, _, _, _, _, _, _, rfl, _⟩ := h; rfl)
      | (obtain ⟨_, _, _, _, _, _, _, _, _, _, _, _, _, _, _, _, _, _, _, _, _, _, _, _, rfl, _⟩ := h; rfl)
      | (obtain ⟨_, _, _, _, _, _, _, _, _, _, _, _, _, _, _, _, _, _, _, _, _, _, _, _, _, rfl, _⟩ := h; rfl)
      | (obtain ⟨_, _, _, _, _, _, _, _, _, _, _, _, _, _, _, _, _, _, _, _, _, _, _, _, _, _, rfl, _⟩ := h; rfl)
      | (obtain ⟨_, _, _, _, _, _, _, _, _, _, _, _, _, _, _, _, _, _, _, _, _, _, _, _, _, _, _, rfl, _⟩ := h; rfl)
  have hu := hu_of hr
  have hu64 := hr.units
  have hu65 := hr.u65
  have nd := sc__law_highs.nd
  exact ⟨t__law_highs K, (pss_cons (ps_set (i := 2) nd rfl (by first | exact Or.inl rfl | exact Or.inr rfl) e_dnew)
  (pss_cons (ps_set (i := 3) nd rfl (by first | exact Or.inl rfl | exact Or.inr rfl) (pe_op o_mod (uv 1) (pe_op o_pow pe_int pe_int)))
  (pss_cons (ps_for pnever rfl (pi_range1 (by rfl) M.m_range (pa_cons (pe_callB l_seq (by rfl) M.m_len (by decide +kernel) (pa_cons (uv 0) pa_nil)) pa_nil)) (pg_name (i := 4) nd rfl (by first | exact Or.inl rfl | exact Or.inr rfl))
  (pss_cons (ps_set (i := 5) nd rfl (by first | exact Or.inl rfl | exact Or.inr rfl) (pe_op o_mul (pe_op o_add (pe_op o_add (pe_op o_mul (uv 4) (uv 4)) (pe_op o_mul pe_int (uv 4))) pe_int) (pe_op o_add (pe_op o_mul pe_int (pe_op o_pow pe_int pe_int)) pe_int)))
  (pss_cons (s_dput hu (uv 2) (pe_ix x_list (uv 0) (uv 4) plainIx) (pe_op o_mod (pe_op o_mulW (pe_op o_add (uv 3) (uv 4)) (uv 5)) (pe_op o_mul pe_int (pe_op o_pow pe_int pe_int))) rfl)
  (pss_one (s_if (t_cmp (c_op o_eqI (pe_op o_mod (uv 1) pe_int) pe_int))
  (pss_one (s_dput hu (uv 2) (pe_ix x_list (uv 0) (uv 4) plainIx) (pe_op o_mod (pe_op o_mul (uv 4) (uv 4)) pe_int) rfl))
  pss_nil)))))
  (pss_one (ps_ret (uv 2)))))), rd__law_highs h⟩
abbrev s__law_sighting : Stmt := top 37
theorem sc__law_sighting : FnScope N__law_sighting ["_law_some", "_law_highs_here", "_law_cell", "_law_k"] (defScope s__law_sighting) := ⟨rfl, rfl, rfl, by decide +kernel, rfl, by decide +kernel, by decide +kernel⟩
theorem ok__law_sighting {f : Addr} {fd : FuncData} (F : Fun K "_law_sighting" "_law_sighting" s__law_sighting f fd) (hm : mg "_law_sighting" = some (.ref f)) (hb : Binds K fd ["_law_some", "_law_highs_here", "_law_cell", "_law_k"] []) (M : Mg mg)  :
    Cal P w K mg base CX0 1 "_law_sighting" ["_law_some", "_law_highs_here", "_law_cell", "_law_k"] (sp__law_sighting K) := by
  refine ⟨f, fd, F.ok sc__law_sighting (fun vs H Q E h => ?_) (fun cdv A' outer s H vs Q E hr h => ?_), hm, F.kp, hb⟩
  · unfold sp__law_sighting at h
    first
      | (obtain ⟨rfl, _⟩ := h; rfl)
      | (obtain ⟨_, rfl, _⟩ := h; rfl)
      | (obtain ⟨_, _, rfl, _⟩ := h; rfl)
      | (obtain ⟨_, _, _, rfl, _⟩ := h; rfl)
      | (obtain ⟨_, _, _, _, rfl, _⟩ := h; rfl)
      | (obtain ⟨_, _, _, _, _, rfl, _⟩ := h; rfl)
      | (obtain ⟨_, _, _, _, _, _, rfl, _⟩ := h; rfl)
      | (obtain ⟨_, _, _, _, _, _, _, rfl, _⟩ := h; rfl)
      | (obtain ⟨_, _, _, _, _, _, _, _, rfl, _⟩ := h; rfl)
      | (obtain ⟨_, _, _, _, _, _, _, _, _, rfl, _⟩ := h; rfl)
      | (obtain ⟨_, _, _, _, _, _, _, _, _, _, rfl, _⟩ := h; rfl)
      | (obtain ⟨_, _, _, _, _, _, _, _, _, _, _, rfl, _⟩ := h; rfl)
      | (obtain ⟨_, _, _, _, _, _, _, _, _, _, _, _, rfl, _⟩ := h; rfl)
      | (obtain ⟨_, _, _, _, _, _, _, _, _, _, _, _, _, rfl, _⟩ := h; rfl)
      | (obtain ⟨_, _, _, _, _, _, _, _, _, _, _, _, _, _, rfl, _⟩ := h; rfl)
      | (obtain ⟨_, _, _, _, _, _, _, _, _, _, _, _, _, _, _, rfl, _⟩ := h; rfl)
      | (obtain ⟨_, _, _, _, _, _, _, _, _, _, _, _, _, _, _, _, rfl, _⟩ := h; rfl)
      | (obtain ⟨_, _, _, _, _, _, _, _, _, _, _, _, _, _, _, _, _, rfl, _⟩ := h; rfl)
      | (obtain ⟨_, _, _, _, _, _, _, _, _, _, _, _, _, _, _, _, _, _, rfl, _⟩ := h; rfl)
      | (obtain ⟨_, _, _, _, _, _, _, _, _, _, _, _, _, _, _, _, _, _, _, rfl, _⟩ := h; rfl)
      | (obtain ⟨_, _, _, _, _, _, _, _, _, _, _, _, _, _, _, _, _, _, _, _, rfl, _⟩ := h; rfl)
      | (obtain ⟨_, _, _, _, _, _, _, _, _, _, _, _, _, _, _, _, _, _, _, _, _, rfl, _⟩ := h; rfl)
      | (obtain ⟨_, _, _, _, _, _, _, _, _, _, _, _, _, _, _, _, _, _, _, _, _, _, rfl, _⟩ := h; rfl)
      | (obtain ⟨_, _, _, _, _, _, _, _, _, _, _, _, _, _, _, _, _, _, _, _, _, _, _, rfl, _⟩ := h; rfl)
      | (obtain ⟨_, _, _, _, _, _, _, _, _, _, _, _, _, _, _, _, _, _, _, _, _, _, _, _, rfl, _⟩ := h; rfl)
      | (obtain ⟨_, _, _, _, _, _, _, _, _, _, _, _, _, _, _, _, _, _, _, _, _, _, _, _, _, rfl, _⟩ := h; rfl)
      | (obtain ⟨_, _, _, _, _, _, _, _, _, _, _, _, _, _, _, _, _, _, _, _, _, _, _, _, _, _, rfl, _⟩ := h; rfl)
      | (obtain ⟨_, _, _, _, _, _, _, _, _, _, _, _, _, _, _, _, _, _, _, _, _, _, _, _, _, _, _, rfl, _⟩ := h; rfl)
  have hu := hu_of hr
  have hu64 := hr.units
  have hu65 := hr.u65
  have nd := sc__law_sighting.nd
  exact ⟨t__law_sighting K, (pss_cons (ps_set (i := 4) nd rfl (by first | exact Or.inl rfl | exact Or.inr rfl) (pe_op o_add (pe_op o_mod (pe_op o_add (uv 2) (uv 3)) pe_int) pe_int))
  (pss_cons (ps_set (i := 5) nd rfl (by first | exact Or.inl rfl | exact Or.inr rfl) (pe_ix x_list (uv 0) (pe_op o_mod (pe_op o_mod (pe_op o_mul (uv 4) pe_int) pe_int) (pe_callB l_seq (by rfl) M.m_len (by decide +kernel) (pa_cons (uv 0) pa_nil))) plainIx))
  (pss_cons (ps_set (i := 6) nd rfl (by first | exact Or.inl rfl | exact Or.inr rfl) (pe_ix x_list (uv 0) (pe_op o_mod (pe_op o_mod (pe_op o_mul (uv 4) pe_int) pe_int) (pe_callB l_seq (by rfl) M.m_len (by decide +kernel) (pa_cons (uv 0) pa_nil))) plainIx))
  (pss_cons (ps_set (i := 7) nd rfl (by first | exact Or.inl rfl | exact Or.inr rfl) (pe_op o_mod (pe_op o_mod (pe_op o_mul (uv 4) pe_int) pe_int) pe_int))
  (pss_cons (ps_set (i := 8) nd rfl (by first | exact Or.inl rfl | exact Or.inr rfl) (pe_op o_sub (u_dget hu (uv 1) (uv 6)) (u_dget hu (uv 1) (uv 5))))
  (Evl.pss_cut (s_if (t_cmp (c_op o_eqI (uv 7) pe_int))
  (pss_one (ps_set (i := 8) nd rfl (by first | exact Or.inl rfl | exact Or.inr rfl) (pe_op o_sub (pe_op o_add (uv 8) pe_int) (pe_op o_mul pe_int (pe_op o_mod (uv 4) pe_int)))))
  pss_nil)
  (Evl.pss_cut (s_if (t_cmp (c_op o_eqI (uv 7) pe_int))
  (pss_one (ps_set (i := 8) nd rfl (by first | exact Or.inl rfl | exact Or.inr rfl) (pe_op o_sub (pe_op o_mod (uv 2) (pe_op o_sub (pe_op o_mul pe_int (pe_op o_pow pe_int pe_int)) pe_int)) (pe_op o_sub (pe_op o_pow pe_int pe_int) pe_int))))
  pss_nil)
  (pss_one (ps_ret (e_tup (pa_cons (uv 5) (pa_cons (uv 6) (pa_cons (uv 8) pa_nil))))))))))))), rd__law_sighting h⟩
abbrev s__law_lay : Stmt := top 38
theorem sc__law_lay : FnScope N__law_lay ["_law_tops_here", "_law_row"] (defScope s__law_lay) := ⟨rfl, rfl, rfl, by decide +kernel, rfl, by decide +kernel, by decide +kernel⟩
theorem ok__law_lay {f : Addr} {fd : FuncData} (F : Fun K "_law_lay" "_law_lay" s__law_lay f fd) (hm : mg "_law_lay" = some (.ref f)) (hb : Binds K fd ["_law_tops_here", "_law_row"] []) (M : Mg mg)  :
    Cal P w K mg base CX0 1 "_law_lay" ["_law_tops_here", "_law_row"] (sp__law_lay K) := by
  refine ⟨f, fd, F.ok sc__law_lay (fun vs H Q E h => ?_) (fun cdv A' outer s H vs Q E hr h => ?_), hm, F.kp, hb⟩
  · unfold sp__law_lay at h
    first
      | (obtain ⟨rfl, _⟩ := h; rfl)
      | (obtain ⟨_, rfl, _⟩ := h; rfl)
      | (obtain ⟨_, _, rfl, _⟩ := h; rfl)
      | (obtain ⟨_, _, _, rfl, _⟩ := h; rfl)
      | (obtain ⟨_, _, _, _, rfl, _⟩ := h; rfl)
      | (obtain ⟨_, _, _, _, _, rfl, _⟩ := h; rfl)
      | (obtain ⟨_, _, _, _, _, _, rfl, _⟩ := h; rfl)
      | (obtain ⟨_, _, _, _, _, _, _, rfl, _⟩ := h; rfl)
      | (obtain ⟨_, _, _, _, _, _, _, _, rfl, _⟩ := h; rfl)
      | (obtain ⟨_, _, _, _, _, _, _, _, _, rfl, _⟩ := h; rfl)
      | (obtain ⟨_, _, _, _, _, _, _, _, _, _, rfl, _⟩ := h; rfl)
      | (obtain ⟨_, _, _, _, _, _, _, _, _, _, _, rfl, _⟩ := h; rfl)
      | (obtain ⟨_, _, _, _, _, _, _, _, _, _, _, _, rfl, _⟩ := h; rfl)
      | (obtain ⟨_, _, _, _, _, _, _, _, _, _, _, _, _, rfl, _⟩ := h; rfl)
      | (obtain ⟨_, _, _, _, _, _, _, _, _, _, _, _, _, _, rfl, _⟩ := h; rfl)
      | (obtain ⟨_, _, _, _, _, _, _, _, _, _, _, _, _, _, _, rfl, _⟩ := h; rfl)
      | (obtain ⟨_, _, _, _, _, _, _, _, _, _, _, _, _, _, _, _, rfl, _⟩ := h; rfl)
      | (obtain ⟨_, _, _, _, _, _, _, _, _, _, _, _, _, _, _, _, _, rfl, _⟩ := h; rfl)
      | (obtain ⟨_, _, _, _, _, _, _, _, _, _, _, _, _, _, _, _, _, _, rfl, _⟩ := h; rfl)
      | (obtain ⟨_, _, _, _, _, _, _, _, _, _, _, _, _, _, _, _, _, _, _, rfl, _⟩ := h; rfl)
      | (obtain ⟨_, _, _, _, _, _, _, _, _, _, _, _, _, _, _, _, _, _, _, _, rfl, _⟩ := h; rfl)
      | (obtain ⟨_, _, _, _, _, _, _, _, _, _, _, _, _, _, _, _, _, _, _, _, _, rfl, _⟩ := h; rfl)
      | (obtain ⟨_, _, _, _, _, _, _, _, _, _, _, _, _, _, _, _, _, _, _, _, _, _, rfl, _⟩ := h; rfl)
      | (obtain ⟨_, _, _, _, _, _, _, _, _, _, _, _, _, _, _, _, _, _, _, _, _, _, _, rfl, _⟩ := h; rfl)
      | (obtain ⟨_, _, _, _, _, _, _, _, _, _, _, _, _, _, _, _, _, _, _, _, _, _, _, _, rfl, _⟩ := h; rfl)
      | (obtain ⟨_, _, _, _, _, _, _, _, _, _, _, _, _, _, _, _, _, _, _, _, _, _, _, _, _, rfl, _⟩ := h; rfl)
      | (obtain ⟨_, _, _, _, _, _, _, _, _, _, _, _, _, _, _, _, _, _, _, _, _, _, _, _, _, _, rfl, _⟩ := h; rfl)
      | (obtain ⟨_, _, _, _, _, _, _, _, _, _, _, _, _, _, _, _, _, _, _, _, _, _, _, _, _, _, _, rfl, _⟩ := h; rfl)
  have hu := hu_of hr
  have hu64 := hr.units
  have hu65 := hr.u65
  have nd := sc__law_lay.nd
  exact ⟨t__law_lay K, (pss_cons (ps_for pnever rfl (pi_list (e_lst (pa_cons (pe_ix x_tup (uv 1) pe_int plainIx) (pa_cons (pe_ix x_tup (uv 1) pe_int plainIx) pa_nil)))) (pg_name (i := 2) nd rfl (by first | exact Or.inl rfl | exact Or.inr rfl))
  (pss_one (s_if (t_cmp (c_dnotin hu (uv 2) (uv 0)))
  (pss_one (s_dput hu (uv 0) (uv 2) (e_tup (pa_cons (uv 2) (pa_cons pe_int pa_nil))) rfl))
  pss_nil)))
  (pss_cons (ps_set (i := 3) nd rfl (by first | exact Or.inl rfl | exact Or.inr rfl) (u_dget hu (uv 0) (pe_ix x_tup (uv 1) pe_int plainIx)))
  (pss_cons (ps_set (i := 4) nd rfl (by first | exact Or.inl rfl | exact Or.inr rfl) (u_dget hu (uv 0) (pe_ix x_tup (uv 1) pe_int plainIx)))
  (pss_one (s_if (t_cmp (c_op o_neS (pe_ix x_tup (uv 3) pe_int plainIx) (pe_ix x_tup (uv 4) pe_int plainIx)))
  (pss_cons (ps_set (i := 5) nd rfl (by first | exact Or.inl rfl | exact Or.inr rfl) (pe_op o_sub (pe_op o_add (pe_ix x_tup (uv 3) pe_int plainIx) (pe_ix x_tup (uv 1) pe_int plainIx)) (pe_ix x_tup (uv 4) pe_int plainIx)))
  (pss_one (ps_for pnever rfl (pi_list (pe_callTy (b_listD rfl) (by rfl) M.m_list (by decide +kernel) (pa_cons (uv 0) pa_nil))) (pg_name (i := 2) nd rfl (by first | exact Or.inl rfl | exact Or.inr rfl))
  (pss_one (s_if (t_cmp (c_op o_eqS (pe_ix x_tup (u_dget hu (uv 0) (uv 2)) pe_int plainIx) (pe_ix x_tup (uv 4) pe_int plainIx)))
  (pss_one (s_dput hu (uv 0) (uv 2) (e_tup (pa_cons (pe_ix x_tup (uv 3) pe_int plainIx) (pa_cons (pe_op o_add (pe_ix x_tup (u_dget hu (uv 0) (uv 2)) pe_int plainIx) (uv 5)) pa_nil))) rfl))
  pss_nil)))))
  pss_nil))))), rd__law_lay h⟩
abbrev s__law_tops : Stmt := top 39
theorem sc__law_tops : FnScope N__law_tops ["_law_rows_here"] (defScope s__law_tops) := ⟨rfl, rfl, rfl, by decide +kernel, rfl, by decide +kernel, by decide +kernel⟩
theorem ok__law_tops {f : Addr} {fd : FuncData} (F : Fun K "_law_tops" "_law_tops" s__law_tops f fd) (hm : mg "_law_tops" = some (.ref f)) (hb : Binds K fd ["_law_rows_here"] []) (M : Mg mg) (c__law_lay : Cal P w K mg base CX0 1 "_law_lay" ["_law_tops_here", "_law_row"] (sp__law_lay K)) :
    Cal P w K mg base CX0 2 "_law_tops" ["_law_rows_here"] (sp__law_tops K) := by
  refine ⟨f, fd, F.ok sc__law_tops (fun vs H Q E h => ?_) (fun cdv A' outer s H vs Q E hr h => ?_), hm, F.kp, hb⟩
  · unfold sp__law_tops at h
    first
      | (obtain ⟨rfl, _⟩ := h; rfl)
      | (obtain ⟨_, rfl, _⟩ := h; rfl)
      | (obtain ⟨_, _, rfl, _⟩ := h; rfl)
      | (obtain ⟨_, _, _, rfl, _⟩ := h; rfl)
      | (obtain ⟨_, _, _, _, rfl, _⟩ := h; rfl)
      | (obtain ⟨_, _, _, _, _, rfl, _⟩ := h; rfl)
      | (obtain ⟨_, _, _, _, _, _, rfl, _⟩ := h; rfl)
      | (obtain ⟨_, _, _, _, _, _, _, rfl, _⟩ := h; rfl)
      | (obtain ⟨_, _, _, _, _, _, _, _, rfl, _⟩ := h; rfl)
      | (obtain ⟨_, _, _, _, _, _, _, _, _, rfl, _⟩ := h; rfl)
      | (obtain ⟨_, _, _, _, _, _, _, _, _, _, rfl, _⟩ := h; rfl)
      | (obtain ⟨_, _, _, _, _, _, _, _, _, _, _, rfl, _⟩ := h; rfl)
      | (obtain ⟨_, _, _, _, _, _, _, _, _, _, _, _, rfl, _⟩ := h; rfl)
      | (obtain ⟨_, _, _, _, _, _, _, _, _, _, _, _, _, rfl, _⟩ := h; rfl)
      | (obtain ⟨_, _, _, _, _, _, _, _, _, _, _, _, _, _, rfl, _⟩ := h; rfl)
      | (obtain ⟨_, _, _, _, _, _, _, _, _, _, _, _, _, _, _, rfl, _⟩ := h; rfl)
      | (obtain ⟨_, _, _, _, _, _, _, _, _, _, _, _, _, _, _, _, rfl, _⟩ := h; rfl)
      | (obtain ⟨_, _, _, _, _, _, _, _, _, _, _, _, _, _, _, _, _, rfl, _⟩ := h; rfl)
      | (obtain ⟨_, _, _, _, _, _, _, _, _, _, _, _, _, _, _, _, _, _, rfl, _⟩ := h; rfl)
      | (obtain ⟨_, _, _, _, _, _, _, _, _, _, _, _, _, _, _, _, _, _, _, rfl, _⟩ := h; rfl)
      | (obtain ⟨_, _, _, _, _, _, _, _, _, _, _, _, _, _, _, _, _, _, _, _, rfl, _⟩ := h; rfl)
      | (obtain ⟨_, _, _, _, _, _, _, _, _, _, _, _, _, _, _, _, _, _, _, _, _, rfl, _⟩ := h; rfl)
      | (obtain ⟨_, _, _, _, _, _, _, _, _, _, _, _, _, _, _, _, _, _, _, _, _, _, rfl, _⟩ := h; rfl)
      | (obtain ⟨_, _, _, _, _, _, _, _, _, _, _, _, _, _, _, _, _, _, _, _, _, _, _, rfl, _⟩ := h; rfl)
      | (obtain ⟨_, _, _, _, _, _, _, _, _, _, _, _, _, _, _, _, _, _, _, _, _, _, _, _, rfl, _⟩ := h; rfl)
      | (obtain ⟨_, _, _, _, _, _, _, _, _, _, _, _, _, _, _, _, _, _, _, _, _, _, _, _, _, rfl, _⟩ := h; rfl)
      | (obtain ⟨_, _, _, _, _, _, _, _, _, _, _, _, _, _, _, _, _, _, _, _, _, _, _, _, _, _, rfl, _⟩ := h; rfl)
      | (obtain ⟨_, _, _, _, _, _, _, _, _, _, _, _, _, _, _, _, _, _, _, _, _, _, _, _, _, _, _, rfl, _⟩ := h; rfl)
  have hu := hu_of hr
  have hu64 := hr.units
  have hu65 := hr.u65
  have nd := sc__law_tops.nd
  exact ⟨t__law_tops K, (pss_cons (ps_set (i := 1) nd rfl (by first | exact Or.inl rfl | exact Or.inr rfl) e_dnew)
  (pss_cons (ps_for pnever rfl (pi_list (uv 0)) (pg_name (i := 2) nd rfl (by first | exact Or.inl rfl | exact Or.inr rfl))
  (pss_one (ps_expr (c__law_lay.pe (hr.mono (by decide)) pass0 (pa_cons (uv 1) (pa_cons (uv 2) pa_nil))))))
  (pss_one (ps_ret (uv 1))))), rd__law_tops h⟩
abbrev s__law_gap : Stmt := top 40
theorem sc__law_gap : FnScope N__law_gap ["_law_tops_here", "_law_one", "_law_other"] (defScope s__law_gap) := ⟨rfl, rfl, rfl, by decide +kernel, rfl, by decide +kernel, by decide +kernel⟩
theorem ok__law_gap {f : Addr} {fd : FuncData} (F : Fun K "_law_gap" "_law_gap" s__law_gap f fd) (hm : mg "_law_gap" = some (.ref f)) (hb : Binds K fd ["_law_tops_here", "_law_one", "_law_other"] []) (M : Mg mg)  :
    Cal P w K mg base CX0 1 "_law_gap" ["_law_tops_here", "_law_one", "_law_other"] (sp__law_gap K) := by
  refine ⟨f, fd, F.ok sc__law_gap (fun vs H Q E h => ?_) (fun cdv A' outer s H vs Q E hr h => ?_), hm, F.kp, hb⟩
  · unfold sp__law_gap at h
    first
      | (obtain ⟨rfl, _⟩ := h; rfl)
      | (obtain ⟨_, rfl, _⟩ := h; rfl)
      | (obtain ⟨_, _, rfl, _⟩ := h; rfl)
      | (obtain ⟨_, _, _, rfl, _⟩ := h; rfl)
      | (obtain ⟨_, _, _, _, rfl, _⟩ := h; rfl)
      | (obtain ⟨_, _, _, _, _, rfl, _⟩ := h; rfl)
      | (obtain ⟨_, _, _, _, _, _, rfl, _⟩ := h; rfl)
      | (obtain ⟨_, _, _, _, _, _, _, rfl, _⟩ := h; rfl)
      | (obtain ⟨_, _, _, _, _, _, _, _, rfl, _⟩ := h; rfl)
      | (obtain ⟨_, _, _, _, _, _, _, _, _, rfl, _⟩ := h; rfl)
      | (obtain ⟨_, _, _, _, _, _, _, _, _, _, rfl, _⟩ := h; rfl)
      | (obtain ⟨_, _, _, _, _, _, _, _, _, _, _, rfl, _⟩ := h; rfl)
      | (obtain ⟨_, _, _, _, _, _, _, _, _, _, _, _, rfl, _⟩ := h; rfl)
      | (obtain ⟨_, _, _, _, _, _, _, _, _, _, _, _, _, rfl, _⟩ := h; rfl)
      | (obtain ⟨_, _, _, _, _, _, _, _, _, _, _, _, _, _, rfl, _⟩ := h; rfl)
      | (obtain ⟨_, _, _, _, _, _, _, _, _, _, _, _, _, _, _, rfl, _⟩ := h; rfl)
      | (obtain ⟨_, _, _, _, _, _, _, _, _, _, _, _, _, _, _, _, rfl, _⟩ := h; rfl)
      | (obtain ⟨_, _, _, _, _, _, _, _, _, _, _, _, _, _, _, _, _, rfl, _⟩ := h; rfl)
      | (obtain ⟨_, _, _, _, _, _, _, _, _, _, _, _, _, _, _, _, _, _, rfl, _⟩ := h; rfl)
      | (obtain ⟨_, _, _, _, _, _, _, _, _, _, _, _, _, _, _, _, _, _, _, rfl, _⟩ := h; rfl)
      | (obtain ⟨_, _, _, _, _, _, _, _, _, _, _, _, _, _, _, _, _, _, _, _, rfl, _⟩ := h; rfl)
      | (obtain ⟨_, _, _, _, _, _, _, _, _, _, _, _, _, _, _, _, _, _, _, _, _, rfl, _⟩ := h; rfl)
      | (obtain ⟨_, _, _, _, _, _, _, _, _, _, _, _, _, _, _, _, _, _, _, _, _, _, rfl, _⟩ := h; rfl)
      | (obtain ⟨_, _, _, _, _, _, _, _, _, _, _, _, _, _, _, _, _, _, _, _, _, _, _, rfl, _⟩ := h; rfl)
      | (obtain ⟨_, _, _, _, _, _, _, _, _, _, _, _, _, _, _, _, _, _, _, _, _, _, _, _, rfl, _⟩ := h; rfl)
      | (obtain ⟨_, _, _, _, _, _, _, _, _, _, _, _, _, _, _, _, _, _, _, _, _, _, _, _, _, rfl, _⟩ := h; rfl)
      | (obtain ⟨_, _, _, _, _, _, _, _, _, _, _, _, _, _, _, _, _, _, _, _, _, _, _, _, _, _, rfl, _⟩ := h; rfl)
      | (obtain ⟨_, _, _, _, _, _, _, _, _, _, _, _, _, _, _, _, _, _, _, _, _, _, _, _, _, _, _, rfl, _⟩ := h; rfl)
  have hu := hu_of hr
  have hu64 := hr.units
  have hu65 := hr.u65
  have nd := sc__law_gap.nd
  exact ⟨t__law_gap K, (pss_cons (s_if (t_cmp (c_op o_eqS (uv 1) (uv 2)))
  (pss_one (ps_ret pe_int))
  pss_nil)
  (pss_cons (s_if (PW.pt (w_or (t_cmp (c_dnotin hu (uv 1) (uv 0))) (w_or (t_cmp (c_dnotin hu (uv 2) (uv 0))) (pw_or1 (t_cmp (c_op o_neS (pe_ix x_tup (u_dget hu (uv 0) (uv 1)) pe_int plainIx) (pe_ix x_tup (u_dget hu (uv 0) (uv 2)) pe_int plainIx)))))))
  (pss_one (ps_ret pe_non))
  pss_nil)
  (pss_one (ps_ret (pe_op o_sub (pe_ix x_tup (u_dget hu (uv 0) (uv 2)) pe_int plainIx) (pe_ix x_tup (u_dget hu (uv 0) (uv 1)) pe_int plainIx)))))), rd__law_gap h⟩
abbrev s__law_step : Stmt := top 41
theorem sc__law_step : FnScope N__law_step ["_law_step_here", "_law_rows_here"] (defScope s__law_step) := ⟨rfl, rfl, rfl, by decide +kernel, rfl, by decide +kernel, by decide +kernel⟩
theorem ok__law_step {f : Addr} {fd : FuncData} (F : Fun K "_law_step" "_law_step" s__law_step f fd) (hm : mg "_law_step" = some (.ref f)) (hb : Binds K fd ["_law_step_here", "_law_rows_here"] []) (M : Mg mg) (c__law_whole : Cal P w K mg base CX0 1 "_law_whole" ["_law_found"] (sp__law_whole K)) :
    Cal P w K mg base CX0 2 "_law_step" ["_law_step_here", "_law_rows_here"] (sp__law_step K) := by
  refine ⟨f, fd, F.ok sc__law_step (fun vs H Q E h => ?_) (fun cdv A' outer s H vs Q E hr h => ?_), hm, F.kp, hb⟩
  · unfold sp__law_step at h
    first
      | (obtain ⟨rfl, _⟩ := h; rfl)
      | (obtain ⟨_, rfl, _⟩ := h; rfl)
      | (obtain ⟨_, _, rfl, _⟩ := h; rfl)
      | (obtain ⟨_, _, _, rfl, _⟩ := h; rfl)
      | (obtain ⟨_, _, _, _, rfl, _⟩ := h; rfl)
      | (obtain ⟨_, _, _, _, _, rfl, _⟩ := h; rfl)
      | (obtain ⟨_, _, _, _, _, _, rfl, _⟩ := h; rfl)
      | (obtain ⟨_, _, _, _, _, _, _, rfl, _⟩ := h; rfl)
      | (obtain ⟨_, _, _, _, _, _, _, _, rfl, _⟩ := h; rfl)
      | (obtain ⟨_, _, _, _, _, _, _, _, _, rfl, _⟩ := h; rfl)
      | (obtain ⟨_, _, _, _, _, _, _, _, _, _, rfl, _⟩ := h; rfl)
      | (obtain ⟨_, _, _, _, _, _, _, _, _, _, _, rfl, _⟩ := h; rfl)
      | (obtain ⟨_, _, _, _, _, _, _, _, _, _, _, _, rfl, _⟩ := h; rfl)
      | (obtain ⟨_, _, _, _, _, _, _, _, _, _, _, _, _, rfl, _⟩ := h; rfl)
      | (obtain ⟨_, _, _, _, _, _, _, _, _, _, _, _, _, _, rfl, _⟩ := h; rfl)
      | (obtain ⟨_, _, _, _, _, _, _, _, _, _, _, _, _, _, _, rfl, _⟩ := h; rfl)
      | (obtain ⟨_, _, _, _, _, _, _, _, _, _, _, _, _, _, _, _, rfl, _⟩ := h; rfl)
      | (obtain ⟨_, _, _, _, _, _, _, _, _, _, _, _, _, _, _, _, _, rfl, _⟩ := h; rfl)
      | (obtain ⟨_, _, _, _, _, _, _, _, _, _, _, _, _, _, _, _, _, _, rfl, _⟩ := h; rfl)
      | (obtain ⟨_, _, _, _, _, _, _, _, _, _, _, _, _, _, _, _, _, _, _, rfl, _⟩ := h; rfl)
      | (obtain ⟨_, _, _, _, _, _, _, _, _, _, _, _, _, _, _, _, _, _, _, _, rfl, _⟩ := h; rfl)
      | (obtain ⟨_, _, _, _, _, _, _, _, _, _, _, _, _, _, _, _, _, _, _, _, _, rfl, _⟩ := h; rfl)
      | (obtain ⟨_, _, _, _, _, _, _, _, _, _, _, _, _, _, _, _, _, _, _, _, _, _, rfl, _⟩ := h; rfl)
      | (obtain ⟨_, _, _, _, _, _, _, _, _, _, _, _, _, _, _, _, _, _, _, _, _, _, _, rfl, _⟩ := h; rfl)
      | (obtain ⟨_, _, _, _, _, _, _, _, _, _, _, _, _, _, _, _, _, _, _, _, _, _, _, _, rfl, _⟩ := h; rfl)
      | (obtain ⟨_, _, _, _, _, _, _, _, _, _, _, _, _, _, _, _, _, _, _, _, _, _, _, _, _, rfl, _⟩ := h; rfl)
      | (obtain ⟨_, _, _, _, _, _, _, _, _, _, _, _, _, _, _, _, _, _, _, _, _, _, _, _, _, _, rfl, _⟩ := h; rfl)
      | (obtain ⟨_, _, _, _, _, _, _, _, _, _, _, _, _, _, _, _, _, _, _, _, _, _, _, _, _, _, _, rfl, _⟩ := h; rfl)
  have hu := hu_of hr
  have hu64 := hr.units
  have hu65 := hr.u65
  have nd := sc__law_step.nd
  exact ⟨t__law_step K, (pss_cons (s_if (PW.pt (w_or (t_not (t_val (pe_callB b_isi (by rfl) M.m_isinstance (by decide +kernel) (pa_cons (uv 0) (pa_cons (pe_bltn (v := .ty "tuple") (by rfl) M.m_tuple (by decide +kernel) rfl) pa_nil))))) (w_or (t_cmp (c_op o_neI (pe_callB l_seq (by rfl) M.m_len (by decide +kernel) (pa_cons (uv 0) pa_nil)) pe_int)) (w_or (t_not (t_val (c__law_whole.pe (hr.mono (by decide)) pass0 (pa_cons (pe_ix x_tup (uv 0) pe_int plainIx) pa_nil)))) (pw_or1 (t_not (t_val (c__law_whole.pe (hr.mono (by decide)) pass0 (pa_cons (pe_ix x_tup (uv 0) pe_int plainIx) pa_nil)))))))))
  (pss_one (ps_ret pe_bl))
  pss_nil)
  (pss_one (ps_ret (v_or (e_cmp (c_op (op_inD hu65) (uv 0) (uv 1))) (pe_one (e_cmp (c_op (op_inD hu65) (e_tup (pa_cons (pe_ix x_tup (uv 0) pe_int plainIx) (pa_cons (pe_ix x_tup (uv 0) pe_int plainIx) (pa_cons (pe_ix x_tup (uv 0) pe_int plainIx) (pa_cons (pe_op o_sub pe_int (pe_ix x_tup (uv 0) pe_int plainIx)) pa_nil))))) (uv 1)))))))), rd__law_step h⟩
abbrev s__law_way : Stmt := top 42
theorem sc__law_way : FnScope N__law_way ["_law_found", "_law_rows_here", "_law_one", "_law_other"] (defScope s__law_way) := ⟨rfl, rfl, rfl, by decide +kernel, rfl, by decide +kernel, by decide +kernel⟩
theorem ok__law_way {f : Addr} {fd : FuncData} (F : Fun K "_law_way" "_law_way" s__law_way f fd) (hm : mg "_law_way" = some (.ref f)) (hb : Binds K fd ["_law_found", "_law_rows_here", "_law_one", "_law_other"] []) (M : Mg mg) (c__law_step : Cal P w K mg base CX0 2 "_law_step" ["_law_step_here", "_law_rows_here"] (sp__law_step K)) :
    Cal P w K mg base CX0 3 "_law_way" ["_law_found", "_law_rows_here", "_law_one", "_law_other"] (sp__law_way K) := by
  refine ⟨f, fd, F.ok sc__law_way (fun vs H Q E h => ?_) (fun cdv A' outer s H vs Q E hr h => ?_), hm, F.kp, hb⟩
  · unfold sp__law_way at h
    first
      | (obtain ⟨rfl, _⟩ := h; rfl)
      | (obtain ⟨_, rfl, _⟩ := h; rfl)
      | (obtain ⟨_, _, rfl, _⟩ := h; rfl)
      | (obtain ⟨_, _, _, rfl, _⟩ := h; rfl)
      | (obtain ⟨_, _, _, _, rfl, _⟩ := h; rfl)
      | (obtain ⟨_, _, _, _, _, rfl, _⟩ := h; rfl)
      | (obtain ⟨_, _, _, _, _, _, rfl, _⟩ := h; rfl)
      | (obtain ⟨_, _, _, _, _, _, _, rfl, _⟩ := h; rfl)
      | (obtain ⟨_, _, _, _, _, _, _, _, rfl, _⟩ := h; rfl)
      | (obtain ⟨_, _, _, _, _, _, _, _, _, rfl, _⟩ := h; rfl)
      | (obtain ⟨_, _, _, _, _, _, _, _, _, _, rfl, _⟩ := h; rfl)
      | (obtain ⟨_, _, _, _, _, _, _, _, _, _, _, rfl, _⟩ := h; rfl)
      | (obtain ⟨_, _, _, _, _, _, _, _, _, _, _, _, rfl, _⟩ := h; rfl)
      | (obtain ⟨_, _, _, _, _, _, _, _, _, _, _, _, _, rfl, _⟩ := h; rfl)
      | (obtain ⟨_, _, _, _, _, _, _, _, _, _, _, _, _, _, rfl, _⟩ := h; rfl)
      | (obtain ⟨_, _, _, _, _, _, _, _, _, _, _, _, _, _, _, rfl, _⟩ := h; rfl)
      | (obtain ⟨_, _, _, _, _, _, _, _, _, _, _, _, _, _, _, _, rfl, _⟩ := h; rfl)
      | (obtain ⟨_, _, _, _, _, _, _, _, _, _, _, _, _, _, _, _, _, rfl, _⟩ := h; rfl)
      | (obtain ⟨_, _, _, _, _, _, _, _, _, _, _, _, _, _, _, _, _, _, rfl, _⟩ := h; rfl)
      | (obtain ⟨_, _, _, _, _, _, _, _, _, _, _, _, _, _, _, _, _, _, _, rfl, _⟩ := h; rfl)
      | (obtain ⟨_, _, _, _, _, _, _, _, _, _, _, _, _, _, _, _, _, _, _, _, rfl, _⟩ := h; rfl)
      | (obtain ⟨_, _, _, _, _, _, _, _, _, _, _, _, _, _, _, _, _, _, _, _, _, rfl, _⟩ := h; rfl)
      | (obtain ⟨_, _, _, _, _, _, _, _, _, _, _, _, _, _, _, _, _, _, _, _, _, _, rfl, _⟩ := h; rfl)
      | (obtain ⟨_, _, _, _, _, _, _, _, _, _, _, _, _, _, _, _, _, _, _, _, _, _, _, rfl, _⟩ := h; rfl)
      | (obtain ⟨_, _, _, _, _, _, _, _, _, _, _, _, _, _, _, _, _, _, _, _, _, _, _, _, rfl, _⟩ := h; rfl)
      | (obtain ⟨_, _, _, _, _, _, _, _, _, _, _, _, _, _, _, _, _, _, _, _, _, _, _, _, _, rfl, _⟩ := h; rfl)
      | (obtain ⟨_, _, _, _, _, _, _, _, _, _, _, _, _, _, _, _, _, _, _, _, _, _, _, _, _, _, rfl, _⟩ := h; rfl)
      | (obtain ⟨_, _, _, _, _, _, _, _, _, _, _, _, _, _, _, _, _, _, _, _, _, _, _, _, _, _, _, rfl, _⟩ := h; rfl)
  have hu := hu_of hr
  have hu64 := hr.units
  have hu65 := hr.u65
  have nd := sc__law_way.nd
  exact ⟨t__law_way K, (pss_cons (s_if (t_not (t_val (pe_callB b_isi (by rfl) M.m_isinstance (by decide +kernel) (pa_cons (uv 0) (pa_cons (pe_bltn (v := .ty "list") (by rfl) M.m_list (by decide +kernel) rfl) pa_nil)))))
  (pss_one (ps_ret pe_bl))
  pss_nil)
  (pss_cons (ps_set (i := 4) nd rfl (by first | exact Or.inl rfl | exact Or.inr rfl) e_dnew)
  (pss_cons (ps_set (i := 5) nd rfl (by first | exact Or.inl rfl | exact Or.inr rfl) (uv 2))
  (pss_cons (ps_for pnever rfl (pi_list (uv 0)) (pg_name (i := 6) nd rfl (by first | exact Or.inl rfl | exact Or.inr rfl))
  (pss_cons (s_if (PW.pt (w_or (t_not (t_val (c__law_step.pe (hr.mono (by decide)) pass0 (pa_cons (uv 6) (pa_cons (uv 1) pa_nil))))) (w_or (t_cmp (c_op o_neS (pe_ix x_tup (uv 6) pe_int plainIx) (uv 5))) (pw_or1 (t_cmp (c_din hu (uv 5) (uv 4)))))))
  (pss_one (ps_ret pe_bl))
  pss_nil)
  (pss_cons (s_dput hu (uv 4) (uv 5) pe_bl rfl)
  (pss_one (ps_set (i := 5) nd rfl (by first | exact Or.inl rfl | exact Or.inr rfl) (pe_ix x_tup (uv 6) pe_int plainIx))))))
  (pss_one (ps_ret (v_and (e_cmp (c_op o_eqS (uv 5) (uv 3))) (pe_one (e_cmp (c_dnotin hu (uv 5) (uv 4))))))))))), rd__law_way h⟩
abbrev s__law_kind : Stmt := top 43
theorem sc__law_kind : FnScope N__law_kind ["_law_e"] (defScope s__law_kind) := ⟨rfl, rfl, rfl, by decide +kernel, rfl, by decide +kernel, by decide +kernel⟩
theorem ok__law_kind {A : Ad} {f : Addr} {fd : FuncData} (F : Fun K "_law_kind" "_law_kind" s__law_kind f fd) (hm : mg "_law_kind" = some (.ref f)) (hb : Binds K fd ["_law_e"] []) (M : Mg mg) (G : Gx mg K A) (T : Tx K A)  :
    Cal P w K mg base CX0 1 "_law_kind" ["_law_e"] (sp__law_kind K A) := by
  refine ⟨f, fd, F.ok sc__law_kind (fun vs H Q E h => ?_) (fun cdv A' outer s H vs Q E hr h => ?_), hm, F.kp, hb⟩
  · unfold sp__law_kind at h
    first
      | (obtain ⟨rfl, _⟩ := h; rfl)
      | (obtain ⟨_, rfl, _⟩ := h; rfl)
      | (obtain ⟨_, _, rfl, _⟩ := h; rfl)
      | (obtain ⟨_, _, _, rfl, _⟩ := h; rfl)
      | (obtain ⟨_, _, _, _, rfl, _⟩ := h; rfl)
      | (obtain ⟨_, _, _, _, _, rfl, _⟩ := h; rfl)
      | (obtain ⟨_, _, _, _, _, _, rfl, _⟩ := h; rfl)
      | (obtain ⟨_, _, _, _, _, _, _, rfl, _⟩ := h; rfl)
      | (obtain ⟨_, _, _, _, _, _, _, _, rfl, _⟩ := h; rfl)
      | (obtain ⟨_, _, _, _, _, _, _, _, _, rfl, _⟩ := h; rfl)
      | (obtain ⟨_, _, _, _, _, _, _, _, _, _, rfl, _⟩ := h; rfl)
      | (obtain ⟨_, _, _, _, _, _, _, _, _, _, _, rfl, _⟩ := h; rfl)
      | (obtain ⟨_, _, _, _, _, _, _, _, _, _, _, _, rfl, _⟩ := h; rfl)
      | (obtain ⟨_, _, _, _, _, _, _, _, _, _, _, _, _, rfl, _⟩ := h; rfl)
      | (obtain ⟨_, _, _, _, _, _, _, _, _, _, _, _, _, _, rfl, _⟩ := h; rfl)
      | (obtain ⟨_, _, _, _, _, _, _, _, _, _, _, _, _, _, _, rfl, _⟩ := h; rfl)
      | (obtain ⟨_, _, _, _, _, _, _, _, _, _, _, _, _, _, _, _, rfl, _⟩ := h; rfl)
      | (obtain ⟨_, _, _, _, _, _, _, _, _, _, _, _, _, _, _, _, _, rfl, _⟩ := h; rfl)
      | (obtain ⟨_, _, _, _, _, _, _, _, _, _, _, _, _, _, _, _, _, _, rfl, _⟩ := h; rfl)
      | (obtain ⟨_, _, _, _, _, _, _, _, _, _, _, _, _, _, _, _, _, _, _, rfl, _⟩ := h; rfl)
      | (obtain ⟨_, _, _, _, _, _, _, _, _, _, _, _, _, _, _, _, _, _, _, _, rfl, _⟩ := h; rfl)
      | (obtain ⟨_, _, _, _, _, _, _, _, _, _, _, _, _, _, _, _, _, _, _, _, _, rfl, _⟩ := h; rfl)
      | (obtain ⟨_, _, _, _, _, _, _, _, _, _, _, _, _, _, _, _, _, _, _, _, _, _, rfl, _⟩ := h; rfl)
      | (obtain ⟨_, _, _, _, _, _, _, _, _, _, _, _, _, _, _, _, _, _, _, _, _, _, _, rfl, _⟩ := h; rfl)
      | (obtain ⟨_, _, _, _, _, _, _, _, _, _, _, _, _, _, _, _, _, _, _, _, _, _, _, _, rfl, _⟩ := h; rfl)
      | (obtain ⟨_, _, _, _, _, _, _, _, _, _, _, _, _, _, _, _, _, _, _, _, _, _, _, _, _, rfl, _⟩ := h; rfl)
      | (obtain ⟨_, _, _, _, _, _, _, _, _, _, _, _, _, _, _, _, _, _, _, _, _, _, _, _, _, _, rfl, _⟩ := h; rfl)
      | (obtain ⟨_, _, _, _, _, _, _, _, _, _, _, _, _, _, _, _, _, _, _, _, _, _, _, _, _, _, _, rfl, _⟩ := h; rfl)
  have hu := hu_of hr
  have hu64 := hr.units
  have hu65 := hr.u65
  have nd := sc__law_kind.nd
  exact ⟨t__law_kind K A, (pss_cons (ps_set (i := 1) nd rfl (by first | exact Or.inl rfl | exact Or.inr rfl) (pe_op o_add (pe_op o_add (pe_callTy b_intB (by rfl) M.m_int (by decide +kernel) (pa_cons (pe_callB b_isX (by rfl) M.m_isinstance (by decide +kernel) (pa_cons (uv 0) (pa_cons (pe_glob (by rfl) G.g_NoSighting rfl) pa_nil))) pa_nil)) (pe_callTy b_intB (by rfl) M.m_int (by decide +kernel) (pa_cons (pe_callB b_isX (by rfl) M.m_isinstance (by decide +kernel) (pa_cons (uv 0) (pa_cons (pe_glob (by rfl) G.g_Full rfl) pa_nil))) pa_nil))) (pe_callTy b_intB (by rfl) M.m_int (by decide +kernel) (pa_cons (pe_callB b_isX (by rfl) M.m_isinstance (by decide +kernel) (pa_cons (uv 0) (pa_cons (pe_glob (by rfl) G.g_Against rfl) pa_nil))) pa_nil))))
  (pss_cons (ps_set (i := 1) nd rfl (by first | exact Or.inl rfl | exact Or.inr rfl) (pe_op o_add (pe_op o_add (pe_op o_add (uv 1) (pe_callTy b_intB (by rfl) M.m_int (by decide +kernel) (pa_cons (pe_callB b_isX (by rfl) M.m_isinstance (by decide +kernel) (pa_cons (uv 0) (pa_cons (pe_glob (by rfl) G.g_NoNumber rfl) pa_nil))) pa_nil))) (pe_callTy b_intB (by rfl) M.m_int (by decide +kernel) (pa_cons (pe_callB b_isX (by rfl) M.m_isinstance (by decide +kernel) (pa_cons (uv 0) (pa_cons (pe_glob (by rfl) G.g_NoWay rfl) pa_nil))) pa_nil))) (pe_callTy b_intB (by rfl) M.m_int (by decide +kernel) (pa_cons (pe_callB b_isX (by rfl) M.m_isinstance (by decide +kernel) (pa_cons (uv 0) (pa_cons (pe_glob (by rfl) G.g_NoText rfl) pa_nil))) pa_nil))))
  (pss_cons (s_if (PW.pt (w_or (t_cmp (c_op o_neI (uv 1) pe_int)) (pw_or1 (t_not (t_val (pe_callB b_isX (by rfl) M.m_isinstance (by decide +kernel) (pa_cons (uv 0) (pa_cons (pe_bltn (v := .ty "ValueError") (by rfl) M.m_ValueError (by decide +kernel) rfl) pa_nil))))))))
  (pss_one (ps_ret pe_str))
  pss_nil)
  (pss_cons (s_if (t_val (pe_callB b_isX (by rfl) M.m_isinstance (by decide +kernel) (pa_cons (uv 0) (pa_cons (pe_glob (by rfl) G.g_NoSighting rfl) pa_nil))))
  (pss_one (ps_ret pe_str))
  pss_nil)
  (pss_cons (s_if (t_val (pe_callB b_isX (by rfl) M.m_isinstance (by decide +kernel) (pa_cons (uv 0) (pa_cons (pe_glob (by rfl) G.g_Full rfl) pa_nil))))
  (pss_one (ps_ret pe_str))
  pss_nil)
  (pss_cons (s_if (t_val (pe_callB b_isX (by rfl) M.m_isinstance (by decide +kernel) (pa_cons (uv 0) (pa_cons (pe_glob (by rfl) G.g_Against rfl) pa_nil))))
  (pss_one (ps_ret pe_str))
  pss_nil)
  (pss_cons (s_if (t_val (pe_callB b_isX (by rfl) M.m_isinstance (by decide +kernel) (pa_cons (uv 0) (pa_cons (pe_glob (by rfl) G.g_NoNumber rfl) pa_nil))))
  (pss_one (ps_ret pe_str))
  pss_nil)
  (pss_cons (s_if (t_val (pe_callB b_isX (by rfl) M.m_isinstance (by decide +kernel) (pa_cons (uv 0) (pa_cons (pe_glob (by rfl) G.g_NoWay rfl) pa_nil))))
  (pss_one (ps_ret pe_str))
  pss_nil)
  (pss_one (ps_ret pe_str)))))))))), rd__law_kind T h⟩
abbrev s__law_rows : Stmt := top 44
theorem sc__law_rows : FnScope N__law_rows ["_law_found", "_law_rows_here"] (defScope s__law_rows) := ⟨rfl, rfl, rfl, by decide +kernel, rfl, by decide +kernel, by decide +kernel⟩
theorem ok__law_rows {f : Addr} {fd : FuncData} (F : Fun K "_law_rows" "_law_rows" s__law_rows f fd) (hm : mg "_law_rows" = some (.ref f)) (hb : Binds K fd ["_law_found", "_law_rows_here"] []) (M : Mg mg) (c__law_whole : Cal P w K mg base CX0 1 "_law_whole" ["_law_found"] (sp__law_whole K)) :
    Cal P w K mg base CX0 2 "_law_rows" ["_law_found", "_law_rows_here"] (sp__law_rows K) := by
  refine ⟨f, fd, F.ok sc__law_rows (fun vs H Q E h => ?_) (fun cdv A' outer s H vs Q E hr h => ?_), hm, F.kp, hb⟩
  · unfold sp__law_rows at h
    first
      | (obtain ⟨rfl, _⟩ := h; rfl)
      | (obtain ⟨_, rfl, _⟩ := h; rfl)
      | (obtain ⟨_, _, rfl, _⟩ := h; rfl)
      | (obtain ⟨_, _, _, rfl, _⟩ := h; rfl)
      | (obtain ⟨_, _, _, _, rfl, _⟩ := h; rfl)
      | (obtain ⟨_, _, _, _, _, rfl, _⟩ := h; rfl)
      | (obtain ⟨_, _, _, _, _, _, rfl, _⟩ := h; rfl)
      | (obtain ⟨_, _, _, _, _, _, _, rfl, _⟩ := h; rfl)
      | (obtain ⟨_, _, _, _, _, _, _, _, rfl, _⟩ := h; rfl)
      | (obtain ⟨_, _, _, _, _, _, _, _, _, rfl, _⟩ := h; rfl)
      | (obtain ⟨_, _, _, _, _, _, _, _, _, _, rfl, _⟩ := h; rfl)
      | (obtain ⟨_, _, _, _, _, _, _, _, _, _, _, rfl, _⟩ := h; rfl)
      | (obtain ⟨_, _, _, _, _, _, _, _, _, _, _, _, rfl, _⟩ := h; rfl)
      | (obtain ⟨_, _, _, _, _, _, _, _, _, _, _, _, _, rfl, _⟩ := h; rfl)
      | (obtain ⟨_, _, _, _, _, _, _, _, _, _, _, _, _, _, rfl, _⟩ := h; rfl)
      | (obtain ⟨_, _, _, _, _, _, _, _, _, _, _, _, _, _, _, rfl, _⟩ := h; rfl)
      | (obtain ⟨_, _, _, _, _, _, _, _, _, _, _, _, _, _, _, _, rfl, _⟩ := h; rfl)
      | (obtain ⟨_, _, _, _, _, _, _, _, _, _, _, _, _, _, _, _, _, rfl, _⟩ := h; rfl)
      | (obtain ⟨_, _, _, _, _, _, _, _, _, _, _, _, _, _, _, _, _, _, rfl, _⟩ := h; rfl)
      | (obtain ⟨_, _, _, _, _, _, _, _, _, _, _, _, _, _, _, _, _, _, _, rfl, _⟩ := h; rfl)
      | (obtain ⟨_, _, _, _, _, _, _, _, _, _, _, _, _, _, _, _, _, _, _, _, rfl, _⟩ := h; rfl)
      | (obtain ⟨_, _, _, _, _, _, _, _, _, _, _, _, _, _, _, _, _, _, _, _, _, rfl, _⟩ := h; rfl)
      | (obtain ⟨_, _, _, _, _, _, _, _, _, _, _, _, _, _, _, _, _, _, _, _, _, _, rfl, _⟩ := h; rfl)
      | (obtain ⟨_, _, _, _, _, _, _, _, _, _, _, _, _, _, _, _, _, _, _, _, _, _, _, rfl, _⟩ := h; rfl)
      | (obtain ⟨_, _, _, _, _, _, _, _, _, _, _, _, _, _, _, _, _, _, _, _, _, _, _, _, rfl, _⟩ := h; rfl)
      | (obtain ⟨_, _, _, _, _, _, _, _, _, _, _, _, _, _, _, _, _, _, _, _, _, _, _, _, _, rfl, _⟩ := h; rfl)
      | (obtain ⟨_, _, _, _, _, _, _, _, _, _, _, _, _, _, _, _, _, _, _, _, _, _, _, _, _, _, rfl, _⟩ := h; rfl)
      | (obtain ⟨_, _, _, _, _, _, _, _, _, _, _, _, _, _, _, _, _, _, _, _, _, _, _, _, _, _, _, rfl, _⟩ := h; rfl)
  have hu := hu_of hr
  have hu64 := hr.units
  have hu65 := hr.u65
  have nd := sc__law_rows.nd
  exact ⟨t__law_rows K, (pss_cons (s_if (PW.pt (w_or (t_not (t_val (pe_callB b_isi (by rfl) M.m_isinstance (by decide +kernel) (pa_cons (uv 0) (pa_cons (pe_bltn (v := .ty "list") (by rfl) M.m_list (by decide +kernel) rfl) pa_nil))))) (pw_or1 (t_cmp (c_op (op_neD hu64) (uv 0) (uv 1))))))
  (pss_one (ps_ret pe_bl))
  pss_nil)
  (pss_cons (ps_for pnever rfl (pi_list (uv 0)) (pg_name (i := 2) nd rfl (by first | exact Or.inl rfl | exact Or.inr rfl))
  (pss_one (s_if (PW.pt (w_or (t_not (t_val (pe_callB b_isi (by rfl) M.m_isinstance (by decide +kernel) (pa_cons (uv 2) (pa_cons (pe_bltn (v := .ty "tuple") (by rfl) M.m_tuple (by decide +kernel) rfl) pa_nil))))) (w_or (t_not (t_val (c__law_whole.pe (hr.mono (by decide)) pass0 (pa_cons (pe_ix x_tup (uv 2) pe_int plainIx) pa_nil)))) (pw_or1 (t_not (t_val (c__law_whole.pe (hr.mono (by decide)) pass0 (pa_cons (pe_ix x_tup (uv 2) pe_int plainIx) pa_nil))))))))
  (pss_one (ps_ret pe_bl))
  pss_nil)))
  (pss_one (ps_ret pe_bl)))), rd__law_rows h⟩
abbrev s__law_part : Stmt := top 45
theorem sc__law_part : FnScope N__law_part ["_law_tops_here", "_law_one"] (defScope s__law_part) := ⟨rfl, rfl, rfl, by decide +kernel, rfl, by decide +kernel, by decide +kernel⟩
theorem ok__law_part {f : Addr} {fd : FuncData} (F : Fun K "_law_part" "_law_part" s__law_part f fd) (hm : mg "_law_part" = some (.ref f)) (hb : Binds K fd ["_law_tops_here", "_law_one"] []) (M : Mg mg)  :
    Cal P w K mg base CX0 1 "_law_part" ["_law_tops_here", "_law_one"] (sp__law_part K) := by
  refine ⟨f, fd, F.ok sc__law_part (fun vs H Q E h => ?_) (fun cdv A' outer s H vs Q E hr h => ?_), hm, F.kp, hb⟩
  · unfold sp__law_part at h
    first
      | (obtain ⟨rfl, _⟩ := h; rfl)
      | (obtain ⟨_, rfl, _⟩ := h; rfl)
      | (obtain ⟨_, _, rfl, _⟩ := h; rfl)
      | (obtain ⟨_, _, _, rfl, _⟩ := h; rfl)
      | (obtain ⟨_, _, _, _, rfl, _⟩ := h; rfl)
      | (obtain ⟨_, _, _, _, _, rfl, _⟩ := h; rfl)
      | (obtain ⟨_, _, _, _, _, _, rfl, _⟩ := h; rfl)
      | (obtain ⟨_, _, _, _, _, _, _, rfl, _⟩ := h; rfl)
      | (obtain ⟨_, _, _, _, _, _, _, _, rfl, _⟩ := h; rfl)
      | (obtain ⟨_, _, _, _, _, _, _, _, _, rfl, _⟩ := h; rfl)
      | (obtain ⟨_, _, _, _, _, _, _, _, _, _, rfl, _⟩ := h; rfl)
      | (obtain ⟨_, _, _, _, _, _, _, _, _, _, _, rfl, _⟩ := h; rfl)
      | (obtain ⟨_, _, _, _, _, _, _, _, _, _, _, _, rfl, _⟩ := h; rfl)
      | (obtain ⟨_, _, _, _, _, _, _, _, _, _, _, _, _, rfl, _⟩ := h; rfl)
      | (obtain ⟨_, _, _, _, _, _, _, _, _, _, _, _, _, _, rfl, _⟩ := h; rfl)
      | (obtain ⟨_, _, _, _, _, _, _, _, _, _, _, _, _, _, _, rfl, _⟩ := h; rfl)
      | (obtain ⟨_, _, _, _, _, _, _, _, _, _, _, _, _, _, _, _, rfl, _⟩ := h; rfl)
      | (obtain ⟨_, _, _, _, _, _, _, _, _, _, _, _, _, _, _, _, _, rfl, _⟩ := h; rfl)
      | (obtain ⟨_, _, _, _, _, _, _, _, _, _, _, _, _, _, _, _, _, _, rfl, _⟩ := h; rfl)
      | (obtain ⟨_, _, _, _, _, _, _, _, _, _, _, _, _, _, _, _, _, _, _, rfl, _⟩ := h; rfl)
      | (obtain ⟨_, _, _, _, _, _, _, _, _, _, _, _, _, _, _, _, _, _, _, _, rfl, _⟩ := h; rfl)
      | (obtain ⟨_, _, _, _, _, _, _, _, _, _, _, _, _, _, _, _, _, _, _, _, _, rfl, _⟩ := h; rfl)
      | (obtain ⟨_, _, _, _, _, _, _, _, _, _, _, _, _, _, _, _, _, _, _, _, _, _, rfl, _⟩ := h; rfl)
      | (obtain ⟨_, _, _, _, _, _, _, _, _, _, _, _, _, _, _, _, _, _, _, _, _, _, _, rfl, _⟩ := h; rfl)
      | (obtain ⟨_, _, _, _, _, _, _, _, _, _, _, _, _, _, _, _, _, _, _, _, _, _, _, _, rfl, _⟩ := h; rfl)
      | (obtain ⟨_, _, _, _, _, _, _, _, _, _, _, _, _, _, _, _, _, _, _, _, _, _, _, _, _, rfl, _⟩ := h; rfl)
      | (obtain ⟨_, _, _, _, _, _, _, _, _, _, _, _, _, _, _, _, _, _, _, _, _, _, _, _, _, _, rfl, _⟩ := h; rfl)
      | (obtain ⟨_, _, _, _, _, _, _, _, _, _, _, _, _, _, _, _, _, _, _, _, _, _, _, _, _, _, _, rfl, _⟩ := h; rfl)
  have hu := hu_of hr
  have hu64 := hr.units
  have hu65 := hr.u65
  have nd := sc__law_part.nd
  exact ⟨t__law_part K, (pss_cons (s_if (t_cmp (c_dnotin hu (uv 1) (uv 0)))
  (pss_one (ps_ret (e_lst (pa_cons (uv 1) pa_nil))))
  pss_nil)
  (pss_one (ps_ret (pe_callB b_sortedS (by rfl) M.m_sorted (by decide +kernel) (pa_cons (pe_lock (u_lc (own := [("_law_peg", 2)]) (g := (gName 2)) (tt := (uT (tOp kEqS (tOp (cIxT K) (uDGet (uVar 0) (uVar 2)) (tC (.int 0))) (tOp (cIxT K) (uDGet (uVar 0) (uVar 1)) (tC (.int 0)))))) rfl nd (pi_keys (uv 0)) (blkOk_by (N := N__law_part) (sc := defScope s__law_part) (own := [("_law_peg", 2)]) (by decide +kernel)) (fun _ _ _ _ _ => (pg_name (i := 2) nd rfl (by first | exact Or.inl rfl | exact Or.inr rfl))) (fun _ _ _ _ _ => (pts_one (t_cmp (c_op o_eqS (pe_ix x_tup (u_dget hu (uv 0) (uv 2)) pe_int plainIx) (pe_ix x_tup (u_dget hu (uv 0) (uv 1)) pe_int plainIx))))) (fun _ _ _ _ _ => (uv 2)))) pa_nil))))), rd__law_part h⟩
abbrev s__law_rise : Stmt := top 46
theorem sc__law_rise : FnScope N__law_rise ["_law_book", "_law_tops_here", "_law_one", "_law_other"] (defScope s__law_rise) := ⟨rfl, rfl, rfl, by decide +kernel, rfl, by decide +kernel, by decide +kernel⟩
theorem ok__law_rise {A : Ad} {f : Addr} {fd : FuncData} (F : Fun K "_law_rise" "_law_rise" s__law_rise f fd) (hm : mg "_law_rise" = some (.ref f)) (hb : Binds K fd ["_law_book", "_law_tops_here", "_law_one", "_law_other"] []) (M : Mg mg) (G : Gx mg K A) (T : Tx K A) (c__law_gap : Cal P w K mg base CX0 1 "_law_gap" ["_law_tops_here", "_law_one", "_law_other"] (sp__law_gap K)) (c_Book_rise : CalM P w K mg base (L2.CX P w) 5 A.Book "rise" ["self", "one", "other"] (sp_Book_rise K A)) (c__law_kind : Cal P w K mg base CX0 1 "_law_kind" ["_law_e"] (sp__law_kind K A)) (c__law_part : Cal P w K mg base CX0 1 "_law_part" ["_law_tops_here", "_law_one"] (sp__law_part K)) (c__law_whole : Cal P w K mg base CX0 1 "_law_whole" ["_law_found"] (sp__law_whole K)) :
    Cal P w K mg base CX0 6 "_law_rise" ["_law_book", "_law_tops_here", "_law_one", "_law_other"] (sp__law_rise K A) := by
  refine ⟨f, fd, F.ok sc__law_rise (fun vs H Q E h => ?_) (fun cdv A' outer s H vs Q E hr h => ?_), hm, F.kp, hb⟩
  · unfold sp__law_rise at h
    first
      | (obtain ⟨rfl, _⟩ := h; rfl)
      | (obtain ⟨_, rfl, _⟩ := h; rfl)
      | (obtain ⟨_, _, rfl, _⟩ := h; rfl)
      | (obtain ⟨_, _, _, rfl, _⟩ := h; rfl)
      | (obtain ⟨_, _, _, _, rfl, _⟩ := h; rfl)
      | (obtain ⟨_, _, _, _, _, rfl, _⟩ := h; rfl)
      | (obtain ⟨_, _, _, _, _, _, rfl, _⟩ := h; rfl)
      | (obtain ⟨_, _, _, _, _, _, _, rfl, _⟩ := h; rfl)
      | (obtain ⟨_, _, _, _, _, _, _, _, rfl, _⟩ := h; rfl)
      | (obtain ⟨_, _, _, _, _, _, _, _, _, rfl, _⟩ := h; rfl)
      | (obtain ⟨_, _, _, _, _, _, _, _, _, _, rfl, _⟩ := h; rfl)
      | (obtain ⟨_, _, _, _, _, _, _, _, _, _, _, rfl, _⟩ := h; rfl)
      | (obtain ⟨_, _, _, _, _, _, _, _, _, _, _, _, rfl, _⟩ := h; rfl)
      | (obtain ⟨_, _, _, _, _, _, _, _, _, _, _, _, _, rfl, _⟩ := h; rfl)
      | (obtain ⟨_, _, _, _, _, _, _, _, _, _, _, _, _, _, rfl, _⟩ := h; rfl)
      | (obtain ⟨_, _, _, _, _, _, _, _, _, _, _, _, _, _, _, rfl, _⟩ := h; rfl)
      | (obtain ⟨_, _, _, _, _, _, _, _, _, _, _, _, _, _, _, _, rfl, _⟩ := h; rfl)
      | (obtain ⟨_, _, _, _, _, _, _, _, _, _, _, _, _, _, _, _, _, rfl, _⟩ := h; rfl)
      | (obtain ⟨_, _, _, _, _, _, _, _, _, _, _, _, _, _, _, _, _, _, rfl, _⟩ := h; rfl)
      | (obtain ⟨_, _, _, _, _, _, _, _, _, _, _, _, _, _, _, _, _, _, _, rfl, _⟩ := h; rfl)
      | (obtain ⟨_, _, _, _, _, _, _, _, _, _, _, _, _, _, _, _, _, _, _, _, rfl, _⟩ := h; rfl)
      | (obtain ⟨_, _, _, _, _, _, _, _, _, _, _, _, _, _, _, _, _, _, _, _, _, rfl, _⟩ := h; rfl)
      | (obtain ⟨_, _, _, _, _, _, _, _, _, _, _, _, _, _, _, _, _, _, _, _, _, _, rfl, _⟩ := h; rfl)
      | (obtain ⟨_, _, _, _, _, _, _, _, _, _, _, _, _, _, _, _, _, _, _, _, _, _, _, rfl, _⟩ := h; rfl)
      | (obtain ⟨_, _, _, _, _, _, _, _, _, _, _, _, _, _, _, _, _, _, _, _, _, _, _, _, rfl, _⟩ := h; rfl)
      | (obtain ⟨_, _, _, _, _, _, _, _, _, _, _, _, _, _, _, _, _, _, _, _, _, _, _, _, _, rfl, _⟩ := h; rfl)
      | (obtain ⟨_, _, _, _, _, _, _, _, _, _, _, _, _, _, _, _, _, _, _, _, _, _, _, _, _, _, rfl, _⟩ := h; rfl)
      | (obtain ⟨_, _, _, _, _, _, _, _, _, _, _, _, _, _, _, _, _, _, _, _, _, _, _, _, _, _, _, rfl, _⟩ := h; rfl)
  have hu := hu_of hr
  have hu64 := hr.units
  have hu65 := hr.u65
  have nd := sc__law_rise.nd
  exact ⟨t__law_rise K A, (pss_cons (ps_set (i := 4) nd rfl (by first | exact Or.inl rfl | exact Or.inr rfl) (c__law_gap.pe (hr.mono (by decide)) pass0 (pa_cons (uv 1) (pa_cons (uv 2) (pa_cons (uv 3) pa_nil)))))
  (pss_cons (ps_set (i := 5) nd rfl (by first | exact Or.inl rfl | exact Or.inr rfl) pe_non)
  (pss_cons (ps_set (i := 6) nd rfl (by first | exact Or.inl rfl | exact Or.inr rfl) pe_non)
  (pss_cons (ps_set (i := 7) nd rfl (by first | exact Or.inl rfl | exact Or.inr rfl) (e_lst pa_nil))
  (Evl.pss_cut (ps_try_keep (i := 8) (tb := fun W => (tAsg (uMethS A.Book "rise" (sp_Book_rise K A) (WE W) (uVar 0) (tCons (uVar 2) (tCons (uVar 3) tNil))) (gName 5))) (ts := fun a cls d => (tSeq (tAsg (uVar 8) (gName 6))
  (tAsg (tXf a cls d A.NoWay "near" (uVar 8)) (gName 7)))) (Wout := fun _ _ _ _ => False) rfl rfl rfl nd rfl rfl ⟨rfl, by decide, .inl G.g_NoWay⟩ takes0 (fun W pn xe tk _ => (pss_one (ps_set (i := 5) nd rfl (by first | exact Or.inl rfl | exact Or.inr rfl) (c_Book_rise.peS T.cl (hr.mono (by decide)) (fun σ => passAt tk σ) (uv 0) (pa_cons (uv 2) (pa_cons (uv 3) pa_nil))))))
  (fun a oe cls d pn hz hf => (pss_cons (ps_set (i := 6) nd rfl (by first | exact Or.inl rfl | exact Or.inr rfl) (uv 8))
  (pss_one (ps_set (i := 7) nd rfl (by first | exact Or.inl rfl | exact Or.inr rfl) (pe_xf (C := A.NoWay) (T.xf .way) T.n_near hz hf (uv 8)))))))
  (pss_cons (s_if (t_cmp (c_op o_isN (uv 4) pe_non))
  (pss_cons (s_if (PW.pt (w_or (t_cmp (c_op o_isN (uv 6) pe_non)) (w_or (t_cmp (c_op o_neS (c__law_kind.pe (hr.mono (by decide)) pass0 (pa_cons (uv 6) pa_nil)) pe_str)) (pw_or1 (t_not (t_val (pe_callB b_isi (by rfl) M.m_isinstance (by decide +kernel) (pa_cons (uv 7) (pa_cons (pe_bltn (v := .ty "list") (by rfl) M.m_list (by decide +kernel) rfl) pa_nil)))))))))
  (pss_one (ps_ret pe_bl))
  pss_nil)
  (pss_one (ps_ret (e_cmp (c_op (op_eqD hu64) (uv 7) (c__law_part.pe (hr.mono (by decide)) pass0 (pa_cons (uv 1) (pa_cons (uv 2) pa_nil))))))))
  pss_nil)
  (pss_one (ps_ret (v_and (e_cmp (c_op o_isN (uv 6) pe_non)) (v_and (c__law_whole.pe (hr.mono (by decide)) pass0 (pa_cons (uv 5) pa_nil)) (pe_one (e_cmp (c_op (op_eqD hu64) (uv 5) (uv 4)))))))))))))), rd__law_rise T h⟩
abbrev s__law_parts : Stmt := top 47
theorem sc__law_parts : FnScope N__law_parts ["_law_tops_here"] (defScope s__law_parts) := ⟨rfl, rfl, rfl, by decide +kernel, rfl, by decide +kernel, by decide +kernel⟩
theorem ok__law_parts {f : Addr} {fd : FuncData} (F : Fun K "_law_parts" "_law_parts" s__law_parts f fd) (hm : mg "_law_parts" = some (.ref f)) (hb : Binds K fd ["_law_tops_here"] []) (M : Mg mg) (c__law_part : Cal P w K mg base CX0 1 "_law_part" ["_law_tops_here", "_law_one"] (sp__law_part K)) :
    Cal P w K mg base CX0 2 "_law_parts" ["_law_tops_here"] (sp__law_parts K) := by
  refine ⟨f, fd, F.ok sc__law_parts (fun vs H Q E h => ?_) (fun cdv A' outer s H vs Q E hr h => ?_), hm, F.kp, hb⟩
  · unfold sp__law_parts at h
    first
      | (obtain ⟨rfl, _⟩ := h; rfl)
      | (obtain ⟨_, rfl, _⟩ := h; rfl)
      | (obtain ⟨_, _, rfl, _⟩ := h; rfl)
      | (obtain ⟨_, _, _, rfl, _⟩ := h; rfl)
      | (obtain ⟨_, _, _, _, rfl, _⟩ := h; rfl)
      | (obtain ⟨_, _, _, _, _, rfl, _⟩ := h; rfl)
      | (obtain ⟨_, _, _, _, _, _, rfl, _⟩ := h; rfl)
      | (obtain ⟨_, _, _, _, _, _, _, rfl, _⟩ := h; rfl)
      | (obtain ⟨_, _, _, _, _, _, _, _, rfl, _⟩ := h; rfl)
      | (obtain ⟨_, _, _, _, _, _, _, _, _, rfl, _⟩ := h; rfl)
      | (obtain ⟨_, _, _, _, _, _, _, _, _, _, rfl, _⟩ := h; rfl)
      | (obtain ⟨_, _, _, _, _, _, _, _, _, _, _, rfl, _⟩ := h; rfl)
      | (obtain ⟨_, _, _, _, _, _, _, _, _, _, _, _, rfl, _⟩ := h; rfl)
      | (obtain ⟨_, _, _, _, _, _, _, _, _, _, _, _, _, rfl, _⟩ := h; rfl)
      | (obtain ⟨_, _, _, _, _, _, _, _, _, _, _, _, _, _, rfl, _⟩ := h; rfl)
      | (obtain ⟨_, _, _, _, _, _, _, _, _, _, _, _, _, _, _, rfl, _⟩ := h; rfl)
      | (obtain ⟨_, _, _, _, _, _, _, _, _, _, _, _, _, _, _, _, rfl, _⟩ := h; rfl)
      | (obtain ⟨_, _, _, _, _, _, _, _, _, _, _, _, _, _, _, _, _, rfl, _⟩ := h; rfl)
      | (obtain ⟨_, _, _, _, _, _, _, _, _, _, _, _, _, _, _, _, _, _, rfl, _⟩ := h; rfl)
      | (obtain ⟨_, _, _, _, _, _, _, _, _, _, _, _, _, _, _, _, _, _, _, rfl, _⟩ := h; rfl)
      | (obtain ⟨_, _, _, _, _, _, _, _, _, _, _, _, _, _, _, _, _, _, _, _, rfl, _⟩ := h; rfl)
      | (obtain ⟨_, _, _, _, _, _, _, _, _, _, _, _, _, _, _, _, _, _, _, _, _, rfl, _⟩ := h; rfl)
      | (obtain ⟨_, _, _, _, _, _, _, _, _, _, _, _, _, _, _, _, _, _, _, _, _, _, rfl, _⟩ := h; rfl)
      | (obtain ⟨_, _, _, _, _, _, _, _, _, _, _, _, _, _, _, _, _, _, _, _, _, _, _, rfl, _⟩ := h; rfl)
      | (obtain ⟨_, _, _, _, _, _, _, _, _, _, _, _, _, _, _, _, _, _, _, _, _, _, _, _, rfl, _⟩ := h; rfl)
      | (obtain ⟨_, _, _, _, _, _, _, _, _, _, _, _, _, _, _, _, _, _, _, _, _, _, _, _, _, rfl, _⟩ := h; rfl)
      | (obtain ⟨_, _, _, _, _, _, _, _, _, _, _, _, _, _, _, _, _, _, _, _, _, _, _, _, _, _, rfl, _⟩ := h; rfl)
      | (obtain ⟨_, _, _, _, _, _, _, _, _, _, _, _, _, _, _, _, _, _, _, _, _, _, _, _, _, _, _, rfl, _⟩ := h; rfl)
  have hu := hu_of hr
  have hu64 := hr.units
  have hu65 := hr.u65
  have nd := sc__law_parts.nd
  exact ⟨t__law_parts K, (pss_cons (ps_set (i := 1) nd rfl (by first | exact Or.inl rfl | exact Or.inr rfl) (e_lst pa_nil))
  (pss_cons (ps_for pnever rfl (pi_list (pe_callB (b_sortedD rfl) (by rfl) M.m_sorted (by decide +kernel) (pa_cons (uv 0) pa_nil))) (pg_name (i := 2) nd rfl (by first | exact Or.inl rfl | exact Or.inr rfl))
  (pss_cons (ps_set (i := 3) nd rfl (by first | exact Or.inl rfl | exact Or.inr rfl) (c__law_part.pe (hr.mono (by decide)) pass0 (pa_cons (uv 0) (pa_cons (uv 2) pa_nil))))
  (pss_one (s_if (t_cmp (c_op o_eqS (pe_ix x_list (uv 3) pe_int plainIx) (uv 2)))
  (pss_one (ps_expr (pe_bm PySem.F.plainAttrs_list PySem.F.slot_list_append PySem.F.type_list_append m_append (uv 1) (pa_cons (uv 3) pa_nil))))
  pss_nil))))
  (pss_one (ps_ret (uv 1))))), rd__law_parts h⟩
abbrev s__law_alike : Stmt := top 48
theorem sc__law_alike : FnScope N__law_alike ["_law_found", "_law_due_here"] (defScope s__law_alike) := ⟨rfl, rfl, rfl, by decide +kernel, rfl, by decide +kernel, by decide +kernel⟩
theorem ok__law_alike {f : Addr} {fd : FuncData} (F : Fun K "_law_alike" "_law_alike" s__law_alike f fd) (hm : mg "_law_alike" = some (.ref f)) (hb : Binds K fd ["_law_found", "_law_due_here"] []) (M : Mg mg)  :
    Cal P w K mg base CX0 1 "_law_alike" ["_law_found", "_law_due_here"] (sp__law_alike K) := by
  refine ⟨f, fd, F.ok sc__law_alike (fun vs H Q E h => ?_) (fun cdv A' outer s H vs Q E hr h => ?_), hm, F.kp, hb⟩
  · unfold sp__law_alike at h
    first
      | (obtain ⟨rfl, _⟩ := h; rfl)
      | (obtain ⟨_, rfl, _⟩ := h; rfl)
      | (obtain ⟨_, _, rfl, _⟩ := h; rfl)
      | (obtain ⟨_, _, _, rfl, _⟩ := h; rfl)
      | (obtain ⟨_, _, _, _, rfl, _⟩ := h; rfl)
      | (obtain ⟨_, _, _, _, _, rfl, _⟩ := h; rfl)
      | (obtain ⟨_, _, _, _, _, _, rfl, _⟩ := h; rfl)
      | (obtain ⟨_, _, _, _, _, _, _, rfl, _⟩ := h; rfl)
      | (obtain ⟨_, _, _, _, _, _, _, _, rfl, _⟩ := h; rfl)
      | (obtain ⟨_, _, _, _, _, _, _, _, _, rfl, _⟩ := h; rfl)
      | (obtain ⟨_, _, _, _, _, _, _, _, _, _, rfl, _⟩ := h; rfl)
      | (obtain ⟨_, _, _, _, _, _, _, _, _, _, _, rfl, _⟩ := h; rfl)
      | (obtain ⟨_, _, _, _, _, _, _, _, _, _, _, _, rfl, _⟩ := h; rfl)
      | (obtain ⟨_, _, _, _, _, _, _, _, _, _, _, _, _, rfl, _⟩ := h; rfl)
      | (obtain ⟨_, _, _, _, _, _, _, _, _, _, _, _, _, _, rfl, _⟩ := h; rfl)
      | (obtain ⟨_, _, _, _, _, _, _, _, _, _, _, _, _, _, _, rfl, _⟩ := h; rfl)
      | (obtain ⟨_, _, _, _, _, _, _, _, _, _, _, _, _, _, _, _, rfl, _⟩ := h; rfl)
      | (obtain ⟨_, _, _, _, _, _, _, _, _, _, _, _, _, _, _, _, _, rfl, _⟩ := h; rfl)
      | (obtain ⟨_, _, _, _, _, _, _, _, _, _, _, _, _, _, _, _, _, _, rfl, _⟩ := h; rfl)
      | (obtain ⟨_, _, _, _, _, _, _, _, _, _, _, _, _, _, _, _, _, _, _, rfl, _⟩ := h; rfl)
      | (obtain ⟨_, _, _, _, _, _, _, _, _, _, _, _, _, _, _, _, _, _, _, _, rfl, _⟩ := h; rfl)
      | (obtain ⟨_, _, _, _, _, _, _, _, _, _, _, _, _, _, _, _, _, _, _, _, _, rfl, _⟩ := h; rfl)
      | (obtain ⟨_, _, _, _, _, _, _, _, _, _, _, _, _, _, _, _, _, _, _, _, _, _, rfl, _⟩ := h; rfl)
      | (obtain ⟨_, _, _, _, _, _, _, _, _, _, _, _, _, _, _, _, _, _, _, _, _, _, _, rfl, _⟩ := h; rfl)
      | (obtain ⟨_, _, _, _, _, _, _, _, _, _, _, _, _, _, _, _, _, _, _, _, _, _, _, _, rfl, _⟩ := h; rfl)
      | (obtain ⟨_, _, _, _, _, _, _, _, _, _, _, _, _, _, _, _, _, _, _, _, _, _, _, _, _, rfl, _⟩ := h; rfl)
      | (obtain ⟨_, _, _, _, _, _, _, _, _, _, _, _, _, _, _, _, _, _, _, _, _, _, _, _, _, _, rfl, _⟩ := h; rfl)
      | (obtain ⟨_, _, _, _, _, _, _, _, _, _, _, _, _, _, _, _, _, _, _, _, _, _, _, _, _, _, _, rfl, _⟩ := h; rfl)
  have hu := hu_of hr
  have hu64 := hr.units
  have hu65 := hr.u65
  have nd := sc__law_alike.nd
  exact ⟨t__law_alike K, (pss_cons (s_if (PW.pt (w_or (t_not (t_val (pe_callB b_isi (by rfl) M.m_isinstance (by decide +kernel) (pa_cons (uv 0) (pa_cons (pe_bltn (v := .ty "list") (by rfl) M.m_list (by decide +kernel) rfl) pa_nil))))) (pw_or1 (t_cmp (c_op (op_neD hu64) (uv 0) (uv 1))))))
  (pss_one (ps_ret pe_bl))
  pss_nil)
  (pss_one (ps_ret (e_cmp (c_op (op_eqD hu64) (u_lc (own := [("_law_part_here", 2)]) (g := (gName 2)) (tt := (uNot (uT (tCB (cIsi K) (tCons (uVar 2) (tCons (tC (.ty "list")) tNil)))))) rfl nd (pi_list (uv 0)) (blkOk_by (N := N__law_alike) (sc := defScope s__law_alike) (own := [("_law_part_here", 2)]) (by decide +kernel)) (fun _ _ _ _ _ => (pg_name (i := 2) nd rfl (by first | exact Or.inl rfl | exact Or.inr rfl))) (fun _ _ _ _ _ => (pts_one (t_not (t_val (pe_callB b_isi (by rfl) M.m_isinstance (by decide +kernel) (pa_cons (uv 2) (pa_cons (pe_bltn (v := .ty "list") (by rfl) M.m_list (by decide +kernel) rfl) pa_nil))))))) (fun _ _ _ _ _ => (uv 2))) (e_lst pa_nil)))))), rd__law_alike h⟩
abbrev s__law_heights : Stmt := top 49
theorem sc__law_heights : FnScope N__law_heights ["_law_found", "_law_rows_here", "_law_tops_here"] (defScope s__law_heights) := ⟨rfl, rfl, rfl, by decide +kernel, rfl, by decide +kernel, by decide +kernel⟩
theorem ok__law_heights {f : Addr} {fd : FuncData} (F : Fun K "_law_heights" "_law_heights" s__law_heights f fd) (hm : mg "_law_heights" = some (.ref f)) (hb : Binds K fd ["_law_found", "_law_rows_here", "_law_tops_here"] []) (M : Mg mg) (c__law_whole : Cal P w K mg base CX0 1 "_law_whole" ["_law_found"] (sp__law_whole K)) (c__law_parts : Cal P w K mg base CX0 2 "_law_parts" ["_law_tops_here"] (sp__law_parts K)) :
    Cal P w K mg base CX0 3 "_law_heights" ["_law_found", "_law_rows_here", "_law_tops_here"] (sp__law_heights K) := by
  refine ⟨f, fd, F.ok sc__law_heights (fun vs H Q E h => ?_) (fun cdv A' outer s H vs Q E hr h => ?_), hm, F.kp, hb⟩
  · unfold sp__law_heights at h
    first
      | (obtain ⟨rfl, _⟩ := h; rfl)
      | (obtain ⟨_, rfl, _⟩ := h; rfl)
      | (obtain ⟨_, _, rfl, _⟩ := h; rfl)
      | (obtain ⟨_, _, _, rfl, _⟩ := h; rfl)
      | (obtain ⟨_, _, _, _, rfl, _⟩ := h; rfl)
      | (obtain ⟨_, _, _, _, _, rfl, _⟩ := h; rfl)
      | (obtain ⟨_, _, _, _, _, _, rfl, _⟩ := h; rfl)
      | (obtain ⟨_, _, _, _, _, _, _, rfl, _⟩ := h; rfl)
      | (obtain ⟨_, _, _, _, _, _, _, _, rfl, _⟩ := h; rfl)
      | (obtain ⟨_, _, _, _, _, _, _, _, _, rfl, _⟩ := h; rfl)
      | (obtain ⟨_, _, _, _, _, _, _, _, _, _, rfl, _⟩ := h; rfl)
      | (obtain ⟨_, _, _, _, _, _, _, _, _, _, _, rfl, _⟩ := h; rfl)
      | (obtain ⟨_, _, _, _, _, _, _, _, _, _, _, _, rfl, _⟩ := h; rfl)
      | (obtain ⟨_, _, _, _, _, _, _, _, _, _, _, _, _, rfl, _⟩ := h; rfl)
      | (obtain ⟨_, _, _, _, _, _, _, _, _, _, _, _, _, _, rfl, _⟩ := h; rfl)
      | (obtain ⟨_, _, _, _, _, _, _, _, _, _, _, _, _, _, _, rfl, _⟩ := h; rfl)
      | (obtain ⟨_, _, _, _, _, _, _, _, _, _, _, _, _, _, _, _, rfl, _⟩ := h; rfl)
      | (obtain ⟨_, _, _, _, _, _, _, _, _, _, _, _, _, _, _, _, _, rfl, _⟩ := h; rfl)
      | (obtain ⟨_, _, _, _, _, _, _, _, _, _, _, _, _, _, _, _, _, _, rfl, _⟩ := h; rfl)
      | (obtain ⟨_, _, _, _, _, _, _, _, _, _, _, _, _, _, _, _, _, _, _, rfl, _⟩ := h; rfl)
      | (obtain ⟨_, _, _, _, _, _, _, _, _, _, _, _, _, _, _, _, _, _, _, _, rfl, _⟩ := h; rfl)
      | (obtain ⟨_, _, _, _, _, _, _, _, _, _, _, _, _, _, _, _, _, _, _, _, _, rfl, _⟩ := h; rfl)
      | (obtain ⟨_, _, _, _, _, _, _, _, _, _, _, _, _, _, _, _, _, _, _, _, _, _, rfl, _⟩ := h; rfl)
      | (obtain ⟨_, _, _, _, _, _, _, _, _, _, _, _, _, _, _, _, _, _, _, _, _, _, _, rfl, _⟩ := h; rfl)
      | (obtain ⟨_, _, _, _, _, _, _, _, _, _, _, _, _, _, _, _, _, _, _, _, _, _, _, _, rfl, _⟩ := h; rfl)
      | (obtain ⟨_, _, _, _, _, _, _, _, _, _, _, _, _, _, _, _, _, _, _, _, _, _, _, _, _, rfl, _⟩ := h; rfl)
      | (obtain ⟨_, _, _, _, _, _, _, _, _, _, _, _, _, _, _, _, _, _, _, _, _, _, _, _, _, _, rfl, _⟩ := h; rfl)
      | (obtain ⟨_, _, _, _, _, _, _, _, _, _, _, _, _, _, _, _, _, _, _, _, _, _, _, _, _, _, _, rfl, _⟩ := h; rfl)
  have hu := hu_of hr
  have hu64 := hr.units
  have hu65 := hr.u65
  have nd := sc__law_heights.nd
  exact ⟨t__law_heights K, (pss_cons (s_if (t_not (t_val (pe_callB b_isi (by rfl) M.m_isinstance (by decide +kernel) (pa_cons (uv 0) (pa_cons (pe_bltn (v := .ty "list") (by rfl) M.m_list (by decide +kernel) rfl) pa_nil)))))
  (pss_one (ps_ret pe_bl))
  pss_nil)
  (pss_cons (ps_set (i := 3) nd rfl (by first | exact Or.inl rfl | exact Or.inr rfl) e_dnew)
  (pss_cons (ps_for pnever rfl (pi_list (uv 0)) (pg_name (i := 4) nd rfl (by first | exact Or.inl rfl | exact Or.inr rfl))
  (pss_cons (s_if (PW.pt (w_or (t_not (t_val (pe_callB b_isi (by rfl) M.m_isinstance (by decide +kernel) (pa_cons (uv 4) (pa_cons (pe_bltn (v := .ty "tuple") (by rfl) M.m_tuple (by decide +kernel) rfl) pa_nil))))) (w_or (t_cmp (c_op o_neI (pe_callB l_seq (by rfl) M.m_len (by decide +kernel) (pa_cons (uv 4) pa_nil)) pe_int)) (pw_or1 (t_not (t_val (c__law_whole.pe (hr.mono (by decide)) pass0 (pa_cons (pe_ix x_tup (uv 4) pe_int plainIx) pa_nil))))))))
  (pss_one (ps_ret pe_bl))
  pss_nil)
  (pss_one (s_dput hu (uv 3) (pe_ix x_tup (uv 4) pe_int plainIx) (pe_ix x_tup (uv 4) pe_int plainIx) rfl))))
  (pss_cons (s_if (t_cmp (c_op (op_neD hu64) (u_lc (own := [("_law_pair", 4)]) (g := (gName 4)) (tt := tYes) rfl nd (pi_list (uv 0)) (blkOk_by (N := N__law_heights) (sc := defScope s__law_heights) (own := [("_law_pair", 4)]) (by decide +kernel)) (fun _ _ _ _ _ => (pg_name (i := 4) nd rfl (by first | exact Or.inl rfl | exact Or.inr rfl))) (fun _ _ _ _ _ => pts_nil) (fun _ _ _ _ _ => (pe_ix x_tup (uv 4) pe_int plainIx))) (pe_callB (b_sortedD rfl) (by rfl) M.m_sorted (by decide +kernel) (pa_cons (uv 2) pa_nil))))
  (pss_one (ps_ret pe_bl))
  pss_nil)
  (pss_cons (ps_for pnever rfl (pi_list (uv 1)) (pg_name (i := 5) nd rfl (by first | exact Or.inl rfl | exact Or.inr rfl))
  (pss_one (s_if (t_cmp (c_op o_neI (pe_op o_sub (u_dget hu (uv 3) (pe_ix x_tup (uv 5) pe_int plainIx)) (u_dget hu (uv 3) (pe_ix x_tup (uv 5) pe_int plainIx))) (pe_ix x_tup (uv 5) pe_int plainIx)))
  (pss_one (ps_ret pe_bl))
  pss_nil)))
  (pss_cons (ps_for pnever rfl (pi_list (c__law_parts.pe (hr.mono (by decide)) pass0 (pa_cons (uv 2) pa_nil))) (pg_name (i := 6) nd rfl (by first | exact Or.inl rfl | exact Or.inr rfl))
  (pss_one (s_if (t_cmp (c_op o_neI (u_dget hu (uv 3) (pe_ix x_list (uv 6) pe_int plainIx)) pe_int))
  (pss_one (ps_ret pe_bl))
  pss_nil)))
  (pss_one (ps_ret pe_bl)))))))), rd__law_heights h⟩
abbrev s__law_piece : Stmt := top 50
theorem sc__law_piece : FnScope N__law_piece ["_law_sighting_here"] (defScope s__law_piece) := ⟨rfl, rfl, rfl, by decide +kernel, rfl, by decide +kernel, by decide +kernel⟩
theorem ok__law_piece {f : Addr} {fd : FuncData} (F : Fun K "_law_piece" "_law_piece" s__law_piece f fd) (hm : mg "_law_piece" = some (.ref f)) (hb : Binds K fd ["_law_sighting_here"] []) (M : Mg mg)  :
    Cal P w K mg base CX0 1 "_law_piece" ["_law_sighting_here"] (sp__law_piece K) := by
  refine ⟨f, fd, F.ok sc__law_piece (fun vs H Q E h => ?_) (fun cdv A' outer s H vs Q E hr h => ?_), hm, F.kp, hb⟩
  · unfold sp__law_piece at h
    first
      | (obtain ⟨rfl, _⟩ := h; rfl)
      | (obtain ⟨_, rfl, _⟩ := h; rfl)
      | (obtain ⟨_, _, rfl, _⟩ := h; rfl)
      | (obtain ⟨_, _, _, rfl, _⟩ := h; rfl)
      | (obtain ⟨_, _, _, _, rfl, _⟩ := h; rfl)
      | (obtain ⟨_, _, _, _, _, rfl, _⟩ := h; rfl)
      | (obtain ⟨_, _, _, _, _, _, rfl, _⟩ := h; rfl)
      | (obtain ⟨_, _, _, _, _, _, _, rfl, _⟩ := h; rfl)
      | (obtain ⟨_, _, _, _, _, _, _, _, rfl, _⟩ := h; rfl)
      | (obtain ⟨_, _, _, _, _, _, _, _, _, rfl, _⟩ := h; rfl)
      | (obtain ⟨_, _, _, _, _, _, _, _, _, _, rfl, _⟩ := h; rfl)
      | (obtain ⟨_, _, _, _, _, _, _, _, _, _, _, rfl, _⟩ := h; rfl)
      | (obtain ⟨_, _, _, _, _, _, _, _, _, _, _, _, rfl, _⟩ := h; rfl)
      | (obtain ⟨_, _, _, _, _, _, _, _, _, _, _, _, _, rfl, _⟩ := h; rfl)
      | (obtain ⟨_, _, _, _, _, _, _, _, _, _, _, _, _, _, rfl, _⟩ := h; rfl)
      | (obtain ⟨_, _, _, _, _, _, _, _, _, _, _, _, _, _, _, rfl, _⟩ := h; rfl)
      | (obtain ⟨_, _, _, _, _, _, _, _, _, _, _, _, _, _, _, _, rfl, _⟩ := h; rfl)
      | (obtain ⟨_, _, _, _, _, _, _, _, _, _, _, _, _, _, _, _, _, rfl, _⟩ := h; rfl)
      | (obtain ⟨_, _, _, _, _, _, _, _, _, _, _, _, _, _, _, _, _, _, rfl, _⟩ := h; rfl)
      | (obtain ⟨_, _, _, _, _, _, _, _, _, _, _, _, _, _, _, _, _, _, _, rfl, _⟩ := h; rfl)
      | (obtain ⟨_, _, _, _, _, _, _, _, _, _, _, _, _, _, _, _, _, _, _, _, rfl, _⟩ := h; rfl)
      | (obtain ⟨_, _, _, _, _, _, _, _, _, _, _, _, _, _, _, _, _, _, _, _, _, rfl, _⟩ := h; rfl)
      | (obtain ⟨_, _, _, _, _, _, _, _, _, _, _, _, _, _, _, _, _, _, _, _, _, _, rfl, _⟩ := h; rfl)
      | (obtain ⟨_, _, _, _, _, _, _, _, _, _, _, _, _, _, _, _, _, _, _, _, _, _, _, rfl, _⟩ := h; rfl)
      | (obtain ⟨_, _, _, _, _, _, _, _, _, _, _, _, _, _, _, _, _, _, _, _, _, _, _, _, rfl, _⟩ := h; rfl)
      | (obtain ⟨_, _, _, _, _, _, _, _, _, _, _, _, _, _, _, _, _, _, _, _, _, _, _, _, _, rfl, _⟩ := h; rfl)
      | (obtain ⟨_, _, _, _, _, _, _, _, _, _, _, _, _, _, _, _, _, _, _, _, _, _, _, _, _, _, rfl, _⟩ := h; rfl)
      | (obtain ⟨_, _, _, _, _, _, _, _, _, _, _, _, _, _, _, _, _, _, _, _, _, _, _, _, _, _, _, rfl, _⟩ := h; rfl)
  have hu := hu_of hr
  have hu64 := hr.units
  have hu65 := hr.u65
  have nd := sc__law_piece.nd
  exact ⟨t__law_piece K, (pss_one (ps_ret (pe_op o_addS (pe_op o_addS (pe_op o_addS (pe_op o_addS (pe_ix x_tup (uv 0) pe_int plainIx) pe_str) (pe_ix x_tup (uv 0) pe_int plainIx)) pe_str) (pe_callTy b_str (by rfl) M.m_str (by decide +kernel) (pa_cons (pe_ix x_tup (uv 0) pe_int plainIx) pa_nil))))), rd__law_piece h⟩
abbrev s__law_text : Stmt := top 51
theorem sc__law_text : FnScope N__law_text ["_law_rows_here"] (defScope s__law_text) := ⟨rfl, rfl, rfl, by decide +kernel, rfl, by decide +kernel, by decide +kernel⟩
theorem ok__law_text {f : Addr} {fd : FuncData} (F : Fun K "_law_text" "_law_text" s__law_text f fd) (hm : mg "_law_text" = some (.ref f)) (hb : Binds K fd ["_law_rows_here"] []) (M : Mg mg) (c__law_piece : Cal P w K mg base CX0 1 "_law_piece" ["_law_sighting_here"] (sp__law_piece K)) :
    Cal P w K mg base CX0 2 "_law_text" ["_law_rows_here"] (sp__law_text K) := by
  refine ⟨f, fd, F.ok sc__law_text (fun vs H Q E h => ?_) (fun cdv A' outer s H vs Q E hr h => ?_), hm, F.kp, hb⟩
  · unfold sp__law_text at h
    first
      | (obtain ⟨rfl, _⟩ := h; rfl)
      | (obtain ⟨_, rfl, _⟩ := h; rfl)
      | (obtain ⟨_, _, rfl, _⟩ := h; rfl)
      | (obtain ⟨_, _, _, rfl, _⟩ := h; rfl)
      | (obtain ⟨_, _, _, _, rfl, _⟩ := h; rfl)
      | (obtain ⟨_, _, _, _, _, rfl, _⟩ := h; rfl)
      | (obtain ⟨_, _, _, _, _, _, rfl, _⟩ := h; rfl)
      | (obtain ⟨_, _, _, _, _, _, _, rfl, _⟩ := h; rfl)
      | (obtain ⟨_, _, _, _, _, _, _, _, rfl, _⟩ := h; rfl)
      | (obtain ⟨_, _, _, _, _, _, _, _, _, rfl, _⟩ := h; rfl)
      | (obtain ⟨_, _, _, _, _, _, _, _, _, _, rfl, _⟩ := h; rfl)
      | (obtain ⟨_, _, _, _, _, _, _, _, _, _, _, rfl, _⟩ := h; rfl)
      | (obtain ⟨_, _, _, _, _, _, _, _, _, _, _, _, rfl, _⟩ := h; rfl)
      | (obtain ⟨_, _, _, _, _, _, _, _, _, _, _, _, _, rfl, _⟩ := h; rfl)
      | (obtain ⟨_, _, _, _, _, _, _, _, _, _, _, _, _, _, rfl, _⟩ := h; rfl)
      | (obtain ⟨_, _, _, _, _, _, _, _, _, _, _, _, _, _, _, rfl, _⟩ := h; rfl)
      | (obtain ⟨_, _, _, _, _, _, _, _, _, _, _, _, _, _, _, _, rfl, _⟩ := h; rfl)
      | (obtain ⟨_, _, _, _, _, _, _, _, _, _, _, _, _, _, _, _, _, rfl, _⟩ := h; rfl)
      | (obtain ⟨_, _, _, _, _, _, _, _, _, _, _, _, _, _, _, _, _, _, rfl, _⟩ := h; rfl)
      | (obtain ⟨_, _, _, _, _, _, _, _, _, _, _, _, _, _, _, _, _, _, _, rfl, _⟩ := h; rfl)
      | (obtain ⟨_, _, _, _, _, _, _, _, _, _, _, _, _, _, _, _, _, _, _, _, rfl, _⟩ := h; rfl)
      | (obtain ⟨_, _, _, _, _, _, _, _, _, _, _, _, _, _, _, _, _, _, _, _, _, rfl, _⟩ := h; rfl)
      | (obtain ⟨_, _, _, _, _, _, _, _, _, _, _, _, _, _, _, _, _, _, _, _, _, _, rfl, _⟩ := h; rfl)
      | (obtain ⟨_, _, _, _, _, _, _, _, _, _, _, _, _, _, _, _, _, _, _, _, _, _, _, rfl, _⟩ := h; rfl)
      | (obtain ⟨_, _, _, _, _, _, _, _, _, _, _, _, _, _, _, _, _, _, _, _, _, _, _, _, rfl, _⟩ := h; rfl)
      | (obtain ⟨_, _, _, _, _, _, _, _, _, _, _, _, _, _, _, _, _, _, _, _, _, _, _, _, _, rfl, _⟩ := h; rfl)
      | (obtain ⟨_, _, _, _, _, _, _, _, _, _, _, _, _, _, _, _, _, _, _, _, _, _, _, _, _, _, rfl, _⟩ := h; rfl)
      | (obtain ⟨_, _, _, _, _, _, _, _, _, _, _, _, _, _, _, _, _, _, _, _, _, _, _, _, _, _, _, rfl, _⟩ := h; rfl)
  have hu := hu_of hr
  have hu64 := hr.units
  have hu65 := hr.u65
  have nd := sc__law_text.nd
  exact ⟨t__law_text K, (pss_one (ps_ret (e_join pe_str (u_lc (own := [("_law_row", 1)]) (g := (gName 1)) (tt := tYes) rfl nd (pi_list (uv 0)) (blkOk_by (N := N__law_text) (sc := defScope s__law_text) (own := [("_law_row", 1)]) (by decide +kernel)) (fun _ _ _ _ _ => (pg_name (i := 1) nd rfl (by first | exact Or.inl rfl | exact Or.inr rfl))) (fun _ _ _ _ _ => pts_nil) (fun _ _ _ _ _ => (c__law_piece.pe (hr.mono (by decide)) pass0 (pa_cons (pe_slice s_tup (uv 1) (p_some pe_int) po_none) pa_nil))))))), rd__law_text h⟩
abbrev s__law_kept : Stmt := top 52
theorem sc__law_kept : FnScope N__law_kept ["_law_book", "_law_sightings", "_law_cells"] (defScope s__law_kept) := ⟨rfl, rfl, rfl, by decide +kernel, rfl, by decide +kernel, by decide +kernel⟩
theorem ok__law_kept {A : Ad} {f : Addr} {fd : FuncData} (F : Fun K "_law_kept" "_law_kept" s__law_kept f fd) (hm : mg "_law_kept" = some (.ref f)) (hb : Binds K fd ["_law_book", "_law_sightings", "_law_cells"] []) (M : Mg mg) (G : Gx mg K A) (T : Tx K A) (c__law_gap : Cal P w K mg base CX0 1 "_law_gap" ["_law_tops_here", "_law_one", "_law_other"] (sp__law_gap K)) (c_Book_take : CalM P w K mg base (L2.CX P w) 4 A.Book "take" ["self", "one", "other", "rise"] (sp_Book_take K A)) (c__law_lay : Cal P w K mg base CX0 1 "_law_lay" ["_law_tops_here", "_law_row"] (sp__law_lay K)) (c_Book_drop : CalM P w K mg base (L2.CX P w) 3 A.Book "drop" ["self", "number"] (sp_Book_drop K A)) (c__law_tops : Cal P w K mg base CX0 2 "_law_tops" ["_law_rows_here"] (sp__law_tops K)) :
    Cal P w K mg base CX0 5 "_law_kept" ["_law_book", "_law_sightings", "_law_cells"] (sp__law_kept K A) := by
  refine ⟨f, fd, F.ok sc__law_kept (fun vs H Q E h => ?_) (fun cdv A' outer s H vs Q E hr h => ?_), hm, F.kp, hb⟩
  · unfold sp__law_kept at h
    first
      | (obtain ⟨rfl, _⟩ := h; rfl)
      | (obtain ⟨_, rfl, _⟩ := h; rfl)
      | (obtain ⟨_, _, rfl, _⟩ := h; rfl)
      | (obtain ⟨_, _, _, rfl, _⟩ := h; rfl)
      | (obtain ⟨_, _, _, _, rfl, _⟩ := h; rfl)
      | (obtain ⟨_, _, _, _, _, rfl, _⟩ := h; rfl)
      | (obtain ⟨_, _, _, _, _, _, rfl, _⟩ := h; rfl)
      | (obtain ⟨_, _, _, _, _, _, _, rfl, _⟩ := h; rfl)
      | (obtain ⟨_, _, _, _, _, _, _, _, rfl, _⟩ := h; rfl)
      | (obtain ⟨_, _, _, _, _, _, _, _, _, rfl, _⟩ := h; rfl)
      | (obtain ⟨_, _, _, _, _, _, _, _, _, _, rfl, _⟩ := h; rfl)
      | (obtain ⟨_, _, _, _, _, _, _, _, _, _, _, rfl, _⟩ := h; rfl)
      | (obtain ⟨_, _, _, _, _, _, _, _, _, _, _, _, rfl, _⟩ := h; rfl)
      | (obtain ⟨_, _, _, _, _, _, _, _, _, _, _, _, _, rfl, _⟩ := h; rfl)
      | (obtain ⟨_, _, _, _, _, _, _, _, _, _, _, _, _, _, rfl, _⟩ := h; rfl)
      | (obtain ⟨_, _, _, _, _, _, _, _, _, _, _, _, _, _, _, rfl, _⟩ := h; rfl)
      | (obtain ⟨_, _, _, _, _, _, _, _, _, _, _, _, _, _, _, _, rfl, _⟩ := h; rfl)
      | (obtain ⟨_, _, _, _, _, _, _, _, _, _, _, _, _, _, _, _, _, rfl, _⟩ := h; rfl)
      | (obtain ⟨_, _, _, _, _, _, _, _, _, _, _, _, _, _, _, _, _, _, rfl, _⟩ := h; rfl)
      | (obtain ⟨_, _, _, _, _, _, _, _, _, _, _, _, _, _, _, _, _, _, _, rfl, _⟩ := h; rfl)
      | (obtain ⟨_, _, _, _, _, _, _, _, _, _, _, _, _, _, _, _, _, _, _, _, rfl, _⟩ := h; rfl)
      | (obtain ⟨_, _, _, _, _, _, _, _, _, _, _, _, _, _, _, _, _, _, _, _, _, rfl, _⟩ := h; rfl)
      | (obtain ⟨_, _, _, _, _, _, _, _, _, _, _, _, _, _, _, _, _, _, _, _, _, _, rfl, _⟩ := h; rfl)
      | (obtain ⟨_, _, _, _, _, _, _, _, _, _, _, _, _, _, _, _, _, _, _, _, _, _, _, rfl, _⟩ := h; rfl)
      | (obtain ⟨_, _, _, _, _, _, _, _, _, _, _, _, _, _, _, _, _, _, _, _, _, _, _, _, rfl, _⟩ := h; rfl)
      | (obtain ⟨_, _, _, _, _, _, _, _, _, _, _, _, _, _, _, _, _, _, _, _, _, _, _, _, _, rfl, _⟩ := h; rfl)
      | (obtain ⟨_, _, _, _, _, _, _, _, _, _, _, _, _, _, _, _, _, _, _, _, _, _, _, _, _, _, rfl, _⟩ := h; rfl)
      | (obtain ⟨_, _, _, _, _, _, _, _, _, _, _, _, _, _, _, _, _, _, _, _, _, _, _, _, _, _, _, rfl, _⟩ := h; rfl)
  have hu := hu_of hr
  have hu64 := hr.units
  have hu65 := hr.u65
  have nd := sc__law_kept.nd
  exact ⟨t__law_kept K A, (pss_cons (ps_set (i := 3) nd rfl (by first | exact Or.inl rfl | exact Or.inr rfl) (e_lst pa_nil))
  (pss_cons (ps_set (i := 4) nd rfl (by first | exact Or.inl rfl | exact Or.inr rfl) e_dnew)
  (pss_cons (ps_set (i := 5) nd rfl (by first | exact Or.inl rfl | exact Or.inr rfl) (e_lst (pa_cons pe_int pa_nil)))
  (pss_cons (ps_for pnever rfl (pi_range1 (by rfl) M.m_range (pa_cons (pe_callB l_seq (by rfl) M.m_len (by decide +kernel) (pa_cons (uv 1) pa_nil)) pa_nil)) (pg_name (i := 6) nd rfl (by first | exact Or.inl rfl | exact Or.inr rfl))
  (pss_cons (ps_set (i := 7) nd rfl (by first | exact Or.inl rfl | exact Or.inr rfl) (pe_ix x_list (uv 1) (uv 6) plainIx))
  (pss_cons (ps_set (i := 8) nd rfl (by first | exact Or.inl rfl | exact Or.inr rfl) (c__law_gap.pe (hr.mono (by decide)) pass0 (pa_cons (uv 4) (pa_cons (pe_ix x_tup (uv 7) pe_int plainIx) (pa_cons (pe_ix x_tup (uv 7) pe_int plainIx) pa_nil)))))
  (pss_cons (ps_set (i := 9) nd rfl (by first | exact Or.inl rfl | exact Or.inr rfl) pe_bl)
  (Evl.pss_cut (ps_try_only (tb := fun W => (tDrop (uMethS A.Book "take" (sp_Book_take K A) (WE W) (uVar 0) (tCons (tOp (cIxT K) (uVar 7) (tC (.int 0))) (tCons (tOp (cIxT K) (uVar 7) (tC (.int 1))) (tCons (tOp (cIxT K) (uVar 7) (tC (.int 2))) tNil)))))) (ts := fun _ _ _ => (tAsg (tC (.bl false)) (gName 9))) (Wout := fun _ _ _ _ => False) rfl rfl ⟨rfl, by decide, .inl G.g_Against⟩ takes0 (fun W pn xe tk _ => (pss_one (ps_expr (c_Book_take.peS T.cl (hr.mono (by decide)) (fun σ => passAt tk σ) (uv 0) (pa_cons (pe_ix x_tup (uv 7) pe_int plainIx) (pa_cons (pe_ix x_tup (uv 7) pe_int plainIx) (pa_cons (pe_ix x_tup (uv 7) pe_int plainIx) pa_nil)))))))
  (fun _ _ _ _ _ _ _ => (pss_one (ps_set (i := 9) nd rfl (by first | exact Or.inl rfl | exact Or.inr rfl) pe_bl))))
  (pss_cons (s_if (t_cmp (c_op o_neB (uv 9) (v_or (e_cmp (c_op o_isN (uv 8) pe_non)) (pe_one (e_cmp (c_op (op_eqD hu64) (uv 8) (pe_ix x_tup (uv 7) pe_int plainIx)))))))
  (pss_one (ps_ret pe_non))
  pss_nil)
  (Evl.pss_cut (s_if (t_val (uv 9))
  (pss_cons (ps_asg (pe_op o_add (pe_ix x_list (uv 5) pe_int plainIx) pe_int) (pg_sub (uv 5) pe_int p_setL))
  (pss_cons (ps_expr (pe_bm PySem.F.plainAttrs_list PySem.F.slot_list_append PySem.F.type_list_append m_append (uv 3) (pa_cons (pe_op o_catT (e_tup (pa_cons (pe_ix x_list (uv 5) pe_int plainIx) pa_nil)) (uv 7)) pa_nil)))
  (pss_one (ps_expr (c__law_lay.pe (hr.mono (by decide)) pass0 (pa_cons (uv 4) (pa_cons (pe_ix x_list (uv 3) (pe_un n_neg pe_int) plainIx) pa_nil)))))))
  pss_nil)
  (pss_one (s_if (PW.pt (w_and (t_cmp (c_op o_eqI (pe_op o_mod (pe_ix x_list (uv 2) (uv 6) plainIx) pe_int) pe_int)) (pw_and1 (t_cmp (c_op (op_neD hu64) (uv 3) (e_lst pa_nil))))))
  (pss_cons (ps_set (i := 10) nd rfl (by first | exact Or.inl rfl | exact Or.inr rfl) (pe_ix x_list (uv 3) (pe_op o_mod (pe_op o_mod (pe_op o_div (pe_ix x_list (uv 2) (uv 6) plainIx) pe_int) pe_int) (pe_callB l_seq (by rfl) M.m_len (by decide +kernel) (pa_cons (uv 3) pa_nil))) plainIx))
  (pss_cons (ps_expr (c_Book_drop.pe T.cl (hr.mono (by decide)) passL (uv 0) (pa_cons (pe_ix x_tup (uv 10) pe_int plainIx) pa_nil)))
  (pss_cons (ps_expr (pe_bm PySem.F.plainAttrs_list PySem.F.slot_list_remove PySem.F.type_list_remove (m_removeD hu65) (uv 3) (pa_cons (uv 10) pa_nil)))
  (pss_one (ps_set (i := 4) nd rfl (by first | exact Or.inl rfl | exact Or.inr rfl) (c__law_tops.pe (hr.mono (by decide)) pass0 (pa_cons (uv 3) pa_nil)))))))
  pss_nil)))))))))
  (pss_one (ps_ret (uv 3))))))), rd__law_kept T h⟩
abbrev s__law_told : Stmt := top 53
theorem sc__law_told : FnScope N__law_told ["_law_book", "_law_rows_here", "_law_some", "_law_cell"] (defScope s__law_told) := ⟨rfl, rfl, rfl, by decide +kernel, rfl, by decide +kernel, by decide +kernel⟩
theorem ok__law_told {A : Ad} {f : Addr} {fd : FuncData} (F : Fun K "_law_told" "_law_told" s__law_told f fd) (hm : mg "_law_told" = some (.ref f)) (hb : Binds K fd ["_law_book", "_law_rows_here", "_law_some", "_law_cell"] []) (M : Mg mg) (G : Gx mg K A) (T : Tx K A) (c__law_tops : Cal P w K mg base CX0 2 "_law_tops" ["_law_rows_here"] (sp__law_tops K)) (c__law_rows : Cal P w K mg base CX0 2 "_law_rows" ["_law_found", "_law_rows_here"] (sp__law_rows K)) (c_Book_kept : CalM P w K mg base CX0 1 A.Book "kept" ["self"] (sp_Book_kept K A)) (c__law_heights : Cal P w K mg base CX0 3 "_law_heights" ["_law_found", "_law_rows_here", "_law_tops_here"] (sp__law_heights K)) (c_Book_heights : CalM P w K mg base CX0 3 A.Book "heights" ["self"] (sp_Book_heights K A)) (c__law_alike : Cal P w K mg base CX0 1 "_law_alike" ["_law_found", "_law_due_here"] (sp__law_alike K)) (c__law_parts : Cal P w K mg base CX0 2 "_law_parts" ["_law_tops_here"] (sp__law_parts K)) (c_Book_parts : CalM P w K mg base CX0 3 A.Book "parts" ["self"] (sp_Book_parts K A)) (c__law_rise : Cal P w K mg base CX0 6 "_law_rise" ["_law_book", "_law_tops_here", "_law_one", "_law_other"] (sp__law_rise K A)) (c_shown : Cal P w K mg base CX0 2 "shown" ["book"] (sp_shown K A)) (c__law_text : Cal P w K mg base CX0 2 "_law_text" ["_law_rows_here"] (sp__law_text K)) :
    Cal P w K mg base CX0 7 "_law_told" ["_law_book", "_law_rows_here", "_law_some", "_law_cell"] (sp__law_told K A) := by
  refine ⟨f, fd, F.ok sc__law_told (fun vs H Q E h => ?_) (fun cdv A' outer s H vs Q E hr h => ?_), hm, F.kp, hb⟩
  · unfold sp__law_told at h
    first
      | (obtain ⟨rfl, _⟩ := h; rfl)
      | (obtain ⟨_, rfl, _⟩ := h; rfl)
      | (obtain ⟨_, _, rfl, _⟩ := h; rfl)
      | (obtain ⟨_, _, _, rfl, _⟩ := h; rfl)
      | (obtain ⟨_, _, _, _, rfl, _⟩ := h; rfl)
      | (obtain ⟨_, _, _, _, _, rfl, _⟩ := h; rfl)
      | (obtain ⟨_, _, _, _, _, _, rfl, _⟩ := h; rfl)
      | (obtain ⟨_, _, _, _, _, _, _, rfl, _⟩ := h; rfl)
      | (obtain ⟨_, _, _, _, _, _, _, _, rfl, _⟩ := h; rfl)
      | (obtain ⟨_, _, _, _, _, _, _, _, _, rfl, _⟩ := h; rfl)
      | (obtain ⟨_, _, _, _, _, _, _, _, _, _, rfl, _⟩ := h; rfl)
      | (obtain ⟨_, _, _, _, _, _, _, _, _, _, _, rfl, _⟩ := h; rfl)
      | (obtain ⟨_, _, _, _, _, _, _, _, _, _, _, _, rfl, _⟩ := h; rfl)
      | (obtain ⟨_, _, _, _, _, _, _, _, _, _, _, _, _, rfl, _⟩ := h; rfl)
      | (obtain ⟨_, _, _, _, _, _, _, _, _, _, _, _, _, _, rfl, _⟩ := h; rfl)
      | (obtain ⟨_, _, _, _, _, _, _, _, _, _, _, _, _, _, _, rfl, _⟩ := h; rfl)
      | (obtain ⟨_, _, _, _, _, _, _, _, _, _, _, _, _, _, _, _, rfl, _⟩ := h; rfl)
      | (obtain ⟨_, _, _, _, _, _, _, _, _, _, _, _, _, _, _, _, _, rfl, _⟩ := h; rfl)
      | (obtain ⟨_, _, _, _, _, _, _, _, _, _, _, _, _, _, _, _, _, _, rfl, _⟩ := h; rfl)
      | (obtain ⟨_, _, _, _, _, _, _, _, _, _, _, _, _, _, _, _, _, _, _, rfl, _⟩ := h; rfl)
      | (obtain ⟨_, _, _, _, _, _, _, _, _, _, _, _, _, _, _, _, _, _, _, _, rfl, _⟩ := h; rfl)
      | (obtain ⟨_, _, _, _, _, _, _, _, _, _, _, _, _, _, _, _, _, _, _, _, _, rfl, _⟩ := h; rfl)
      | (obtain ⟨_, _, _, _, _, _, _, _, _, _, _, _, _, _, _, _, _, _, _, _, _, _, rfl, _⟩ := h; rfl)
      | (obtain ⟨_, _, _, _, _, _, _, _, _, _, _, _, _, _, _, _, _, _, _, _, _, _, _, rfl, _⟩ := h; rfl)
      | (obtain ⟨_, _, _, _, _, _, _, _, _, _, _, _, _, _, _, _, _, _, _, _, _, _, _, _, rfl, _⟩ := h; rfl)
      | (obtain ⟨_, _, _, _, _, _, _, _, _, _, _, _, _, _, _, _, _, _, _, _, _, _, _, _, _, rfl, _⟩ := h; rfl)
      | (obtain ⟨_, _, _, _, _, _, _, _, _, _, _, _, _, _, _, _, _, _, _, _, _, _, _, _, _, _, rfl, _⟩ := h; rfl)
      | (obtain ⟨_, _, _, _, _, _, _, _, _, _, _, _, _, _, _, _, _, _, _, _, _, _, _, _, _, _, _, rfl, _⟩ := h; rfl)
  have hu := hu_of hr
  have hu64 := hr.units
  have hu65 := hr.u65
  have nd := sc__law_told.nd
  exact ⟨t__law_told K A, (pss_cons (ps_set (i := 4) nd rfl (by first | exact Or.inl rfl | exact Or.inr rfl) (c__law_tops.pe (hr.mono (by decide)) pass0 (pa_cons (uv 1) pa_nil)))
  (pss_cons (s_if (PW.pt (w_or (t_not (t_val (c__law_rows.pe (hr.mono (by decide)) pass0 (pa_cons (c_Book_kept.pe0 T.cl (hr.mono (by decide)) pass0 (uv 0)) (pa_cons (uv 1) pa_nil))))) (pw_or1 (t_not (t_val (c__law_heights.pe (hr.mono (by decide)) pass0 (pa_cons (c_Book_heights.pe0 T.cl (hr.mono (by decide)) pass0 (uv 0)) (pa_cons (uv 1) (pa_cons (uv 4) pa_nil)))))))))
  (pss_one (ps_ret pe_bl))
  pss_nil)
  (pss_cons (s_if (t_not (t_val (c__law_alike.pe (hr.mono (by decide)) pass0 (pa_cons (c_Book_parts.pe0 T.cl (hr.mono (by decide)) pass0 (uv 0)) (pa_cons (c__law_parts.pe (hr.mono (by decide)) pass0 (pa_cons (uv 4) pa_nil)) pa_nil)))))
  (pss_one (ps_ret pe_bl))
  pss_nil)
  (pss_cons (ps_for pnever rfl (pi_range1 (by rfl) M.m_range (pa_cons (pe_callB l_seq (by rfl) M.m_len (by decide +kernel) (pa_cons (uv 2) pa_nil)) pa_nil)) (pg_name (i := 5) nd rfl (by first | exact Or.inl rfl | exact Or.inr rfl))
  (pss_one (s_if (t_not (t_val (c__law_rise.pe (hr.mono (by decide)) pass0 (pa_cons (uv 0) (pa_cons (uv 4) (pa_cons (pe_ix x_list (uv 2) (uv 5) plainIx) (pa_cons (pe_ix x_list (uv 2) (pe_op o_mod (pe_op o_add (uv 5) (uv 3)) (pe_callB l_seq (by rfl) M.m_len (by decide +kernel) (pa_cons (uv 2) pa_nil))) plainIx) pa_nil)))))))
  (pss_one (ps_ret pe_bl))
  pss_nil)))
  (pss_cons (ps_set (i := 6) nd rfl (by first | exact Or.inl rfl | exact Or.inr rfl) (c_shown.pe (hr.mono (by decide)) pass0 (pa_cons (uv 0) pa_nil)))
  (pss_one (ps_ret (v_and (pe_callB b_isi (by rfl) M.m_isinstance (by decide +kernel) (pa_cons (uv 6) (pa_cons (pe_bltn (v := .ty "str") (by rfl) M.m_str (by decide +kernel) rfl) pa_nil))) (pe_one (e_cmp (c_op o_eqS (uv 6) (c__law_text.pe (hr.mono (by decide)) pass0 (pa_cons (uv 1) pa_nil))))))))))))), rd__law_told T h⟩
abbrev s__law_numbered : Stmt := top 54
theorem sc__law_numbered : FnScope N__law_numbered ["_law_sightings"] (defScope s__law_numbered) := ⟨rfl, rfl, rfl, by decide +kernel, rfl, by decide +kernel, by decide +kernel⟩
theorem ok__law_numbered {f : Addr} {fd : FuncData} (F : Fun K "_law_numbered" "_law_numbered" s__law_numbered f fd) (hm : mg "_law_numbered" = some (.ref f)) (hb : Binds K fd ["_law_sightings"] []) (M : Mg mg)  :
    Cal P w K mg base CX0 1 "_law_numbered" ["_law_sightings"] (sp__law_numbered K) := by
  refine ⟨f, fd, F.ok sc__law_numbered (fun vs H Q E h => ?_) (fun cdv A' outer s H vs Q E hr h => ?_), hm, F.kp, hb⟩
  · unfold sp__law_numbered at h
    first
      | (obtain ⟨rfl, _⟩ := h; rfl)
      | (obtain ⟨_, rfl, _⟩ := h; rfl)
      | (obtain ⟨_, _, rfl, _⟩ := h; rfl)
      | (obtain ⟨_, _, _, rfl, _⟩ := h; rfl)
      | (obtain ⟨_, _, _, _, rfl, _⟩ := h; rfl)
      | (obtain ⟨_, _, _, _, _, rfl, _⟩ := h; rfl)
      | (obtain ⟨_, _, _, _, _, _, rfl, _⟩ := h; rfl)
      | (obtain ⟨_, _, _, _, _, _, _, rfl, _⟩ := h; rfl)
      | (obtain ⟨_, _, _, _, _, _, _, _, rfl, _⟩ := h; rfl)
      | (obtain ⟨_, _, _, _, _, _, _, _, _, rfl, _⟩ := h; rfl)
      | (obtain ⟨_, _, _, _, _, _, _, _, _, _, rfl, _⟩ := h; rfl)
      | (obtain ⟨_, _, _, _, _, _, _, _, _, _, _, rfl, _⟩ := h; rfl)
      | (obtain ⟨_, _, _, _, _, _, _, _, _, _, _, _, rfl, _⟩ := h; rfl)
      | (obtain ⟨_, _, _, _, _, _, _, _, _, _, _, _, _, rfl, _⟩ := h; rfl)
      | (obtain ⟨_, _, _, _, _, _, _, _, _, _, _, _, _, _, rfl, _⟩ := h; rfl)
      | (obtain ⟨_, _, _, _, _, _, _, _, _, _, _, _, _, _, _, rfl, _⟩ := h; rfl)
      | (obtain ⟨_, _, _, _, _, _, _, _, _, _, _, _, _, _, _, _, rfl, _⟩ := h; rfl)
      | (obtain ⟨_, _, _, _, _, _, _, _, _, _, _, _, _, _, _, _, _, rfl, _⟩ := h; rfl)
      | (obtain ⟨_, _, _, _, _, _, _, _, _, _, _, _, _, _, _, _, _, _, rfl, _⟩ := h; rfl)
      | (obtain ⟨_, _, _, _, _, _, _, _, _, _, _, _, _, _, _, _, _, _, _, rfl, _⟩ := h; rfl)
      | (obtain ⟨_, _, _, _, _, _, _, _, _, _, _, _, _, _, _, _, _, _, _, _, rfl, _⟩ := h; rfl)
      | (obtain ⟨_, _, _, _, _, _, _, _, _, _, _, _, _, _, _, _, _, _, _, _, _, rfl, _⟩ := h; rfl)
      | (obtain ⟨_, _, _, _, _, _, _, _, _, _, _, _, _, _, _, _, _, _, _, _, _, _, rfl, _⟩ := h; rfl)
      | (obtain ⟨_, _, _, _, _, _, _, _, _, _, _, _, _, _, _, _, _, _, _, _, _, _, _, rfl, _⟩ := h; rfl)
      | (obtain ⟨_, _, _, _, _, _, _, _, _, _, _, _, _, _, _, _, _, _, _, _, _, _, _, _, rfl, _⟩ := h; rfl)
      | (obtain ⟨_, _, _, _, _, _, _, _, _, _, _, _, _, _, _, _, _, _, _, _, _, _, _, _, _, rfl, _⟩ := h; rfl)
      | (obtain ⟨_, _, _, _, _, _, _, _, _, _, _, _, _, _, _, _, _, _, _, _, _, _, _, _, _, _, rfl, _⟩ := h; rfl)
      | (obtain ⟨_, _, _, _, _, _, _, _, _, _, _, _, _, _, _, _, _, _, _, _, _, _, _, _, _, _, _, rfl, _⟩ := h; rfl)
  have hu := hu_of hr
  have hu64 := hr.units
  have hu65 := hr.u65
  have nd := sc__law_numbered.nd
  exact ⟨t__law_numbered K, (pss_one (ps_ret (u_lc (own := [("_law_k", 1)]) (g := (gName 1)) (tt := tYes) rfl nd (pi_range1 (by rfl) M.m_range (pa_cons (pe_callB l_seq (by rfl) M.m_len (by decide +kernel) (pa_cons (uv 0) pa_nil)) pa_nil)) (blkOk_by (N := N__law_numbered) (sc := defScope s__law_numbered) (own := [("_law_k", 1)]) (by decide +kernel)) (fun _ _ _ _ _ => (pg_name (i := 1) nd rfl (by first | exact Or.inl rfl | exact Or.inr rfl))) (fun _ _ _ _ _ => pts_nil) (fun _ _ _ _ _ => (pe_op o_catT (e_tup (pa_cons (pe_op o_add (uv 1) pe_int) pa_nil)) (pe_ix x_list (uv 0) (uv 1) plainIx)))))), rd__law_numbered h⟩
abbrev s__law_due : Stmt := top 55
theorem sc__law_due : FnScope N__law_due ["_law_sightings", "_law_most"] (defScope s__law_due) := ⟨rfl, rfl, rfl, by decide +kernel, rfl, by decide +kernel, by decide +kernel⟩
theorem ok__law_due {f : Addr} {fd : FuncData} (F : Fun K "_law_due" "_law_due" s__law_due f fd) (hm : mg "_law_due" = some (.ref f)) (hb : Binds K fd ["_law_sightings", "_law_most"] []) (M : Mg mg) (c__law_gap : Cal P w K mg base CX0 1 "_law_gap" ["_law_tops_here", "_law_one", "_law_other"] (sp__law_gap K)) (c__law_lay : Cal P w K mg base CX0 1 "_law_lay" ["_law_tops_here", "_law_row"] (sp__law_lay K)) :
    Cal P w K mg base CX0 2 "_law_due" ["_law_sightings", "_law_most"] (sp__law_due K) := by
  refine ⟨f, fd, F.ok sc__law_due (fun vs H Q E h => ?_) (fun cdv A' outer s H vs Q E hr h => ?_), hm, F.kp, hb⟩
  · unfold sp__law_due at h
    first
      | (obtain ⟨rfl, _⟩ := h; rfl)
      | (obtain ⟨_, rfl, _⟩ := h; rfl)
      | (obtain ⟨_, _, rfl, _⟩ := h; rfl)
      | (obtain ⟨_, _, _, rfl, _⟩ := h; rfl)
      | (obtain ⟨_, _, _, _, rfl, _⟩ := h; rfl)
      | (obtain ⟨_, _, _, _, _, rfl, _⟩ := h; rfl)
      | (obtain ⟨_, _, _, _, _, _, rfl, _⟩ := h; rfl)
      | (obtain ⟨_, _, _, _, _, _, _, rfl, _⟩ := h; rfl)
      | (obtain ⟨_, _, _, _, _, _, _, _, rfl, _⟩ := h; rfl)
      | (obtain ⟨_, _, _, _, _, _, _, _, _, rfl, _⟩ := h; rfl)
      | (obtain ⟨_, _, _, _, _, _, _, _, _, _, rfl, _⟩ := h; rfl)
      | (obtain ⟨_, _, _, _, _, _, _, _, _, _, _, rfl, _⟩ := h; rfl)
      | (obtain ⟨_, _, _, _, _, _, _, _, _, _, _, _, rfl, _⟩ := h; rfl)
      | (obtain ⟨_, _, _, _, _, _, _, _, _, _, _, _, _, rfl, _⟩ := h; rfl)
      | (obtain ⟨_, _, _, _, _, _, _, _, _, _, _, _, _, _, rfl, _⟩ := h; rfl)
      | (obtain ⟨_, _, _, _, _, _, _, _, _, _, _, _, _, _, _, rfl, _⟩ := h; rfl)
      | (obtain ⟨_, _, _, _, _, _, _, _, _, _, _, _, _, _, _, _, rfl, _⟩ := h; rfl)
      | (obtain ⟨_, _, _, _, _, _, _, _, _, _, _, _, _, _, _, _, _, rfl, _⟩ := h; rfl)
      | (obtain ⟨_, _, _, _, _, _, _, _, _, _, _, _, _, _, _, _, _, _, rfl, _⟩ := h; rfl)
      | (obtain ⟨_, _, _, _, _, _, _, _, _, _, _, _, _, _, _, _, _, _, _, rfl, _⟩ := h; rfl)
      | (obtain ⟨_, _, _, _, _, _, _, _, _, _, _, _, _, _, _, _, _, _, _, _, rfl, _⟩ := h; rfl)
      | (obtain ⟨_, _, _, _, _, _, _, _, _, _, _, _, _, _, _, _, _, _, _, _, _, rfl, _⟩ := h; rfl)
      | (obtain ⟨_, _, _, _, _, _, _, _, _, _, _, _, _, _, _, _, _, _, _, _, _, _, rfl, _⟩ := h; rfl)
      | (obtain ⟨_, _, _, _, _, _, _, _, _, _, _, _, _, _, _, _, _, _, _, _, _, _, _, rfl, _⟩ := h; rfl)
      | (obtain ⟨_, _, _, _, _, _, _, _, _, _, _, _, _, _, _, _, _, _, _, _, _, _, _, _, rfl, _⟩ := h; rfl)
      | (obtain ⟨_, _, _, _, _, _, _, _, _, _, _, _, _, _, _, _, _, _, _, _, _, _, _, _, _, rfl, _⟩ := h; rfl)
      | (obtain ⟨_, _, _, _, _, _, _, _, _, _, _, _, _, _, _, _, _, _, _, _, _, _, _, _, _, _, rfl, _⟩ := h; rfl)
      | (obtain ⟨_, _, _, _, _, _, _, _, _, _, _, _, _, _, _, _, _, _, _, _, _, _, _, _, _, _, _, rfl, _⟩ := h; rfl)
  have hu := hu_of hr
  have hu64 := hr.units
  have hu65 := hr.u65
  have nd := sc__law_due.nd
  exact ⟨t__law_due K, (pss_cons (ps_set (i := 2) nd rfl (by first | exact Or.inl rfl | exact Or.inr rfl) (e_lst pa_nil))
  (pss_cons (ps_set (i := 3) nd rfl (by first | exact Or.inl rfl | exact Or.inr rfl) e_dnew)
  (pss_cons (ps_for pnever rfl (pi_list (uv 0)) (pg_name (i := 4) nd rfl (by first | exact Or.inl rfl | exact Or.inr rfl))
  (pss_cons (ps_set (i := 5) nd rfl (by first | exact Or.inl rfl | exact Or.inr rfl) (c__law_gap.pe (hr.mono (by decide)) pass0 (pa_cons (uv 3) (pa_cons (pe_ix x_tup (uv 4) pe_int plainIx) (pa_cons (pe_ix x_tup (uv 4) pe_int plainIx) pa_nil)))))
  (pss_cons (s_if (t_cmp (c_op o_eqI (pe_callB l_seq (by rfl) M.m_len (by decide +kernel) (pa_cons (uv 2) pa_nil)) (uv 1)))
  (pss_one (ps_ret (e_tup (pa_cons pe_str (pa_cons (uv 2) (pa_cons (uv 4) (pa_cons (uv 5) pa_nil)))))))
  pss_nil)
  (pss_cons (s_if (PW.pt (w_and (t_cmp (c_op o_notN (uv 5) pe_non)) (pw_and1 (t_cmp (c_op (op_neD hu64) (uv 5) (pe_ix x_tup (uv 4) pe_int plainIx))))))
  (pss_one (ps_ret (e_tup (pa_cons pe_str (pa_cons (uv 2) (pa_cons (uv 4) (pa_cons (uv 5) pa_nil)))))))
  pss_nil)
  (pss_cons (ps_expr (pe_bm PySem.F.plainAttrs_list PySem.F.slot_list_append PySem.F.type_list_append m_append (uv 2) (pa_cons (pe_op o_catT (e_tup (pa_cons (pe_op o_add (pe_callB l_seq (by rfl) M.m_len (by decide +kernel) (pa_cons (uv 2) pa_nil)) pe_int) pa_nil)) (uv 4)) pa_nil)))
  (pss_one (ps_expr (c__law_lay.pe (hr.mono (by decide)) pass0 (pa_cons (uv 3) (pa_cons (pe_ix x_list (uv 2) (pe_un n_neg pe_int) plainIx) pa_nil))))))))))
  (pss_one (ps_ret (e_tup (pa_cons pe_str (pa_cons (uv 2) (pa_cons pe_non (pa_cons pe_int pa_nil)))))))))), rd__law_due h⟩
abbrev s__law_read : Stmt := top 56
theorem sc__law_read : FnScope N__law_read ["_law_text_here", "_law_most"] (defScope s__law_read) := ⟨rfl, rfl, rfl, by decide +kernel, rfl, by decide +kernel, by decide +kernel⟩
theorem ok__law_read {A : Ad} {f : Addr} {fd : FuncData} (F : Fun K "_law_read" "_law_read" s__law_read f fd) (hm : mg "_law_read" = some (.ref f)) (hb : Binds K fd ["_law_text_here", "_law_most"] []) (M : Mg mg) (G : Gx mg K A) (T : Tx K A) (c_read : CalD P w K mg base (L2.CX P w) 5 "read" ["text", "most"] (sp_read K A) [.int 200]) :
    Cal P w K mg base (L2.CX P w) 6 "_law_read" ["_law_text_here", "_law_most"] (sp__law_read K A) := by
  refine ⟨f, fd, F.okX sc__law_read (fun vs H Q E h => ?_) (fun cdv A' outer s H vs Q E hr h => ?_), hm, F.kp, hb⟩
  · unfold sp__law_read at h
    first
      | (obtain ⟨rfl, _⟩ := h; rfl)
      | (obtain ⟨_, rfl, _⟩ := h; rfl)
      | (obtain ⟨_, _, rfl, _⟩ := h; rfl)
      | (obtain ⟨_, _, _, rfl, _⟩ := h; rfl)
      | (obtain ⟨_, _, _, _, rfl, _⟩ := h; rfl)
      | (obtain ⟨_, _, _, _, _, rfl, _⟩ := h; rfl)
      | (obtain ⟨_, _, _, _, _, _, rfl, _⟩ := h; rfl)
      | (obtain ⟨_, _, _, _, _, _, _, rfl, _⟩ := h; rfl)
      | (obtain ⟨_, _, _, _, _, _, _, _, rfl, _⟩ := h; rfl)
      | (obtain ⟨_, _, _, _, _, _, _, _, _, rfl, _⟩ := h; rfl)
      | (obtain ⟨_, _, _, _, _, _, _, _, _, _, rfl, _⟩ := h; rfl)
      | (obtain ⟨_, _, _, _, _, _, _, _, _, _, _, rfl, _⟩ := h; rfl)
      | (obtain ⟨_, _, _, _, _, _, _, _, _, _, _, _, rfl, _⟩ := h; rfl)
      | (obtain ⟨_, _, _, _, _, _, _, _, _, _, _, _, _, rfl, _⟩ := h; rfl)
      | (obtain ⟨_, _, _, _, _, _, _, _, _, _, _, _, _, _, rfl, _⟩ := h; rfl)
      | (obtain ⟨_, _, _, _, _, _, _, _, _, _, _, _, _, _, _, rfl, _⟩ := h; rfl)
      | (obtain ⟨_, _, _, _, _, _, _, _, _, _, _, _, _, _, _, _, rfl, _⟩ := h; rfl)
      | (obtain ⟨_, _, _, _, _, _, _, _, _, _, _, _, _, _, _, _, _, rfl, _⟩ := h; rfl)
      | (obtain ⟨_, _, _, _, _, _, _, _, _, _, _, _, _, _, _, _, _, _, rfl, _⟩ := h; rfl)
      | (obtain ⟨_, _, _, _, _, _, _, _, _, _, _, _, _, _, _, _, _, _, _, rfl, _⟩ := h; rfl)
      | (obtain ⟨_, _, _, _, _, _, _, _, _, _, _, _, _, _, _, _, _, _, _, _, rfl, _⟩ := h; rfl)
      | (obtain ⟨_, _, _, _, _, _, _, _, _, _, _, _, _, _, _, _, _, _, _, _, _, rfl, _⟩ := h; rfl)
      | (obtain ⟨_, _, _, _, _, _, _, _, _, _, _, _, _, _, _, _, _, _, _, _, _, _, rfl, _⟩ := h; rfl)
      | (obtain ⟨_, _, _, _, _, _, _, _, _, _, _, _, _, _, _, _, _, _, _, _, _, _, _, rfl, _⟩ := h; rfl)
      | (obtain ⟨_, _, _, _, _, _, _, _, _, _, _, _, _, _, _, _, _, _, _, _, _, _, _, _, rfl, _⟩ := h; rfl)
      | (obtain ⟨_, _, _, _, _, _, _, _, _, _, _, _, _, _, _, _, _, _, _, _, _, _, _, _, _, rfl, _⟩ := h; rfl)
      | (obtain ⟨_, _, _, _, _, _, _, _, _, _, _, _, _, _, _, _, _, _, _, _, _, _, _, _, _, _, rfl, _⟩ := h; rfl)
      | (obtain ⟨_, _, _, _, _, _, _, _, _, _, _, _, _, _, _, _, _, _, _, _, _, _, _, _, _, _, _, rfl, _⟩ := h; rfl)
  have hu := hu_of hr
  have hu64 := hr.units
  have hu65 := hr.u65
  have nd := sc__law_read.nd
  exact ⟨t__law_read K A E, (pss_cons (s_if (t_cmp (c_op o_eqI (uv 1) pe_int))
  (pss_one (ps_ret (c_read.peD (hr.mono (by decide)) (passes_call (takes_of rfl rfl rfl rfl) (fun _ _ _ _ h => h)) (pa_cons (uv 0) pa_nil))))
  pss_nil)
  (pss_one (ps_ret (c_read.pe (hr.mono (by decide)) (passes_call (takes_of rfl rfl rfl rfl) (fun _ _ _ _ h => h)) (pa_cons (uv 0) (pa_cons (uv 1) pa_nil)))))), rd__law_read T h⟩
abbrev s__law_refused : Stmt := top 57
theorem sc__law_refused : FnScope N__law_refused ["_law_text_here", "_law_most", "_law_due_here"] (defScope s__law_refused) := ⟨rfl, rfl, rfl, by decide +kernel, rfl, by decide +kernel, by decide +kernel⟩
theorem ok__law_refused {A : Ad} {f : Addr} {fd : FuncData} (F : Fun K "_law_refused" "_law_refused" s__law_refused f fd) (hm : mg "_law_refused" = some (.ref f)) (hb : Binds K fd ["_law_text_here", "_law_most", "_law_due_here"] []) (M : Mg mg) (G : Gx mg K A) (T : Tx K A) (c__law_read : Cal P w K mg base (L2.CX P w) 6 "_law_read" ["_law_text_here", "_law_most"] (sp__law_read K A)) (c__law_kind : Cal P w K mg base CX0 1 "_law_kind" ["_law_e"] (sp__law_kind K A)) (c__law_way : Cal P w K mg base CX0 3 "_law_way" ["_law_found", "_law_rows_here", "_law_one", "_law_other"] (sp__law_way K)) :
    Cal P w K mg base CX0 7 "_law_refused" ["_law_text_here", "_law_most", "_law_due_here"] (sp__law_refused K A) := by
  refine ⟨f, fd, F.ok sc__law_refused (fun vs H Q E h => ?_) (fun cdv A' outer s H vs Q E hr h => ?_), hm, F.kp, hb⟩
  · unfold sp__law_refused at h
    first
      | (obtain ⟨rfl, _⟩ := h; rfl)
      | (obtain ⟨_, rfl, _⟩ := h; rfl)
      | (obtain ⟨_, _, rfl, _⟩ := h; rfl)
      | (obtain ⟨_, _, _, rfl, _⟩ := h; rfl)
      | (obtain ⟨_, _, _, _, rfl, _⟩ := h; rfl)
      | (obtain ⟨_, _, _, _, _, rfl, _⟩ := h; rfl)
      | (obtain ⟨_, _, _, _, _, _, rfl, _⟩ := h; rfl)
      | (obtain ⟨_, _, _, _, _, _, _, rfl, _⟩ := h; rfl)
      | (obtain ⟨_, _, _, _, _, _, _, _, rfl, _⟩ := h; rfl)
      | (obtain ⟨_, _, _, _, _, _, _, _, _, rfl, _⟩ := h; rfl)
      | (obtain ⟨_, _, _, _, _, _, _, _, _, _, rfl, _⟩ := h; rfl)
      | (obtain ⟨_, _, _, _, _, _, _, _, _, _, _, rfl, _⟩ := h; rfl)
      | (obtain ⟨_, _, _, _, _, _, _, _, _, _, _, _, rfl, _⟩ := h; rfl)
      | (obtain ⟨_, _, _, _, _, _, _, _, _, _, _, _, _, rfl, _⟩ := h; rfl)
      | (obtain ⟨_, _, _, _, _, _, _, _, _, _, _, _, _, _, rfl, _⟩ := h; rfl)
      | (obtain ⟨_, _, _, _, _, _, _, _, _, _, _, _, _, _, _, rfl, _⟩ := h; rfl)
      | (obtain ⟨_, _, _, _, _, _, _, _, _, _, _, _, _, _, _, _, rfl, _⟩ := h; rfl)
      | (obtain ⟨_, _, _, _, _, _, _, _, _, _, _, _, _, _, _, _, _, rfl, _⟩ := h; rfl)
      | (obtain ⟨_, _, _, _, _, _, _, _, _, _, _, _, _, _, _, _, _, _, rfl, _⟩ := h; rfl)
      | (obtain ⟨_, _, _, _, _, _, _, _, _, _, _, _, _, _, _, _, _, _, _, rfl, _⟩ := h; rfl)
      | (obtain ⟨_, _, _, _, _, _, _, _, _, _, _, _, _, _, _, _, _, _, _, _, rfl, _⟩ := h; rfl)
      | (obtain ⟨_, _, _, _, _, _, _, _, _, _, _, _, _, _, _, _, _, _, _, _, _, rfl, _⟩ := h; rfl)
      | (obtain ⟨_, _, _, _, _, _, _, _, _, _, _, _, _, _, _, _, _, _, _, _, _, _, rfl, _⟩ := h; rfl)
      | (obtain ⟨_, _, _, _, _, _, _, _, _, _, _, _, _, _, _, _, _, _, _, _, _, _, _, rfl, _⟩ := h; rfl)
      | (obtain ⟨_, _, _, _, _, _, _, _, _, _, _, _, _, _, _, _, _, _, _, _, _, _, _, _, rfl, _⟩ := h; rfl)
      | (obtain ⟨_, _, _, _, _, _, _, _, _, _, _, _, _, _, _, _, _, _, _, _, _, _, _, _, _, rfl, _⟩ := h; rfl)
      | (obtain ⟨_, _, _, _, _, _, _, _, _, _, _, _, _, _, _, _, _, _, _, _, _, _, _, _, _, _, rfl, _⟩ := h; rfl)
      | (obtain ⟨_, _, _, _, _, _, _, _, _, _, _, _, _, _, _, _, _, _, _, _, _, _, _, _, _, _, _, rfl, _⟩ := h; rfl)
  have hu := hu_of hr
  have hu64 := hr.units
  have hu65 := hr.u65
  have nd := sc__law_refused.nd
  exact ⟨t__law_refused K A, (pss_cons (ps_set (i := 3) nd rfl (by first | exact Or.inl rfl | exact Or.inr rfl) pe_non)
  (pss_cons (ps_set (i := 4) nd rfl (by first | exact Or.inl rfl | exact Or.inr rfl) (e_lst pa_nil))
  (Evl.pss_cut (U.ps_try_keep2 (i := 5) (tb := fun W => (tDrop (tCallS (sp__law_read K A) (WE W) (tCons (uVar 0) (tCons (uVar 1) tNil))))) (ts1 := fun a cls d => (tSeq (tAsg (uVar 5) (gName 3))
  (tAsg (tXf a cls d A.Against "trail" (uVar 5)) (gName 4)))) (ts2 := fun a cls d => (tAsg (uVar 5) (gName 3))) (Wout := fun _ _ _ _ => False) rfl rfl rfl nd rfl rfl ⟨rfl, by decide, .inl G.g_Against⟩ ⟨rfl, by decide, .inl G.g_PegError⟩ takes0 (fun W pn xe tk _ => (pss_one (ps_expr (c__law_read.peS (hr.mono (by decide)) (fun σ => passAt tk σ) (pa_cons (uv 0) (pa_cons (uv 1) pa_nil))))))
  (fun a oe cls d pn hz hf => (pss_cons (ps_set (i := 3) nd rfl (by first | exact Or.inl rfl | exact Or.inr rfl) (uv 5))
  (pss_one (ps_set (i := 4) nd rfl (by first | exact Or.inl rfl | exact Or.inr rfl) (pe_xf (C := A.Against) (T.xf .against) T.n_trail hz hf (uv 5)))))) (fun a oe cls d pn hz hf => (pss_one (ps_set (i := 3) nd rfl (by first | exact Or.inl rfl | exact Or.inr rfl) (uv 5)))))
  (pss_cons (s_if (PW.pt (w_or (t_cmp (c_op o_isN (uv 3) pe_non)) (pw_or1 (t_cmp (c_op o_neS (c__law_kind.pe (hr.mono (by decide)) pass0 (pa_cons (uv 3) pa_nil)) (pe_ix x_tup (uv 2) pe_int plainIx))))))
  (pss_one (ps_ret pe_bl))
  pss_nil)
  (pss_cons (s_if (t_cmp (c_op o_neS (pe_ix x_tup (uv 2) pe_int plainIx) pe_str))
  (pss_one (ps_ret pe_bl))
  pss_nil)
  (pss_cons (ps_set (i := 6) nd rfl (by first | exact Or.inl rfl | exact Or.inr rfl) (pe_ix x_tup (uv 2) pe_int plainIx))
  (pss_cons (s_if (t_not (t_val (c__law_way.pe (hr.mono (by decide)) pass0 (pa_cons (uv 4) (pa_cons (pe_ix x_tup (uv 2) pe_int plainIx) (pa_cons (pe_ix x_tup (uv 6) pe_int plainIx) (pa_cons (pe_ix x_tup (uv 6) pe_int plainIx) pa_nil)))))))
  (pss_one (ps_ret pe_bl))
  pss_nil)
  (pss_one (ps_ret (e_cmp (c_op (op_eqD hu64) (pe_callB (b_sum rfl) (by rfl) M.m_sum (by decide +kernel) (pa_cons (u_lc (own := [("_law_step_here", 7)]) (g := (gName 7)) (tt := tYes) rfl nd (pi_list (uv 4)) (blkOk_by (N := N__law_refused) (sc := defScope s__law_refused) (own := [("_law_step_here", 7)]) (by decide +kernel)) (fun _ _ _ _ _ => (pg_name (i := 7) nd rfl (by first | exact Or.inl rfl | exact Or.inr rfl))) (fun _ _ _ _ _ => pts_nil) (fun _ _ _ _ _ => (pe_ix x_tup (uv 7) pe_int plainIx))) pa_nil)) (pe_ix x_tup (uv 2) pe_int plainIx)))))))))))), rd__law_refused T h⟩
abbrev s__law_reads : Stmt := top 58
theorem sc__law_reads : FnScope N__law_reads ["_law_sightings", "_law_most", "_law_some", "_law_cell"] (defScope s__law_reads) := ⟨rfl, rfl, rfl, by decide +kernel, rfl, by decide +kernel, by decide +kernel⟩
theorem ok__law_reads {A : Ad} {f : Addr} {fd : FuncData} (F : Fun K "_law_reads" "_law_reads" s__law_reads f fd) (hm : mg "_law_reads" = some (.ref f)) (hb : Binds K fd ["_law_sightings", "_law_most", "_law_some", "_law_cell"] []) (M : Mg mg) (G : Gx mg K A) (T : Tx K A) (c__law_due : Cal P w K mg base CX0 2 "_law_due" ["_law_sightings", "_law_most"] (sp__law_due K)) (c__law_piece : Cal P w K mg base CX0 1 "_law_piece" ["_law_sighting_here"] (sp__law_piece K)) (c__law_refused : Cal P w K mg base CX0 7 "_law_refused" ["_law_text_here", "_law_most", "_law_due_here"] (sp__law_refused K A)) (c__law_told : Cal P w K mg base CX0 7 "_law_told" ["_law_book", "_law_rows_here", "_law_some", "_law_cell"] (sp__law_told K A)) (c__law_read : Cal P w K mg base (L2.CX P w) 6 "_law_read" ["_law_text_here", "_law_most"] (sp__law_read K A)) :
    Cal P w K mg base CX0 8 "_law_reads" ["_law_sightings", "_law_most", "_law_some", "_law_cell"] (sp__law_reads K A) := by
  refine ⟨f, fd, F.ok sc__law_reads (fun vs H Q E h => ?_) (fun cdv A' outer s H vs Q E hr h => ?_), hm, F.kp, hb⟩
  · unfold sp__law_reads at h
    first
      | (obtain ⟨rfl, _⟩ := h; rfl)
      | (obtain ⟨_, rfl, _⟩ := h; rfl)
      | (obtain ⟨_, _, rfl, _⟩ := h; rfl)
      | (obtain ⟨_, _, _, rfl, _⟩ := h; rfl)
      | (obtain ⟨_, _, _, _, rfl, _⟩ := h; rfl)
      | (obtain ⟨_, _, _, _, _, rfl, _⟩ := h; rfl)
      | (obtain ⟨_, _, _, _, _, _, rfl, _⟩ := h; rfl)
      | (obtain ⟨_, _, _, _, _, _, _, rfl, _⟩ := h; rfl)
      | (obtain ⟨_, _, _, _, _, _, _, _, rfl, _⟩ := h; rfl)
      | (obtain ⟨_, _, _, _, _, _, _, _, _, rfl, _⟩ := h; rfl)
      | (obtain ⟨_, _, _, _, _, _, _, _, _, _, rfl, _⟩ := h; rfl)
      | (obtain ⟨_, _, _, _, _, _, _, _, _, _, _, rfl, _⟩ := h; rfl)
      | (obtain ⟨_, _, _, _, _, _, _, _, _, _, _, _, rfl, _⟩ := h; rfl)
      | (obtain ⟨_, _, _, _, _, _, _, _, _, _, _, _, _, rfl, _⟩ := h; rfl)
      | (obtain ⟨_, _, _, _, _, _, _, _, _, _, _, _, _, _, rfl, _⟩ := h; rfl)
      | (obtain ⟨_, _, _, _, _, _, _, _, _, _, _, _, _, _, _, rfl, _⟩ := h; rfl)
      | (obtain ⟨_, _, _, _, _, _, _, _, _, _, _, _, _, _, _, _, rfl, _⟩ := h; rfl)
      | (obtain ⟨_, _, _, _, _, _, _, _, _, _, _, _, _, _, _, _, _, rfl, _⟩ := h; rfl)
      | (obtain ⟨_, _, _, _, _, _, _, _, _, _, _, _, _, _, _, _, _, _, rfl, _⟩ := h; rfl)
      | (obtain ⟨_, _, _, _, _, _, _, _, _, _, _, _, _, _, _, _, _, _, _, rfl, _⟩ := h; rfl)
      | (obtain ⟨_, _, _, _, _, _, _, _, _, _, _, _, _, _, _, _, _, _, _, _, rfl, _⟩ := h; rfl)
      | (obtain ⟨_, _, _, _, _, _, _, _, _, _, _, _, _, _, _, _, _, _, _, _, _, rfl, _⟩ := h; rfl)
      | (obtain ⟨_, _, _, _, _, _, _, _, _, _, _, _, _, _, _, _, _, _, _, _, _, _, rfl, _⟩ := h; rfl)
      | (obtain ⟨_, _, _, _, _, _, _, _, _, _, _, _, _, _, _, _, _, _, _, _, _, _, _, rfl, _⟩ := h; rfl)
      | (obtain ⟨_, _, _, _, _, _, _, _, _, _, _, _, _, _, _, _, _, _, _, _, _, _, _, _, rfl, _⟩ := h; rfl)
      | (obtain ⟨_, _, _, _, _, _, _, _, _, _, _, _, _, _, _, _, _, _, _, _, _, _, _, _, _, rfl, _⟩ := h; rfl)
      | (obtain ⟨_, _, _, _, _, _, _, _, _, _, _, _, _, _, _, _, _, _, _, _, _, _, _, _, _, _, rfl, _⟩ := h; rfl)
      | (obtain ⟨_, _, _, _, _, _, _, _, _, _, _, _, _, _, _, _, _, _, _, _, _, _, _, _, _, _, _, rfl, _⟩ := h; rfl)
  have hu := hu_of hr
  have hu64 := hr.units
  have hu65 := hr.u65
  have nd := sc__law_reads.nd
  exact ⟨t__law_reads K A, (pss_cons (ps_set (i := 4) nd rfl (by first | exact Or.inl rfl | exact Or.inr rfl) (c__law_due.pe (hr.mono (by decide)) pass0 (pa_cons (uv 0) (pa_cons (uv 1) pa_nil))))
  (pss_cons (ps_set (i := 5) nd rfl (by first | exact Or.inl rfl | exact Or.inr rfl) (e_join pe_str (u_lc (own := [("_law_sighting_here", 6)]) (g := (gName 6)) (tt := tYes) rfl nd (pi_list (uv 0)) (blkOk_by (N := N__law_reads) (sc := defScope s__law_reads) (own := [("_law_sighting_here", 6)]) (by decide +kernel)) (fun _ _ _ _ _ => (pg_name (i := 6) nd rfl (by first | exact Or.inl rfl | exact Or.inr rfl))) (fun _ _ _ _ _ => pts_nil) (fun _ _ _ _ _ => (c__law_piece.pe (hr.mono (by decide)) pass0 (pa_cons (uv 6) pa_nil))))))
  (pss_cons (s_if (t_cmp (c_op o_neS (pe_ix x_tup (uv 4) pe_int plainIx) pe_str))
  (pss_one (ps_ret (c__law_refused.pe (hr.mono (by decide)) pass0 (pa_cons (uv 5) (pa_cons (uv 1) (pa_cons (uv 4) pa_nil))))))
  pss_nil)
  (pss_one (ps_ret (c__law_told.pe (hr.mono (by decide)) pass0 (pa_cons (c__law_read.pe (hr.mono (by decide)) passL (pa_cons (uv 5) (pa_cons (uv 1) pa_nil))) (pa_cons (pe_ix x_tup (uv 4) pe_int plainIx) (pa_cons (uv 2) (pa_cons (uv 3) pa_nil)))))))))), rd__law_reads T h⟩
abbrev s__law_odd_piece : Stmt := top 59
theorem sc__law_odd_piece : FnScope N__law_odd_piece ["_law_one", "_law_other", "_law_cell"] (defScope s__law_odd_piece) := ⟨rfl, rfl, rfl, by decide +kernel, rfl, by decide +kernel, by decide +kernel⟩
theorem ok__law_odd_piece {f : Addr} {fd : FuncData} (F : Fun K "_law_odd_piece" "_law_odd_piece" s__law_odd_piece f fd) (hm : mg "_law_odd_piece" = some (.ref f)) (hb : Binds K fd ["_law_one", "_law_other", "_law_cell"] []) (M : Mg mg)  :
    Cal P w K mg base CX0 1 "_law_odd_piece" ["_law_one", "_law_other", "_law_cell"] (sp__law_odd_piece K) := by
  refine ⟨f, fd, F.ok sc__law_odd_piece (fun vs H Q E h => ?_) (fun cdv A' outer s H vs Q E hr h => ?_), hm, F.kp, hb⟩
  · unfold sp__law_odd_piece at h
    first
      | (obtain ⟨rfl, _⟩ := h; rfl)
      | (obtain ⟨_, rfl, _⟩ := h; rfl)
      | (obtain ⟨_, _, rfl, _⟩ := h; rfl)
      | (obtain ⟨_, _, _, rfl, _⟩ := h; rfl)
      | (obtain ⟨_, _, _, _, rfl, _⟩ := h; rfl)
      | (obtain ⟨_, _, _, _, _, rfl, _⟩ := h; rfl)
      | (obtain ⟨_, _, _, _, _, _, rfl, _⟩ := h; rfl)
      | (obtain ⟨_, _, _, _, _, _, _, rfl, _⟩ := h; rfl)
      | (obtain ⟨_, _, _, _, _, _, _, _, rfl, _⟩ := h; rfl)
      | (obtain ⟨_, _, _, _, _, _, _, _, _, rfl, _⟩ := h; rfl)
      | (obtain ⟨_, _, _, _, _, _, _, _, _, _, rfl, _⟩ := h; rfl)
      | (obtain ⟨_, _, _, _, _, _, _, _, _, _, _, rfl, _⟩ := h; rfl)
      | (obtain ⟨_, _, _, _, _, _, _, _, _, _, _, _, rfl, _⟩ := h; rfl)
      | (obtain ⟨_, _, _, _, _, _, _, _, _, _, _, _, _, rfl, _⟩ := h; rfl)
      | (obtain ⟨_, _, _, _, _, _, _, _, _, _, _, _, _, _, rfl, _⟩ := h; rfl)
      | (obtain ⟨_, _, _, _, _, _, _, _, _, _, _, _, _, _, _, rfl, _⟩ := h; rfl)
      | (obtain ⟨_, _, _, _, _, _, _, _, _, _, _, _, _, _, _, _, rfl, _⟩ := h; rfl)
      | (obtain ⟨_, _, _, _, _, _, _, _, _, _, _, _, _, _, _, _, _, rfl, _⟩ := h; rfl)
      | (obtain ⟨_, _, _, _, _, _, _, _, _, _, _, _, _, _, _, _, _, _, rfl, _⟩ := h; rfl)
      | (obtain ⟨_, _, _, _, _, _, _, _, _, _, _, _, _, _, _, _, _, _, _, rfl, _⟩ := h; rfl)
      | (obtain ⟨_, _, _, _, _, _, _, _, _, _, _, _, _, _, _, _, _, _, _, _, rfl, _⟩ := h; rfl)
      | (obtain ⟨_, _, _, _, _, _, _, _, _, _, _, _, _, _, _, _, _, _, _, _, _, rfl, _⟩ := h; rfl)
      | (obtain ⟨_, _, _, _, _, _, _, _, _, _, _, _, _, _, _, _, _, _, _, _, _, _, rfl, _⟩ := h; rfl)
      | (obtain ⟨_, _, _, _, _, _, _, _, _, _, _, _, _, _, _, _, _, _, _, _, _, _, _, rfl, _⟩ := h; rfl)
      | (obtain ⟨_, _, _, _, _, _, _, _, _, _, _, _, _, _, _, _, _, _, _, _, _, _, _, _, rfl, _⟩ := h; rfl)
      | (obtain ⟨_, _, _, _, _, _, _, _, _, _, _, _, _, _, _, _, _, _, _, _, _, _, _, _, _, rfl, _⟩ := h; rfl)
      | (obtain ⟨_, _, _, _, _, _, _, _, _, _, _, _, _, _, _, _, _, _, _, _, _, _, _, _, _, _, rfl, _⟩ := h; rfl)
      | (obtain ⟨_, _, _, _, _, _, _, _, _, _, _, _, _, _, _, _, _, _, _, _, _, _, _, _, _, _, _, rfl, _⟩ := h; rfl)
  have hu := hu_of hr
  have hu64 := hr.units
  have hu65 := hr.u65
  have nd := sc__law_odd_piece.nd
  exact ⟨t__law_odd_piece K, (pss_cons (ps_set (i := 3) nd rfl (by first | exact Or.inl rfl | exact Or.inr rfl) (e_lst (pa_cons (pe_op o_addS (pe_op o_addS (uv 0) pe_str) (uv 1)) (pa_cons (pe_op o_addS (pe_op o_addS (pe_op o_addS (uv 0) pe_str) (uv 1)) pe_str) (pa_cons (pe_op o_addS (pe_op o_addS (pe_op o_addS (uv 0) pe_str) (uv 1)) pe_str) (pa_cons (pe_op o_addS (pe_op o_addS (pe_op o_addS (uv 0) pe_str) (uv 1)) pe_str) pa_nil))))))
  (pss_cons (ps_set (i := 3) nd rfl (by first | exact Or.inl rfl | exact Or.inr rfl) (pe_op o_cat (uv 3) (e_lst (pa_cons (pe_op o_addS (pe_op o_addS (pe_op o_addS (uv 0) pe_str) (uv 1)) pe_str) (pa_cons (pe_op o_addS (pe_op o_addS (pe_op o_addS (uv 0) pe_str) (uv 1)) pe_str) (pa_cons (pe_op o_addS (pe_op o_addS (pe_op o_addS (pe_op o_addS pe_str (pe_slice s_str (uv 0) (p_some pe_int) po_none)) pe_str) (uv 1)) pe_str) pa_nil))))))
  (pss_cons (ps_set (i := 3) nd rfl (by first | exact Or.inl rfl | exact Or.inr rfl) (pe_op o_cat (uv 3) (e_lst (pa_cons (pe_op o_addS (pe_op o_addS (pe_op o_addS (uv 0) pe_str) (uv 1)) pe_str) (pa_cons (pe_op o_addS (pe_op o_addS (pe_op o_addS (pe_op o_addS pe_str (uv 0)) pe_str) (uv 1)) pe_str) (pa_cons (pe_op o_addS (pe_op o_addS (pe_op o_addS (uv 0) pe_str) (uv 1)) pe_str) pa_nil))))))
  (pss_cons (ps_set (i := 3) nd rfl (by first | exact Or.inl rfl | exact Or.inr rfl) (pe_op o_cat (uv 3) (e_lst (pa_cons (pe_op o_addS (pe_op o_addS (pe_op o_addS (pe_op o_addS (uv 0) pe_str) (uv 1)) pe_str) (pe_callTy b_str (by rfl) M.m_str (by decide +kernel) (pa_cons (pe_op o_pow pe_int pe_int) pa_nil))) (pa_cons (pe_op o_addS (pe_op o_addS (pe_op o_addS (pe_op o_addS (uv 0) pe_str) (uv 1)) pe_str) (pe_op o_mulS pe_str pe_int)) pa_nil)))))
  (pss_cons (ps_set (i := 3) nd rfl (by first | exact Or.inl rfl | exact Or.inr rfl) (pe_op o_cat (uv 3) (e_lst (pa_cons (pe_op o_addS (pe_op o_addS (pe_op o_addS (uv 0) pe_str) (uv 1)) pe_str) (pa_cons (pe_op o_addS (pe_op o_addS (pe_op o_addS (uv 0) pe_str) (uv 1)) pe_str) pa_nil)))))
  (pss_one (ps_ret (pe_ix x_list (uv 3) (pe_op o_mod (uv 2) pe_int) plainIx)))))))), rd__law_odd_piece h⟩
abbrev s__law_no_text : Stmt := top 60
theorem sc__law_no_text : FnScope N__law_no_text ["_law_sightings", "_law_most", "_law_some", "_law_cell"] (defScope s__law_no_text) := ⟨rfl, rfl, rfl, by decide +kernel, rfl, by decide +kernel, by decide +kernel⟩
theorem ok__law_no_text {A : Ad} {f : Addr} {fd : FuncData} (F : Fun K "_law_no_text" "_law_no_text" s__law_no_text f fd) (hm : mg "_law_no_text" = some (.ref f)) (hb : Binds K fd ["_law_sightings", "_law_most", "_law_some", "_law_cell"] []) (M : Mg mg) (G : Gx mg K A) (T : Tx K A) (c__law_piece : Cal P w K mg base CX0 1 "_law_piece" ["_law_sighting_here"] (sp__law_piece K)) (c__law_odd_piece : Cal P w K mg base CX0 1 "_law_odd_piece" ["_law_one", "_law_other", "_law_cell"] (sp__law_odd_piece K)) (c__law_refused : Cal P w K mg base CX0 7 "_law_refused" ["_law_text_here", "_law_most", "_law_due_here"] (sp__law_refused K A)) :
    Cal P w K mg base CX0 8 "_law_no_text" ["_law_sightings", "_law_most", "_law_some", "_law_cell"] (sp__law_no_text K A) := by
  refine ⟨f, fd, F.ok sc__law_no_text (fun vs H Q E h => ?_) (fun cdv A' outer s H vs Q E hr h => ?_), hm, F.kp, hb⟩
  · unfold sp__law_no_text at h
    first
      | (obtain ⟨rfl, _⟩ := h; rfl)
      | (obtain ⟨_, rfl, _⟩ := h; rfl)
      | (obtain ⟨_, _, rfl, _⟩ := h; rfl)
      | (obtain ⟨_, _, _, rfl, _⟩ := h; rfl)
      | (obtain ⟨_, _, _, _, rfl, _⟩ := h; rfl)
      | (obtain ⟨_, _, _, _, _, rfl, _⟩ := h; rfl)
      | (obtain ⟨_, _, _, _, _, _, rfl, _⟩ := h; rfl)
      | (obtain ⟨_, _, _, _, _, _, _, rfl, _⟩ := h; rfl)
      | (obtain ⟨_, _, _, _, _, _, _, _, rfl, _⟩ := h; rfl)
      | (obtain ⟨_, _, _, _, _, _, _, _, _, rfl, _⟩ := h; rfl)
      | (obtain ⟨_, _, _, _, _, _, _, _, _, _, rfl, _⟩ := h; rfl)
      | (obtain ⟨_, _, _, _, _, _, _, _, _, _, _, rfl, _⟩ := h; rfl)
      | (obtain ⟨_, _, _, _, _, _, _, _, _, _, _, _, rfl, _⟩ := h; rfl)
      | (obtain ⟨_, _, _, _, _, _, _, _, _, _, _, _, _, rfl, _⟩ := h; rfl)
      | (obtain ⟨_, _, _, _, _, _, _, _, _, _, _, _, _, _, rfl, _⟩ := h; rfl)
      | (obtain ⟨_, _, _, _, _, _, _, _, _, _, _, _, _, _, _, rfl, _⟩ := h; rfl)
      | (obtain ⟨_, _, _, _, _, _, _, _, _, _, _, _, _, _, _, _, rfl, _⟩ := h; rfl)
      | (obtain ⟨_, _, _, _, _, _, _, _, _, _, _, _, _, _, _, _, _, rfl, _⟩ := h; rfl)
      | (obtain ⟨_, _, _, _, _, _, _, _, _, _, _, _, _, _, _, _, _, _, rfl, _⟩ := h; rfl)
      | (obtain ⟨_, _, _, _, _, _, _, _, _, _, _, _, _, _, _, _, _, _, _, rfl, _⟩ := h; rfl)
      | (obtain ⟨_, _, _, _, _, _, _, _, _, _, _, _, _, _, _, _, _, _, _, _, rfl, _⟩ := h; rfl)
      | (obtain ⟨_, _, _, _, _, _, _, _, _, _, _, _, _, _, _, _, _, _, _, _, _, rfl, _⟩ := h; rfl)
      | (obtain ⟨_, _, _, _, _, _, _, _, _, _, _, _, _, _, _, _, _, _, _, _, _, _, rfl, _⟩ := h; rfl)
      | (obtain ⟨_, _, _, _, _, _, _, _, _, _, _, _, _, _, _, _, _, _, _, _, _, _, _, rfl, _⟩ := h; rfl)
      | (obtain ⟨_, _, _, _, _, _, _, _, _, _, _, _, _, _, _, _, _, _, _, _, _, _, _, _, rfl, _⟩ := h; rfl)
      | (obtain ⟨_, _, _, _, _, _, _, _, _, _, _, _, _, _, _, _, _, _, _, _, _, _, _, _, _, rfl, _⟩ := h; rfl)
      | (obtain ⟨_, _, _, _, _, _, _, _, _, _, _, _, _, _, _, _, _, _, _, _, _, _, _, _, _, _, rfl, _⟩ := h; rfl)
      | (obtain ⟨_, _, _, _, _, _, _, _, _, _, _, _, _, _, _, _, _, _, _, _, _, _, _, _, _, _, _, rfl, _⟩ := h; rfl)
  have hu := hu_of hr
  have hu64 := hr.units
  have hu65 := hr.u65
  have nd := sc__law_no_text.nd
  exact ⟨t__law_no_text K A, (pss_cons (u_setLc (i := 4) (own := [("_law_sighting_here", 5)]) (g := (gName 5)) (tt := tYes) rfl nd rfl rfl (sw_true rfl rfl rfl (by decide +kernel)) (pi_list (uv 0)) (blkOk_by (N := N__law_no_text) (sc := defScope s__law_no_text) (own := [("_law_sighting_here", 5)]) (by decide +kernel)) (fun _ _ _ _ _ => (pg_name (i := 5) nd rfl (by first | exact Or.inl rfl | exact Or.inr rfl))) (fun _ _ _ _ _ => pts_nil) (fun _ _ _ _ _ => (c__law_piece.pe (hr.mono (by decide)) pass0 (pa_cons (uv 5) pa_nil))))
  (pss_cons (ps_set (i := 6) nd rfl (by first | exact Or.inl rfl | exact Or.inr rfl) (pe_op o_mod (pe_op o_div (uv 3) pe_int) (pe_op o_add (pe_callB l_seq (by rfl) M.m_len (by decide +kernel) (pa_cons (uv 4) pa_nil)) pe_int)))
  (pss_cons (ps_set (i := 7) nd rfl (by first | exact Or.inl rfl | exact Or.inr rfl) (c__law_odd_piece.pe (hr.mono (by decide)) pass0 (pa_cons (pe_ix x_list (uv 2) pe_int plainIx) (pa_cons (pe_ix x_list (uv 2) (pe_op o_mod (pe_op o_div (uv 3) pe_int) (pe_callB l_seq (by rfl) M.m_len (by decide +kernel) (pa_cons (uv 2) pa_nil))) plainIx) (pa_cons (uv 3) pa_nil)))))
  (pss_cons (ps_set (i := 8) nd rfl (by first | exact Or.inl rfl | exact Or.inr rfl) (e_join pe_str (pe_op o_cat (pe_op o_cat (pe_slice s_list (uv 4) po_none (p_some (uv 6))) (e_lst (pa_cons (uv 7) pa_nil))) (pe_slice s_list (uv 4) (p_some (uv 6)) po_none))))
  (Evl.pss_cut (s_if (PW.pt (w_and (t_cmp (c_op o_eqI (pe_op o_mod (uv 3) pe_int) pe_int)) (pw_and1 (t_cmp (c_op o_gt (pe_callB l_seq (by rfl) M.m_len (by decide +kernel) (pa_cons (uv 4) pa_nil)) pe_int)))))
  (pss_one (ps_set (i := 8) nd rfl (by first | exact Or.inl rfl | exact Or.inr rfl) (e_join pe_str (uv 4))))
  pss_nil)
  (pss_one (ps_ret (c__law_refused.pe (hr.mono (by decide)) pass0 (pa_cons (uv 8) (pa_cons (uv 1) (pa_cons (e_tup (pa_cons pe_str (pa_cons (e_lst pa_nil) (pa_cons pe_non (pa_cons pe_int pa_nil))))) pa_nil))))))))))), rd__law_no_text T h⟩
abbrev s_law : Stmt := top 61
theorem sc_law : FnScope N_law ["_law_script"] (defScope s_law) := ⟨rfl, rfl, rfl, by decide +kernel, rfl, by decide +kernel, by decide +kernel⟩
theorem ok_law {A : Ad} {f : Addr} {fd : FuncData} (F : Fun K "law" "law" s_law f fd) (hm : mg "law" = some (.ref f)) (hb : Binds K fd ["_law_script"] []) (M : Mg mg) (G : Gx mg K A) (T : Tx K A) (c__law_pegs : Cal P w K mg base CX0 2 "_law_pegs" ["_law_cell", "_law_many"] (sp__law_pegs K)) (c__law_cell_at : Cal P w K mg base CX0 1 "_law_cell_at" ["_law_script", "_law_k"] (sp__law_cell_at K)) (c__law_highs : Cal P w K mg base CX0 1 "_law_highs" ["_law_some", "_law_cell"] (sp__law_highs K)) (c__law_sighting : Cal P w K mg base CX0 1 "_law_sighting" ["_law_some", "_law_highs_here", "_law_cell", "_law_k"] (sp__law_sighting K)) (c_Book___init__ : CalK P w K mg base 1 A.Book "Book" ["self", "most"] (sp_Book___init__ K A) [.int 200]) (c__law_kept : Cal P w K mg base CX0 5 "_law_kept" ["_law_book", "_law_sightings", "_law_cells"] (sp__law_kept K A)) (c__law_told : Cal P w K mg base CX0 7 "_law_told" ["_law_book", "_law_rows_here", "_law_some", "_law_cell"] (sp__law_told K A)) (c_read : CalD P w K mg base (L2.CX P w) 5 "read" ["text", "most"] (sp_read K A) [.int 200]) (c__law_text : Cal P w K mg base CX0 2 "_law_text" ["_law_rows_here"] (sp__law_text K)) (c__law_numbered : Cal P w K mg base CX0 1 "_law_numbered" ["_law_sightings"] (sp__law_numbered K)) (c__law_reads : Cal P w K mg base CX0 8 "_law_reads" ["_law_sightings", "_law_most", "_law_some", "_law_cell"] (sp__law_reads K A)) (c__law_no_text : Cal P w K mg base CX0 8 "_law_no_text" ["_law_sightings", "_law_most", "_law_some", "_law_cell"] (sp__law_no_text K A)) :
    Cal P w K mg base CX0 9 "law" ["_law_script"] (sp_law K) := by
  refine ⟨f, fd, F.ok sc_law (fun vs H Q E h => ?_) (fun cdv A' outer s H vs Q E hr h => ?_), hm, F.kp, hb⟩
  · unfold sp_law at h
    first
      | (obtain ⟨rfl, _⟩ := h; rfl)
      | (obtain ⟨_, rfl, _⟩ := h; rfl)
      | (obtain ⟨_, _, rfl, _⟩ := h; rfl)
      | (obtain ⟨_, _, _, rfl, _⟩ := h; rfl)
      | (obtain ⟨_, _, _, _, rfl, _⟩ := h; rfl)
      | (obtain ⟨_, _, _, _, _, rfl, _⟩ := h; rfl)
      | (obtain ⟨_, _, _, _, _, _, rfl, _⟩ := h; rfl)
      | (obtain ⟨_, _, _, _, _, _, _, rfl, _⟩ := h; rfl)
      | (obtain ⟨_, _, _, _, _, _, _, _, rfl, _⟩ := h; rfl)
      | (obtain ⟨_, _, _, _, _, _, _, _, _, rfl, _⟩ := h; rfl)
      | (obtain ⟨_, _, _, _, _, _, _, _, _, _, rfl, _⟩ := h; rfl)
      | (obtain ⟨_, _, _, _, _, _, _, _, _, _, _, rfl, _⟩ := h; rfl)
      | (obtain ⟨_, _, _, _, _, _, _, _, _, _, _, _, rfl, _⟩ := h; rfl)
      | (obtain ⟨_, _, _, _, _, _, _, _, _, _, _, _, _, rfl, _⟩ := h; rfl)
      | (obtain ⟨_, _, _, _, _, _, _, _, _, _, _, _, _, _, rfl, _⟩ := h; rfl)
      | (obtain ⟨_, _, _, _, _, _, _, _, _, _, _, _, _, _, _, rfl, _⟩ := h; rfl)
      | (obtain ⟨_, _, _, _, _, _, _, _, _, _, _, _, _, _, _, _, rfl, _⟩ := h; rfl)
      | (obtain ⟨_, _, _, _, _, _, _, _, _, _, _, _, _, _, _, _, _, rfl, _⟩ := h; rfl)
      | (obtain ⟨_, _, _, _, _, _, _, _, _, _, _, _, _, _, _, _, _, _, rfl, _⟩ := h; rfl)
      | (obtain ⟨_, _, _, _, _, _, _, _, _, _, _, _, _, _, _, _, _, _, _, rfl, _⟩ := h; rfl)
      | (obtain ⟨_, _, _, _, _, _, _, _, _, _, _, _, _, _, _, _, _, _, _, _, rfl, _⟩ := h; rfl)
      | (obtain ⟨_, _, _, _, _, _, _, _, _, _, _, _, _, _, _, _, _, _, _, _, _, rfl, _⟩ := h; rfl)
      | (obtain ⟨_, _, _, _, _, _, _, _, _, _, _, _, _, _, _, _, _, _, _, _, _, _, rfl, _⟩ := h; rfl)
      | (obtain ⟨_, _, _, _, _, _, _, _, _, _, _, _, _, _, _, _, _, _, _, _, _, _, _, rfl, _⟩ := h; rfl)
      | (obtain ⟨_, _, _, _, _, _, _, _, _, _, _, _, _, _, _, _, _, _, _, _, _, _, _, _, rfl, _⟩ := h; rfl)
      | (obtain ⟨_, _, _, _, _, _, _, _, _, _, _, _, _, _, _, _, _, _, _, _, _, _, _, _, _, rfl, _⟩ := h; rfl)
      | (obtain ⟨_, _, _, _, _, _, _, _, _, _, _, _, _, _, _, _, _, _, _, _, _, _, _, _, _, _, rfl, _⟩ := h; rfl)
      | (obtain ⟨_, _, _, _, _, _, _, _, _, _, _, _, _, _, _, _, _, _, _, _, _, _, _, _, _, _, _, rfl, _⟩ := h; rfl)
  have hu := hu_of hr
  have hu64 := hr.units
  have hu65 := hr.u65
  have nd := sc_law.nd
  exact ⟨t_law K A, (pss_cons (ps_set (i := 1) nd rfl (by first | exact Or.inl rfl | exact Or.inr rfl) (c__law_pegs.pe (hr.mono (by decide)) pass0 (pa_cons (c__law_cell_at.pe (hr.mono (by decide)) pass0 (pa_cons (uv 0) (pa_cons pe_int pa_nil))) (pa_cons (pe_op o_add pe_int (pe_op o_mod (c__law_cell_at.pe (hr.mono (by decide)) pass0 (pa_cons (uv 0) (pa_cons pe_int pa_nil))) pe_int)) pa_nil))))
  (pss_cons (ps_set (i := 2) nd rfl (by first | exact Or.inl rfl | exact Or.inr rfl) (c__law_highs.pe (hr.mono (by decide)) pass0 (pa_cons (uv 1) (pa_cons (c__law_cell_at.pe (hr.mono (by decide)) pass0 (pa_cons (uv 0) (pa_cons pe_int pa_nil))) pa_nil))))
  (pss_cons (ps_set (i := 3) nd rfl (by first | exact Or.inl rfl | exact Or.inr rfl) (pe_op o_mod (pe_op o_mul (pe_op o_add (pe_op o_mod (c__law_cell_at.pe (hr.mono (by decide)) pass0 (pa_cons (uv 0) (pa_cons pe_int pa_nil))) pe_int) pe_int) pe_int) pe_int))
  (pss_cons (ps_set (i := 4) nd rfl (by first | exact Or.inl rfl | exact Or.inr rfl) (pe_op o_mod (uv 3) pe_int))
  (Evl.pss_cut (s_if (t_cmp (c_op o_eqI (pe_op o_mod (pe_op o_div (uv 3) pe_int) pe_int) pe_int))
  (pss_one (ps_set (i := 4) nd rfl (by first | exact Or.inl rfl | exact Or.inr rfl) pe_int))
  pss_nil)
  (pss_cons (u_setLc (i := 5) (own := [("_law_k", 6)]) (g := (gName 6)) (tt := tYes) rfl nd rfl rfl (sw_true rfl rfl rfl (by decide +kernel)) (pi_range2 (by rfl) M.m_range (pa_cons pe_int (pa_cons (pe_callB (b_min rfl) (by rfl) M.m_min (by decide +kernel) (pa_cons (pe_callB l_seq (by rfl) M.m_len (by decide +kernel) (pa_cons (uv 0) pa_nil)) (pa_cons pe_int pa_nil))) pa_nil))) (blkOk_by (N := N_law) (sc := defScope s_law) (own := [("_law_k", 6)]) (by decide +kernel)) (fun _ _ _ _ _ => (pg_name (i := 6) nd rfl (by first | exact Or.inl rfl | exact Or.inr rfl))) (fun _ _ _ _ _ => pts_nil) (fun _ _ _ _ _ => (c__law_sighting.pe (hr.mono (by decide)) pass0 (pa_cons (uv 1) (pa_cons (uv 2) (pa_cons (pe_ix x_list (uv 0) (uv 6) plainIx) (pa_cons (uv 6) pa_nil)))))))
  (pss_cons (ps_set (i := 7) nd rfl (by first | exact Or.inl rfl | exact Or.inr rfl) (c_Book___init__.pe0 (hr.mono (by decide))))
  (pss_cons (ps_set (i := 8) nd rfl (by first | exact Or.inl rfl | exact Or.inr rfl) (c__law_kept.pe (hr.mono (by decide)) pass0 (pa_cons (uv 7) (pa_cons (uv 5) (pa_cons (pe_slice s_list (uv 0) (p_some pe_int) (p_some pe_int)) pa_nil)))))
  (pss_cons (s_if (PW.pt (w_or (t_cmp (c_op o_isN (uv 8) pe_non)) (pw_or1 (t_not (t_val (c__law_told.pe (hr.mono (by decide)) pass0 (pa_cons (uv 7) (pa_cons (uv 8) (pa_cons (uv 1) (pa_cons (uv 3) pa_nil))))))))))
  (pss_one (ps_ret pe_bl))
  pss_nil)
  (pss_cons (u_setLc (i := 9) (own := [("_law_row", 10)]) (g := (gName 10)) (tt := tYes) rfl nd rfl rfl (sw_true rfl rfl rfl (by decide +kernel)) (pi_list (uv 8)) (blkOk_by (N := N_law) (sc := defScope s_law) (own := [("_law_row", 10)]) (by decide +kernel)) (fun _ _ _ _ _ => (pg_name (i := 10) nd rfl (by first | exact Or.inl rfl | exact Or.inr rfl))) (fun _ _ _ _ _ => pts_nil) (fun _ _ _ _ _ => (pe_slice s_tup (uv 10) (p_some pe_int) po_none)))
  (pss_cons (ps_set (i := 11) nd rfl (by first | exact Or.inl rfl | exact Or.inr rfl) (c_read.peD (hr.mono (by decide)) passL (pa_cons (c__law_text.pe (hr.mono (by decide)) pass0 (pa_cons (uv 8) pa_nil)) pa_nil)))
  (pss_cons (s_if (t_not (t_val (c__law_told.pe (hr.mono (by decide)) pass0 (pa_cons (uv 11) (pa_cons (c__law_numbered.pe (hr.mono (by decide)) pass0 (pa_cons (uv 9) pa_nil)) (pa_cons (uv 1) (pa_cons (pe_op o_div (uv 3) pe_int) pa_nil)))))))
  (pss_one (ps_ret pe_bl))
  pss_nil)
  (pss_cons (s_if (PW.pt (w_or (t_not (t_val (c__law_reads.pe (hr.mono (by decide)) pass0 (pa_cons (uv 5) (pa_cons (uv 4) (pa_cons (uv 1) (pa_cons (uv 3) pa_nil))))))) (pw_or1 (t_not (t_val (c__law_reads.pe (hr.mono (by decide)) pass0 (pa_cons (uv 9) (pa_cons (uv 4) (pa_cons (uv 1) (pa_cons (uv 3) pa_nil))))))))))
  (pss_one (ps_ret pe_bl))
  pss_nil)
  (pss_one (ps_ret (c__law_no_text.pe (hr.mono (by decide)) pass0 (pa_cons (uv 5) (pa_cons (uv 4) (pa_cons (uv 1) (pa_cons (pe_op o_mod (pe_op o_mul (uv 3) pe_int) pe_int) pa_nil)))))))))))))))))))), rd_law T h⟩
end
section
variable {P : Program} {w : World} {K : PySem.W.Frag} {mg : Str → Option Value} {base : Heap}
theorem fn_law {A : Ad} {f : Addr} {fd : FuncData} (F : Fun K "law" "law" s_law f fd) (M : Mg mg) (G : Gx mg K A) (T : Tx K A) (c__law_pegs : Cal P w K mg base CX0 2 "_law_pegs" ["_law_cell", "_law_many"] (sp__law_pegs K)) (c__law_cell_at : Cal P w K mg base CX0 1 "_law_cell_at" ["_law_script", "_law_k"] (sp__law_cell_at K)) (c__law_highs : Cal P w K mg base CX0 1 "_law_highs" ["_law_some", "_law_cell"] (sp__law_highs K)) (c__law_sighting : Cal P w K mg base CX0 1 "_law_sighting" ["_law_some", "_law_highs_here", "_law_cell", "_law_k"] (sp__law_sighting K)) (c_Book___init__ : CalK P w K mg base 1 A.Book "Book" ["self", "most"] (sp_Book___init__ K A) [.int 200]) (c__law_kept : Cal P w K mg base CX0 5 "_law_kept" ["_law_book", "_law_sightings", "_law_cells"] (sp__law_kept K A)) (c__law_told : Cal P w K mg base CX0 7 "_law_told" ["_law_book", "_law_rows_here", "_law_some", "_law_cell"] (sp__law_told K A)) (c_read : CalD P w K mg base (L2.CX P w) 5 "read" ["text", "most"] (sp_read K A) [.int 200]) (c__law_text : Cal P w K mg base CX0 2 "_law_text" ["_law_rows_here"] (sp__law_text K)) (c__law_numbered : Cal P w K mg base CX0 1 "_law_numbered" ["_law_sightings"] (sp__law_numbered K)) (c__law_reads : Cal P w K mg base CX0 8 "_law_reads" ["_law_sightings", "_law_most", "_law_some", "_law_cell"] (sp__law_reads K A)) (c__law_no_text : Cal P w K mg base CX0 8 "_law_no_text" ["_law_sightings", "_law_most", "_law_some", "_law_cell"] (sp__law_no_text K A)) :
    FnOk P w K mg base CX0 9 f fd ["_law_script"] (sp_law K) := by
  refine F.ok sc_law (fun vs H Q E h => ?_) (fun cdv A' outer s H vs Q E hr h => ?_)
  · unfold sp_law at h
    first
      | (obtain ⟨rfl, _⟩ := h; rfl)
      | (obtain ⟨_, rfl, _⟩ := h; rfl)
      | (obtain ⟨_, _, rfl, _⟩ := h; rfl)
      | (obtain ⟨_, _, _, rfl, _⟩ := h; rfl)
      | (obtain ⟨_, _, _, _, rfl, _⟩ := h; rfl)
      | (obtain ⟨_, _, _, _, _, rfl, _⟩ := h; rfl)
      | (obtain ⟨_, _, _, _, _, _, rfl, _⟩ := h; rfl)
      | (obtain ⟨_, _, _, _, _, _, _, rfl, _⟩ := h; rfl)
      | (obtain ⟨_, _, _, _, _, _, _, _, rfl, _⟩ := h; rfl)
      | (obtain ⟨_, _, _, _, _, _, _, _, _, rfl, _⟩ := h; rfl)
      | (obtain ⟨_, _, _, _, _, _, _, _, _, _, rfl, _⟩ := h; rfl)
      | (obtain ⟨_, _, _, _, _, _, _, _, _, _, _, rfl, _⟩ := h; rfl)
      | (obtain ⟨_, _, _, _, _, _, _, _, _, _, _, _, rfl, _⟩ := h; rfl)
      | (obtain ⟨_, _, _, _, _, _, _, _, _, _, _, _, _, rfl, _⟩ := h; rfl)
      | (obtain ⟨_, _, _, _, _, _, _, _, _, _, _, _, _, _, rfl, _⟩ := h; rfl)
      | (obtain ⟨_, _, _, _, _, _, _, _, _, _, _, _, _, _, _, rfl, _⟩ := h; rfl)
      | (obtain ⟨_, _, _, _, _, _, _, _, _, _, _, _, _, _, _, _, rfl, _⟩ := h; rfl)
      | (obtain ⟨_, _, _, _, _, _, _, _, _, _, _, _, _, _, _, _, _, rfl, _⟩ := h; rfl)
      | (obtain ⟨_, _, _, _, _, _, _, _, _, _, _, _, _, _, _, _, _, _, rfl, _⟩ := h; rfl)
      | (obtain ⟨_, _, _, _, _, _, _, _, _, _, _, _, _, _, _, _, _, _, _, rfl, _⟩ := h; rfl)
      | (obtain ⟨_, _, _, _, _, _, _, _, _, _, _, _, _, _, _, _, _, _, _, _, rfl, _⟩ := h; rfl)
      | (obtain ⟨_, _, _, _, _, _, _, _, _, _, _, _, _, _, _, _, _, _, _, _, _, rfl, _⟩ := h; rfl)
      | (obtain ⟨_, _, _, _, _, _, _, _, _, _, _, _, _, _, _, _, _, _, _, _, _, _, rfl, _⟩ := h; rfl)
      | (obtain ⟨_, _, _, _, _, _, _, _, _, _, _, _, _, _, _, _, _, _, _, _, _, _, _, rfl, _⟩ := h; rfl)
      | (obtain ⟨_, _, _, _, _, _, _, _, _, _, _, _, _, _, _, _, _, _, _, _, _, _, _, _, rfl, _⟩ := h; rfl)
      | (obtain ⟨_, _, _, _, _, _, _, _, _, _, _, _, _, _, _, _, _, _, _, _, _, _, _, _, _, rfl, _⟩ := h; rfl)
      | (obtain ⟨_, _, _, _, _, _, _, _, _, _, _, _, _, _, _, _, _, _, _, _, _, _, _, _, _, _, rfl, _⟩ := h; rfl)
      | (obtain ⟨_, _, _, _, _, _, _, _, _, _, _, _, _, _, _, _, _, _, _, _, _, _, _, _, _, _, _, rfl, _⟩ := h; rfl)
  have hu := hu_of hr
  have hu64 := hr.units
  have hu65 := hr.u65
  have nd := sc_law.nd
  exact ⟨t_law K A, (pss_cons (ps_set (i := 1) nd rfl (by first | exact Or.inl rfl | exact Or.inr rfl) (c__law_pegs.pe (hr.mono (by decide)) pass0 (pa_cons (c__law_cell_at.pe (hr.mono (by decide)) pass0 (pa_cons (uv 0) (pa_cons pe_int pa_nil))) (pa_cons (pe_op o_add pe_int (pe_op o_mod (c__law_cell_at.pe (hr.mono (by decide)) pass0 (pa_cons (uv 0) (pa_cons pe_int pa_nil))) pe_int)) pa_nil))))
  (pss_cons (ps_set (i := 2) nd rfl (by first | exact Or.inl rfl | exact Or.inr rfl) (c__law_highs.pe (hr.mono (by decide)) pass0 (pa_cons (uv 1) (pa_cons (c__law_cell_at.pe (hr.mono (by decide)) pass0 (pa_cons (uv 0) (pa_cons pe_int pa_nil))) pa_nil))))
  (pss_cons (ps_set (i := 3) nd rfl (by first | exact Or.inl rfl | exact Or.inr rfl) (pe_op o_mod (pe_op o_mul (pe_op o_add (pe_op o_mod (c__law_cell_at.pe (hr.mono (by decide)) pass0 (pa_cons (uv 0) (pa_cons pe_int pa_nil))) pe_int) pe_int) pe_int) pe_int))
  (pss_cons (ps_set (i := 4) nd rfl (by first | exact Or.inl rfl | exact Or.inr rfl) (pe_op o_mod (uv 3) pe_int))
  (Evl.pss_cut (s_if (t_cmp (c_op o_eqI (pe_op o_mod (pe_op o_div (uv 3) pe_int) pe_int) pe_int))
  (pss_one (ps_set (i := 4) nd rfl (by first | exact Or.inl rfl | exact Or.inr rfl) pe_int))
  pss_nil)
  (pss_cons (u_setLc (i := 5) (own := [("_law_k", 6)]) (g := (gName 6)) (tt := tYes) rfl nd rfl rfl (sw_true rfl rfl rfl (by decide +kernel)) (pi_range2 (by rfl) M.m_range (pa_cons pe_int (pa_cons (pe_callB (b_min rfl) (by rfl) M.m_min (by decide +kernel) (pa_cons (pe_callB l_seq (by rfl) M.m_len (by decide +kernel) (pa_cons (uv 0) pa_nil)) (pa_cons pe_int pa_nil))) pa_nil))) (blkOk_by (N := N_law) (sc := defScope s_law) (own := [("_law_k", 6)]) (by decide +kernel)) (fun _ _ _ _ _ => (pg_name (i := 6) nd rfl (by first | exact Or.inl rfl | exact Or.inr rfl))) (fun _ _ _ _ _ => pts_nil) (fun _ _ _ _ _ => (c__law_sighting.pe (hr.mono (by decide)) pass0 (pa_cons (uv 1) (pa_cons (uv 2) (pa_cons (pe_ix x_list (uv 0) (uv 6) plainIx) (pa_cons (uv 6) pa_nil)))))))
  (pss_cons (ps_set (i := 7) nd rfl (by first | exact Or.inl rfl | exact Or.inr rfl) (c_Book___init__.pe0 (hr.mono (by decide))))
  (pss_cons (ps_set (i := 8) nd rfl (by first | exact Or.inl rfl | exact Or.inr rfl) (c__law_kept.pe (hr.mono (by decide)) pass0 (pa_cons (uv 7) (pa_cons (uv 5) (pa_cons (pe_slice s_list (uv 0) (p_some pe_int) (p_some pe_int)) pa_nil)))))
  (pss_cons (s_if (PW.pt (w_or (t_cmp (c_op o_isN (uv 8) pe_non)) (pw_or1 (t_not (t_val (c__law_told.pe (hr.mono (by decide)) pass0 (pa_cons (uv 7) (pa_cons (uv 8) (pa_cons (uv 1) (pa_cons (uv 3) pa_nil))))))))))
  (pss_one (ps_ret pe_bl))
  pss_nil)
  (pss_cons (u_setLc (i := 9) (own := [("_law_row", 10)]) (g := (gName 10)) (tt := tYes) rfl nd rfl rfl (sw_true rfl rfl rfl (by decide +kernel)) (pi_list (uv 8)) (blkOk_by (N := N_law) (sc := defScope s_law) (own := [("_law_row", 10)]) (by decide +kernel)) (fun _ _ _ _ _ => (pg_name (i := 10) nd rfl (by first | exact Or.inl rfl | exact Or.inr rfl))) (fun _ _ _ _ _ => pts_nil) (fun _ _ _ _ _ => (pe_slice s_tup (uv 10) (p_some pe_int) po_none)))
  (pss_cons (ps_set (i := 11) nd rfl (by first | exact Or.inl rfl | exact Or.inr rfl) (c_read.peD (hr.mono (by decide)) passL (pa_cons (c__law_text.pe (hr.mono (by decide)) pass0 (pa_cons (uv 8) pa_nil)) pa_nil)))
  (pss_cons (s_if (t_not (t_val (c__law_told.pe (hr.mono (by decide)) pass0 (pa_cons (uv 11) (pa_cons (c__law_numbered.pe (hr.mono (by decide)) pass0 (pa_cons (uv 9) pa_nil)) (pa_cons (uv 1) (pa_cons (pe_op o_div (uv 3) pe_int) pa_nil)))))))
  (pss_one (ps_ret pe_bl))
  pss_nil)
  (pss_cons (s_if (PW.pt (w_or (t_not (t_val (c__law_reads.pe (hr.mono (by decide)) pass0 (pa_cons (uv 5) (pa_cons (uv 4) (pa_cons (uv 1) (pa_cons (uv 3) pa_nil))))))) (pw_or1 (t_not (t_val (c__law_reads.pe (hr.mono (by decide)) pass0 (pa_cons (uv 9) (pa_cons (uv 4) (pa_cons (uv 1) (pa_cons (uv 3) pa_nil))))))))))
  (pss_one (ps_ret pe_bl))
  pss_nil)
  (pss_one (ps_ret (c__law_no_text.pe (hr.mono (by decide)) pass0 (pa_cons (uv 5) (pa_cons (uv 4) (pa_cons (uv 1) (pa_cons (pe_op o_mod (pe_op o_mul (uv 3) pe_int) pe_int) pa_nil)))))))))))))))))))), rd_law T h⟩
end
theorem all_mk {l : PySem.W.OpenLaw} {w : World} {K : PySem.W.Frag} {h : Heap} {mg : Str → Option Value} {fa : Addr} {ABook APegError ANoSighting AFull AAgainst ANoNumber ANoWay ANoText : Addr} {oxnAgainst oxqAgainst : Str} {oxNAgainst : Addr} {oxbAgainst oxmAgainst oxsAgainst : List Value} {oxlAgainst : List Str} {oxaAgainst : Bool} {oxcAgainst : Option Bool} {oxdAgainst : Option Addr} {ox0Against ox1Against ox2Against ox3Against ox5Against : Option Value} {oxnNoWay oxqNoWay : Str} {oxNNoWay : Addr} {oxbNoWay oxmNoWay oxsNoWay : List Value} {oxlNoWay : List Str} {oxaNoWay : Bool} {oxcNoWay : Option Bool} {oxdNoWay : Option Addr} {ox0NoWay ox1NoWay ox2NoWay ox3NoWay ox5NoWay : Option Value} {f0 : Addr} {od0 an0 : Option Addr} {sl0 : Array (Option Value)} {oc0 kV0 dc0 pm0 cd0 ct0 : Value} {f1 : Addr} {od1 an1 : Option Addr} {sl1 : Array (Option Value)} {oc1 kV1 dc1 pm1 cd1 ct1 : Value} {f2 : Addr} {od2 an2 : Option Addr} {sl2 : Array (Option Value)} {oc2 kV2 dc2 pm2 cd2 ct2 : Value} {f3 : Addr} {od3 an3 : Option Addr} {sl3 : Array (Option Value)} {oc3 kV3 dc3 pm3 cd3 ct3 : Value} {f4 : Addr} {od4 an4 : Option Addr} {sl4 : Array (Option Value)} {oc4 kV4 dc4 pm4 cd4 ct4 : Value} {f5 : Addr} {od5 an5 : Option Addr} {sl5 : Array (Option Value)} {oc5 kV5 dc5 pm5 cd5 ct5 : Value} {f6 : Addr} {od6 an6 : Option Addr} {sl6 : Array (Option Value)} {oc6 kV6 dc6 pm6 cd6 ct6 : Value} {f7 : Addr} {od7 an7 : Option Addr} {sl7 : Array (Option Value)} {oc7 kV7 dc7 pm7 cd7 ct7 : Value} {f8 : Addr} {od8 an8 : Option Addr} {sl8 : Array (Option Value)} {oc8 kV8 dc8 pm8 cd8 ct8 : Value} {f9 : Addr} {od9 an9 : Option Addr} {sl9 : Array (Option Value)} {oc9 kV9 dc9 pm9 cd9 ct9 : Value} {f10 : Addr} {od10 an10 : Option Addr} {sl10 : Array (Option Value)} {oc10 kV10 dc10 pm10 cd10 ct10 : Value} {f11 : Addr} {od11 an11 : Option Addr} {sl11 : Array (Option Value)} {oc11 kV11 dc11 pm11 cd11 ct11 : Value} {dT11 : Addr} {dO11 : Option Addr} {dC11 : Value} {dK11 : Tok} {dN11 : Nat} {dS11 : Array (Option Value)} {f12 : Addr} {od12 an12 : Option Addr} {sl12 : Array (Option Value)} {oc12 kV12 dc12 pm12 cd12 ct12 : Value} {f13 : Addr} {od13 an13 : Option Addr} {sl13 : Array (Option Value)} {oc13 kV13 dc13 pm13 cd13 ct13 : Value} {f14 : Addr} {od14 an14 : Option Addr} {sl14 : Array (Option Value)} {oc14 kV14 dc14 pm14 cd14 ct14 : Value} {f15 : Addr} {od15 an15 : Option Addr} {sl15 : Array (Option Value)} {oc15 kV15 dc15 pm15 cd15 ct15 : Value} {f16 : Addr} {od16 an16 : Option Addr} {sl16 : Array (Option Value)} {oc16 kV16 dc16 pm16 cd16 ct16 : Value} {f17 : Addr} {od17 an17 : Option Addr} {sl17 : Array (Option Value)} {oc17 kV17 dc17 pm17 cd17 ct17 : Value} {f18 : Addr} {od18 an18 : Option Addr} {sl18 : Array (Option Value)} {oc18 kV18 dc18 pm18 cd18 ct18 : Value} {f19 : Addr} {od19 an19 : Option Addr} {sl19 : Array (Option Value)} {oc19 kV19 dc19 pm19 cd19 ct19 : Value} {f20 : Addr} {od20 an20 : Option Addr} {sl20 : Array (Option Value)} {oc20 kV20 dc20 pm20 cd20 ct20 : Value} {f21 : Addr} {od21 an21 : Option Addr} {sl21 : Array (Option Value)} {oc21 kV21 dc21 pm21 cd21 ct21 : Value} {f22 : Addr} {od22 an22 : Option Addr} {sl22 : Array (Option Value)} {oc22 kV22 dc22 pm22 cd22 ct22 : Value} {f23 : Addr} {od23 an23 : Option Addr} {sl23 : Array (Option Value)} {oc23 kV23 dc23 pm23 cd23 ct23 : Value} {f24 : Addr} {od24 an24 : Option Addr} {sl24 : Array (Option Value)} {oc24 kV24 dc24 pm24 cd24 ct24 : Value} {dT24 : Addr} {dO24 : Option Addr} {dC24 : Value} {dK24 : Tok} {dN24 : Nat} {dS24 : Array (Option Value)} {f25 : Addr} {od25 an25 : Option Addr} {sl25 : Array (Option Value)} {oc25 kV25 dc25 pm25 cd25 ct25 : Value} {f26 : Addr} {od26 an26 : Option Addr} {sl26 : Array (Option Value)} {oc26 kV26 dc26 pm26 cd26 ct26 : Value} {f27 : Addr} {od27 an27 : Option Addr} {sl27 : Array (Option Value)} {oc27 kV27 dc27 pm27 cd27 ct27 : Value} {f28 : Addr} {od28 an28 : Option Addr} {sl28 : Array (Option Value)} {oc28 kV28 dc28 pm28 cd28 ct28 : Value} {f29 : Addr} {od29 an29 : Option Addr} {sl29 : Array (Option Value)} {oc29 kV29 dc29 pm29 cd29 ct29 : Value} {f30 : Addr} {od30 an30 : Option Addr} {sl30 : Array (Option Value)} {oc30 kV30 dc30 pm30 cd30 ct30 : Value} {f31 : Addr} {od31 an31 : Option Addr} {sl31 : Array (Option Value)} {oc31 kV31 dc31 pm31 cd31 ct31 : Value} {f32 : Addr} {od32 an32 : Option Addr} {sl32 : Array (Option Value)} {oc32 kV32 dc32 pm32 cd32 ct32 : Value} {f33 : Addr} {od33 an33 : Option Addr} {sl33 : Array (Option Value)} {oc33 kV33 dc33 pm33 cd33 ct33 : Value} {f34 : Addr} {od34 an34 : Option Addr} {sl34 : Array (Option Value)} {oc34 kV34 dc34 pm34 cd34 ct34 : Value} {f35 : Addr} {od35 an35 : Option Addr} {sl35 : Array (Option Value)} {oc35 kV35 dc35 pm35 cd35 ct35 : Value} {f36 : Addr} {od36 an36 : Option Addr} {sl36 : Array (Option Value)} {oc36 kV36 dc36 pm36 cd36 ct36 : Value} {f37 : Addr} {od37 an37 : Option Addr} {sl37 : Array (Option Value)} {oc37 kV37 dc37 pm37 cd37 ct37 : Value} {f38 : Addr} {od38 an38 : Option Addr} {sl38 : Array (Option Value)} {oc38 kV38 dc38 pm38 cd38 ct38 : Value} {f39 : Addr} {od39 an39 : Option Addr} {sl39 : Array (Option Value)} {oc39 kV39 dc39 pm39 cd39 ct39 : Value} {f40 : Addr} {od40 an40 : Option Addr} {sl40 : Array (Option Value)} {oc40 kV40 dc40 pm40 cd40 ct40 : Value} {f41 : Addr} {od41 an41 : Option Addr} {sl41 : Array (Option Value)} {oc41 kV41 dc41 pm41 cd41 ct41 : Value} {f42 : Addr} {od42 an42 : Option Addr} {sl42 : Array (Option Value)} {oc42 kV42 dc42 pm42 cd42 ct42 : Value} {f43 : Addr} {od43 an43 : Option Addr} {sl43 : Array (Option Value)} {oc43 kV43 dc43 pm43 cd43 ct43 : Value} {f44 : Addr} {od44 an44 : Option Addr} {sl44 : Array (Option Value)} {oc44 kV44 dc44 pm44 cd44 ct44 : Value} {f45 : Addr} {od45 an45 : Option Addr} {sl45 : Array (Option Value)} {oc45 kV45 dc45 pm45 cd45 ct45 : Value} {f46 : Addr} {od46 an46 : Option Addr} {sl46 : Array (Option Value)} {oc46 kV46 dc46 pm46 cd46 ct46 : Value} {f47 : Addr} {od47 an47 : Option Addr} {sl47 : Array (Option Value)} {oc47 kV47 dc47 pm47 cd47 ct47 : Value} {f48 : Addr} {od48 an48 : Option Addr} {sl48 : Array (Option Value)} {oc48 kV48 dc48 pm48 cd48 ct48 : Value} {f49 : Addr} {od49 an49 : Option Addr} {sl49 : Array (Option Value)} {oc49 kV49 dc49 pm49 cd49 ct49 : Value} {f50 : Addr} {od50 an50 : Option Addr} {sl50 : Array (Option Value)} {oc50 kV50 dc50 pm50 cd50 ct50 : Value} {f51 : Addr} {od51 an51 : Option Addr} {sl51 : Array (Option Value)} {oc51 kV51 dc51 pm51 cd51 ct51 : Value} {f52 : Addr} {od52 an52 : Option Addr} {sl52 : Array (Option Value)} {oc52 kV52 dc52 pm52 cd52 ct52 : Value} {f53 : Addr} {od53 an53 : Option Addr} {sl53 : Array (Option Value)} {oc53 kV53 dc53 pm53 cd53 ct53 : Value} {f54 : Addr} {od54 an54 : Option Addr} {sl54 : Array (Option Value)} {oc54 kV54 dc54 pm54 cd54 ct54 : Value} {tk_LETTERS : Tok} {tk_BOUND : Tok} {tk_FIGURES : Tok} (X : K.In h) (G : h.Ns mainGlobals mg) (hfa : mg "law" = some (.ref fa))
    (aaBook : PySem.W.nsIn K mainGlobals "Book" = some (some (.ref ABook)))
    (aaPegError : PySem.W.nsIn K mainGlobals "PegError" = some (some (.ref APegError)))
    (aaNoSighting : PySem.W.nsIn K mainGlobals "NoSighting" = some (some (.ref ANoSighting)))
    (aaFull : PySem.W.nsIn K mainGlobals "Full" = some (some (.ref AFull)))
    (aaAgainst : PySem.W.nsIn K mainGlobals "Against" = some (some (.ref AAgainst)))
    (aaNoNumber : PySem.W.nsIn K mainGlobals "NoNumber" = some (some (.ref ANoNumber)))
    (aaNoWay : PySem.W.nsIn K mainGlobals "NoWay" = some (some (.ref ANoWay)))
    (aaNoText : PySem.W.nsIn K mainGlobals "NoText" = some (some (.ref ANoText)))
    (rxNoSighting : PySem.W.excIn K ANoSighting [.type "ValueError", .type "Exception", .type "BaseException", .type "object"] "ValueError.__new__" = true)
    (rxFull : PySem.W.excIn K AFull [.type "ValueError", .type "Exception", .type "BaseException", .type "object"] "ValueError.__new__" = true)
    (rxNoNumber : PySem.W.excIn K ANoNumber [.type "ValueError", .type "Exception", .type "BaseException", .type "object"] "ValueError.__new__" = true)
    (rxNoText : PySem.W.excIn K ANoText [.type "ValueError", .type "Exception", .type "BaseException", .type "object"] "ValueError.__new__" = true)
    (pg : PySem.W.plainGet K ABook Str.empty = true)
    (hd : PySem.W.hasDictIn K ABook = true)
    (po : PySem.W.plainOver K ABook = true)
    (sa : PySem.W.findIn K (.ref ABook) "__setattr__" = some (some (.builtin "object.__setattr__")))
    (mk : PySem.W.makesIn K ABook = true)
    (kc : PySem.W.keepIn K (.ref ABook) = true)
    (n1 : PySem.W.findIn K (.ref ABook) "most" = some none)
    (n2 : PySem.W.findIn K (.ref ABook) "taken" = some none)
    (n3 : PySem.W.findIn K (.ref ABook) "by_number" = some none)
    (bha : PySem.W.findIn K (.ref ABook) "__class__" = some (some (.builtin "object.__class__")))
    (bhm : PySem.W.mroIn K ABook (.type "object") = some true)
    (pB : PySem.W.subIn K (.ref APegError) (.type "BaseException") = some true)
    (pD : PySem.W.hasDictIn K APegError = true)
    (pT : PySem.W.typeIn K (.ref APegError) = some (.type "type"))
    (suNoSighting : PySem.W.subIn K (.ref ANoSighting) (.ref APegError) = some true)
    (kvNoSighting : PySem.W.subIn K (.ref ANoSighting) (.type "ValueError") = some true)
    (clNoSighting : PySem.W.isClsIn K ANoSighting = true)
    (tyNoSighting : PySem.W.typeIn K (.ref ANoSighting) = some (.type "type"))
    (ehgNoSighting : PySem.W.findIn K (.ref ANoSighting) "__getattribute__" = some (some (.builtin "BaseException.__getattribute__")))
    (ehkNoSighting : PySem.W.findIn K (.ref ANoSighting) "__getattr__" = some none)
    (ehsNoSighting : PySem.W.subIn K (.ref ANoSighting) (.type "BaseException") = some true)
    (ehdNoSighting : PySem.W.hasDictIn K ANoSighting = true)
    (ehaNoSighting : PySem.W.findIn K (.ref ANoSighting) "__class__" = some (some (.builtin "object.__class__")))
    (ehmNoSighting : PySem.W.mroIn K ANoSighting (.type "object") = some true)
    (kiNoSighting_NoSighting : PySem.W.subIn K (.ref ANoSighting) (.ref ANoSighting) = some true)
    (kiNoSighting_Full : PySem.W.subIn K (.ref ANoSighting) (.ref AFull) = some false)
    (kiNoSighting_Against : PySem.W.subIn K (.ref ANoSighting) (.ref AAgainst) = some false)
    (kiNoSighting_NoNumber : PySem.W.subIn K (.ref ANoSighting) (.ref ANoNumber) = some false)
    (kiNoSighting_NoWay : PySem.W.subIn K (.ref ANoSighting) (.ref ANoWay) = some false)
    (kiNoSighting_NoText : PySem.W.subIn K (.ref ANoSighting) (.ref ANoText) = some false)
    (suFull : PySem.W.subIn K (.ref AFull) (.ref APegError) = some true)
    (kvFull : PySem.W.subIn K (.ref AFull) (.type "ValueError") = some true)
    (clFull : PySem.W.isClsIn K AFull = true)
    (tyFull : PySem.W.typeIn K (.ref AFull) = some (.type "type"))
    (ehgFull : PySem.W.findIn K (.ref AFull) "__getattribute__" = some (some (.builtin "BaseException.__getattribute__")))
    (ehkFull : PySem.W.findIn K (.ref AFull) "__getattr__" = some none)
    (ehsFull : PySem.W.subIn K (.ref AFull) (.type "BaseException") = some true)
    (ehdFull : PySem.W.hasDictIn K AFull = true)
    (ehaFull : PySem.W.findIn K (.ref AFull) "__class__" = some (some (.builtin "object.__class__")))
    (ehmFull : PySem.W.mroIn K AFull (.type "object") = some true)
    (kiFull_NoSighting : PySem.W.subIn K (.ref AFull) (.ref ANoSighting) = some false)
    (kiFull_Full : PySem.W.subIn K (.ref AFull) (.ref AFull) = some true)
    (kiFull_Against : PySem.W.subIn K (.ref AFull) (.ref AAgainst) = some false)
    (kiFull_NoNumber : PySem.W.subIn K (.ref AFull) (.ref ANoNumber) = some false)
    (kiFull_NoWay : PySem.W.subIn K (.ref AFull) (.ref ANoWay) = some false)
    (kiFull_NoText : PySem.W.subIn K (.ref AFull) (.ref ANoText) = some false)
    (suAgainst : PySem.W.subIn K (.ref AAgainst) (.ref APegError) = some true)
    (kvAgainst : PySem.W.subIn K (.ref AAgainst) (.type "ValueError") = some true)
    (clAgainst : PySem.W.isClsIn K AAgainst = true)
    (tyAgainst : PySem.W.typeIn K (.ref AAgainst) = some (.type "type"))
    (ehgAgainst : PySem.W.findIn K (.ref AAgainst) "__getattribute__" = some (some (.builtin "BaseException.__getattribute__")))
    (ehkAgainst : PySem.W.findIn K (.ref AAgainst) "__getattr__" = some none)
    (ehsAgainst : PySem.W.subIn K (.ref AAgainst) (.type "BaseException") = some true)
    (ehdAgainst : PySem.W.hasDictIn K AAgainst = true)
    (ehaAgainst : PySem.W.findIn K (.ref AAgainst) "__class__" = some (some (.builtin "object.__class__")))
    (ehmAgainst : PySem.W.mroIn K AAgainst (.type "object") = some true)
    (kiAgainst_NoSighting : PySem.W.subIn K (.ref AAgainst) (.ref ANoSighting) = some false)
    (kiAgainst_Full : PySem.W.subIn K (.ref AAgainst) (.ref AFull) = some false)
    (kiAgainst_Against : PySem.W.subIn K (.ref AAgainst) (.ref AAgainst) = some true)
    (kiAgainst_NoNumber : PySem.W.subIn K (.ref AAgainst) (.ref ANoNumber) = some false)
    (kiAgainst_NoWay : PySem.W.subIn K (.ref AAgainst) (.ref ANoWay) = some false)
    (kiAgainst_NoText : PySem.W.subIn K (.ref AAgainst) (.ref ANoText) = some false)
    (suNoNumber : PySem.W.subIn K (.ref ANoNumber) (.ref APegError) = some true)
    (kvNoNumber : PySem.W.subIn K (.ref ANoNumber) (.type "ValueError") = some true)
    (clNoNumber : PySem.W.isClsIn K ANoNumber = true)
    (tyNoNumber : PySem.W.typeIn K (.ref ANoNumber) = some (.type "type"))
    (ehgNoNumber : PySem.W.findIn K (.ref ANoNumber) "__getattribute__" = some (some (.builtin "BaseException.__getattribute__")))
    (ehkNoNumber : PySem.W.findIn K (.ref ANoNumber) "__getattr__" = some none)
    (ehsNoNumber : PySem.W.subIn K (.ref ANoNumber) (.type "BaseException") = some true)
    (ehdNoNumber : PySem.W.hasDictIn K ANoNumber = true)
    (ehaNoNumber : PySem.W.findIn K (.ref ANoNumber) "__class__" = some (some (.builtin "object.__class__")))
    (ehmNoNumber : PySem.W.mroIn K ANoNumber (.type "object") = some true)
    (kiNoNumber_NoSighting : PySem.W.subIn K (.ref ANoNumber) (.ref ANoSighting) = some false)
    (kiNoNumber_Full : PySem.W.subIn K (.ref ANoNumber) (.ref AFull) = some false)
    (kiNoNumber_Against : PySem.W.subIn K (.ref ANoNumber) (.ref AAgainst) = some false)
    (kiNoNumber_NoNumber : PySem.W.subIn K (.ref ANoNumber) (.ref ANoNumber) = some true)
    (kiNoNumber_NoWay : PySem.W.subIn K (.ref ANoNumber) (.ref ANoWay) = some false)
    (kiNoNumber_NoText : PySem.W.subIn K (.ref ANoNumber) (.ref ANoText) = some false)
    (suNoWay : PySem.W.subIn K (.ref ANoWay) (.ref APegError) = some true)
    (kvNoWay : PySem.W.subIn K (.ref ANoWay) (.type "ValueError") = some true)
    (clNoWay : PySem.W.isClsIn K ANoWay = true)
    (tyNoWay : PySem.W.typeIn K (.ref ANoWay) = some (.type "type"))
    (ehgNoWay : PySem.W.findIn K (.ref ANoWay) "__getattribute__" = some (some (.builtin "BaseException.__getattribute__")))
    (ehkNoWay : PySem.W.findIn K (.ref ANoWay) "__getattr__" = some none)
    (ehsNoWay : PySem.W.subIn K (.ref ANoWay) (.type "BaseException") = some true)
    (ehdNoWay : PySem.W.hasDictIn K ANoWay = true)
    (ehaNoWay : PySem.W.findIn K (.ref ANoWay) "__class__" = some (some (.builtin "object.__class__")))
    (ehmNoWay : PySem.W.mroIn K ANoWay (.type "object") = some true)
    (kiNoWay_NoSighting : PySem.W.subIn K (.ref ANoWay) (.ref ANoSighting) = some false)
    (kiNoWay_Full : PySem.W.subIn K (.ref ANoWay) (.ref AFull) = some false)
    (kiNoWay_Against : PySem.W.subIn K (.ref ANoWay) (.ref AAgainst) = some false)
    (kiNoWay_NoNumber : PySem.W.subIn K (.ref ANoWay) (.ref ANoNumber) = some false)
    (kiNoWay_NoWay : PySem.W.subIn K (.ref ANoWay) (.ref ANoWay) = some true)
    (kiNoWay_NoText : PySem.W.subIn K (.ref ANoWay) (.ref ANoText) = some false)
    (suNoText : PySem.W.subIn K (.ref ANoText) (.ref APegError) = some true)
    (kvNoText : PySem.W.subIn K (.ref ANoText) (.type "ValueError") = some true)
    (clNoText : PySem.W.isClsIn K ANoText = true)
    (tyNoText : PySem.W.typeIn K (.ref ANoText) = some (.type "type"))
    (ehgNoText : PySem.W.findIn K (.ref ANoText) "__getattribute__" = some (some (.builtin "BaseException.__getattribute__")))
    (ehkNoText : PySem.W.findIn K (.ref ANoText) "__getattr__" = some none)
    (ehsNoText : PySem.W.subIn K (.ref ANoText) (.type "BaseException") = some true)
    (ehdNoText : PySem.W.hasDictIn K ANoText = true)
    (ehaNoText : PySem.W.findIn K (.ref ANoText) "__class__" = some (some (.builtin "object.__class__")))
    (ehmNoText : PySem.W.mroIn K ANoText (.type "object") = some true)
    (kiNoText_NoSighting : PySem.W.subIn K (.ref ANoText) (.ref ANoSighting) = some false)
    (kiNoText_Full : PySem.W.subIn K (.ref ANoText) (.ref AFull) = some false)
    (kiNoText_Against : PySem.W.subIn K (.ref ANoText) (.ref AAgainst) = some false)
    (kiNoText_NoNumber : PySem.W.subIn K (.ref ANoText) (.ref ANoNumber) = some false)
    (kiNoText_NoWay : PySem.W.subIn K (.ref ANoText) (.ref ANoWay) = some false)
    (kiNoText_NoText : PySem.W.subIn K (.ref ANoText) (.ref ANoText) = some true)
    (pC : PySem.W.isClsIn K APegError = true)
    (pS : PySem.W.subIn K (.ref APegError) (.ref APegError) = some true)
    (iRd : PySem.W.readsIn K APegError (.type "type") = true)
    (iGa : PySem.W.specialIn K (.ref APegError) "__getattribute__" = some (some (.builtin "type.__getattribute__")))
    (iVi : PySem.W.findCls K (.ref APegError) (.type "type") "__init__" = some (.val (.builtin "ValueError.__init__")))
    (oxKAgainst : K.lookup AAgainst = some (excClassObj oxnAgainst oxqAgainst AAgainst oxNAgainst oxbAgainst oxmAgainst true oxlAgainst oxsAgainst oxaAgainst oxcAgainst oxdAgainst ox0Against ox1Against ox2Against ox3Against ox5Against "ValueError.__new__"))
    (oxSAgainst : PySem.W.findIn K (.ref AAgainst) "__setattr__" = some (some (.builtin "object.__setattr__")))
    (oxPAgainst : PySem.W.keepIn K (.ref AAgainst) = true)
    (oxAAgainst : PySem.W.findIn K (.ref AAgainst) "trail" = some none)
    (oxKNoWay : K.lookup ANoWay = some (excClassObj oxnNoWay oxqNoWay ANoWay oxNNoWay oxbNoWay oxmNoWay true oxlNoWay oxsNoWay oxaNoWay oxcNoWay oxdNoWay ox0NoWay ox1NoWay ox2NoWay ox3NoWay ox5NoWay "ValueError.__new__"))
    (oxSNoWay : PySem.W.findIn K (.ref ANoWay) "__setattr__" = some (some (.builtin "object.__setattr__")))
    (oxPNoWay : PySem.W.keepIn K (.ref ANoWay) = true)
    (oxANoWay : PySem.W.findIn K (.ref ANoWay) "near" = some none)
    (ehn : PySem.W.specialIn K (.builtin "object.__class__") "__get__" = some (some (.builtin "getset_descriptor.__get__")))
    (eht : PySem.W.takesIn K (.builtin "object.__class__") = some true)
    (rkNoSighting : PySem.W.keepIn K (.ref ANoSighting) = true)
    (rtNoSighting : PySem.W.typeIn K (.ref ANoSighting) = some (.type "type"))
    (rkFull : PySem.W.keepIn K (.ref AFull) = true)
    (rtFull : PySem.W.typeIn K (.ref AFull) = some (.type "type"))
    (rkNoNumber : PySem.W.keepIn K (.ref ANoNumber) = true)
    (rtNoNumber : PySem.W.typeIn K (.ref ANoNumber) = some (.type "type"))
    (rkNoText : PySem.W.keepIn K (.ref ANoText) = true)
    (rtNoText : PySem.W.typeIn K (.ref ANoText) = some (.type "type"))
    (a0 : PySem.W.findIn K (.ref AAgainst) "__init__" = some (some (.ref f0))) (i0 : PySem.W.typeIn K (.ref f0) = some (.type "function"))
    (l0 : K.lookup f0 = some ⟨oc0, od0, .func (PySem.W.fnOf "__init__" "Against.__init__" (defArgs s_Against___init__) (defBody s_Against___init__) (defScope s_Against___init__) .none kV0 dc0 pm0 an0 cd0 ct0), sl0⟩) (c0 : PySem.W.codeIn K cd0 "Against.__init__" = true) (k0 : PySem.W.keepIn K (.ref f0) = true)
    (a1 : PySem.W.findIn K (.ref ANoWay) "__init__" = some (some (.ref f1))) (i1 : PySem.W.typeIn K (.ref f1) = some (.type "function"))
    (l1 : K.lookup f1 = some ⟨oc1, od1, .func (PySem.W.fnOf "__init__" "NoWay.__init__" (defArgs s_NoWay___init__) (defBody s_NoWay___init__) (defScope s_NoWay___init__) .none kV1 dc1 pm1 an1 cd1 ct1), sl1⟩) (c1 : PySem.W.codeIn K cd1 "NoWay.__init__" = true) (k1 : PySem.W.keepIn K (.ref f1) = true)
    (a2 : PySem.W.nsIn K mainGlobals "is_whole" = some (some (.ref f2)))
    (l2 : K.lookup f2 = some ⟨oc2, od2, .func (PySem.W.fnOf "is_whole" "is_whole" (defArgs s_is_whole) (defBody s_is_whole) (defScope s_is_whole) .none kV2 dc2 pm2 an2 cd2 ct2), sl2⟩) (c2 : PySem.W.codeIn K cd2 "is_whole" = true) (k2 : PySem.W.keepIn K (.ref f2) = true)
    (a3 : PySem.W.nsIn K mainGlobals "is_peg" = some (some (.ref f3)))
    (l3 : K.lookup f3 = some ⟨oc3, od3, .func (PySem.W.fnOf "is_peg" "is_peg" (defArgs s_is_peg) (defBody s_is_peg) (defScope s_is_peg) .none kV3 dc3 pm3 an3 cd3 ct3), sl3⟩) (c3 : PySem.W.codeIn K cd3 "is_peg" = true) (k3 : PySem.W.keepIn K (.ref f3) = true)
    (a4 : PySem.W.nsIn K mainGlobals "is_sighting" = some (some (.ref f4)))
    (l4 : K.lookup f4 = some ⟨oc4, od4, .func (PySem.W.fnOf "is_sighting" "is_sighting" (defArgs s_is_sighting) (defBody s_is_sighting) (defScope s_is_sighting) .none kV4 dc4 pm4 an4 cd4 ct4), sl4⟩) (c4 : PySem.W.codeIn K cd4 "is_sighting" = true) (k4 : PySem.W.keepIn K (.ref f4) = true)
    (a5 : PySem.W.nsIn K mainGlobals "row_turned" = some (some (.ref f5)))
    (l5 : K.lookup f5 = some ⟨oc5, od5, .func (PySem.W.fnOf "row_turned" "row_turned" (defArgs s_row_turned) (defBody s_row_turned) (defScope s_row_turned) .none kV5 dc5 pm5 an5 cd5 ct5), sl5⟩) (c5 : PySem.W.codeIn K cd5 "row_turned" = true) (k5 : PySem.W.keepIn K (.ref f5) = true)
    (a6 : PySem.W.nsIn K mainGlobals "total" = some (some (.ref f6)))
    (l6 : K.lookup f6 = some ⟨oc6, od6, .func (PySem.W.fnOf "total" "total" (defArgs s_total) (defBody s_total) (defScope s_total) .none kV6 dc6 pm6 an6 cd6 ct6), sl6⟩) (c6 : PySem.W.codeIn K cd6 "total" = true) (k6 : PySem.W.keepIn K (.ref f6) = true)
    (a7 : PySem.W.nsIn K mainGlobals "leaving" = some (some (.ref f7)))
    (l7 : K.lookup f7 = some ⟨oc7, od7, .func (PySem.W.fnOf "leaving" "leaving" (defArgs s_leaving) (defBody s_leaving) (defScope s_leaving) .none kV7 dc7 pm7 an7 cd7 ct7), sl7⟩) (c7 : PySem.W.codeIn K cd7 "leaving" = true) (k7 : PySem.W.keepIn K (.ref f7) = true)
    (a8 : PySem.W.nsIn K mainGlobals "reached" = some (some (.ref f8)))
    (l8 : K.lookup f8 = some ⟨oc8, od8, .func (PySem.W.fnOf "reached" "reached" (defArgs s_reached) (defBody s_reached) (defScope s_reached) .none kV8 dc8 pm8 an8 cd8 ct8), sl8⟩) (c8 : PySem.W.codeIn K cd8 "reached" = true) (k8 : PySem.W.keepIn K (.ref f8) = true)
    (a9 : PySem.W.nsIn K mainGlobals "way_along" = some (some (.ref f9)))
    (l9 : K.lookup f9 = some ⟨oc9, od9, .func (PySem.W.fnOf "way_along" "way_along" (defArgs s_way_along) (defBody s_way_along) (defScope s_way_along) .none kV9 dc9 pm9 an9 cd9 ct9), sl9⟩) (c9 : PySem.W.codeIn K cd9 "way_along" = true) (k9 : PySem.W.keepIn K (.ref f9) = true)
    (a10 : PySem.W.nsIn K mainGlobals "part_of" = some (some (.ref f10)))
    (l10 : K.lookup f10 = some ⟨oc10, od10, .func (PySem.W.fnOf "part_of" "part_of" (defArgs s_part_of) (defBody s_part_of) (defScope s_part_of) .none kV10 dc10 pm10 an10 cd10 ct10), sl10⟩) (c10 : PySem.W.codeIn K cd10 "part_of" = true) (k10 : PySem.W.keepIn K (.ref f10) = true)
    (a11 : PySem.W.findIn K (.ref ABook) "__init__" = some (some (.ref f11))) (i11 : PySem.W.isFn K (.ref f11) = true)
    (l11 : K.lookup f11 = some ⟨oc11, od11, .func (PySem.W.fnOf "__init__" "Book.__init__" (defArgs s_Book___init__) (defBody s_Book___init__) (defScope s_Book___init__) (.ref dT11) kV11 dc11 pm11 an11 cd11 ct11), sl11⟩) (c11 : PySem.W.codeIn K cd11 "Book.__init__" = true) (k11 : PySem.W.keepIn K (.ref f11) = true)
    (t11 : K.lookup dT11 = some ⟨dC11, dO11, .seq #[.int 200 dK11] dN11, dS11⟩)
    (a12 : PySem.W.findIn K (.ref ABook) "kept" = some (some (.ref f12))) (i12 : PySem.W.isFn K (.ref f12) = true)
    (l12 : K.lookup f12 = some ⟨oc12, od12, .func (PySem.W.fnOf "kept" "Book.kept" (defArgs s_Book_kept) (defBody s_Book_kept) (defScope s_Book_kept) .none kV12 dc12 pm12 an12 cd12 ct12), sl12⟩) (c12 : PySem.W.codeIn K cd12 "Book.kept" = true) (k12 : PySem.W.keepIn K (.ref f12) = true)
    (a13 : PySem.W.findIn K (.ref ABook) "take" = some (some (.ref f13))) (i13 : PySem.W.isFn K (.ref f13) = true)
    (l13 : K.lookup f13 = some ⟨oc13, od13, .func (PySem.W.fnOf "take" "Book.take" (defArgs s_Book_take) (defBody s_Book_take) (defScope s_Book_take) .none kV13 dc13 pm13 an13 cd13 ct13), sl13⟩) (c13 : PySem.W.codeIn K cd13 "Book.take" = true) (k13 : PySem.W.keepIn K (.ref f13) = true)
    (a14 : PySem.W.findIn K (.ref ABook) "row_by" = some (some (.ref f14))) (i14 : PySem.W.isFn K (.ref f14) = true)
    (l14 : K.lookup f14 = some ⟨oc14, od14, .func (PySem.W.fnOf "row_by" "Book.row_by" (defArgs s_Book_row_by) (defBody s_Book_row_by) (defScope s_Book_row_by) .none kV14 dc14 pm14 an14 cd14 ct14), sl14⟩) (c14 : PySem.W.codeIn K cd14 "Book.row_by" = true) (k14 : PySem.W.keepIn K (.ref f14) = true)
    (a15 : PySem.W.findIn K (.ref ABook) "drop" = some (some (.ref f15))) (i15 : PySem.W.isFn K (.ref f15) = true)
    (l15 : K.lookup f15 = some ⟨oc15, od15, .func (PySem.W.fnOf "drop" "Book.drop" (defArgs s_Book_drop) (defBody s_Book_drop) (defScope s_Book_drop) .none kV15 dc15 pm15 an15 cd15 ct15), sl15⟩) (c15 : PySem.W.codeIn K cd15 "Book.drop" = true) (k15 : PySem.W.keepIn K (.ref f15) = true)
    (a16 : PySem.W.findIn K (.ref ABook) "way" = some (some (.ref f16))) (i16 : PySem.W.isFn K (.ref f16) = true)
    (l16 : K.lookup f16 = some ⟨oc16, od16, .func (PySem.W.fnOf "way" "Book.way" (defArgs s_Book_way) (defBody s_Book_way) (defScope s_Book_way) .none kV16 dc16 pm16 an16 cd16 ct16), sl16⟩) (c16 : PySem.W.codeIn K cd16 "Book.way" = true) (k16 : PySem.W.keepIn K (.ref f16) = true)
    (a17 : PySem.W.findIn K (.ref ABook) "rise" = some (some (.ref f17))) (i17 : PySem.W.isFn K (.ref f17) = true)
    (l17 : K.lookup f17 = some ⟨oc17, od17, .func (PySem.W.fnOf "rise" "Book.rise" (defArgs s_Book_rise) (defBody s_Book_rise) (defScope s_Book_rise) .none kV17 dc17 pm17 an17 cd17 ct17), sl17⟩) (c17 : PySem.W.codeIn K cd17 "Book.rise" = true) (k17 : PySem.W.keepIn K (.ref f17) = true)
    (a18 : PySem.W.findIn K (.ref ABook) "parts" = some (some (.ref f18))) (i18 : PySem.W.isFn K (.ref f18) = true)
    (l18 : K.lookup f18 = some ⟨oc18, od18, .func (PySem.W.fnOf "parts" "Book.parts" (defArgs s_Book_parts) (defBody s_Book_parts) (defScope s_Book_parts) .none kV18 dc18 pm18 an18 cd18 ct18), sl18⟩) (c18 : PySem.W.codeIn K cd18 "Book.parts" = true) (k18 : PySem.W.keepIn K (.ref f18) = true)
    (a19 : PySem.W.findIn K (.ref ABook) "heights" = some (some (.ref f19))) (i19 : PySem.W.isFn K (.ref f19) = true)
    (l19 : K.lookup f19 = some ⟨oc19, od19, .func (PySem.W.fnOf "heights" "Book.heights" (defArgs s_Book_heights) (defBody s_Book_heights) (defScope s_Book_heights) .none kV19 dc19 pm19 an19 cd19 ct19), sl19⟩) (c19 : PySem.W.codeIn K cd19 "Book.heights" = true) (k19 : PySem.W.keepIn K (.ref f19) = true)
    (a20 : PySem.W.nsIn K mainGlobals "row_shown" = some (some (.ref f20)))
    (l20 : K.lookup f20 = some ⟨oc20, od20, .func (PySem.W.fnOf "row_shown" "row_shown" (defArgs s_row_shown) (defBody s_row_shown) (defScope s_row_shown) .none kV20 dc20 pm20 an20 cd20 ct20), sl20⟩) (c20 : PySem.W.codeIn K cd20 "row_shown" = true) (k20 : PySem.W.keepIn K (.ref f20) = true)
    (a21 : PySem.W.nsIn K mainGlobals "shown" = some (some (.ref f21)))
    (l21 : K.lookup f21 = some ⟨oc21, od21, .func (PySem.W.fnOf "shown" "shown" (defArgs s_shown) (defBody s_shown) (defScope s_shown) .none kV21 dc21 pm21 an21 cd21 ct21), sl21⟩) (c21 : PySem.W.codeIn K cd21 "shown" = true) (k21 : PySem.W.keepIn K (.ref f21) = true)
    (a22 : PySem.W.nsIn K mainGlobals "rise_of" = some (some (.ref f22)))
    (l22 : K.lookup f22 = some ⟨oc22, od22, .func (PySem.W.fnOf "rise_of" "rise_of" (defArgs s_rise_of) (defBody s_rise_of) (defScope s_rise_of) .none kV22 dc22 pm22 an22 cd22 ct22), sl22⟩) (c22 : PySem.W.codeIn K cd22 "rise_of" = true) (k22 : PySem.W.keepIn K (.ref f22) = true)
    (a23 : PySem.W.nsIn K mainGlobals "sighting_of" = some (some (.ref f23)))
    (l23 : K.lookup f23 = some ⟨oc23, od23, .func (PySem.W.fnOf "sighting_of" "sighting_of" (defArgs s_sighting_of) (defBody s_sighting_of) (defScope s_sighting_of) .none kV23 dc23 pm23 an23 cd23 ct23), sl23⟩) (c23 : PySem.W.codeIn K cd23 "sighting_of" = true) (k23 : PySem.W.keepIn K (.ref f23) = true)
    (a24 : PySem.W.nsIn K mainGlobals "read" = some (some (.ref f24)))
    (l24 : K.lookup f24 = some ⟨oc24, od24, .func (PySem.W.fnOf "read" "read" (defArgs s_read) (defBody s_read) (defScope s_read) (.ref dT24) kV24 dc24 pm24 an24 cd24 ct24), sl24⟩) (c24 : PySem.W.codeIn K cd24 "read" = true) (k24 : PySem.W.keepIn K (.ref f24) = true)
    (t24 : K.lookup dT24 = some ⟨dC24, dO24, .seq #[.int 200 dK24] dN24, dS24⟩)
    (a25 : PySem.W.nsIn K mainGlobals "_law_cell_at" = some (some (.ref f25)))
    (l25 : K.lookup f25 = some ⟨oc25, od25, .func (PySem.W.fnOf "_law_cell_at" "_law_cell_at" (defArgs s__law_cell_at) (defBody s__law_cell_at) (defScope s__law_cell_at) .none kV25 dc25 pm25 an25 cd25 ct25), sl25⟩) (c25 : PySem.W.codeIn K cd25 "_law_cell_at" = true) (k25 : PySem.W.keepIn K (.ref f25) = true)
    (a26 : PySem.W.nsIn K mainGlobals "_law_whole" = some (some (.ref f26)))
    (l26 : K.lookup f26 = some ⟨oc26, od26, .func (PySem.W.fnOf "_law_whole" "_law_whole" (defArgs s__law_whole) (defBody s__law_whole) (defScope s__law_whole) .none kV26 dc26 pm26 an26 cd26 ct26), sl26⟩) (c26 : PySem.W.codeIn K cd26 "_law_whole" = true) (k26 : PySem.W.keepIn K (.ref f26) = true)
    (a27 : PySem.W.nsIn K mainGlobals "_law_word" = some (some (.ref f27)))
    (l27 : K.lookup f27 = some ⟨oc27, od27, .func (PySem.W.fnOf "_law_word" "_law_word" (defArgs s__law_word) (defBody s__law_word) (defScope s__law_word) .none kV27 dc27 pm27 an27 cd27 ct27), sl27⟩) (c27 : PySem.W.codeIn K cd27 "_law_word" = true) (k27 : PySem.W.keepIn K (.ref f27) = true)
    (a28 : PySem.W.nsIn K mainGlobals "_law_pegs" = some (some (.ref f28)))
    (l28 : K.lookup f28 = some ⟨oc28, od28, .func (PySem.W.fnOf "_law_pegs" "_law_pegs" (defArgs s__law_pegs) (defBody s__law_pegs) (defScope s__law_pegs) .none kV28 dc28 pm28 an28 cd28 ct28), sl28⟩) (c28 : PySem.W.codeIn K cd28 "_law_pegs" = true) (k28 : PySem.W.keepIn K (.ref f28) = true)
    (a29 : PySem.W.nsIn K mainGlobals "_law_highs" = some (some (.ref f29)))
    (l29 : K.lookup f29 = some ⟨oc29, od29, .func (PySem.W.fnOf "_law_highs" "_law_highs" (defArgs s__law_highs) (defBody s__law_highs) (defScope s__law_highs) .none kV29 dc29 pm29 an29 cd29 ct29), sl29⟩) (c29 : PySem.W.codeIn K cd29 "_law_highs" = true) (k29 : PySem.W.keepIn K (.ref f29) = true)
    (a30 : PySem.W.nsIn K mainGlobals "_law_sighting" = some (some (.ref f30)))
    (l30 : K.lookup f30 = some ⟨oc30, od30, .func (PySem.W.fnOf "_law_sighting" "_law_sighting" (defArgs s__law_sighting) (defBody s__law_sighting) (defScope s__law_sighting) .none kV30 dc30 pm30 an30 cd30 ct30), sl30⟩) (c30 : PySem.W.codeIn K cd30 "_law_sighting" = true) (k30 : PySem.W.keepIn K (.ref f30) = true)
    (a31 : PySem.W.nsIn K mainGlobals "_law_lay" = some (some (.ref f31)))
    (l31 : K.lookup f31 = some ⟨oc31, od31, .func (PySem.W.fnOf "_law_lay" "_law_lay" (defArgs s__law_lay) (defBody s__law_lay) (defScope s__law_lay) .none kV31 dc31 pm31 an31 cd31 ct31), sl31⟩) (c31 : PySem.W.codeIn K cd31 "_law_lay" = true) (k31 : PySem.W.keepIn K (.ref f31) = true)
    (a32 : PySem.W.nsIn K mainGlobals "_law_tops" = some (some (.ref f32)))
    (l32 : K.lookup f32 = some ⟨oc32, od32, .func (PySem.W.fnOf "_law_tops" "_law_tops" (defArgs s__law_tops) (defBody s__law_tops) (defScope s__law_tops) .none kV32 dc32 pm32 an32 cd32 ct32), sl32⟩) (c32 : PySem.W.codeIn K cd32 "_law_tops" = true) (k32 : PySem.W.keepIn K (.ref f32) = true)
    (a33 : PySem.W.nsIn K mainGlobals "_law_gap" = some (some (.ref f33)))
    (l33 : K.lookup f33 = some ⟨oc33, od33, .func (PySem.W.fnOf "_law_gap" "_law_gap" (defArgs s__law_gap) (defBody s__law_gap) (defScope s__law_gap) .none kV33 dc33 pm33 an33 cd33 ct33), sl33⟩) (c33 : PySem.W.codeIn K cd33 "_law_gap" = true) (k33 : PySem.W.keepIn K (.ref f33) = true)
    (a34 : PySem.W.nsIn K mainGlobals "_law_step" = some (some (.ref f34)))
    (l34 : K.lookup f34 = some ⟨oc34, od34, .func (PySem.W.fnOf "_law_step" "_law_step" (defArgs s__law_step) (defBody s__law_step) (defScope s__law_step) .none kV34 dc34 pm34 an34 cd34 ct34), sl34⟩) (c34 : PySem.W.codeIn K cd34 "_law_step" = true) (k34 : PySem.W.keepIn K (.ref f34) = true)
    (a35 : PySem.W.nsIn K mainGlobals "_law_way" = some (some (.ref f35)))
    (l35 : K.lookup f35 = some ⟨oc35, od35, .func (PySem.W.fnOf "_law_way" "_law_way" (defArgs s__law_way) (defBody s__law_way) (defScope s__law_way) .none kV35 dc35 pm35 an35 cd35 ct35), sl35⟩) (c35 : PySem.W.codeIn K cd35 "_law_way" = true) (k35 : PySem.W.keepIn K (.ref f35) = true)
    (a36 : PySem.W.nsIn K mainGlobals "_law_kind" = some (some (.ref f36)))
    (l36 : K.lookup f36 = some ⟨oc36, od36, .func (PySem.W.fnOf "_law_kind" "_law_kind" (defArgs s__law_kind) (defBody s__law_kind) (defScope s__law_kind) .none kV36 dc36 pm36 an36 cd36 ct36), sl36⟩) (c36 : PySem.W.codeIn K cd36 "_law_kind" = true) (k36 : PySem.W.keepIn K (.ref f36) = true)
    (a37 : PySem.W.nsIn K mainGlobals "_law_rows" = some (some (.ref f37)))
    (l37 : K.lookup f37 = some ⟨oc37, od37, .func (PySem.W.fnOf "_law_rows" "_law_rows" (defArgs s__law_rows) (defBody s__law_rows) (defScope s__law_rows) .none kV37 dc37 pm37 an37 cd37 ct37), sl37⟩) (c37 : PySem.W.codeIn K cd37 "_law_rows" = true) (k37 : PySem.W.keepIn K (.ref f37) = true)
    (a38 : PySem.W.nsIn K mainGlobals "_law_part" = some (some (.ref f38)))
    (l38 : K.lookup f38 = some ⟨oc38, od38, .func (PySem.W.fnOf "_law_part" "_law_part" (defArgs s__law_part) (defBody s__law_part) (defScope s__law_part) .none kV38 dc38 pm38 an38 cd38 ct38), sl38⟩) (c38 : PySem.W.codeIn K cd38 "_law_part" = true) (k38 : PySem.W.keepIn K (.ref f38) = true)
    (a39 : PySem.W.nsIn K mainGlobals "_law_rise" = some (some (.ref f39)))
    (l39 : K.lookup f39 = some ⟨oc39, od39, .func (PySem.W.fnOf "_law_rise" "_law_rise" (defArgs s__law_rise) (defBody s__law_rise) (defScope s__law_rise) .none kV39 dc39 pm39 an39 cd39 ct39), sl39⟩) (c39 : PySem.W.codeIn K cd39 "_law_rise" = true) (k39 : PySem.W.keepIn K (.ref f39) = true)
    (a40 : PySem.W.nsIn K mainGlobals "_law_parts" = some (some (.ref f40)))
    (l40 : K.lookup f40 = some ⟨oc40, od40, .func (PySem.W.fnOf "_law_parts" "_law_parts" (defArgs s__law_parts) (defBody s__law_parts) (defScope s__law_parts) .none kV40 dc40 pm40 an40 cd40 ct40), sl40⟩) (c40 : PySem.W.codeIn K cd40 "_law_parts" = true) (k40 : PySem.W.keepIn K (.ref f40) = true)
    (a41 : PySem.W.nsIn K mainGlobals "_law_alike" = some (some (.ref f41)))
    (l41 : K.lookup f41 = some ⟨oc41, od41, .func (PySem.W.fnOf "_law_alike" "_law_alike" (defArgs s__law_alike) (defBody s__law_alike) (defScope s__law_alike) .none kV41 dc41 pm41 an41 cd41 ct41), sl41⟩) (c41 : PySem.W.codeIn K cd41 "_law_alike" = true) (k41 : PySem.W.keepIn K (.ref f41) = true)
    (a42 : PySem.W.nsIn K mainGlobals "_law_heights" = some (some (.ref f42)))
    (l42 : K.lookup f42 = some ⟨oc42, od42, .func (PySem.W.fnOf "_law_heights" "_law_heights" (defArgs s__law_heights) (defBody s__law_heights) (defScope s__law_heights) .none kV42 dc42 pm42 an42 cd42 ct42), sl42⟩) (c42 : PySem.W.codeIn K cd42 "_law_heights" = true) (k42 : PySem.W.keepIn K (.ref f42) = true)
    (a43 : PySem.W.nsIn K mainGlobals "_law_piece" = some (some (.ref f43)))
    (l43 : K.lookup f43 = some ⟨oc43, od43, .func (PySem.W.fnOf "_law_piece" "_law_piece" (defArgs s__law_piece) (defBody s__law_piece) (defScope s__law_piece) .none kV43 dc43 pm43 an43 cd43 ct43), sl43⟩) (c43 : PySem.W.codeIn K cd43 "_law_piece" = true) (k43 : PySem.W.keepIn K (.ref f43) = true)
    (a44 : PySem.W.nsIn K mainGlobals "_law_text" = some (some (.ref f44)))
    (l44 : K.lookup f44 = some ⟨oc44, od44, .func (PySem.W.fnOf "_law_text" "_law_text" (defArgs s__law_text) (defBody s__law_text) (defScope s__law_text) .none kV44 dc44 pm44 an44 cd44 ct44), sl44⟩) (c44 : PySem.W.codeIn K cd44 "_law_text" = true) (k44 : PySem.W.keepIn K (.ref f44) = true)
    (a45 : PySem.W.nsIn K mainGlobals "_law_kept" = some (some (.ref f45)))
    (l45 : K.lookup f45 = some ⟨oc45, od45, .func (PySem.W.fnOf "_law_kept" "_law_kept" (defArgs s__law_kept) (defBody s__law_kept) (defScope s__law_kept) .none kV45 dc45 pm45 an45 cd45 ct45), sl45⟩) (c45 : PySem.W.codeIn K cd45 "_law_kept" = true) (k45 : PySem.W.keepIn K (.ref f45) = true)
    (a46 : PySem.W.nsIn K mainGlobals "_law_told" = some (some (.ref f46)))
    (l46 : K.lookup f46 = some ⟨oc46, od46, .func (PySem.W.fnOf "_law_told" "_law_told" (defArgs s__law_told) (defBody s__law_told) (defScope s__law_told) .none kV46 dc46 pm46 an46 cd46 ct46), sl46⟩) (c46 : PySem.W.codeIn K cd46 "_law_told" = true) (k46 : PySem.W.keepIn K (.ref f46) = true)
    (a47 : PySem.W.nsIn K mainGlobals "_law_numbered" = some (some (.ref f47)))
    (l47 : K.lookup f47 = some ⟨oc47, od47, .func (PySem.W.fnOf "_law_numbered" "_law_numbered" (defArgs s__law_numbered) (defBody s__law_numbered) (defScope s__law_numbered) .none kV47 dc47 pm47 an47 cd47 ct47), sl47⟩) (c47 : PySem.W.codeIn K cd47 "_law_numbered" = true) (k47 : PySem.W.keepIn K (.ref f47) = true)
    (a48 : PySem.W.nsIn K mainGlobals "_law_due" = some (some (.ref f48)))
    (l48 : K.lookup f48 = some ⟨oc48, od48, .func (PySem.W.fnOf "_law_due" "_law_due" (defArgs s__law_due) (defBody s__law_due) (defScope s__law_due) .none kV48 dc48 pm48 an48 cd48 ct48), sl48⟩) (c48 : PySem.W.codeIn K cd48 "_law_due" = true) (k48 : PySem.W.keepIn K (.ref f48) = true)
    (a49 : PySem.W.nsIn K mainGlobals "_law_read" = some (some (.ref f49)))
    (l49 : K.lookup f49 = some ⟨oc49, od49, .func (PySem.W.fnOf "_law_read" "_law_read" (defArgs s__law_read) (defBody s__law_read) (defScope s__law_read) .none kV49 dc49 pm49 an49 cd49 ct49), sl49⟩) (c49 : PySem.W.codeIn K cd49 "_law_read" = true) (k49 : PySem.W.keepIn K (.ref f49) = true)
    (a50 : PySem.W.nsIn K mainGlobals "_law_refused" = some (some (.ref f50)))
    (l50 : K.lookup f50 = some ⟨oc50, od50, .func (PySem.W.fnOf "_law_refused" "_law_refused" (defArgs s__law_refused) (defBody s__law_refused) (defScope s__law_refused) .none kV50 dc50 pm50 an50 cd50 ct50), sl50⟩) (c50 : PySem.W.codeIn K cd50 "_law_refused" = true) (k50 : PySem.W.keepIn K (.ref f50) = true)
    (a51 : PySem.W.nsIn K mainGlobals "_law_reads" = some (some (.ref f51)))
    (l51 : K.lookup f51 = some ⟨oc51, od51, .func (PySem.W.fnOf "_law_reads" "_law_reads" (defArgs s__law_reads) (defBody s__law_reads) (defScope s__law_reads) .none kV51 dc51 pm51 an51 cd51 ct51), sl51⟩) (c51 : PySem.W.codeIn K cd51 "_law_reads" = true) (k51 : PySem.W.keepIn K (.ref f51) = true)
    (a52 : PySem.W.nsIn K mainGlobals "_law_odd_piece" = some (some (.ref f52)))
    (l52 : K.lookup f52 = some ⟨oc52, od52, .func (PySem.W.fnOf "_law_odd_piece" "_law_odd_piece" (defArgs s__law_odd_piece) (defBody s__law_odd_piece) (defScope s__law_odd_piece) .none kV52 dc52 pm52 an52 cd52 ct52), sl52⟩) (c52 : PySem.W.codeIn K cd52 "_law_odd_piece" = true) (k52 : PySem.W.keepIn K (.ref f52) = true)
    (a53 : PySem.W.nsIn K mainGlobals "_law_no_text" = some (some (.ref f53)))
    (l53 : K.lookup f53 = some ⟨oc53, od53, .func (PySem.W.fnOf "_law_no_text" "_law_no_text" (defArgs s__law_no_text) (defBody s__law_no_text) (defScope s__law_no_text) .none kV53 dc53 pm53 an53 cd53 ct53), sl53⟩) (c53 : PySem.W.codeIn K cd53 "_law_no_text" = true) (k53 : PySem.W.keepIn K (.ref f53) = true)
    (a54 : PySem.W.nsIn K mainGlobals "law" = some (some (.ref f54)))
    (l54 : K.lookup f54 = some ⟨oc54, od54, .func (PySem.W.fnOf "law" "law" (defArgs s_law) (defBody s_law) (defScope s_law) .none kV54 dc54 pm54 an54 cd54 ct54), sl54⟩) (c54 : PySem.W.codeIn K cd54 "law" = true) (k54 : PySem.W.keepIn K (.ref f54) = true)
    (z_int : PySem.W.nsIn K mainGlobals "int" = some none)
    (z_isinstance : PySem.W.nsIn K mainGlobals "isinstance" = some none)
    (z_bool : PySem.W.nsIn K mainGlobals "bool" = some none)
    (z_str : PySem.W.nsIn K mainGlobals "str" = some none)
    (z_len : PySem.W.nsIn K mainGlobals "len" = some none)
    (z_tuple : PySem.W.nsIn K mainGlobals "tuple" = some none)
    (z_abs : PySem.W.nsIn K mainGlobals "abs" = some none)
    (z_list : PySem.W.nsIn K mainGlobals "list" = some none)
    (z_reversed : PySem.W.nsIn K mainGlobals "reversed" = some none)
    (z_sorted : PySem.W.nsIn K mainGlobals "sorted" = some none)
    (z_range : PySem.W.nsIn K mainGlobals "range" = some none)
    (z_ValueError : PySem.W.nsIn K mainGlobals "ValueError" = some none)
    (z_sum : PySem.W.nsIn K mainGlobals "sum" = some none)
    (z_min : PySem.W.nsIn K mainGlobals "min" = some none)
    (z_LETTERS : PySem.W.nsIn K mainGlobals "LETTERS" = some (some (.str "abcdefghijklmnopqrstuvwxyz" tk_LETTERS)))
    (z_BOUND : PySem.W.nsIn K mainGlobals "BOUND" = some (some (.int (10 ^ 60) tk_BOUND)))
    (z_FIGURES : PySem.W.nsIn K mainGlobals "FIGURES" = some (some (.str "0123456789" tk_FIGURES)))
    (oxVAgainst : PySem.HandSPX.refsVE oxmAgainst = true)
    (oxVNoWay : PySem.HandSPX.refsVE oxmNoWay = true) :
    ∃ fd : FuncData, (∀ (s : Shared) (v : Value), BindsTo s fd ⟨[v], []⟩ [("_law_script", v)]) ∧ ∀ base : Heap, K.In base → base.Ns mainGlobals mg → FnOk l.prog w K mg base CX0 9 fa fd ["_law_script"] (sp_law K) := by
  have e := hfa.symm.trans (PySem.W.mg_of X G a54)
  cases e
  have M : Mg mg := ⟨PySem.W.mg_none_of X G z_int, PySem.W.mg_none_of X G z_isinstance, PySem.W.mg_none_of X G z_bool, PySem.W.mg_none_of X G z_str, PySem.W.mg_none_of X G z_len, PySem.W.mg_none_of X G z_tuple, PySem.W.mg_none_of X G z_abs, PySem.W.mg_none_of X G z_list, PySem.W.mg_none_of X G z_reversed, PySem.W.mg_none_of X G z_sorted, PySem.W.mg_none_of X G z_range, PySem.W.mg_none_of X G z_ValueError, PySem.W.mg_none_of X G z_sum, PySem.W.mg_none_of X G z_min, ⟨_, PySem.W.mg_of X G z_LETTERS⟩, ⟨_, PySem.W.mg_of X G z_BOUND⟩, ⟨_, PySem.W.mg_of X G z_FIGURES⟩⟩
  let A : Ad := ⟨ABook, APegError, ANoSighting, AFull, AAgainst, ANoNumber, ANoWay, ANoText⟩
  have T : Tx K A := ⟨⟨pg, hd, po, sa⟩, n1, n2, n3, fun e => (match e with | .sighting => suNoSighting | .full => suFull | .against => suAgainst | .number => suNoNumber | .way => suNoWay | .text => suNoText), pB, pD, pT, fun e => (match e with | .sighting => ⟨ehgNoSighting, ehkNoSighting, ehsNoSighting, ehdNoSighting, ehaNoSighting, ehn, eht, ehmNoSighting⟩ | .full => ⟨ehgFull, ehkFull, ehsFull, ehdFull, ehaFull, ehn, eht, ehmFull⟩ | .against => ⟨ehgAgainst, ehkAgainst, ehsAgainst, ehdAgainst, ehaAgainst, ehn, eht, ehmAgainst⟩ | .number => ⟨ehgNoNumber, ehkNoNumber, ehsNoNumber, ehdNoNumber, ehaNoNumber, ehn, eht, ehmNoNumber⟩ | .way => ⟨ehgNoWay, ehkNoWay, ehsNoWay, ehdNoWay, ehaNoWay, ehn, eht, ehmNoWay⟩ | .text => ⟨ehgNoText, ehkNoText, ehsNoText, ehdNoText, ehaNoText, ehn, eht, ehmNoText⟩), fun e c => (match e, c with | .sighting, .sighting => kit_ref clNoSighting tyNoSighting kiNoSighting_NoSighting kiNoSighting_NoSighting | .sighting, .full => kit_ref clFull tyFull kiNoSighting_Full kiFull_Full | .sighting, .against => kit_ref clAgainst tyAgainst kiNoSighting_Against kiAgainst_Against | .sighting, .number => kit_ref clNoNumber tyNoNumber kiNoSighting_NoNumber kiNoNumber_NoNumber | .sighting, .way => kit_ref clNoWay tyNoWay kiNoSighting_NoWay kiNoWay_NoWay | .sighting, .text => kit_ref clNoText tyNoText kiNoSighting_NoText kiNoText_NoText | .full, .sighting => kit_ref clNoSighting tyNoSighting kiFull_NoSighting kiNoSighting_NoSighting | .full, .full => kit_ref clFull tyFull kiFull_Full kiFull_Full | .full, .against => kit_ref clAgainst tyAgainst kiFull_Against kiAgainst_Against | .full, .number => kit_ref clNoNumber tyNoNumber kiFull_NoNumber kiNoNumber_NoNumber | .full, .way => kit_ref clNoWay tyNoWay kiFull_NoWay kiNoWay_NoWay | .full, .text => kit_ref clNoText tyNoText kiFull_NoText kiNoText_NoText | .against, .sighting => kit_ref clNoSighting tyNoSighting kiAgainst_NoSighting kiNoSighting_NoSighting | .against, .full => kit_ref clFull tyFull kiAgainst_Full kiFull_Full | .against, .against => kit_ref clAgainst tyAgainst kiAgainst_Against kiAgainst_Against | .against, .number => kit_ref clNoNumber tyNoNumber kiAgainst_NoNumber kiNoNumber_NoNumber | .against, .way => kit_ref clNoWay tyNoWay kiAgainst_NoWay kiNoWay_NoWay | .against, .text => kit_ref clNoText tyNoText kiAgainst_NoText kiNoText_NoText | .number, .sighting => kit_ref clNoSighting tyNoSighting kiNoNumber_NoSighting kiNoSighting_NoSighting | .number, .full => kit_ref clFull tyFull kiNoNumber_Full kiFull_Full | .number, .against => kit_ref clAgainst tyAgainst kiNoNumber_Against kiAgainst_Against | .number, .number => kit_ref clNoNumber tyNoNumber kiNoNumber_NoNumber kiNoNumber_NoNumber | .number, .way => kit_ref clNoWay tyNoWay kiNoNumber_NoWay kiNoWay_NoWay | .number, .text => kit_ref clNoText tyNoText kiNoNumber_NoText kiNoText_NoText | .way, .sighting => kit_ref clNoSighting tyNoSighting kiNoWay_NoSighting kiNoSighting_NoSighting | .way, .full => kit_ref clFull tyFull kiNoWay_Full kiFull_Full | .way, .against => kit_ref clAgainst tyAgainst kiNoWay_Against kiAgainst_Against | .way, .number => kit_ref clNoNumber tyNoNumber kiNoWay_NoNumber kiNoNumber_NoNumber | .way, .way => kit_ref clNoWay tyNoWay kiNoWay_NoWay kiNoWay_NoWay | .way, .text => kit_ref clNoText tyNoText kiNoWay_NoText kiNoText_NoText | .text, .sighting => kit_ref clNoSighting tyNoSighting kiNoText_NoSighting kiNoSighting_NoSighting | .text, .full => kit_ref clFull tyFull kiNoText_Full kiFull_Full | .text, .against => kit_ref clAgainst tyAgainst kiNoText_Against kiAgainst_Against | .text, .number => kit_ref clNoNumber tyNoNumber kiNoText_NoNumber kiNoNumber_NoNumber | .text, .way => kit_ref clNoWay tyNoWay kiNoText_NoWay kiNoWay_NoWay | .text, .text => kit_ref clNoText tyNoText kiNoText_NoText kiNoText_NoText), fun e => (match e with | .sighting => kit_ref pC pT suNoSighting pS | .full => kit_ref pC pT suFull pS | .against => kit_ref pC pT suAgainst pS | .number => kit_ref pC pT suNoNumber pS | .way => kit_ref pC pT suNoWay pS | .text => kit_ref pC pT suNoText pS), fun e => (match e with | .sighting => kit_tyV (by decide +kernel) kvNoSighting | .full => kit_tyV (by decide +kernel) kvFull | .against => kit_tyV (by decide +kernel) kvAgainst | .number => kit_tyV (by decide +kernel) kvNoNumber | .way => kit_tyV (by decide +kernel) kvNoWay | .text => kit_tyV (by decide +kernel) kvNoText), bha, bhm, PySem.W.exm_ref ehsFull ehdFull tyFull kiFull_Full, fun e c => (match e, c with | .sighting, .sighting => PySem.W.exm_ref ehsNoSighting ehdNoSighting tyNoSighting kiNoSighting_NoSighting | .sighting, .full => PySem.W.exm_ref ehsFull ehdFull tyFull kiNoSighting_Full | .sighting, .against => PySem.W.exm_ref ehsAgainst ehdAgainst tyAgainst kiNoSighting_Against | .sighting, .number => PySem.W.exm_ref ehsNoNumber ehdNoNumber tyNoNumber kiNoSighting_NoNumber | .sighting, .way => PySem.W.exm_ref ehsNoWay ehdNoWay tyNoWay kiNoSighting_NoWay | .sighting, .text => PySem.W.exm_ref ehsNoText ehdNoText tyNoText kiNoSighting_NoText | .full, .sighting => PySem.W.exm_ref ehsNoSighting ehdNoSighting tyNoSighting kiFull_NoSighting | .full, .full => PySem.W.exm_ref ehsFull ehdFull tyFull kiFull_Full | .full, .against => PySem.W.exm_ref ehsAgainst ehdAgainst tyAgainst kiFull_Against | .full, .number => PySem.W.exm_ref ehsNoNumber ehdNoNumber tyNoNumber kiFull_NoNumber | .full, .way => PySem.W.exm_ref ehsNoWay ehdNoWay tyNoWay kiFull_NoWay | .full, .text => PySem.W.exm_ref ehsNoText ehdNoText tyNoText kiFull_NoText | .against, .sighting => PySem.W.exm_ref ehsNoSighting ehdNoSighting tyNoSighting kiAgainst_NoSighting | .against, .full => PySem.W.exm_ref ehsFull ehdFull tyFull kiAgainst_Full | .against, .against => PySem.W.exm_ref ehsAgainst ehdAgainst tyAgainst kiAgainst_Against | .against, .number => PySem.W.exm_ref ehsNoNumber ehdNoNumber tyNoNumber kiAgainst_NoNumber | .against, .way => PySem.W.exm_ref ehsNoWay ehdNoWay tyNoWay kiAgainst_NoWay | .against, .text => PySem.W.exm_ref ehsNoText ehdNoText tyNoText kiAgainst_NoText | .number, .sighting => PySem.W.exm_ref ehsNoSighting ehdNoSighting tyNoSighting kiNoNumber_NoSighting | .number, .full => PySem.W.exm_ref ehsFull ehdFull tyFull kiNoNumber_Full | .number, .against => PySem.W.exm_ref ehsAgainst ehdAgainst tyAgainst kiNoNumber_Against | .number, .number => PySem.W.exm_ref ehsNoNumber ehdNoNumber tyNoNumber kiNoNumber_NoNumber | .number, .way => PySem.W.exm_ref ehsNoWay ehdNoWay tyNoWay kiNoNumber_NoWay | .number, .text => PySem.W.exm_ref ehsNoText ehdNoText tyNoText kiNoNumber_NoText | .way, .sighting => PySem.W.exm_ref ehsNoSighting ehdNoSighting tyNoSighting kiNoWay_NoSighting | .way, .full => PySem.W.exm_ref ehsFull ehdFull tyFull kiNoWay_Full | .way, .against => PySem.W.exm_ref ehsAgainst ehdAgainst tyAgainst kiNoWay_Against | .way, .number => PySem.W.exm_ref ehsNoNumber ehdNoNumber tyNoNumber kiNoWay_NoNumber | .way, .way => PySem.W.exm_ref ehsNoWay ehdNoWay tyNoWay kiNoWay_NoWay | .way, .text => PySem.W.exm_ref ehsNoText ehdNoText tyNoText kiNoWay_NoText | .text, .sighting => PySem.W.exm_ref ehsNoSighting ehdNoSighting tyNoSighting kiNoText_NoSighting | .text, .full => PySem.W.exm_ref ehsFull ehdFull tyFull kiNoText_Full | .text, .against => PySem.W.exm_ref ehsAgainst ehdAgainst tyAgainst kiNoText_Against | .text, .number => PySem.W.exm_ref ehsNoNumber ehdNoNumber tyNoNumber kiNoText_NoNumber | .text, .way => PySem.W.exm_ref ehsNoWay ehdNoWay tyNoWay kiNoText_NoWay | .text, .text => PySem.W.exm_ref ehsNoText ehdNoText tyNoText kiNoText_NoText), iRd, iGa, iVi, ⟨⟨_, _, _, _, _, _, _, _, _, _, _, _, _, _, _, oxKAgainst, oxVAgainst⟩, oxSAgainst, ehsAgainst, tyAgainst, oxPAgainst⟩, ⟨⟨_, _, _, _, _, _, _, _, _, _, _, _, _, _, _, oxKNoWay, oxVNoWay⟩, oxSNoWay, ehsNoWay, tyNoWay, oxPNoWay⟩, oxAAgainst, oxANoWay⟩
  have GX : Gx mg K A := ⟨PySem.W.mg_of X G aaBook, PySem.W.mg_of X G aaPegError, PySem.W.mg_of X G aaNoSighting, PySem.W.mg_of X G aaFull, PySem.W.mg_of X G aaAgainst, PySem.W.mg_of X G aaNoNumber, PySem.W.mg_of X G aaNoWay, PySem.W.mg_of X G aaNoText, rxNoSighting, rkNoSighting, ehsNoSighting, rtNoSighting, rxFull, rkFull, ehsFull, rtFull, rxNoNumber, rkNoNumber, ehsNoNumber, rtNoNumber, rxNoText, rkNoText, ehsNoText, rtNoText⟩
  have F0 := fun_mk (st := s_Against___init__) l0 c0 k0
  have b0 := F0.binds (ps := ["self", "trail"]) fun _ _ _ _ _ _ us hl => match us, hl with | [_, _], _ => rfl
  have F1 := fun_mk (st := s_NoWay___init__) l1 c1 k1
  have b1 := F1.binds (ps := ["self", "near"]) fun _ _ _ _ _ _ us hl => match us, hl with | [_, _], _ => rfl
  have F2 := fun_mk (st := s_is_whole) l2 c2 k2
  have b2 := F2.binds (ps := ["thing"]) fun _ _ _ _ _ _ us hl => match us, hl with | [_], _ => rfl
  have F3 := fun_mk (st := s_is_peg) l3 c3 k3
  have b3 := F3.binds (ps := ["thing"]) fun _ _ _ _ _ _ us hl => match us, hl with | [_], _ => rfl
  have F4 := fun_mk (st := s_is_sighting) l4 c4 k4
  have b4 := F4.binds (ps := ["thing"]) fun _ _ _ _ _ _ us hl => match us, hl with | [_], _ => rfl
  have F5 := fun_mk (st := s_row_turned) l5 c5 k5
  have b5 := F5.binds (ps := ["row"]) fun _ _ _ _ _ _ us hl => match us, hl with | [_], _ => rfl
  have F6 := fun_mk (st := s_total) l6 c6 k6
  have b6 := F6.binds (ps := ["steps"]) fun _ _ _ _ _ _ us hl => match us, hl with | [_], _ => rfl
  have F7 := fun_mk (st := s_leaving) l7 c7 k7
  have b7 := F7.binds (ps := ["rows"]) fun _ _ _ _ _ _ us hl => match us, hl with | [_], _ => rfl
  have F8 := fun_mk (st := s_reached) l8 c8 k8
  have b8 := F8.binds (ps := ["links", "one"]) fun _ _ _ _ _ _ us hl => match us, hl with | [_, _], _ => rfl
  have F9 := fun_mk (st := s_way_along) l9 c9 k9
  have b9 := F9.binds (ps := ["rows", "one", "other"]) fun _ _ _ _ _ _ us hl => match us, hl with | [_, _, _], _ => rfl
  have F10 := fun_mk (st := s_part_of) l10 c10 k10
  have b10 := F10.binds (ps := ["rows", "one"]) fun _ _ _ _ _ _ us hl => match us, hl with | [_, _], _ => rfl
  have F11 : FunD K "__init__" "Book.__init__" (defArgs s_Book___init__) (defBody s_Book___init__) (defScope s_Book___init__) [.int 200] [] f11 _ := ⟨⟨oc11, od11, .ref dT11, kV11, dc11, pm11, an11, cd11, ct11, sl11, rfl, l11, c11, .inr ⟨(fun z => nomatch z), dT11, _, [.int 200 dK11], dN11, rfl, t11, rfl, .cons ⟨_, rfl⟩ .nil⟩, .inl rfl⟩, k11⟩
  have bx11 := F11.binds1 (ps := ["self", "most"]) 1 0 (fun z => nomatch z) rfl (fun T kV doc pm an cdv ct us its hu hi => match us, its, hu, hi with | [_], [_], _, _ => ⟨_, rfl, rfl⟩)
  have by11 : Binds K _ ["self", "most"] [] := (by
    obtain ⟨ds, hv, hb⟩ := F11.binds1 (ps := ["self", "most"]) 2 1 (fun z => nomatch z) rfl (fun T kV doc pm an cdv ct us its hu hi => match us, its, hu, hi with | [_, _], [_], _, _ => ⟨_, rfl, rfl⟩)
    cases hv
    exact hb)
  have F12 := fun_mk (st := s_Book_kept) l12 c12 k12
  have b12 := F12.binds (ps := ["self"]) fun _ _ _ _ _ _ us hl => match us, hl with | [_], _ => rfl
  have F13 := fun_mk (st := s_Book_take) l13 c13 k13
  have b13 := F13.binds (ps := ["self", "one", "other", "rise"]) fun _ _ _ _ _ _ us hl => match us, hl with | [_, _, _, _], _ => rfl
  have F14 := fun_mk (st := s_Book_row_by) l14 c14 k14
  have b14 := F14.binds (ps := ["self", "number"]) fun _ _ _ _ _ _ us hl => match us, hl with | [_, _], _ => rfl
  have F15 := fun_mk (st := s_Book_drop) l15 c15 k15
  have b15 := F15.binds (ps := ["self", "number"]) fun _ _ _ _ _ _ us hl => match us, hl with | [_, _], _ => rfl
  have F16 := fun_mk (st := s_Book_way) l16 c16 k16
  have b16 := F16.binds (ps := ["self", "one", "other"]) fun _ _ _ _ _ _ us hl => match us, hl with | [_, _, _], _ => rfl
  have F17 := fun_mk (st := s_Book_rise) l17 c17 k17
  have b17 := F17.binds (ps := ["self", "one", "other"]) fun _ _ _ _ _ _ us hl => match us, hl with | [_, _, _], _ => rfl
  have F18 := fun_mk (st := s_Book_parts) l18 c18 k18
  have b18 := F18.binds (ps := ["self"]) fun _ _ _ _ _ _ us hl => match us, hl with | [_], _ => rfl
  have F19 := fun_mk (st := s_Book_heights) l19 c19 k19
  have b19 := F19.binds (ps := ["self"]) fun _ _ _ _ _ _ us hl => match us, hl with | [_], _ => rfl
  have F20 := fun_mk (st := s_row_shown) l20 c20 k20
  have b20 := F20.binds (ps := ["row"]) fun _ _ _ _ _ _ us hl => match us, hl with | [_], _ => rfl
  have F21 := fun_mk (st := s_shown) l21 c21 k21
  have b21 := F21.binds (ps := ["book"]) fun _ _ _ _ _ _ us hl => match us, hl with | [_], _ => rfl
  have F22 := fun_mk (st := s_rise_of) l22 c22 k22
  have b22 := F22.binds (ps := ["word"]) fun _ _ _ _ _ _ us hl => match us, hl with | [_], _ => rfl
  have F23 := fun_mk (st := s_sighting_of) l23 c23 k23
  have b23 := F23.binds (ps := ["text"]) fun _ _ _ _ _ _ us hl => match us, hl with | [_], _ => rfl
  have F24 : FunD K "read" "read" (defArgs s_read) (defBody s_read) (defScope s_read) [.int 200] [] f24 _ := ⟨⟨oc24, od24, .ref dT24, kV24, dc24, pm24, an24, cd24, ct24, sl24, rfl, l24, c24, .inr ⟨(fun z => nomatch z), dT24, _, [.int 200 dK24], dN24, rfl, t24, rfl, .cons ⟨_, rfl⟩ .nil⟩, .inl rfl⟩, k24⟩
  have bx24 := F24.binds1 (ps := ["text", "most"]) 1 0 (fun z => nomatch z) rfl (fun T kV doc pm an cdv ct us its hu hi => match us, its, hu, hi with | [_], [_], _, _ => ⟨_, rfl, rfl⟩)
  have by24 : Binds K _ ["text", "most"] [] := (by
    obtain ⟨ds, hv, hb⟩ := F24.binds1 (ps := ["text", "most"]) 2 1 (fun z => nomatch z) rfl (fun T kV doc pm an cdv ct us its hu hi => match us, its, hu, hi with | [_, _], [_], _, _ => ⟨_, rfl, rfl⟩)
    cases hv
    exact hb)
  have F25 := fun_mk (st := s__law_cell_at) l25 c25 k25
  have b25 := F25.binds (ps := ["_law_script", "_law_k"]) fun _ _ _ _ _ _ us hl => match us, hl with | [_, _], _ => rfl
  have F26 := fun_mk (st := s__law_whole) l26 c26 k26
  have b26 := F26.binds (ps := ["_law_found"]) fun _ _ _ _ _ _ us hl => match us, hl with | [_], _ => rfl
  have F27 := fun_mk (st := s__law_word) l27 c27 k27
  have b27 := F27.binds (ps := ["_law_number"]) fun _ _ _ _ _ _ us hl => match us, hl with | [_], _ => rfl
  have F28 := fun_mk (st := s__law_pegs) l28 c28 k28
  have b28 := F28.binds (ps := ["_law_cell", "_law_many"]) fun _ _ _ _ _ _ us hl => match us, hl with | [_, _], _ => rfl
  have F29 := fun_mk (st := s__law_highs) l29 c29 k29
  have b29 := F29.binds (ps := ["_law_some", "_law_cell"]) fun _ _ _ _ _ _ us hl => match us, hl with | [_, _], _ => rfl
  have F30 := fun_mk (st := s__law_sighting) l30 c30 k30
  have b30 := F30.binds (ps := ["_law_some", "_law_highs_here", "_law_cell", "_law_k"]) fun _ _ _ _ _ _ us hl => match us, hl with | [_, _, _, _], _ => rfl
  have F31 := fun_mk (st := s__law_lay) l31 c31 k31
  have b31 := F31.binds (ps := ["_law_tops_here", "_law_row"]) fun _ _ _ _ _ _ us hl => match us, hl with | [_, _], _ => rfl
  have F32 := fun_mk (st := s__law_tops) l32 c32 k32
  have b32 := F32.binds (ps := ["_law_rows_here"]) fun _ _ _ _ _ _ us hl => match us, hl with | [_], _ => rfl
  have F33 := fun_mk (st := s__law_gap) l33 c33 k33
  have b33 := F33.binds (ps := ["_law_tops_here", "_law_one", "_law_other"]) fun _ _ _ _ _ _ us hl => match us, hl with | [_, _, _], _ => rfl
  have F34 := fun_mk (st := s__law_step) l34 c34 k34
  have b34 := F34.binds (ps := ["_law_step_here", "_law_rows_here"]) fun _ _ _ _ _ _ us hl => match us, hl with | [_, _], _ => rfl
  have F35 := fun_mk (st := s__law_way) l35 c35 k35
  have b35 := F35.binds (ps := ["_law_found", "_law_rows_here", "_law_one", "_law_other"]) fun _ _ _ _ _ _ us hl => match us, hl with | [_, _, _, _], _ => rfl
  have F36 := fun_mk (st := s__law_kind) l36 c36 k36
  have b36 := F36.binds (ps := ["_law_e"]) fun _ _ _ _ _ _ us hl => match us, hl with | [_], _ => rfl
  have F37 := fun_mk (st := s__law_rows) l37 c37 k37
  have b37 := F37.binds (ps := ["_law_found", "_law_rows_here"]) fun _ _ _ _ _ _ us hl => match us, hl with | [_, _], _ => rfl
  have F38 := fun_mk (st := s__law_part) l38 c38 k38
  have b38 := F38.binds (ps := ["_law_tops_here", "_law_one"]) fun _ _ _ _ _ _ us hl => match us, hl with | [_, _], _ => rfl
  have F39 := fun_mk (st := s__law_rise) l39 c39 k39
  have b39 := F39.binds (ps := ["_law_book", "_law_tops_here", "_law_one", "_law_other"]) fun _ _ _ _ _ _ us hl => match us, hl with | [_, _, _, _], _ => rfl
  have F40 := fun_mk (st := s__law_parts) l40 c40 k40
  have b40 := F40.binds (ps := ["_law_tops_here"]) fun _ _ _ _ _ _ us hl => match us, hl with | [_], _ => rfl
  have F41 := fun_mk (st := s__law_alike) l41 c41 k41
  have b41 := F41.binds (ps := ["_law_found", "_law_due_here"]) fun _ _ _ _ _ _ us hl => match us, hl with | [_, _], _ => rfl
  have F42 := fun_mk (st := s__law_heights) l42 c42 k42
  have b42 := F42.binds (ps := ["_law_found", "_law_rows_here", "_law_tops_here"]) fun _ _ _ _ _ _ us hl => match us, hl with | [_, _, _], _ => rfl
  have F43 := fun_mk (st := s__law_piece) l43 c43 k43
  have b43 := F43.binds (ps := ["_law_sighting_here"]) fun _ _ _ _ _ _ us hl => match us, hl with | [_], _ => rfl
  have F44 := fun_mk (st := s__law_text) l44 c44 k44
  have b44 := F44.binds (ps := ["_law_rows_here"]) fun _ _ _ _ _ _ us hl => match us, hl with | [_], _ => rfl
  have F45 := fun_mk (st := s__law_kept) l45 c45 k45
  have b45 := F45.binds (ps := ["_law_book", "_law_sightings", "_law_cells"]) fun _ _ _ _ _ _ us hl => match us, hl with | [_, _, _], _ => rfl
  have F46 := fun_mk (st := s__law_told) l46 c46 k46
  have b46 := F46.binds (ps := ["_law_book", "_law_rows_here", "_law_some", "_law_cell"]) fun _ _ _ _ _ _ us hl => match us, hl with | [_, _, _, _], _ => rfl
  have F47 := fun_mk (st := s__law_numbered) l47 c47 k47
  have b47 := F47.binds (ps := ["_law_sightings"]) fun _ _ _ _ _ _ us hl => match us, hl with | [_], _ => rfl
  have F48 := fun_mk (st := s__law_due) l48 c48 k48
  have b48 := F48.binds (ps := ["_law_sightings", "_law_most"]) fun _ _ _ _ _ _ us hl => match us, hl with | [_, _], _ => rfl
  have F49 := fun_mk (st := s__law_read) l49 c49 k49
  have b49 := F49.binds (ps := ["_law_text_here", "_law_most"]) fun _ _ _ _ _ _ us hl => match us, hl with | [_, _], _ => rfl
  have F50 := fun_mk (st := s__law_refused) l50 c50 k50
  have b50 := F50.binds (ps := ["_law_text_here", "_law_most", "_law_due_here"]) fun _ _ _ _ _ _ us hl => match us, hl with | [_, _, _], _ => rfl
  have F51 := fun_mk (st := s__law_reads) l51 c51 k51
  have b51 := F51.binds (ps := ["_law_sightings", "_law_most", "_law_some", "_law_cell"]) fun _ _ _ _ _ _ us hl => match us, hl with | [_, _, _, _], _ => rfl
  have F52 := fun_mk (st := s__law_odd_piece) l52 c52 k52
  have b52 := F52.binds (ps := ["_law_one", "_law_other", "_law_cell"]) fun _ _ _ _ _ _ us hl => match us, hl with | [_, _, _], _ => rfl
  have F53 := fun_mk (st := s__law_no_text) l53 c53 k53
  have b53 := F53.binds (ps := ["_law_sightings", "_law_most", "_law_some", "_law_cell"]) fun _ _ _ _ _ _ us hl => match us, hl with | [_, _, _, _], _ => rfl
  have F54 := fun_mk (st := s_law) l54 c54 k54
  have b54 := F54.binds (ps := ["_law_script"]) fun _ _ _ _ _ _ us hl => match us, hl with | [_], _ => rfl
  refine ⟨PySem.W.fnOf "law" "law" (defArgs s_law) (defBody s_law) (defScope s_law) .none kV54 dc54 pm54 an54 cd54 ct54, fun s v => .of_eq rfl, fun base _ _ => ?_⟩
  have C_Against___init__ := ok_Against___init__ (P := l.prog) (w := w) (base := base) F0 a0 i0 b0 M GX T 
  have C_NoWay___init__ := ok_NoWay___init__ (P := l.prog) (w := w) (base := base) F1 a1 i1 b1 M GX T 
  have C_is_whole := ok_is_whole (P := l.prog) (w := w) (base := base) F2 (PySem.W.mg_of X G a2) b2 M 
  have C_is_peg := ok_is_peg (P := l.prog) (w := w) (base := base) F3 (PySem.W.mg_of X G a3) b3 M 
  have C_is_sighting := ok_is_sighting (P := l.prog) (w := w) (base := base) F4 (PySem.W.mg_of X G a4) b4 M C_is_peg C_is_whole
  have C_row_turned := ok_row_turned (P := l.prog) (w := w) (base := base) F5 (PySem.W.mg_of X G a5) b5 M 
  have C_total := ok_total (P := l.prog) (w := w) (base := base) F6 (PySem.W.mg_of X G a6) b6 M 
  have C_leaving := ok_leaving (P := l.prog) (w := w) (base := base) F7 (PySem.W.mg_of X G a7) b7 M C_row_turned
  have C_reached := ok_reached (P := l.prog) (w := w) (base := base) F8 (PySem.W.mg_of X G a8) b8 M 
  have C_way_along := ok_way_along (P := l.prog) (w := w) (base := base) F9 (PySem.W.mg_of X G a9) b9 M C_reached C_leaving
  have C_part_of := ok_part_of (P := l.prog) (w := w) (base := base) F10 (PySem.W.mg_of X G a10) b10 M C_reached C_leaving
  have C_Book___init__ := ok_Book___init__ (P := l.prog) (w := w) (base := base) F11 ⟨mk, a11, i11, kc⟩ by11 bx11 M GX T 
  have C_Book_kept := ok_Book_kept (P := l.prog) (w := w) (base := base) F12 ⟨a12, i12, k12⟩ b12 M GX T 
  have C_Book_take := ok_Book_take (P := l.prog) (w := w) (base := base) F13 ⟨a13, i13, k13⟩ b13 M GX T C_is_sighting C_way_along C_Book_kept C_total C_Against___init__
  have C_Book_row_by := ok_Book_row_by (P := l.prog) (w := w) (base := base) F14 ⟨a14, i14, k14⟩ b14 M GX T C_is_whole
  have C_Book_drop := ok_Book_drop (P := l.prog) (w := w) (base := base) F15 ⟨a15, i15, k15⟩ b15 M GX T C_Book_row_by
  have C_Book_way := ok_Book_way (P := l.prog) (w := w) (base := base) F16 ⟨a16, i16, k16⟩ b16 M GX T C_is_peg C_Book_kept C_way_along C_part_of C_NoWay___init__
  have C_Book_rise := ok_Book_rise (P := l.prog) (w := w) (base := base) F17 ⟨a17, i17, k17⟩ b17 M GX T C_total C_Book_way
  have C_Book_parts := ok_Book_parts (P := l.prog) (w := w) (base := base) F18 ⟨a18, i18, k18⟩ b18 M GX T C_leaving C_Book_kept C_reached
  have C_Book_heights := ok_Book_heights (P := l.prog) (w := w) (base := base) F19 ⟨a19, i19, k19⟩ b19 M GX T C_leaving C_Book_kept C_reached
  have C_row_shown := ok_row_shown (P := l.prog) (w := w) (base := base) F20 (PySem.W.mg_of X G a20) b20 M 
  have C_shown := ok_shown (P := l.prog) (w := w) (base := base) F21 (PySem.W.mg_of X G a21) b21 M GX T C_Book_kept C_row_shown
  have C_rise_of := ok_rise_of (P := l.prog) (w := w) (base := base) F22 (PySem.W.mg_of X G a22) b22 M GX T 
  have C_sighting_of := ok_sighting_of (P := l.prog) (w := w) (base := base) F23 (PySem.W.mg_of X G a23) b23 M GX T C_is_peg C_rise_of
  have C_read := ok_read (P := l.prog) (w := w) (base := base) F24 (PySem.W.mg_of X G a24) by24 bx24 M GX T C_sighting_of C_Book___init__ C_Book_take
  have C__law_cell_at := ok__law_cell_at (P := l.prog) (w := w) (base := base) F25 (PySem.W.mg_of X G a25) b25 M 
  have C__law_whole := ok__law_whole (P := l.prog) (w := w) (base := base) F26 (PySem.W.mg_of X G a26) b26 M 
  have C__law_word := ok__law_word (P := l.prog) (w := w) (base := base) F27 (PySem.W.mg_of X G a27) b27 M 
  have C__law_pegs := ok__law_pegs (P := l.prog) (w := w) (base := base) F28 (PySem.W.mg_of X G a28) b28 M C__law_word
  have C__law_highs := ok__law_highs (P := l.prog) (w := w) (base := base) F29 (PySem.W.mg_of X G a29) b29 M 
  have C__law_sighting := ok__law_sighting (P := l.prog) (w := w) (base := base) F30 (PySem.W.mg_of X G a30) b30 M 
  have C__law_lay := ok__law_lay (P := l.prog) (w := w) (base := base) F31 (PySem.W.mg_of X G a31) b31 M 
  have C__law_tops := ok__law_tops (P := l.prog) (w := w) (base := base) F32 (PySem.W.mg_of X G a32) b32 M C__law_lay
  have C__law_gap := ok__law_gap (P := l.prog) (w := w) (base := base) F33 (PySem.W.mg_of X G a33) b33 M 
  have C__law_step := ok__law_step (P := l.prog) (w := w) (base := base) F34 (PySem.W.mg_of X G a34) b34 M C__law_whole
  have C__law_way := ok__law_way (P := l.prog) (w := w) (base := base) F35 (PySem.W.mg_of X G a35) b35 M C__law_step
  have C__law_kind := ok__law_kind (P := l.prog) (w := w) (base := base) F36 (PySem.W.mg_of X G a36) b36 M GX T 
  have C__law_rows := ok__law_rows (P := l.prog) (w := w) (base := base) F37 (PySem.W.mg_of X G a37) b37 M C__law_whole
  have C__law_part := ok__law_part (P := l.prog) (w := w) (base := base) F38 (PySem.W.mg_of X G a38) b38 M 
  have C__law_rise := ok__law_rise (P := l.prog) (w := w) (base := base) F39 (PySem.W.mg_of X G a39) b39 M GX T C__law_gap C_Book_rise C__law_kind C__law_part C__law_whole
  have C__law_parts := ok__law_parts (P := l.prog) (w := w) (base := base) F40 (PySem.W.mg_of X G a40) b40 M C__law_part
  have C__law_alike := ok__law_alike (P := l.prog) (w := w) (base := base) F41 (PySem.W.mg_of X G a41) b41 M 
  have C__law_heights := ok__law_heights (P := l.prog) (w := w) (base := base) F42 (PySem.W.mg_of X G a42) b42 M C__law_whole C__law_parts
  have C__law_piece := ok__law_piece (P := l.prog) (w := w) (base := base) F43 (PySem.W.mg_of X G a43) b43 M 
  have C__law_text := ok__law_text (P := l.prog) (w := w) (base := base) F44 (PySem.W.mg_of X G a44) b44 M C__law_piece
  have C__law_kept := ok__law_kept (P := l.prog) (w := w) (base := base) F45 (PySem.W.mg_of X G a45) b45 M GX T C__law_gap C_Book_take C__law_lay C_Book_drop C__law_tops
  have C__law_told := ok__law_told (P := l.prog) (w := w) (base := base) F46 (PySem.W.mg_of X G a46) b46 M GX T C__law_tops C__law_rows C_Book_kept C__law_heights C_Book_heights C__law_alike C__law_parts C_Book_parts C__law_rise C_shown C__law_text
  have C__law_numbered := ok__law_numbered (P := l.prog) (w := w) (base := base) F47 (PySem.W.mg_of X G a47) b47 M 
  have C__law_due := ok__law_due (P := l.prog) (w := w) (base := base) F48 (PySem.W.mg_of X G a48) b48 M C__law_gap C__law_lay
  have C__law_read := ok__law_read (P := l.prog) (w := w) (base := base) F49 (PySem.W.mg_of X G a49) b49 M GX T C_read
  have C__law_refused := ok__law_refused (P := l.prog) (w := w) (base := base) F50 (PySem.W.mg_of X G a50) b50 M GX T C__law_read C__law_kind C__law_way
  have C__law_reads := ok__law_reads (P := l.prog) (w := w) (base := base) F51 (PySem.W.mg_of X G a51) b51 M GX T C__law_due C__law_piece C__law_refused C__law_told C__law_read
  have C__law_odd_piece := ok__law_odd_piece (P := l.prog) (w := w) (base := base) F52 (PySem.W.mg_of X G a52) b52 M 
  have C__law_no_text := ok__law_no_text (P := l.prog) (w := w) (base := base) F53 (PySem.W.mg_of X G a53) b53 M GX T C__law_piece C__law_odd_piece C__law_refused
  exact fn_law F54 M GX T C__law_pegs C__law_cell_at C__law_highs C__law_sighting C_Book___init__ C__law_kept C__law_told C_read C__law_text C__law_numbered C__law_reads C__law_no_text
theorem walk {l : PySem.W.OpenLaw} {q : Program} {loose : List Str} {XP : (Str → Option Value) → Heap → Prop} {YP : World → Heap → Prop} {d : DefRec} {K : Params → PySem.W.Frag} (hn : l.most = some 63) (hdf : d.params.defaults = [])
    (hY : ∀ (w : World) (h : Heap), YP w h → (K w.params).In h)
    (F : ∀ (w : World) (mg : Str → Option Value) (fa : Addr) (h : Heap), (K w.params).In h → h.Ns mainGlobals mg → mg d.name = some (.ref fa) →
      ∃ fd : FuncData, (∀ (s : Shared) (u : Value), BindsTo s fd ⟨[u], []⟩ [("_law_script", u)]) ∧ ∀ base : Heap, (K w.params).In base → base.Ns mainGlobals mg → FnOk l.prog w (K w.params) mg base CX0 9 fa fd ["_law_script"] (sp_law (K w.params))) :
    PySem.W.WalkO q loose XP YP l.row.toRowW d [] (fun f vs => PySem.call f vs) :=
  L2.walk_of (n := 63) (k := 9) (x := "_law_script") (CX := fun _ => CX0) (sp := fun w => sp_law (K w.params)) hn (by decide) hdf ⟨rfl, by decide, by decide⟩ hY F (fun _ _ a ns hl _ hS => ⟨a, ns, rfl, hS, hl, fun _ => rfl⟩) fun _ _ _ _ _ z => z
end Peg
open PySem PySem.W PyProof.Rows
set_option maxRecDepth 100000 in
set_option maxHeartbeats 0 in
theorem PySem.Challenge.cw_pegrise_k10_whole_written_and_read_holds : PySem.Challenge.rw_pegrise_k10_whole_written_and_read.Holds := by
  w_on; o_law; k_head; (case hw => w_witness2)
  k_fill
  refine Peg.walk (l := PySem.Challenge.rw_pegrise_k10_whole_written_and_read) rfl rfl (fun w h Y => PySem.W.kIn_of Y) ?F
  case F =>
    intro w mg fa h KX G hmg
    refine' Peg.all_mk KX G hmg ?aaBook ?aaPegError ?aaNoSighting ?aaFull ?aaAgainst ?aaNoNumber ?aaNoWay ?aaNoText ?rxNoSighting ?rxFull ?rxNoNumber ?rxNoText ?pg ?hd ?po ?sa ?mk ?kc ?n1 ?n2 ?n3 ?bha ?bhm ?pB ?pD ?pT ?suNoSighting ?kvNoSighting ?clNoSighting ?tyNoSighting ?ehgNoSighting ?ehkNoSighting ?ehsNoSighting ?ehdNoSighting ?ehaNoSighting ?ehmNoSighting ?kiNoSighting_NoSighting ?kiNoSighting_Full ?kiNoSighting_Against ?kiNoSighting_NoNumber ?kiNoSighting_NoWay ?kiNoSighting_NoText ?suFull ?kvFull ?clFull ?tyFull ?ehgFull ?ehkFull ?ehsFull ?ehdFull ?ehaFull ?ehmFull ?kiFull_NoSighting ?kiFull_Full ?kiFull_Against ?kiFull_NoNumber ?kiFull_NoWay ?kiFull_NoText ?suAgainst ?kvAgainst ?clAgainst ?tyAgainst ?ehgAgainst ?ehkAgainst ?ehsAgainst ?ehdAgainst ?ehaAgainst ?ehmAgainst ?kiAgainst_NoSighting ?kiAgainst_Full ?kiAgainst_Against ?kiAgainst_NoNumber ?kiAgainst_NoWay ?kiAgainst_NoText ?suNoNumber ?kvNoNumber ?clNoNumber ?tyNoNumber ?ehgNoNumber ?ehkNoNumber ?ehsNoNumber ?ehdNoNumber ?ehaNoNumber ?ehmNoNumber ?kiNoNumber_NoSighting ?kiNoNumber_Full ?kiNoNumber_Against ?kiNoNumber_NoNumber ?kiNoNumber_NoWay ?kiNoNumber_NoText ?suNoWay ?kvNoWay ?clNoWay ?tyNoWay ?ehgNoWay ?ehkNoWay ?ehsNoWay ?ehdNoWay ?ehaNoWay ?ehmNoWay ?kiNoWay_NoSighting ?kiNoWay_Full ?kiNoWay_Against ?kiNoWay_NoNumber ?kiNoWay_NoWay ?kiNoWay_NoText ?suNoText ?kvNoText ?clNoText ?tyNoText ?ehgNoText ?ehkNoText ?ehsNoText ?ehdNoText ?ehaNoText ?ehmNoText ?kiNoText_NoSighting ?kiNoText_Full ?kiNoText_Against ?kiNoText_NoNumber ?kiNoText_NoWay ?kiNoText_NoText ?pC ?pS ?iRd ?iGa ?iVi ?oxKAgainst ?oxSAgainst ?oxPAgainst ?oxAAgainst ?oxKNoWay ?oxSNoWay ?oxPNoWay ?oxANoWay ?ehn ?eht ?rkNoSighting ?rtNoSighting ?rkFull ?rtFull ?rkNoNumber ?rtNoNumber ?rkNoText ?rtNoText ?a0 ?i0 ?l0 ?c0 ?k0 ?a1 ?i1 ?l1 ?c1 ?k1 ?a2 ?l2 ?c2 ?k2 ?a3 ?l3 ?c3 ?k3 ?a4 ?l4 ?c4 ?k4 ?a5 ?l5 ?c5 ?k5 ?a6 ?l6 ?c6 ?k6 ?a7 ?l7 ?c7 ?k7 ?a8 ?l8 ?c8 ?k8 ?a9 ?l9 ?c9 ?k9 ?a10 ?l10 ?c10 ?k10 ?a11 ?i11 ?l11 ?c11 ?k11 ?t11 ?a12 ?i12 ?l12 ?c12 ?k12 ?a13 ?i13 ?l13 ?c13 ?k13 ?a14 ?i14 ?l14 ?c14 ?k14 ?a15 ?i15 ?l15 ?c15 ?k15 ?a16 ?i16 ?l16 ?c16 ?k16 ?a17 ?i17 ?l17 ?c17 ?k17 ?a18 ?i18 ?l18 ?c18 ?k18 ?a19 ?i19 ?l19 ?c19 ?k19 ?a20 ?l20 ?c20 ?k20 ?a21 ?l21 ?c21 ?k21 ?a22 ?l22 ?c22 ?k22 ?a23 ?l23 ?c23 ?k23 ?a24 ?l24 ?c24 ?k24 ?t24 ?a25 ?l25 ?c25 ?k25 ?a26 ?l26 ?c26 ?k26 ?a27 ?l27 ?c27 ?k27 ?a28 ?l28 ?c28 ?k28 ?a29 ?l29 ?c29 ?k29 ?a30 ?l30 ?c30 ?k30 ?a31 ?l31 ?c31 ?k31 ?a32 ?l32 ?c32 ?k32 ?a33 ?l33 ?c33 ?k33 ?a34 ?l34 ?c34 ?k34 ?a35 ?l35 ?c35 ?k35 ?a36 ?l36 ?c36 ?k36 ?a37 ?l37 ?c37 ?k37 ?a38 ?l38 ?c38 ?k38 ?a39 ?l39 ?c39 ?k39 ?a40 ?l40 ?c40 ?k40 ?a41 ?l41 ?c41 ?k41 ?a42 ?l42 ?c42 ?k42 ?a43 ?l43 ?c43 ?k43 ?a44 ?l44 ?c44 ?k44 ?a45 ?l45 ?c45 ?k45 ?a46 ?l46 ?c46 ?k46 ?a47 ?l47 ?c47 ?k47 ?a48 ?l48 ?c48 ?k48 ?a49 ?l49 ?c49 ?k49 ?a50 ?l50 ?c50 ?k50 ?a51 ?l51 ?c51 ?k51 ?a52 ?l52 ?c52 ?k52 ?a53 ?l53 ?c53 ?k53 ?a54 ?l54 ?c54 ?k54 ?z_int ?z_isinstance ?z_bool ?z_str ?z_len ?z_tuple ?z_abs ?z_list ?z_reversed ?z_sorted ?z_range ?z_ValueError ?z_sum ?z_min ?z_LETTERS ?z_BOUND ?z_FIGURES ?oxVAgainst ?oxVNoWay
    (case aaBook => k_is)
    (case aaPegError => k_is)
    (case aaNoSighting => k_is)
    (case aaFull => k_is)
    (case aaAgainst => k_is)
    (case aaNoNumber => k_is)
    (case aaNoWay => k_is)
    (case aaNoText => k_is)
    (case rxNoSighting => k_exc)
    (case rxFull => k_exc)
    (case rxNoNumber => k_exc)
    (case rxNoText => k_exc)
    (case pg => k_is)
    (case hd => k_is)
    (case po => k_is)
    (case sa => k_is)
    (case mk => k_is)
    (case kc => k_is)
    (case n1 => k_is)
    (case n2 => k_is)
    (case n3 => k_is)
    (case bha => k_is)
    (case bhm => k_is)
    (case pB => k_is)
    (case pD => k_is)
    (case pT => k_is)
    (case suNoSighting => k_is)
    (case kvNoSighting => k_is)
    (case clNoSighting => k_is)
    (case tyNoSighting => k_is)
    (case ehgNoSighting => k_is)
    (case ehkNoSighting => k_is)
    (case ehsNoSighting => k_is)
    (case ehdNoSighting => k_is)
    (case ehaNoSighting => k_is)
    (case ehmNoSighting => k_is)
    (case kiNoSighting_NoSighting => k_is)
    (case kiNoSighting_Full => k_is)
    (case kiNoSighting_Against => k_is)
    (case kiNoSighting_NoNumber => k_is)
    (case kiNoSighting_NoWay => k_is)
    (case kiNoSighting_NoText => k_is)
    (case suFull => k_is)
    (case kvFull => k_is)
    (case clFull => k_is)
    (case tyFull => k_is)
    (case ehgFull => k_is)
    (case ehkFull => k_is)
    (case ehsFull => k_is)
    (case ehdFull => k_is)
    (case ehaFull => k_is)
    (case ehmFull => k_is)
    (case kiFull_NoSighting => k_is)
    (case kiFull_Full => k_is)
    (case kiFull_Against => k_is)
    (case kiFull_NoNumber => k_is)
    (case kiFull_NoWay => k_is)
    (case kiFull_NoText => k_is)
    (case suAgainst => k_is)
    (case kvAgainst => k_is)
    (case clAgainst => k_is)
    (case tyAgainst => k_is)
    (case ehgAgainst => k_is)
    (case ehkAgainst => k_is)
    (case ehsAgainst => k_is)
    (case ehdAgainst => k_is)
    (case ehaAgainst => k_is)
    (case ehmAgainst => k_is)
    (case kiAgainst_NoSighting => k_is)
    (case kiAgainst_Full => k_is)
    (case kiAgainst_Against => k_is)
    (case kiAgainst_NoNumber => k_is)
    (case kiAgainst_NoWay => k_is)
    (case kiAgainst_NoText => k_is)
    (case suNoNumber => k_is)
    (case kvNoNumber => k_is)
    (case clNoNumber => k_is)
    (case tyNoNumber => k_is)
    (case ehgNoNumber => k_is)
    (case ehkNoNumber => k_is)
    (case ehsNoNumber => k_is)
    (case ehdNoNumber => k_is)
    (case ehaNoNumber => k_is)
    (case ehmNoNumber => k_is)
    (case kiNoNumber_NoSighting => k_is)
    (case kiNoNumber_Full => k_is)
    (case kiNoNumber_Against => k_is)
    (case kiNoNumber_NoNumber => k_is)
    (case kiNoNumber_NoWay => k_is)
    (case kiNoNumber_NoText => k_is)
    (case suNoWay => k_is)
    (case kvNoWay => k_is)
    (case clNoWay => k_is)
    (case tyNoWay => k_is)
    (case ehgNoWay => k_is)
    (case ehkNoWay => k_is)
    (case ehsNoWay => k_is)
    (case ehdNoWay => k_is)
    (case ehaNoWay => k_is)
    (case ehmNoWay => k_is)
    (case kiNoWay_NoSighting => k_is)
    (case kiNoWay_Full => k_is)
    (case kiNoWay_Against => k_is)
    (case kiNoWay_NoNumber => k_is)
    (case kiNoWay_NoWay => k_is)
    (case kiNoWay_NoText => k_is)
    (case suNoText => k_is)
    (case kvNoText => k_is)
    (case clNoText => k_is)
    (case tyNoText => k_is)
    (case ehgNoText => k_is)
    (case ehkNoText => k_is)
    (case ehsNoText => k_is)
    (case ehdNoText => k_is)
    (case ehaNoText => k_is)
    (case ehmNoText => k_is)
    (case kiNoText_NoSighting => k_is)
    (case kiNoText_Full => k_is)
    (case kiNoText_Against => k_is)
    (case kiNoText_NoNumber => k_is)
    (case kiNoText_NoWay => k_is)
    (case kiNoText_NoText => k_is)
    (case pC => k_is)
    (case pS => k_is)
    (case iRd => k_is)
    (case iGa => k_is)
    (case iVi => k_is)
    (case oxKAgainst => k_is)
    (case oxSAgainst => k_is)
    (case oxPAgainst => k_is)
    (case oxAAgainst => k_is)
    (case oxKNoWay => k_is)
    (case oxSNoWay => k_is)
    (case oxPNoWay => k_is)
    (case oxANoWay => k_is)
    (case ehn => k_is)
    (case eht => k_is)
    (case rkNoSighting => k_is)
    (case rtNoSighting => k_is)
    (case rkFull => k_is)
    (case rtFull => k_is)
    (case rkNoNumber => k_is)
    (case rtNoNumber => k_is)
    (case rkNoText => k_is)
    (case rtNoText => k_is)
    (case a0 => k_is)
    (case i0 => k_is)
    (case l0 => k_is)
    (case c0 => k_is)
    (case k0 => k_is)
    (case a1 => k_is)
    (case i1 => k_is)
    (case l1 => k_is)
    (case c1 => k_is)
    (case k1 => k_is)
    (case a2 => k_is)
    (case l2 => k_is)
    (case c2 => k_is)
    (case k2 => k_is)
    (case a3 => k_is)
    (case l3 => k_is)
    (case c3 => k_is)
    (case k3 => k_is)
    (case a4 => k_is)
    (case l4 => k_is)
    (case c4 => k_is)
    (case k4 => k_is)
    (case a5 => k_is)
    (case l5 => k_is)
    (case c5 => k_is)
    (case k5 => k_is)
    (case a6 => k_is)
    (case l6 => k_is)
    (case c6 => k_is)
    (case k6 => k_is)
    (case a7 => k_is)
    (case l7 => k_is)
    (case c7 => k_is)
    (case k7 => k_is)
    (case a8 => k_is)
    (case l8 => k_is)
    (case c8 => k_is)
    (case k8 => k_is)
    (case a9 => k_is)
    (case l9 => k_is)
    (case c9 => k_is)
    (case k9 => k_is)
    (case a10 => k_is)
    (case l10 => k_is)
    (case c10 => k_is)
    (case k10 => k_is)
    (case a11 => k_is)
    (case i11 => k_is)
    (case l11 => k_is)
    (case c11 => k_is)
    (case k11 => k_is)
    (case t11 => k_is)
    (case a12 => k_is)
    (case i12 => k_is)
    (case l12 => k_is)
    (case c12 => k_is)
    (case k12 => k_is)
    (case a13 => k_is)
    (case i13 => k_is)
    (case l13 => k_is)
    (case c13 => k_is)
    (case k13 => k_is)
    (case a14 => k_is)
    (case i14 => k_is)
    (case l14 => k_is)
    (case c14 => k_is)
    (case k14 => k_is)
    (case a15 => k_is)
    (case i15 => k_is)
    (case l15 => k_is)
    (case c15 => k_is)
    (case k15 => k_is)
    (case a16 => k_is)
    (case i16 => k_is)
    (case l16 => k_is)
    (case c16 => k_is)
    (case k16 => k_is)
    (case a17 => k_is)
    (case i17 => k_is)
    (case l17 => k_is)
    (case c17 => k_is)
    (case k17 => k_is)
    (case a18 => k_is)
    (case i18 => k_is)
    (case l18 => k_is)
    (case c18 => k_is)
    (case k18 => k_is)
    (case a19 => k_is)
    (case i19 => k_is)
    (case l19 => k_is)
    (case c19 => k_is)
    (case k19 => k_is)
    (case a20 => k_is)
    (case l20 => k_is)
    (case c20 => k_is)
    (case k20 => k_is)
    (case a21 => k_is)
    (case l21 => k_is)
    (case c21 => k_is)
    (case k21 => k_is)
    (case a22 => k_is)
    (case l22 => k_is)
    (case c22 => k_is)
    (case k22 => k_is)
    (case a23 => k_is)
    (case l23 => k_is)
    (case c23 => k_is)
    (case k23 => k_is)
    (case a24 => k_is)
    (case l24 => k_is)
    (case c24 => k_is)
    (case k24 => k_is)
    (case t24 => k_is)
    (case a25 => k_is)
    (case l25 => k_is)
    (case c25 => k_is)
    (case k25 => k_is)
    (case a26 => k_is)
    (case l26 => k_is)
    (case c26 => k_is)
    (case k26 => k_is)
    (case a27 => k_is)
    (case l27 => k_is)
    (case c27 => k_is)
    (case k27 => k_is)
    (case a28 => k_is)
    (case l28 => k_is)
    (case c28 => k_is)
    (case k28 => k_is)
    (case a29 => k_is)
    (case l29 => k_is)
    (case c29 => k_is)
    (case k29 => k_is)
    (case a30 => k_is)
    (case l30 => k_is)
    (case c30 => k_is)
    (case k30 => k_is)
    (case a31 => k_is)
    (case l31 => k_is)
    (case c31 => k_is)
    (case k31 => k_is)
    (case a32 => k_is)
    (case l32 => k_is)
    (case c32 => k_is)
    (case k32 => k_is)
    (case a33 => k_is)
    (case l33 => k_is)
    (case c33 => k_is)
    (case k33 => k_is)
    (case a34 => k_is)
    (case l34 => k_is)
    (case c34 => k_is)
    (case k34 => k_is)
    (case a35 => k_is)
    (case l35 => k_is)
    (case c35 => k_is)
    (case k35 => k_is)
    (case a36 => k_is)
    (case l36 => k_is)
    (case c36 => k_is)
    (case k36 => k_is)
    (case a37 => k_is)
    (case l37 => k_is)
    (case c37 => k_is)
    (case k37 => k_is)
    (case a38 => k_is)
    (case l38 => k_is)
    (case c38 => k_is)
    (case k38 => k_is)
    (case a39 => k_is)
    (case l39 => k_is)
    (case c39 => k_is)
    (case k39 => k_is)
    (case a40 => k_is)
    (case l40 => k_is)
    (case c40 => k_is)
    (case k40 => k_is)
    (case a41 => k_is)
    (case l41 => k_is)
    (case c41 => k_is)
    (case k41 => k_is)
    (case a42 => k_is)
    (case l42 => k_is)
    (case c42 => k_is)
    (case k42 => k_is)
    (case a43 => k_is)
    (case l43 => k_is)
    (case c43 => k_is)
    (case k43 => k_is)
    (case a44 => k_is)
    (case l44 => k_is)
    (case c44 => k_is)
    (case k44 => k_is)
    (case a45 => k_is)
    (case l45 => k_is)
    (case c45 => k_is)
    (case k45 => k_is)
    (case a46 => k_is)
    (case l46 => k_is)
    (case c46 => k_is)
    (case k46 => k_is)
    (case a47 => k_is)
    (case l47 => k_is)
    (case c47 => k_is)
    (case k47 => k_is)
    (case a48 => k_is)
    (case l48 => k_is)
    (case c48 => k_is)
    (case k48 => k_is)
    (case a49 => k_is)
    (case l49 => k_is)
    (case c49 => k_is)
    (case k49 => k_is)
    (case a50 => k_is)
    (case l50 => k_is)
    (case c50 => k_is)
    (case k50 => k_is)
    (case a51 => k_is)
    (case l51 => k_is)
    (case c51 => k_is)
    (case k51 => k_is)
    (case a52 => k_is)
    (case l52 => k_is)
    (case c52 => k_is)
    (case k52 => k_is)
    (case a53 => k_is)
    (case l53 => k_is)
    (case c53 => k_is)
    (case k53 => k_is)
    (case a54 => k_is)
    (case l54 => k_is)
    (case c54 => k_is)
    (case k54 => k_is)
    (case z_int => k_is)
    (case z_isinstance => k_is)
    (case z_bool => k_is)
    (case z_str => k_is)
    (case z_len => k_is)
    (case z_tuple => k_is)
    (case z_abs => k_is)
    (case z_list => k_is)
    (case z_reversed => k_is)
    (case z_sorted => k_is)
    (case z_range => k_is)
    (case z_ValueError => k_is)
    (case z_sum => k_is)
    (case z_min => k_is)
    (case z_LETTERS => k_is)
    (case z_BOUND => k_is)
    (case z_FIGURES => k_is)
    (case oxVAgainst => rfl)
    (case oxVNoWay => rfl)

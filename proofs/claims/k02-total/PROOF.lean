import PyProof.Rows.All
import Wide.All
import OpenK.AllK
import Wide.FinOn
import HandS.ForMost
import HandS.IsInst
import HandS.SetKeys
import HandS.Deep
import HandS.More
import HandS.Wide
import HandS.Style
import HandS.Defaults
import PySem.Challenge.RW_pegrise_k02_total
set_option Elab.async false
set_option linter.all false
set_option maxRecDepth 100000
set_option maxHeartbeats 4000000
/-! PegU: readings that compute. -/
namespace U
open PySem PySem.Spec PyProof.Rows L2

/-! ### weaker readings -/
theorem pe_imp {X : Cx} {e : Expr} {t t' : TE} (h : PE X e t) (w : ∀ σ H Q, t' σ H Q → t σ H Q) : PE X e t' := ⟨fun pins s σ H Q I q => h.run pins s σ H Q I (w σ H Q q)⟩
theorem pt_imp {X : Cx} {e : Expr} {t t' : TT} (h : PT X e t) (w : ∀ σ H Q, t' σ H Q → t σ H Q) : PT X e t' := ⟨fun pins s σ H Q I q => h.run pins s σ H Q I (w σ H Q q)⟩
theorem op_imp {X : Cx} {f : Value → Value → Sem Value} {r r' : R2} (h : OpR X f r) (w : ∀ x y H Q, r' x y H Q → r x y H Q) : OpR X f r' := fun pins s σ H x y v u Q I rx ry q => h pins s σ H x y v u Q I rx ry (w x y H Q q)
theorem un_imp {X : Cx} {f : Value → Sem Value} {r r' : V → Hp → VK → Prop} (h : UnR X f r) (w : ∀ x H Q, r' x H Q → r x H Q) : UnR X f r' := fun pins s σ H x v Q I rx q => h pins s σ H x v Q I rx (w x H Q q)
theorem ix_imp {X : Cx} {r r' : R2} (h : IxR X r) (w : ∀ x y H Q, r' x y H Q → r x y H Q) : IxR X r' := fun value slice pins s σ H x y v u Q I rx ry q hs => h value slice pins s σ H x y v u Q I rx ry (w x y H Q q) hs
theorem call_imp {X : Cx} {f : Value} {r r' : List V → Hp → VK → Prop} (h : CallR X f r) (w : ∀ xs H Q, r' xs H Q → r xs H Q) : CallR X f r' := fun pins s σ H xs us Q I rx q => h pins s σ H xs us Q I rx (w xs H Q q)
theorem mt_imp {X : Cx} {id : String} {r r' : V → List V → Hp → VK → Prop} (h : MtR X id r) (w : ∀ x xs H Q, r' x xs H Q → r x xs H Q) : MtR X id r' := fun pins s σ H x xs v us Q I rx rxs q => h pins s σ H x xs v us Q I rx rxs (w x xs H Q q)
theorem sl_imp {X : Cx} {r r' : V → Option Int → Option Int → Hp → VK → Prop} (h : SlR X r) (w : ∀ x l u H Q, r' x l u H Q → r x l u H Q) : SlR X r' := fun pins s σ H x v vl vu lo hi sl Q I rx a b c q => h pins s σ H x v vl vu lo hi sl Q I rx a b c (w x lo hi H Q q)

/-! ### slots -/
def uVar (i : Nat) : TE := fun σ H Q => match σ[i]? with
  | some (some v) => Q v H
  | _ => False
theorem var_imp {i : Nat} {σ : L2.St} {H : Hp} {Q : VK} (h : uVar i σ H Q) : tVar i σ H Q := by
  unfold uVar at h
  split at h
  · exact ⟨_, by assumption, h⟩
  · exact h.elim
theorem uv {X : Cx} (i : Nat) {x : Str} {pos : Pos} (hN : X.N[i]? = some x := by rfl) (hv : Vis X.env.scope x := by first | exact Or.inl rfl | exact Or.inr (Or.inl rfl) | exact Or.inr (Or.inr rfl)) (hd : (x == ("__debug__" : Str)) = false := by decide)
    (hcd : (x == ("__classdict__" : Str)) = false := by decide) : PE X (.Name x pos) (uVar i) := pe_imp (pe_var hN hv hd hcd) fun _ _ _ => var_imp

/-! ### two ints, two texts, two truths -/
def cII (g : Int → Int → V) : R2 := fun x y H Q => match x, y with
  | .int i, .int j => Q (g i j) H
  | _, _ => False
def cIIc (C : Int → Int → Prop) (g : Int → Int → V) : R2 := fun x y H Q => match x, y with
  | .int i, .int j => C i j ∧ Q (g i j) H
  | _, _ => False
/-- a bound on the second one alone -/
def cIJ (C : Int → Prop) (g : Int → Int → V) : R2 := fun x y H Q => match x, y with
  | .int i, .int j => C j ∧ Q (g i j) H
  | _, _ => False
def cSS (g : Str → Str → V) : R2 := fun x y H Q => match x, y with
  | .str i, .str j => Q (g i j) H
  | _, _ => False
def cBB (g : Bool → Bool → V) : R2 := fun x y H Q => match x, y with
  | .bl i, .bl j => Q (g i j) H
  | _, _ => False
theorem cII_ok {X : Cx} {f : Value → Value → Sem Value} {g : Int → Int → V} (h : OpR X f (rI0 g)) : OpR X f (cII g) := op_imp h fun x y H Q q => by
  cases x <;> cases y <;> first | exact ⟨_, _, rfl, rfl, q⟩ | exact False.elim q
theorem cIIc_ok {X : Cx} {f : Value → Value → Sem Value} {C : Int → Int → Prop} {g : Int → Int → V} (h : OpR X f (rI C g)) : OpR X f (cIIc C g) := op_imp h fun x y H Q q => by
  cases x <;> cases y <;> first | exact ⟨_, _, rfl, rfl, q⟩ | exact False.elim q
def kAdd : R2 := fun x y H Q => match x, y with
  | .int i, .int j => Q (.int (i + j)) H
  | _, _ => False
def kSub : R2 := fun x y H Q => match x, y with
  | .int i, .int j => Q (.int (i - j)) H
  | _, _ => False
def kMul : R2 := fun x y H Q => match x, y with
  | .int i, .int j => CMul i j ∧ Q (.int (i * j)) H
  | _, _ => False
def kMulW : R2 := fun x y H Q => match x, y with
  | .int i, .int j => CMulW i j ∧ Q (.int (i * j)) H
  | _, _ => False
def kMod : R2 := fun x y H Q => match x, y with
  | .int i, .int j => (0 < j) ∧ Q (.int (i % j)) H
  | _, _ => False
def kDiv : R2 := fun x y H Q => match x, y with
  | .int i, .int j => (0 < j ∧ j < 1073741824) ∧ Q (.int (i / j)) H
  | _, _ => False
def kPow : R2 := fun x y H Q => match x, y with
  | .int i, .int j => CPow i j ∧ Q (.int (i ^ j.toNat)) H
  | _, _ => False
def kLt : R2 := fun x y H Q => match x, y with
  | .int i, .int j => Q (.bl (decide (i < j))) H
  | _, _ => False
def kLe : R2 := fun x y H Q => match x, y with
  | .int i, .int j => Q (.bl (decide (i ≤ j))) H
  | _, _ => False
def kGt : R2 := fun x y H Q => match x, y with
  | .int i, .int j => Q (.bl (decide (j < i))) H
  | _, _ => False
def kGe : R2 := fun x y H Q => match x, y with
  | .int i, .int j => Q (.bl (decide (j ≤ i))) H
  | _, _ => False
def kEqI : R2 := fun x y H Q => match x, y with
  | .int i, .int j => Q (.bl (decide (i = j))) H
  | _, _ => False
def kNeI : R2 := fun x y H Q => match x, y with
  | .int i, .int j => Q (.bl (!decide (i = j))) H
  | _, _ => False
def kEqS : R2 := fun x y H Q => match x, y with
  | .str i, .str j => Q (.bl (decide (i = j))) H
  | _, _ => False
def kNeS : R2 := fun x y H Q => match x, y with
  | .str i, .str j => Q (.bl (!decide (i = j))) H
  | _, _ => False
def kEqB : R2 := fun x y H Q => match x, y with
  | .bl i, .bl j => Q (.bl (decide (i = j))) H
  | _, _ => False
def kNeB : R2 := fun x y H Q => match x, y with
  | .bl i, .bl j => Q (.bl (!decide (i = j))) H
  | _, _ => False
def kLtS : R2 := fun x y H Q => match x, y with
  | .str i, .str j => Q (.bl (decide (i.cps.toList < j.cps.toList))) H
  | _, _ => False
theorem cIJ_ok {X : Cx} {f : Value → Value → Sem Value} {C : Int → Int → Prop} {C' : Int → Prop} {g : Int → Int → V} (h : OpR X f (rI C g)) (w : ∀ i j, C' j → C i j) : OpR X f (cIJ C' g) := op_imp h fun x y H Q q => by
  cases x <;> cases y <;> first | exact ⟨_, _, rfl, rfl, w _ _ q.1, q.2⟩ | exact False.elim q
section
variable {X : Cx}
theorem o_add : OpR X (binaryOp .Add) kAdd := op_imp op_add fun x y H Q q => by
  cases x <;> cases y <;> first | exact ⟨_, _, rfl, rfl, q⟩ | exact False.elim q
theorem o_sub : OpR X (binaryOp .Sub) kSub := op_imp op_sub fun x y H Q q => by
  cases x <;> cases y <;> first | exact ⟨_, _, rfl, rfl, q⟩ | exact False.elim q
theorem o_mul : OpR X (binaryOp .Mult) kMul := op_imp op_mul fun x y H Q q => by
  cases x <;> cases y <;> first | exact ⟨_, _, rfl, rfl, q⟩ | exact False.elim q
theorem o_mulW : OpR X (binaryOp .Mult) kMulW := op_imp op_mulW fun x y H Q q => by
  cases x <;> cases y <;> first | exact ⟨_, _, rfl, rfl, q⟩ | exact False.elim q
theorem o_mod : OpR X (binaryOp .Mod) kMod := op_imp op_mod fun x y H Q q => by
  cases x <;> cases y <;> first | exact ⟨_, _, rfl, rfl, q⟩ | exact False.elim q
theorem o_div : OpR X (binaryOp .FloorDiv) kDiv := op_imp op_fdiv fun x y H Q q => by
  cases x <;> cases y <;> first | exact ⟨_, _, rfl, rfl, q⟩ | exact False.elim q
theorem o_pow : OpR X (binaryOp .Pow) kPow := op_imp op_pow fun x y H Q q => by
  cases x <;> cases y <;> first | exact ⟨_, _, rfl, rfl, q⟩ | exact False.elim q
theorem o_lt : OpR X (compareOp .Lt) kLt := op_imp op_lt fun x y H Q q => by
  cases x <;> cases y <;> first | exact ⟨_, _, rfl, rfl, q⟩ | exact False.elim q
theorem o_le : OpR X (compareOp .LtE) kLe := op_imp op_le fun x y H Q q => by
  cases x <;> cases y <;> first | exact ⟨_, _, rfl, rfl, q⟩ | exact False.elim q
theorem o_gt : OpR X (compareOp .Gt) kGt := op_imp op_gt fun x y H Q q => by
  cases x <;> cases y <;> first | exact ⟨_, _, rfl, rfl, q⟩ | exact False.elim q
theorem o_ge : OpR X (compareOp .GtE) kGe := op_imp op_ge fun x y H Q q => by
  cases x <;> cases y <;> first | exact ⟨_, _, rfl, rfl, q⟩ | exact False.elim q
theorem o_eqI : OpR X (compareOp .Eq) kEqI := op_imp op_eq fun x y H Q q => by
  cases x <;> cases y <;> first
    | (refine ⟨rfl, ?_⟩; rw [dec_int, Bool.beq_eq_decide_eq]; exact q)
    | exact False.elim q
theorem o_neI : OpR X (compareOp .NotEq) kNeI := op_imp op_ne fun x y H Q q => by
  cases x <;> cases y <;> first
    | (refine ⟨rfl, ?_⟩; rw [dec_int, Bool.beq_eq_decide_eq]; exact q)
    | exact False.elim q
theorem o_eqS : OpR X (compareOp .Eq) kEqS := op_imp op_eq fun x y H Q q => by
  cases x <;> cases y <;> first
    | (refine ⟨rfl, ?_⟩; rw [dec_str, Bool.beq_eq_decide_eq]; exact q)
    | exact False.elim q
theorem o_neS : OpR X (compareOp .NotEq) kNeS := op_imp op_ne fun x y H Q q => by
  cases x <;> cases y <;> first
    | (refine ⟨rfl, ?_⟩; rw [dec_str, Bool.beq_eq_decide_eq]; exact q)
    | exact False.elim q
theorem o_eqB : OpR X (compareOp .Eq) kEqB := op_imp op_eq fun x y H Q q => by
  cases x <;> cases y <;> first
    | (refine ⟨rfl, ?_⟩; rw [dec_bl, Bool.beq_eq_decide_eq]; exact q)
    | exact False.elim q
theorem o_neB : OpR X (compareOp .NotEq) kNeB := op_imp op_ne fun x y H Q q => by
  cases x <;> cases y <;> first
    | (refine ⟨rfl, ?_⟩; rw [dec_bl, Bool.beq_eq_decide_eq]; exact q)
    | exact False.elim q
theorem o_ltS : OpR X (compareOp .Lt) kLtS := op_imp op_lt_str fun x y H Q q => by
  cases x <;> cases y <;> first | exact ⟨_, _, rfl, rfl, q⟩ | exact False.elim q
def cAddS : R2 := fun x y H Q => match x, y with
  | .str i, .str j => i.length + j.length ≤ sizeLine ∧ Q (.str (i ++ j)) H
  | _, _ => False
theorem o_addS : OpR X (binaryOp .Add) cAddS := op_imp op_add_str fun x y H Q q => by
  cases x <;> cases y <;> first | exact ⟨_, _, rfl, rfl, q⟩ | exact False.elim q
def cNon (b : Bool) : R2 := fun x y H Q => match y with
  | .non => Q (.bl (match x with | .non => b | _ => !b)) H
  | _ => False
theorem o_isN : OpR X (compareOp .Is) (cNon true) := op_imp op_isN fun x y H Q q => by
  cases y <;> first
    | (refine ⟨rfl, ?_⟩; cases x <;> exact q)
    | exact False.elim q
theorem o_notN : OpR X (compareOp .IsNot) (cNon false) := op_imp op_notN fun x y H Q q => by
  cases y <;> first
    | (refine ⟨rfl, ?_⟩; cases x <;> exact q)
    | exact False.elim q
/-- one sign in a text -/
def cSign (b : Bool) : R2 := fun x y H Q => match x, y with
  | .str i, .str z => ∃ c, i = ⟨#[c]⟩ ∧ Q (.bl (if b then decide (c ∈ z.cps.toList) else !decide (c ∈ z.cps.toList))) H
  | _, _ => False
theorem o_inSign : OpR X (compareOp .In) (cSign true) := op_imp op_in_sign fun x y H Q q => by
  cases x <;> cases y <;> first
    | (obtain ⟨c, e, q⟩ := q; subst e; exact ⟨_, _, rfl, rfl, q⟩)
    | exact False.elim q
theorem o_notInSign : OpR X (compareOp .NotIn) (cSign false) := op_imp op_notIn_sign fun x y H Q q => by
  cases x <;> cases y <;> first
    | (obtain ⟨c, e, q⟩ := q; subst e; exact ⟨_, _, rfl, rfl, q⟩)
    | exact False.elim q
def cI (g : Int → V) : V → Hp → VK → Prop := fun x H Q => match x with
  | .int i => Q (g i) H
  | _ => False
def kNeg : V → Hp → VK → Prop := fun x H Q => match x with
  | .int i => Q (.int (-i)) H
  | _ => False
theorem n_neg : UnR X (unaryOp .USub) kNeg := un_imp un_neg fun x H Q q => by
  cases x <;> first | exact ⟨_, rfl, q⟩ | exact False.elim q

/-! ### subscripts -/
def cIxL (K : PySem.W.Frag) : R2 := fun x y H Q => match x, y with
  | .ref p, .int i => ∃ xs v, SqL K H p xs ∧ atI xs i = some v ∧ Q v H
  | _, _ => False
def cIxT (K : PySem.W.Frag) : R2 := fun x y H Q => match x, y with
  | .ref p, .int i => ∃ xs v, SqT K H p xs ∧ atI xs i = some v ∧ Q v H
  | _, _ => False
def cIxS : R2 := fun x y H Q => match x, y with
  | .str z, .int i => ∃ c, z.length ≤ sizeLine ∧ atI z.cps.toList i = some c ∧ Q (.str ⟨#[c]⟩) H
  | _, _ => False
theorem x_list : IxR X (cIxL X.K) := ix_imp ix_list fun x y H Q q => by
  cases x <;> cases y <;> first
    | (obtain ⟨xs, v, a, b, q⟩ := q; exact ⟨_, _, _, _, rfl, rfl, a, b, q⟩)
    | exact False.elim q
theorem x_tup : IxR X (cIxT X.K) := ix_imp ix_tup fun x y H Q q => by
  cases x <;> cases y <;> first
    | (obtain ⟨xs, v, a, b, q⟩ := q; exact ⟨_, _, _, _, rfl, rfl, a, b, q⟩)
    | exact False.elim q
theorem x_str : IxR X cIxS := ix_imp ix_str fun x y H Q q => by
  cases x <;> cases y <;> first
    | (obtain ⟨c, a, b, q⟩ := q; exact ⟨_, _, _, rfl, rfl, a, b, q⟩)
    | exact False.elim q
theorem plainIx {b : Expr} (h : ∀ o i, subscripted b false o i = operate [o, i] (getItem o i) := by intro _ _; rfl) : PlainIx b := h
/-- a dict's item -/
def uDGet (td ty : TE) : TE := fun σ H Q => td σ H fun x H1 => ty σ H1 fun y H2 => match x with
  | .ref a => ∃ v, DGet H2 a y (some v) ∧ Q v H2
  | _ => False
theorem u_dget {o i : Expr} {td ty : TE} {pos : Pos} (hu : X.A.units + 1 < cLine) (ho : PE X o td) (hi : PE X i ty) (hs : NoSl i := by intro _ _; rfl) : PE X (.Subscript o i pos) (uDGet td ty) := by
  refine ⟨fun pins s σ H Q I h => ?_⟩
  refine subD_of PySem.F.slot_dict_getitem.lookup hs (thn (ho.run pins s σ H _ I h) fun u s1 ⟨x, H1, I1, rx, q1⟩ => thn (hi.run pins s1 σ H1 _ I1 q1) fun iv s2 ⟨y, H2, I2, ry, q2⟩ => ?_)
  cases x with
  | ref a =>
    obtain ⟨v, g, q2⟩ := q2
    obtain rfl : u = Value.ref a := rx
    exact ⟨dict_typeIs I2 g, d_getItem hu I2 g ry fun w' s3 I3 rw' => ⟨v, H2, I3, rw', q2⟩⟩
  | _ => exact False.elim q2
/-! ### comparisons -/
theorem c_op {a b : Expr} {op : CmpOp} {r : R2} {ta tb : TE} (ho : OpR X (compareOp op) r) (ha : PE X a ta) (hb : PE X b tb) : PC X op a b (tOp r ta tb) :=
  ⟨fun pins s σ H Q I h => binT ha hb I h fun v u s2 x y H2 I2 rx ry q => ho pins s2 σ H2 x y v u Q I2 rx ry q⟩
/-- a key in a dict -/
def uDIn (b : Bool) (ty td : TE) : TE := fun σ H Q => ty σ H fun y H1 => td σ H1 fun x H2 => match x with
  | .ref a => ∃ o, DGet H2 a y o ∧ Q (.bl (if b then o.isSome else !o.isSome)) H2
  | _ => False
theorem c_din {o i : Expr} {td ty : TE} (hu : X.A.units + 1 < cLine) (hi : PE X i ty) (ho : PE X o td) : PC X .In i o (uDIn true ty td) := by
  refine ⟨fun pins s σ H Q I h => ?_⟩
  refine thn (hi.run pins s σ H _ I h) fun iv s1 ⟨y, H1, I1, ry, q1⟩ => thn (ho.run pins s1 σ H1 _ I1 q1) fun u s2 ⟨x, H2, I2, rx, q2⟩ => ?_
  cases x with
  | ref a =>
    obtain ⟨o, g, q2⟩ := q2
    obtain rfl : u = Value.ref a := rx
    exact d_in hu I2 g ry fun s3 I3 => ⟨.bl o.isSome, H2, I3, rfl, q2⟩
  | _ => exact False.elim q2
theorem c_dnotin {o i : Expr} {td ty : TE} (hu : X.A.units + 1 < cLine) (hi : PE X i ty) (ho : PE X o td) : PC X .NotIn i o (uDIn false ty td) := by
  refine ⟨fun pins s σ H Q I h => ?_⟩
  refine thn (hi.run pins s σ H _ I h) fun iv s1 ⟨y, H1, I1, ry, q1⟩ => thn (ho.run pins s1 σ H1 _ I1 q1) fun u s2 ⟨x, H2, I2, rx, q2⟩ => ?_
  cases x with
  | ref a =>
    obtain ⟨o, g, q2⟩ := q2
    obtain rfl : u = Value.ref a := rx
    exact d_notIn hu I2 g ry fun s3 I3 => ⟨.bl (!o.isSome), H2, I3, rfl, q2⟩
  | _ => exact False.elim q2
/-- as a value -/
theorem e_cmp {a b : Expr} {op : CmpOp} {t : TE} {pos : Pos} (h : PC X op a b t) (hm : behindInMarks op b = false := by first | exact nobehind _ (by decide) (by decide) | rfl) : PE X (.Compare a [op] [b] pos) t := pe_cmp h hm

/-! ### tests -/
structure Br (b : Bool) (A B : Prop) : Prop where
  tt : b = true → A
  ff : b = false → B
theorem br_t {A B : Prop} (h : A) : Br true A B := ⟨fun _ => h, fun z => nomatch z⟩
theorem br_f {A B : Prop} (h : B) : Br false A B := ⟨(fun z => nomatch z), fun _ => h⟩
/-- the answer is known -/
theorem br_tt {b : Bool} {A B : Prop} (e : b = true) (h : A) : Br b A B := by subst e; exact br_t h
theorem br_ff {b : Bool} {A B : Prop} (e : b = false) (h : B) : Br b A B := by subst e; exact br_f h
def uT (t : TE) : TT := fun σ H Q => t σ H fun x H1 => match x with
  | .bl k => Q k H1
  | _ => False
/-- an expression with a truth for a value, as a test: any one but a comparison, and, or, not -/
theorem t_val {e : Expr} {t : TE} (h : PE X e t) (he : ∀ whole, isTrue e X.env whole = (do let v ← whole; standAt e.pos; holding [v] (truthy v)) := by intro _; rfl) : PT X e (uT t) := by
  refine ⟨fun pins s σ H Q I hw => ?_⟩
  refine isTrue_plain (thn (h.run pins s σ H _ I hw) fun v s1 ⟨x, H1, I1, r1, q1⟩ => ?_) (he _)
  cases x with
  | bl k =>
    cases r1
    exact wpAny_truthy_bool ⟨H1, I1, q1⟩
  | _ => exact False.elim q1
/-- a comparison as a test -/
theorem t_cmp {a b : Expr} {op : CmpOp} {t : TE} {pos : Pos} (h : PC X op a b t) (h1 : behindInMarks op b = false := by first | exact nobehind _ (by decide) (by decide) | rfl) : PT X (.Compare a [op] [b] pos) (uT t) := by
  refine ⟨fun pins s σ H Q I hw => ?_⟩
  refine wpAny_isTrue_Compare1 (thn (h.run pins s σ H _ I hw) fun v s1 h1 => thn h1 fun u s2 h2 => thn h2 fun c s3 ⟨x, H1, I1, r1, q1⟩ => ?_) h1
  cases x with
  | bl k =>
    cases r1
    exact wpAny_truthy_bool ⟨H1, I1, q1⟩
  | _ => exact False.elim q1
def uAnd (t u : TT) : TT := fun σ H Q => t σ H fun c H1 => Br c (u σ H1 Q) (Q false H1)
def uOr (t u : TT) : TT := fun σ H Q => t σ H fun c H1 => Br c (Q true H1) (u σ H1 Q)
def uNot (t : TT) : TT := fun σ H Q => t σ H fun c H1 => Q (!c) H1
section
variable {a b : Expr} {rest : List Expr} {tA tB' : TT} {ta tb : TE} {pos : Pos}
theorem w_and (ha : PT X a tA) (hb : PW X (.BoolOp .And (b :: rest) pos) tB') : PW X (.BoolOp .And (a :: b :: rest) pos) (uAnd tA tB') := by
  refine ⟨fun wh pins s σ H Q I h => ?_⟩
  refine isTrue_and (thn (ha.run pins s σ H _ I h) fun c s1 ⟨H1, I1, q1⟩ => ?_)
  cases c with
  | true => exact hb.run wh pins s1 σ H1 Q I1 (q1.tt rfl)
  | false => exact ⟨H1, I1, q1.ff rfl⟩
theorem w_or (ha : PT X a tA) (hb : PW X (.BoolOp .Or (b :: rest) pos) tB') : PW X (.BoolOp .Or (a :: b :: rest) pos) (uOr tA tB') := by
  refine ⟨fun wh pins s σ H Q I h => ?_⟩
  refine isTrue_or (thn (ha.run pins s σ H _ I h) fun c s1 ⟨H1, I1, q1⟩ => ?_)
  cases c with
  | true => exact ⟨H1, I1, q1.tt rfl⟩
  | false => exact hb.run wh pins s1 σ H1 Q I1 (q1.ff rfl)
theorem t_not (ha : PT X a tA) : PT X (.UnaryOp .Not a pos) (uNot tA) := pt_not ha
def uAndV (ta tb : TE) : TE := fun σ H Q => ta σ H fun x H1 => match x with
  | .bl c => Br c (tb σ H1 Q) (Q (.bl false) H1)
  | _ => False
def uOrV (ta tb : TE) : TE := fun σ H Q => ta σ H fun x H1 => match x with
  | .bl c => Br c (Q (.bl true) H1) (tb σ H1 Q)
  | _ => False
def uNotV (ta : TE) : TE := fun σ H Q => ta σ H fun x H1 => match x with
  | .bl c => Q (.bl (!c)) H1
  | _ => False
theorem v_and (ha : PE X a ta) (hb : PE X (.BoolOp .And (b :: rest) pos) tb) : PE X (.BoolOp .And (a :: b :: rest) pos) (uAndV ta tb) := by
  refine ⟨fun pins s σ H Q I h => ?_⟩
  refine BoolOp_and (thn (ha.run pins s σ H _ I h) fun v s1 ⟨x, H1, I1, r1, q1⟩ => ?_)
  cases x with
  | bl c =>
    cases r1
    refine wpAny_truthy_bool ?_
    cases c with
    | true => exact hb.run pins s1 σ H1 Q I1 (q1.tt rfl)
    | false => exact ⟨.bl false, H1, I1, rfl, q1.ff rfl⟩
  | _ => exact False.elim q1
theorem v_or (ha : PE X a ta) (hb : PE X (.BoolOp .Or (b :: rest) pos) tb) : PE X (.BoolOp .Or (a :: b :: rest) pos) (uOrV ta tb) := by
  refine ⟨fun pins s σ H Q I h => ?_⟩
  refine BoolOp_or (thn (ha.run pins s σ H _ I h) fun v s1 ⟨x, H1, I1, r1, q1⟩ => ?_)
  cases x with
  | bl c =>
    cases r1
    refine wpAny_truthy_bool ?_
    cases c with
    | false => exact hb.run pins s1 σ H1 Q I1 (q1.ff rfl)
    | true => exact ⟨.bl true, H1, I1, rfl, q1.tt rfl⟩
  | _ => exact False.elim q1
theorem v_not (ha : PE X a ta) : PE X (.UnaryOp .Not a pos) (uNotV ta) := by
  refine ⟨fun pins s σ H Q I h => ?_⟩
  refine UnaryOp_ (thn (ha.run pins s σ H _ I h) fun v s1 ⟨x, H1, I1, r1, q1⟩ => ?_)
  cases x with
  | bl c =>
    cases r1
    exact not_of (wpAny_truthy_bool ⟨.bl (!c), H1, I1, rfl, q1⟩)
  | _ => exact False.elim q1
def uIf (t : TT) (ta tb : TE) : TE := fun σ H Q => t σ H fun c H1 => Br c (ta σ H1 Q) (tb σ H1 Q)
theorem v_if {c : Expr} (hc : PT X c tA) (ha : PE X a ta) (hb : PE X b tb) : PE X (.IfExp c a b pos) (uIf tA ta tb) := by
  refine ⟨fun pins s σ H Q I h => ?_⟩
  refine wpAny_IfExp (thn (hc.run pins s σ H _ I h) fun d s1 ⟨H1, I1, q1⟩ => ?_)
  cases d with
  | true => exact ha.run pins s1 σ H1 Q I1 (q1.tt rfl)
  | false => exact hb.run pins s1 σ H1 Q I1 (q1.ff rfl)
def uIfS (c : TT) (t u : TS) : TS := fun D σ H => c σ H fun b H1 => Br b (t D σ H1) (u D σ H1)
theorem s_if {c : Expr} {sa sb : List Stmt} {tc : TT} {t u : TS} (hc : PT X c tc) (ha : PSs X sa t) (hb : PSs X sb u) : PS X (.If c sa sb pos) (uIfS tc t u) := by
  refine ⟨fun pins s σ H D I h => ?_⟩
  refine wpAny_If (thn (hc.run pins s σ H _ I h) fun d s1 ⟨H1, I1, q1⟩ => ?_)
  cases d with
  | true => exact ha.run pins s1 σ H1 D I1 (q1.tt rfl)
  | false => exact hb.run pins s1 σ H1 D I1 (q1.ff rfl)
end

/-! ### calls of built-ins -/
def cLenS : List V → Hp → VK → Prop := fun xs H Q => match xs with
  | [.str z] => z.length ≤ sizeLine ∧ Q (.int z.length) H
  | _ => False
theorem l_str : CallR X (.builtin "len") cLenS := call_imp call_len_str fun xs H Q q => by
  match xs, q with
  | [.str z], q => exact ⟨z, rfl, q⟩
def cLenQ (K : PySem.W.Frag) : List V → Hp → VK → Prop := fun xs H Q => match xs with
  | [.ref p] => ∃ ys, (SqL K H p ys ∨ SqT K H p ys) ∧ Q (.int ys.length) H
  | _ => False
theorem l_seq : CallR X (.builtin "len") (cLenQ X.K) := call_imp call_len_seq fun xs H Q q => by
  match xs, q with
  | [.ref p], q =>
    obtain ⟨ys, h, q⟩ := q
    exact ⟨p, ys, rfl, h, q⟩
def cLenD : List V → Hp → VK → Prop := fun xs H Q => match xs with
  | [.ref p] => ∃ kvs, H p = some (.dK kvs) ∧ Q (.int kvs.length) H
  | _ => False
theorem l_dict : CallR X (.builtin "len") cLenD := call_imp call_lenD fun xs H Q q => by
  match xs, q with
  | [.ref p], q =>
    obtain ⟨ys, h, q⟩ := q
    exact ⟨p, ys, rfl, h, q⟩
def cAbs : List V → Hp → VK → Prop := fun xs H Q => match xs with
  | [.int i] => Q (.int (if i < 0 then -i else i)) H
  | _ => False
theorem b_abs : CallR X (.builtin "abs") cAbs := call_imp call_abs fun xs H Q q => by
  match xs, q with
  | [.int i], q => exact ⟨i, rfl, q⟩
def cMin : List V → Hp → VK → Prop := fun xs H Q => match xs with
  | [.int i, .int j] => Q (.int (if j < i then j else i)) H
  | _ => False
theorem b_min (hc : X.calm = true) : CallR X (.builtin "min") cMin := call_imp (call_min2 hc) fun xs H Q q => by
  match xs, q with
  | [.int i, .int j], q => exact ⟨i, j, rfl, q⟩
def cStrI : List V → Hp → VK → Prop := fun xs H Q => match xs with
  | [.int i] => i.natAbs.log2 < 1920 ∧ Q (.str (toString i)) H
  | _ => False
theorem b_str : CallR X (.type "str") cStrI := call_imp call_str_int fun xs H Q q => by
  match xs, q with
  | [.int i], q => exact ⟨i, rfl, q⟩
def cIntB : List V → Hp → VK → Prop := fun xs H Q => match xs with
  | [.bl k] => Q (.int (if k then 1 else 0)) H
  | _ => False
theorem b_intB : CallR X (.type "int") cIntB := call_imp call_int1 fun xs H Q q => by
  match xs, q with
  | [.bl k], q => exact .inr ⟨k, rfl, q⟩
def cIntS : List V → Hp → VK → Prop := fun xs H Q => match xs with
  | [.str a] => ∃ n, PySem.intText? a = some n ∧ a.length ≤ 640 ∧ Q (.int n) H
  | _ => False
theorem b_intS : CallR X (.type "int") cIntS := call_imp call_int_str fun xs H Q q => by
  match xs, q with
  | [.str a], q =>
    obtain ⟨n, h1, h2, q⟩ := q
    exact ⟨a, n, rfl, h1, h2, q⟩
/-- isinstance of a built-in class -/
def cIsi (K : PySem.W.Frag) : List V → Hp → VK → Prop := fun xs H Q => match xs with
  | [x, .ty n] => ∃ t b, TyX K H x (.type t) ∧ kitB t n = some b ∧ Q (.bl b) H
  | _ => False
theorem b_isi : CallR X (.builtin "isinstance") (cIsi X.K) := call_imp call_isi fun xs H Q q => by
  match xs, q with
  | [x, .ty n], q =>
    obtain ⟨t, b, h1, h2, q⟩ := q
    exact ⟨x, .ty n, .type t, .type n, b, rfl, .ty n, h1, kit_ty h2, q⟩

/-! ### more built-ins -/
def cList (K : PySem.W.Frag) : List V → Hp → VK → Prop := fun xs H Q => match xs with
  | [.ref p] => ∃ ys, (SqL K H p ys ∨ SqT K H p ys) ∧ ∀ l, H l = none → Q (.ref l) (upd H l (.lst ys))
  | _ => False
theorem b_list : CallR X (.type "list") (cList X.K) := call_imp call_list_of fun xs H Q q => by
  match xs, q with
  | [.ref p], q =>
    obtain ⟨ys, h, q⟩ := q
    exact ⟨p, ys, rfl, h, q⟩
def cListD : List V → Hp → VK → Prop := fun xs H Q => match xs with
  | [.ref p] => ∃ kvs, Rd H p (.dK kvs) ∧ ∀ l, H l = none → Q (.ref l) (upd H l (.lst (kvs.map fun kv => kV kv.1)))
  | _ => False
theorem b_listD (hc : X.calm = true) : CallR X (.type "list") cListD := call_imp (call_listD hc) fun xs H Q q => by
  match xs, q with
  | [.ref p], q =>
    obtain ⟨ys, h, q⟩ := q
    exact ⟨p, ys, rfl, h, q⟩
def cSum (K : PySem.W.Frag) : List V → Hp → VK → Prop := fun xs H Q => match xs with
  | [.ref p] => ∃ ns : List Int, SqL K H p (ns.map V.int) ∧ Q (.int ns.sum) H
  | _ => False
theorem b_sum (hc : X.calm = true) : CallR X (.builtin "sum") (cSum X.K) := call_imp (cr_sum hc) fun xs H Q q => by
  match xs, q with
  | [.ref p], q =>
    obtain ⟨ys, h, q⟩ := q
    exact ⟨p, ys, rfl, h, q⟩
def cSortedS (K : PySem.W.Frag) : List V → Hp → VK → Prop := fun xs H Q => match xs with
  | [.ref p] => ∃ ss : List Str, SqL K H p (ss.map V.str) ∧ ss.length < 64 ∧ ∀ (ys : List Str) (p : Addr), ys.Perm ss → sortedS ys = true → H p = none → Q (.ref p) (upd H p (.lst (ys.map V.str)))
  | _ => False
theorem b_sortedS : CallR X (.builtin "sorted") (cSortedS X.K) := call_imp cr_sortedS fun xs H Q q => by
  match xs, q with
  | [.ref p], q =>
    obtain ⟨ss, h, h2, q⟩ := q
    exact ⟨p, ss, rfl, h, h2, q⟩
def cSortedD : List V → Hp → VK → Prop := fun xs H Q => match xs with
  | [.ref p] => ∃ (kvs : List (Key × V)) (ks : List Str), Rd H p (.dK kvs) ∧ kvs.map (·.1) = ks.map Sum.inr ∧ ks.length < 64 ∧ ∀ (ys : List Str) (p : Addr), ys.Perm ks → sortedS ys = true → H p = none → Q (.ref p) (upd H p (.lst (ys.map V.str)))
  | _ => False
theorem b_sortedD (hc : X.calm = true) : CallR X (.builtin "sorted") cSortedD := call_imp (call_sortedD hc) fun xs H Q q => by
  match xs, q with
  | [.ref p], q =>
    obtain ⟨kvs, ks, h, h1, h2, q⟩ := q
    exact ⟨p, kvs, ks, rfl, h, h1, h2, q⟩
def uRev (K : PySem.W.Frag) (te : TE) : TE := fun σ H Q => te σ H fun x H1 => match x with
  | .ref a => ∃ xs, SqL K H1 a xs ∧ ∀ p, H1 p = none → Q (.ref p) (upd H1 p (.lst xs.reverse))
  | _ => False
theorem e_rev {e : Expr} {te : TE} {k : Nat} {p1 p2 p3 pos : Pos} (he : PE X e te) : PE X (.Subscript e (.Slice none none (some (.UnaryOp .USub (.Constant (.int 1) k p1) p2)) p3) pos) (uRev X.K te) := by
  have h2 : PE X e (fun σ H Q => te σ H fun x H1 => match x with | .ref a => Q (.ref a) H1 | _ => False) := ⟨fun pins s σ H Q I q => thn (he.run pins s σ H _ I q) fun v s1 ⟨x, H1, I1, r1, q1⟩ => by
    cases x with
    | ref i => exact ⟨.ref i, H1, I1, r1, q1⟩
    | _ => exact False.elim q1⟩
  refine ⟨fun pins s σ H Q I q => (pe_revL (p1 := p1) (p2 := p2) (p3 := p3) (k := k) h2).run pins s σ H Q I ?_⟩
  refine Eq.mp (congrArg (te σ H) ?_) q
  funext x H1
  cases x with
  | ref a => exact propext ⟨fun ⟨xs, h, q⟩ => ⟨a, xs, rfl, h, q⟩, fun ⟨b, xs, e, h, q⟩ => by cases e; exact ⟨xs, h, q⟩⟩
  | _ => rfl
def cCat : R2 := fun x y H Q => match x, y with
  | .ref a, .ref b => ∃ xs zs, H a = some (.lst xs) ∧ H b = some (.lst zs) ∧ xs.length + zs.length ≤ sizeLine ∧ ∀ p, H p = none → Q (.ref p) (upd H p (.lst (xs ++ zs)))
  | _, _ => False
theorem o_cat : OpR X (binaryOp .Add) cCat := op_imp op_cat fun x y H Q q => by
  cases x <;> cases y <;> first
    | (obtain ⟨xs, zs, a, b, c, q⟩ := q; exact ⟨_, _, _, _, rfl, rfl, a, b, c, q⟩)
    | exact False.elim q

/-! ### slices -/
def uPart (t : TE) : TO := fun σ H Q => t σ H fun x H1 => match x with
  | .int i => Q (some i) H1
  | _ => False
theorem p_some {e : Expr} {te : TE} (h : PE X e te) : PO X (some e) (uPart te) := by
  refine ⟨fun pins s σ H Q I hw => ?_⟩
  rw [evalPart_some]
  refine thn (h.run pins s σ H _ I hw) fun u s1 ⟨x, H1, I1, r1, q1⟩ => ?_
  cases x with
  | int i =>
    obtain ⟨t, rfl⟩ := r1
    exact ⟨some i, H1, I1, .int i t, q1⟩
  | _ => exact False.elim q1
def cSlS : V → Option Int → Option Int → Hp → VK → Prop := fun x lo hi H Q => match x with
  | .str z => z.length ≤ sizeLine ∧ Q (.str (cutS z lo hi)) H
  | _ => False
theorem s_str : SlR X cSlS := sl_imp sl_str fun x l u H Q q => by
  cases x <;> first
    | exact ⟨_, rfl, q⟩
    | exact False.elim q
def cSlL (K : PySem.W.Frag) : V → Option Int → Option Int → Hp → VK → Prop := fun x lo hi H Q => match x with
  | .ref a => ∃ xs, SqL K H a xs ∧ ∀ p, H p = none → Q (.ref p) (upd H p (.lst (cutV xs lo hi)))
  | _ => False
theorem s_list : SlR X (cSlL X.K) := sl_imp sl_list fun x l u H Q q => by
  cases x <;> first
    | exact ⟨_, _, rfl, q.choose_spec⟩
    | exact False.elim q

/-! ### comprehensions -/
@[irreducible] def uLc (wi : TI) (g : TG) (tt : TT) (te : TE) (vs : List Nat) : TE := tLc wi g tt te vs
theorem uLc_of {wi : TI} {g : TG} {tt : TT} {te : TE} {vs : List Nat} {σ : L2.St} {H : Hp} {Q : VK} (h : tLc wi g tt te vs σ H Q) : uLc wi g tt te vs σ H Q := by
  unfold uLc
  exact h
theorem u_lc {elt tg iter : Expr} {ifs : List Expr} {scope : Scope} {own : List (Str × Nat)} {pos : Pos} {wi : TI} {g : TG} {tt : TT} {te : TE} (hc : X.calm = true) (hN : X.N.Nodup) (hi : PI X tg iter wi) (ok : BlkOk X.N X.env.scope scope own)
    (hg : ∀ (s : Shared) (H : Hp) (C : Addr) (cl : List (Str × Addr)) (fp : List Addr), PG (X.blk s H scope (compEnvC scope cl C X.env) fp) tg g) (ht : ∀ (s : Shared) (H : Hp) (C : Addr) (cl : List (Str × Addr)) (fp : List Addr), PTs (X.blk s H scope (compEnvC scope cl C X.env) fp) ifs tt)
    (he : ∀ (s : Shared) (H : Hp) (C : Addr) (cl : List (Str × Addr)) (fp : List Addr), PE (X.blk s H scope (compEnvC scope cl C X.env) fp) elt te) (hs : ∀ x, foldedSetIterable iter X.env x = pure x := by intro _; rfl) :
    PE X (.ListComp elt [⟨tg, iter, ifs, 0⟩] scope pos) (uLc wi g tt te (own.map (·.2))) := by
  unfold uLc
  exact pe_lc hc hN hi ok hg ht he hs
theorem u_setLc {i : Nat} {y : Str} {py : Pos} {elt tg iter : Expr} {ifs : List Expr} {scope : Scope} {own : List (Str × Nat)} {pos spos : Pos} {wi : TI} {g : TG} {tt : TT} {te : TE} (hc : X.calm = true) (hN : X.N.Nodup) (hy : X.N[i]? = some y) (hyl : X.env.scope.names.lookup y = some .local)
    (hsw : swapsWith (.ListComp elt [⟨tg, iter, ifs, 0⟩] scope pos) (some (.Name y py)) spos.line X.env = pure true) (hi : PI X tg iter wi) (ok : BlkOk X.N X.env.scope scope own)
    (hg : ∀ (s : Shared) (H : Hp) (C : Addr) (cl : List (Str × Addr)) (fp : List Addr), PG (X.blk s H scope (compEnvC scope cl C X.env) fp) tg g) (ht : ∀ (s : Shared) (H : Hp) (C : Addr) (cl : List (Str × Addr)) (fp : List Addr), PTs (X.blk s H scope (compEnvC scope cl C X.env) fp) ifs tt)
    (he : ∀ (s : Shared) (H : Hp) (C : Addr) (cl : List (Str × Addr)) (fp : List Addr), PE (X.blk s H scope (compEnvC scope cl C X.env) fp) elt te) (hs : ∀ x, foldedSetIterable iter X.env x = pure x := by intro _; rfl) :
    PS X (.Assign [.Name y py] (.ListComp elt [⟨tg, iter, ifs, 0⟩] scope pos) spos) (tAsg (uLc wi g tt te (own.map (·.2))) (gName i)) := by
  unfold uLc
  exact ps_setLc hc hN hy hyl hsw hi ok hg ht he hs

/-! ### while -/
def uWhile (c : TT) (tb : TS) : TS := fun D σ H => ∃ W : Nat → L2.St → Hp → Prop, (∃ m, W m σ H) ∧ ∀ m σ H, W m σ H →
  c σ H fun b H1 => Br b (∃ N : L2.St → Hp → Prop, (∀ σ' H', N σ' H' → ∃ m', m' < m ∧ W m' σ' H') ∧ tb { D with nx := N, ct := N, bk := D.nx } σ H1) (D.nx σ H1)
theorem s_while {c : Expr} {body : List Stmt} {tc : TT} {tb : TS} {pos : Pos} (hp : PassesOwn (model X.prog X.w) X.A X.env X.xe) (hc : PT X c tc) (hb : PSs X body tb) : PS X (.While c body [] pos) (uWhile tc tb) := by
  refine ⟨fun pins s σ H D I h => ?_⟩
  obtain ⟨W, ⟨m0, w0⟩, turn⟩ := h
  refine wpAny_While (codeAny_whileLoop (fun n s' => ∃ σ' H', Inv X pins σ' H' s' ∧ W n σ' H') ?_ m0 ⟨σ, H, I, w0⟩)
  rintro n s1 ⟨σ1, H1, I1, w1⟩
  refine wpAny_passesOwn hp (thn (hc.run pins s1 σ1 H1 _ I1 (turn n σ1 H1 w1)) fun b s2 ⟨H2, I2, q2⟩ => ?_)
  cases b with
  | true =>
    obtain ⟨N, hN, q2⟩ := q2.tt rfl
    rw [if_pos rfl]
    refine wpAny_passesOwn hp (thn (hb.run pins s2 σ1 H2 _ I2 q2) fun f s3 q3 => ?_)
    cases f with
    | next =>
      obtain ⟨σ3, H3, I3, n3⟩ := q3
      obtain ⟨m', hm, w3⟩ := hN σ3 H3 n3
      exact ⟨m', hm, σ3, H3, I3, w3⟩
    | cont =>
      obtain ⟨σ3, H3, I3, n3⟩ := q3
      obtain ⟨m', hm, w3⟩ := hN σ3 H3 n3
      exact ⟨m', hm, σ3, H3, I3, w3⟩
    | brk => exact q3
    | ret v => exact q3
  | false =>
    have q2 := q2.ff rfl
    rw [if_neg Bool.false_ne_true]
    exact wpAny_execs_nil ⟨σ1, H2, I2, q2⟩
/-- while, by a word and a measure of the state -/
theorem wh_by {c : TT} {tb : TS} {D : Ends} {σ : L2.St} {H : Hp} (Pv : Nat → L2.St → Hp → Prop) (m : Nat) (h0 : Pv m σ H)
    (hs : ∀ m σ H, Pv m σ H → c σ H fun b H1 => Br b (tb { D with nx := fun σ' H' => ∃ m', m' < m ∧ Pv m' σ' H', ct := fun σ' H' => ∃ m', m' < m ∧ Pv m' σ' H', bk := D.nx } σ H1) (D.nx σ H1))
    (mono : ∀ σ H Q Q', (∀ b H1, Q b H1 → Q' b H1) → c σ H Q → c σ H Q') : uWhile c tb D σ H := by
  refine ⟨Pv, ⟨m, h0⟩, fun m σ H p => mono σ H _ _ (fun b H1 q => ⟨fun e => ⟨_, fun σ' H' h => h, q.tt e⟩, q.ff⟩) (hs m σ H p)⟩
theorem pnever {M : Model} {A : Around} {env : Env} : PassesOwn M A env (fun _ _ => False) := PassesOwn.never
end

theorem _root_.L2.Room.u65 {k : Nat} {A : Around} (r : Room k A) : A.units + 65 < cLine := by have := r.un; omega
/-! ### a def that may be called -/
structure Cal (P : Program) (w : World) (K : PySem.W.Frag) (mg : Str → Option Value) (base : Heap) (CX : CXT) (k : Nat) (x : Str) (ps : List Str) (sp : Sp) : Prop where
  ex : ∃ (f : Addr) (fd : FuncData), FnOk P w K mg base CX k f fd ps sp ∧ mg x = some (.ref f) ∧ PySem.W.keepIn K (.ref f) = true ∧ Binds K fd ps []
theorem Cal.pe {X : Cx} {CX : CXT} {k : Nat} {x : Str} {ps : List Str} {sp : Sp} {E : XK} {e : Expr} {es : List Expr} {t : TA} {p pos : Pos} (c : Cal X.prog X.w X.K X.mg X.base CX k x ps sp) (hr : Room k X.A) (hx : Passes CX X E)
    (ha : PA X (e :: es) t) (hg : Gl X x := by rfl) (hdb : (x == ("__debug__" : Str)) = false := by decide) (he : starEach (e :: es) X.env = (false, eval e X.env) :: starEach es X.env := by rfl) (hpl : (backTo pos (starEach es X.env)).any (·.1) = false := by rfl) :
    PE X (.Call (.Name x p) (e :: es) [] pos) (tCall sp [] E t) := by
  obtain ⟨f, fd, F, m, kp, b⟩ := c.ex
  exact pe_call F hr hg m kp b .nil hx ha hdb he hpl
theorem Cal.pe0 {X : Cx} {CX : CXT} {k : Nat} {x : Str} {ps : List Str} {sp : Sp} {E : XK} {p pos : Pos} (c : Cal X.prog X.w X.K X.mg X.base CX k x ps sp) (hr : Room k X.A) (hx : Passes CX X E)
    (hg : Gl X x := by rfl) (hdb : (x == ("__debug__" : Str)) = false := by decide) : PE X (.Call (.Name x p) [] [] pos) (tCall sp [] E tNil) := by
  obtain ⟨f, fd, F, m, kp, b⟩ := c.ex
  exact pe_call0 F hr hg m kp b .nil hx hdb
end U

/-! PegD: data of any depth, rows. -/
namespace Peg
open PySem PySem.Spec PyProof.Rows L2 U
section
variable {K : PySem.W.Frag} {H H' : Hp}
theorem same_rd {a : Addr} {u : HO} (e : Same H H') (h : Rd H a u) : Rd H' a u := by
  rcases h with h | ⟨o, h⟩
  · exact .inl (e _ _ h)
  · exact .inr ⟨o, e _ _ h⟩
theorem same_l {a : Addr} {xs : List V} (e : Same H H') (h : SqL K H a xs) : SqL K H' a xs := e.seq h
theorem same_t {a : Addr} {xs : List V} (e : Same H H') (h : SqT K H a xs) : SqT K H' a xs := by
  rcases h with h | h
  · exact .inl (same_rd e h)
  · exact .inr h
theorem same_new {p : Addr} {o : HO} (h : H p = none) : Same H (upd H p o) := fun a u e => by
  rw [upd_ne (ne_of_none e h)]
  exact e
/-- an object that H does not know may change -/
theorem same_mut {p : Addr} {o : HO} (e : Same H H') (h : H p = none) : Same H (upd H' p o) := fun a u ha => by
  rw [upd_ne (ne_of_none ha h)]
  exact e a u ha
mutual
theorem dp_mono (e : Same H H') : ∀ {d : PyData} {v : V}, Dp K H v d → Dp K H' v d
  | _, _, .non => .non
  | _, _, .bl b => .bl b
  | _, _, .int i => .int i
  | _, _, .str x => .str x
  | _, _, .lst h a => .lst (same_l e h) (dpAll_mono e a)
  | _, _, .tup h a => .tup (same_t e h) (dpAll_mono e a)
theorem dpAll_mono (e : Same H H') : ∀ {ds : List PyData} {vs : List V}, DpAll K H vs ds → DpAll K H' vs ds
  | _, _, .nil => .nil
  | _, _, .cons a b => .cons (dp_mono e a) (dpAll_mono e b)
end
theorem dp_lst {v : V} {ds : List PyData} (h : Dp K H v (.list ds)) : ∃ a xs, v = .ref a ∧ SqL K H a xs ∧ DpAll K H xs ds := by
  cases h with
  | lst h a => exact ⟨_, _, rfl, h, a⟩
theorem dp_tup {v : V} {ds : List PyData} (h : Dp K H v (.tuple ds)) : ∃ a xs, v = .ref a ∧ SqT K H a xs ∧ DpAll K H xs ds := by
  cases h with
  | tup h a => exact ⟨_, _, rfl, h, a⟩
theorem dp_int {v : V} {i : Int} (h : Dp K H v (.int i)) : v = .int i := by cases h; rfl
theorem dp_str {v : V} {z : Str} (h : Dp K H v (.str z)) : v = .str z := by cases h; rfl
theorem dp_bl {v : V} {b : Bool} (h : Dp K H v (.bool b)) : v = .bl b := by cases h; rfl
theorem dpAll_nil {vs : List V} (h : DpAll K H vs []) : vs = [] := by cases h; rfl
theorem dpAll_cons {vs : List V} {d : PyData} {ds : List PyData} (h : DpAll K H vs (d :: ds)) : ∃ v r, vs = v :: r ∧ Dp K H v d ∧ DpAll K H r ds := by
  cases h with
  | cons a b => exact ⟨_, _, rfl, a, b⟩
theorem dpAll_length : ∀ {ds : List PyData} {vs : List V}, DpAll K H vs ds → vs.length = ds.length
  | _, _, .nil => rfl
  | _, _, .cons a b => by rw [List.length_cons, List.length_cons, dpAll_length b]
theorem dpAll_get : ∀ {ds : List PyData} {vs : List V} {i : Nat} {v : V}, DpAll K H vs ds → vs[i]? = some v → ∃ d, ds[i]? = some d ∧ Dp K H v d
  | _, _, _, _, .nil, e => by simp at e
  | _, _, 0, _, .cons a _, e => by
    have e := Option.some.inj e
    subst e
    exact ⟨_, rfl, a⟩
  | _, _, i + 1, v, .cons _ b, e => by
    obtain ⟨d, h1, h2⟩ := dpAll_get (i := i) (v := v) b (by simpa using e)
    exact ⟨d, by simpa using h1, h2⟩
theorem dpAll_get2 : ∀ {ds : List PyData} {vs : List V} {i : Nat} {d : PyData}, DpAll K H vs ds → ds[i]? = some d → ∃ v, vs[i]? = some v ∧ Dp K H v d
  | _, _, _, _, .nil, e => by simp at e
  | _, _, 0, _, .cons a _, e => by
    have e := Option.some.inj e
    subst e
    exact ⟨_, rfl, a⟩
  | _, _, i + 1, v, .cons _ b, e => by
    obtain ⟨d, h1, h2⟩ := dpAll_get2 (i := i) (d := v) b (by simpa using e)
    exact ⟨d, by simpa using h1, h2⟩
theorem dpAll_snoc : ∀ {ds : List PyData} {vs : List V} {v : V} {d : PyData}, DpAll K H vs ds → Dp K H v d → DpAll K H (vs ++ [v]) (ds ++ [d])
  | _, _, _, _, .nil, e => .cons e .nil
  | _, _, _, _, .cons a b, e => .cons a (dpAll_snoc b e)
theorem dpAll_append : ∀ {ds es : List PyData} {vs ws : List V}, DpAll K H vs ds → DpAll K H ws es → DpAll K H (vs ++ ws) (ds ++ es)
  | _, _, _, _, .nil, e => e
  | _, _, _, _, .cons a b, e => .cons a (dpAll_append b e)
theorem dpAll_take : ∀ {ds : List PyData} {vs : List V} (n : Nat), DpAll K H vs ds → DpAll K H (vs.take n) (ds.take n)
  | _, _, 0, _ => .nil
  | _, _, _ + 1, .nil => .nil
  | _, _, n + 1, .cons a b => .cons a (dpAll_take n b)
theorem dpAll_drop : ∀ {ds : List PyData} {vs : List V} (n : Nat), DpAll K H vs ds → DpAll K H (vs.drop n) (ds.drop n)
  | _, _, 0, h => h
  | _, _, _ + 1, .nil => .nil
  | _, _, n + 1, .cons a b => dpAll_drop n b
theorem dpAll_reverse : ∀ {ds : List PyData} {vs : List V}, DpAll K H vs ds → DpAll K H vs.reverse ds.reverse
  | _, _, .nil => .nil
  | _, _, .cons a b => by
    rw [List.reverse_cons, List.reverse_cons]
    exact dpAll_snoc (dpAll_reverse b) a
theorem dpAll_set : ∀ {ds : List PyData} {vs : List V} (n : Nat) {v : V} {d : PyData}, DpAll K H vs ds → Dp K H v d → DpAll K H (vs.set n v) (ds.set n d)
  | _, _, _, _, _, .nil, _ => .nil
  | _, _, 0, _, _, .cons a b, e => .cons e b
  | _, _, n + 1, _, _, .cons a b, e => .cons a (dpAll_set n b e)
end
/-- an item of a list, of a tuple, by a place that is not negative -/
theorem at_nat {α : Type} {xs : List α} {j : Nat} {v : α} {z : Int} (e : z = (j : Int)) (h : xs[j]? = some v) : atI xs z = some v := by
  rw [e]
  exact atI_nat h

theorem at_ex {α : Type} {xs : List α} {i : Int} (h0 : 0 ≤ i) (h : i < xs.length) : ∃ c, atI xs i = some c := by
  have e : xs[i.toNat]? = some (xs[i.toNat]'(by omega)) := List.getElem?_eq_getElem (by omega)
  exact ⟨_, at_nat (by omega) e⟩
theorem sz {n : Nat} (h : n ≤ 100000) : n ≤ sizeLine := Nat.le_trans h (by decide)
theorem szl {n : Nat} (h : n < 100000) : n < sizeLine := Nat.lt_of_lt_of_le h (by decide)

theorem szr {n : Nat} (h : Nat.ble n 100000 = true) : n ≤ sizeLine := sz (Nat.le_of_ble_eq_true h)

/-! ### tuples stay, whatever else is changed -/
def Tups (H H' : Hp) : Prop := ∀ b xs, Rd H b (.tup xs) → Rd H' b (.tup xs)
theorem Tups.refl (H : Hp) : Tups H H := fun _ _ h => h
theorem Tups.trans {H H1 H2 : Hp} (a : Tups H H1) (b : Tups H1 H2) : Tups H H2 := fun c xs h => b c xs (a c xs h)
theorem tups_of {H H' : Hp} (e : Same H H') : Tups H H' := fun b xs h => same_rd e h
def Plain (u : HO) : Prop := match u with
  | .tup _ => False
  | .frz _ _ => False
  | _ => True
theorem Tups.mut {H H' : Hp} {p : Addr} {u o : HO} (a : Tups H H') (h : H' p = some u) (k : Plain u) : Tups H (upd H' p o) := fun b xs q => by
  have q := a b xs q
  have e : b ≠ p := fun e => by
    subst e
    rcases q with q | ⟨o, q⟩
    · rw [h] at q; cases q; exact k
    · rw [h] at q; cases q; exact k
  rcases q with q | ⟨o, q⟩
  · exact .inl (by rw [upd_ne e]; exact q)
  · exact .inr ⟨o, by rw [upd_ne e]; exact q⟩
theorem tups_t {K : PySem.W.Frag} {H H' : Hp} {a : Addr} {xs : List V} (e : Tups H H') (h : SqT K H a xs) : SqT K H' a xs := by
  rcases h with h | h
  · exact .inl (e _ _ h)
  · exact .inr h

/-! ### small letters -/
abbrev az : Str := "abcdefghijklmnopqrstuvwxyz"
theorem az_codes : az.cps.toList = (List.range 26).map (· + 97) := by decide +kernel
theorem az_len : az.cps.toList.length = 26 := by rw [az_codes]; rfl
theorem az_sz : az.length ≤ sizeLine := by
  have e : az.length = 26 := by rw [← az_len]; simp [Str.length]
  rw [e]; decide
theorem az_at {i : Int} (h0 : 0 ≤ i) (h : i < 26) : atI az.cps.toList i = some (i.toNat + 97) := by
  refine at_nat (j := i.toNat) (by omega) ?_
  rw [az_codes, List.getElem?_map, List.getElem?_range (by omega)]
  rfl
theorem az_mem {c : Nat} : c ∈ az.cps.toList ↔ 97 ≤ c ∧ c ≤ 122 := by
  rw [az_codes, List.mem_map]
  constructor
  · rintro ⟨a, h, rfl⟩
    have := List.mem_range.mp h
    omega
  · rintro ⟨h1, h2⟩
    exact ⟨c - 97, List.mem_range.mpr (by omega), by omega⟩
/-- a text of n small letters -/
structure Az (z : Str) (n : Nat) : Prop where
  all : ∀ c ∈ z.cps.toList, 97 ≤ c ∧ c ≤ 122
  len : z.length = n
theorem str_len (z : Str) : z.length = z.cps.toList.length := by simp [Str.length]
theorem str_app_len (a b : Str) : (a ++ b).length = a.length + b.length := Str.length_append a b
theorem str_app_codes (a b : Str) : (a ++ b).cps.toList = a.cps.toList ++ b.cps.toList := by
  show (a.cps ++ b.cps).toList = _
  simp
theorem Az.one {c : Nat} (h : 97 ≤ c ∧ c ≤ 122) : Az ⟨#[c]⟩ 1 where
  all := fun d hd => by
    have e : d = c := by simpa using hd
    rw [e]
    exact h
  len := rfl
theorem Az.app {a b : Str} {n m : Nat} (h : Az a n) (k : Az b m) : Az (a ++ b) (n + m) where
  all := fun c hc => by
    rw [str_app_codes] at hc
    rcases List.mem_append.mp hc with q | q
    · exact h.all c q
    · exact k.all c q
  len := by rw [str_app_len, h.len, k.len]
theorem Az.nil : Az "" 0 where
  all := fun c hc => by
    have e : ("" : Str).cps.toList = [] := by decide +kernel
    rw [e] at hc
    cases hc
  len := by decide +kernel
theorem Az.ok {z : Str} {n : Nat} (h : Az z n) : PyData.strOk z = true := by
  unfold PyData.strOk
  rw [Array.all_eq_true']
  intro c hc
  have := h.all c (Array.mem_toList_iff.mpr hc)
  exact decide_eq_true (by omega)

theorem cutV_map {α : Type} (f : α → V) (ns : List α) (lo hi : Option Int) : ∃ ms : List α, cutV (ns.map f) lo hi = ms.map f ∧ ms.length ≤ ns.length := by
  refine ⟨(ns.drop (HT.sIx (ns.map f).length 0 lo)).take (HT.sIx (ns.map f).length (ns.map f).length hi - HT.sIx (ns.map f).length 0 lo), ?_, ?_⟩
  · unfold cutV
    rw [List.map_take, List.map_drop]
  · rw [List.length_take, List.length_drop]
    omega
theorem cut_dp {α : Type} {K : PySem.W.Frag} {H : Hp} (f : α → PyData) {ns : List α} {xs : List V} (h : DpAll K H xs (ns.map f)) (lo hi : Option Int) : ∃ ms : List α, DpAll K H (cutV xs lo hi) (ms.map f) ∧ ∀ m ∈ ms, m ∈ ns := by
  unfold cutV
  generalize HT.sIx xs.length 0 lo = d
  generalize HT.sIx xs.length xs.length hi - d = e
  refine ⟨(ns.drop d).take e, ?_, fun m hm => List.mem_of_mem_drop (List.mem_of_mem_take hm)⟩
  rw [List.map_take, List.map_drop]
  exact dpAll_take _ (dpAll_drop _ h)
/-! ### comprehensions over a list -/
section
variable {K : PySem.W.Frag} {H : Hp}
/-- [e for x in xs], each e a value that leaves what stood -/
theorem lc_map {a : Addr} {xs : List V} {tl te : TE} {j : Nat} {σ : L2.St} {Q : VK} (f : Nat → V) (hl : SqL K H a xs) (htl : ∀ R, R (.ref a) H → tl σ H R) (hz : xs.length < 100000) (hw : ∀ x, wipe ((wipe σ [j]).set j (some x)) [j] = wipe σ [j])
    (he : ∀ (i : Nat) (x : V) (H1 : Hp) (R : VK), xs[i]? = some x → Same H H1 → (∀ H2, Same H1 H2 → R (f i) H2) → te ((wipe σ [j]).set j (some x)) H1 R)
    (q : ∀ (p : Addr) (H2 : Hp), H p = none → Same H H2 → H2 p = some (.lst ((List.range xs.length).map f)) → Q (.ref p) H2) : uLc (iList K tl) (gName j) tYes te [j] σ H Q := by
  refine uLc_of (htl _ ⟨a, rfl, ⟨xs, hl⟩, fun D hD => lc_list (K := K) (a := a) (xs := xs) (fun i H' => Same H H' ∧ H' D = some (.lst ((List.range i).map f))) ⟨same_new hD, upd_same⟩ (fun i H' _ h => same_l h.1 hl) ?_ ?_⟩)
  · rintro i x H' e ⟨s, hd⟩
    have hi : i < xs.length := (List.getElem?_eq_some_iff.mp e).1
    refine ⟨hw x, ?_⟩
    unfold tYes
    dsimp only
    rw [if_pos rfl]
    refine he i x H' _ e s fun H2 s2 => ⟨_, s2 _ _ hd, szl (by simp; omega), same_mut (s.trans s2) hD, ?_⟩
    rw [upd_same, List.range_succ, List.map_append]
    rfl
  · rintro H' ⟨s, hd⟩
    exact q D H' hD s hd
end

/-! ### rows -/
structure Row where
  n : Int
  one : Str
  other : Str
  rise : Int
deriving DecidableEq
def rowV (r : Row) : List V := [.int r.n, .str r.one, .str r.other, .int r.rise]
def rowD (r : Row) : PyData := .tuple [.int r.n, .str r.one, .str r.other, .int r.rise]
def rowsD (rows : List Row) : PyData := .list (rows.map rowD)
section
variable {K : PySem.W.Frag} {H H' : Hp}
theorem row_at {v : V} {r : Row} (h : Dp K H v (rowD r)) : ∃ a, v = .ref a ∧ SqT K H a (rowV r) := by
  obtain ⟨a, xs, rfl, h, al⟩ := dp_tup h
  obtain ⟨_, _, rfl, h1, al⟩ := dpAll_cons al
  obtain ⟨_, _, rfl, h2, al⟩ := dpAll_cons al
  obtain ⟨_, _, rfl, h3, al⟩ := dpAll_cons al
  obtain ⟨_, _, rfl, h4, al⟩ := dpAll_cons al
  obtain rfl := dpAll_nil al
  obtain rfl := dp_int h1
  obtain rfl := dp_str h2
  obtain rfl := dp_str h3
  obtain rfl := dp_int h4
  exact ⟨a, rfl, h⟩
theorem row_mk {a : Addr} {r : Row} (h : SqT K H a (rowV r)) : Dp K H (.ref a) (rowD r) := .tup h (.cons (.int _) (.cons (.str _) (.cons (.str _) (.cons (.int _) .nil))))
theorem rows_at {v : V} {rows : List Row} (h : Dp K H v (rowsD rows)) : ∃ a xs, v = .ref a ∧ SqL K H a xs ∧ xs.length = rows.length ∧ (∀ (i : Nat) x, xs[i]? = some x → ∃ r t, rows[i]? = some r ∧ x = .ref t ∧ SqT K H t (rowV r)) := by
  obtain ⟨a, xs, rfl, h, al⟩ := dp_lst h
  refine ⟨a, xs, rfl, h, by rw [dpAll_length al, List.length_map], fun i x e => ?_⟩
  obtain ⟨d, hd, h1⟩ := dpAll_get al e
  rw [List.getElem?_map] at hd
  cases er : rows[i]? with
  | none => rw [er] at hd; cases hd
  | some r =>
    rw [er] at hd
    have e : rowD r = d := Option.some.inj hd
    subst e
    obtain ⟨t, rfl, h2⟩ := row_at h1
    exact ⟨r, t, rfl, rfl, h2⟩
theorem row_tups {v : V} {r : Row} (e : Tups H H') (h : Dp K H v (rowD r)) : Dp K H' v (rowD r) := by
  obtain ⟨a, rfl, h2⟩ := row_at h
  exact row_mk (tups_t e h2)
theorem prows_tups (e : Tups H H') : ∀ {rows : List Row} {xs : List V}, DpAll K H xs (rows.map rowD) → DpAll K H' xs (rows.map rowD)
  | [], _, .nil => .nil
  | r :: rows, _, .cons a b => .cons (row_tups e a) (prows_tups e b)
theorem rowD_eqv (r s : Row) : PyData.eqv (rowD r) (rowD s) = decide (r = s) := by
  obtain ⟨a, b, c, d⟩ := r
  obtain ⟨a', b', c', d'⟩ := s
  have e : PyData.eqv (rowD ⟨a, b, c, d⟩) (rowD ⟨a', b', c', d'⟩) = ((a == a') && ((b == b') && ((c == c') && ((d == d') && true)))) := by simp only [rowD, PyData.eqv, PyData.eqvAll]
  rw [e]
  by_cases h : (⟨a, b, c, d⟩ : Row) = ⟨a', b', c', d'⟩
  · cases h; simp
  · rw [decide_eq_false h]
    by_cases h1 : a = a'
    · by_cases h2 : b = b'
      · by_cases h3 : c = c'
        · by_cases h4 : d = d'
          · exact absurd (by rw [h1, h2, h3, h4]) h
          · simp [h4]
        · simp [h3]
      · simp [h2]
    · simp [h1]
theorem rowsD_eqv : ∀ (a b : List Row), PyData.eqvAll (a.map rowD) (b.map rowD) = decide (a = b)
  | [], [] => by simp [PyData.eqvAll]
  | [], _ :: _ => by simp [PyData.eqvAll]
  | _ :: _, [] => by simp [PyData.eqvAll]
  | r :: a, s :: b => by
    rw [List.map_cons, List.map_cons, PyData.eqvAll, rowD_eqv, rowsD_eqv a b]
    by_cases h1 : r = s
    · by_cases h2 : a = b
      · simp [h1, h2]
      · simp [h1, h2]
    · simp [h1]
/-- a row's texts are texts -/
def Row.Ok (r : Row) : Prop := PyData.strOk r.one = true ∧ PyData.strOk r.other = true
theorem rowD_lay {r : Row} (h : r.Ok) : (rowD r).canLay0 = true := by simp [rowD, PyData.canLay0, PyData.canLayAll0, h.1, h.2]
theorem rowD_depth (r : Row) : (rowD r).depth = 1 := by simp [rowD, PyData.depth, PyData.depthAll]
theorem rowD_shaped {r : Row} (h : r.Ok) : SeqAt.shaped (rowD r) = true := by
  show ((rowD r).canLay0 && decide ((rowD r).depth ≤ 64)) = true
  rw [Bool.and_eq_true, rowD_depth]
  exact ⟨rowD_lay h, by decide⟩
theorem rowsD_lay : ∀ {rows : List Row}, (∀ r ∈ rows, r.Ok) → PyData.canLayAll0 (rows.map rowD) = true
  | [], _ => by simp [PyData.canLayAll0]
  | r :: rows, h => by simp [PyData.canLayAll0, rowD_lay (h r (List.mem_cons_self ..)), rowsD_lay fun s hs => h s (List.mem_cons_of_mem _ hs)]
theorem rowsD_depth : ∀ rows : List Row, PyData.depthAll (rows.map rowD) ≤ 1
  | [] => by simp [PyData.depthAll]
  | r :: rows => by
    have h1 := rowsD_depth rows
    have h2 := rowD_depth r
    simp only [List.map_cons, PyData.depthAll]
    omega
theorem rowsD_shaped {rows : List Row} (h : ∀ r ∈ rows, r.Ok) : SeqAt.shaped (rowsD rows) = true := by
  have h1 := rowsD_depth rows
  have h2 : PyData.depth (rowsD rows) ≤ 64 := by
    simp only [rowsD, PyData.depth]
    omega
  show (PyData.canLay0 (rowsD rows) && decide (PyData.depth (rowsD rows) ≤ 64)) = true
  rw [Bool.and_eq_true]
  exact ⟨by simp only [rowsD, PyData.canLay0]; exact rowsD_lay h, decide_eq_true h2⟩
end
end Peg

namespace Peg
open PySem PySem.Spec PyProof.Rows L2 U
/-! ### total -/
abbrev N_total : List Str := ["steps", "found", "step"]
/-- the sum of the rises -/
def total (rows : List Row) : Int := (rows.map Row.rise).sum
theorem total_take {rows : List Row} {i : Nat} {r : Row} (e : rows[i]? = some r) : total (rows.take (i + 1)) = total (rows.take i) + r.rise := by
  unfold total
  rw [List.map_take, List.map_take]
  exact sum_take (by rw [List.getElem?_map, e]; rfl)
def sp_total (K : PySem.W.Frag) : Sp := fun vs H Q _ => ∃ (v : V) (rows : List Row), vs = [v] ∧ Dp K H v (rowsD rows) ∧ Q (.int (total rows)) H
def t_total (K : PySem.W.Frag) : TS :=
  (tSeq (tAsg (tC (.int 0)) (gName 1))
  (tSeq (tFor (iList K (uVar 0)) (gName 2)
  (tAsg (tOp kAdd (uVar 1) (tOp (cIxT K) (uVar 2) (tC (.int 3)))) (gName 1)))
  (tRet (uVar 1))))
theorem rd_total {K : PySem.W.Frag} {vs : List V} {H : Hp} {Q : VK} {E : XK} (h : sp_total K vs H Q E) : t_total K { nx := fun _ H' => Q .non H', rt := Q } (start N_total vs) H := by
  obtain ⟨v, rows, rfl, hr, q⟩ := h
  obtain ⟨a, xs, rfl, hl, hlen, hx⟩ := rows_at hr
  refine ⟨a, rfl, ⟨xs, hl⟩, for_list (K := K) (a := a) (xs := xs) (fun i σ H' => H' = H ∧ ∃ w, σ = [some (.ref a), some (.int (total (rows.take i))), w]) ⟨rfl, _, rfl⟩ (fun i σ H' _ h => by rw [h.1]; exact hl) ?_ ?_⟩
  · rintro i x σ H' e ⟨rfl, w, rfl⟩
    obtain ⟨r, t, er, rfl, ht⟩ := hx i x e
    refine ⟨_, _, ht, rfl, rfl, some (.ref t), ?_⟩
    rw [total_take er]
    rfl
  · rintro σ H' ⟨rfl, w, rfl⟩
    rw [hlen, List.take_length]
    exact q
/-! ### _law_peg -/
abbrev N__law_peg : List Str := ["_law_base", "_law_k", "_law_letters"]
def sp__law_peg (K : PySem.W.Frag) : Sp := fun vs H Q _ => ∃ (b k : Int), vs = [.int b, .int k] ∧ 0 ≤ b ∧ b < 676 ∧ 0 ≤ k ∧ k < 600 ∧ ∀ z, Az z 3 → Q (.str z) H
def t__law_peg (K : PySem.W.Frag) : TS :=
  (tSeq (tAsg (tC (.str "abcdefghijklmnopqrstuvwxyz")) (gName 2))
  (tRet (tOp cAddS (tOp cAddS (tOp cIxS (uVar 2) (tOp kMod (tOp kAdd (uVar 0) (uVar 1)) (tC (.int 26)))) (tOp cIxS (uVar 2) (tOp kDiv (uVar 1) (tC (.int 26))))) (tOp cIxS (uVar 2) (tOp kMod (tOp kDiv (uVar 0) (tC (.int 26))) (tC (.int 26)))))))
theorem rd__law_peg {K : PySem.W.Frag} {vs : List V} {H : Hp} {Q : VK} {E : XK} (h : sp__law_peg K vs H Q E) : t__law_peg K { nx := fun _ H' => Q .non H', rt := Q } (start N__law_peg vs) H := by
  obtain ⟨b, k, rfl, b0, b1, k0, k1, q⟩ := h
  refine ⟨by decide, _, az_sz, az_at (by omega) (by omega), by decide, _, az_sz, az_at (by omega) (by omega), sz (Nat.le_of_ble_eq_true rfl), by decide, by decide, _, az_sz, az_at (by omega) (by omega), ?_, ?_⟩
  · exact sz (Nat.le_of_ble_eq_true rfl)
  · exact q _ ((Az.one (by omega)).app (Az.one (by omega)) |>.app (Az.one (by omega)))
/-! ### _law_rise -/
abbrev N__law_rise : List Str := ["_law_cell"]
def sp__law_rise (K : PySem.W.Frag) : Sp := fun vs H Q _ => ∃ (n : Int), vs = [.int n] ∧ ∀ z, Q (.int z) H
def t__law_rise (K : PySem.W.Frag) : TS :=
  (tSeq (uIfS (uT (tOp kEqI (tOp kMod (uVar 0) (tC (.int 3))) (tC (.int 1))))
  (tRet (tOp kSub (tOp kMod (tOp kDiv (uVar 0) (tC (.int 3))) (tC (.int 3))) (tC (.int 1))))
  tNext)
  (tRet (tOp kSub (tOp kMod (tOp kSub (tOp kAdd (tOp kMul (uVar 0) (tC (.int 48271))) (tOp kPow (tC (.int 10)) (tC (.int 60)))) (tC (.int 1))) (tOp kSub (tOp kMul (tC (.int 2)) (tOp kPow (tC (.int 10)) (tC (.int 60)))) (tC (.int 1)))) (tOp kSub (tOp kPow (tC (.int 10)) (tC (.int 60))) (tC (.int 1))))))
theorem p60 : CPow 10 60 := ⟨by decide, by decide, by decide⟩
theorem rd__law_rise {K : PySem.W.Frag} {vs : List V} {H : Hp} {Q : VK} {E : XK} (h : sp__law_rise K vs H Q E) : t__law_rise K { nx := fun _ H' => Q .non H', rt := Q } (start N__law_rise vs) H := by
  obtain ⟨n, rfl, q⟩ := h
  refine ⟨by decide, fun _ => ⟨⟨by decide, by decide⟩, by decide, q _⟩, fun _ => ⟨.inr (by decide), p60, p60, .inl (by decide), by decide, p60, q _⟩⟩
/-! ### _law_steps -/
abbrev N__law_steps : List Str := ["_law_cells", "_law_base", "_law_steps_here", "_law_k", "_law_number"]
def sp__law_steps (K : PySem.W.Frag) : Sp := fun vs H Q _ => ∃ (a : Addr) (ns : List Int) (b : Int), vs = [.ref a, .int b] ∧ SqL K H a (ns.map V.int) ∧ ns.length ≤ 100 ∧ 0 ≤ b ∧ b < 676 ∧
  ∀ (p : Addr) (rows : List Row) (H' : Hp), H p = none → Same H H' → Dp K H' (.ref p) (rowsD rows) → rows.length = ns.length → (∀ r ∈ rows, r.Ok) → Q (.ref p) H'
def t__law_steps (K : PySem.W.Frag) : TS :=
  (tSeq (tAsg (tLst tNil) (gName 2))
  (tSeq (tFor (iRng1 (tCons (tCB (cLenQ K) (tCons (uVar 0) tNil)) tNil)) (gName 3)
  (tSeq (tAsg (tOp kAdd (tC (.int 1)) (tOp kMod (tOp kAdd (uVar 1) (tOp kMul (tC (.int 5)) (uVar 3))) (tC (.int 97)))) (gName 4))
  (tDrop (tBM K "list" rAppend (uVar 2) (tCons (tTup (tCons (uVar 4) (tCons (tCall (sp__law_peg K) [] E0 (tCons (uVar 1) (tCons (uVar 3) tNil))) (tCons (tCall (sp__law_peg K) [] E0 (tCons (uVar 1) (tCons (tOp kAdd (uVar 3) (tC (.int 1))) tNil))) (tCons (tCall (sp__law_rise K) [] E0 (tCons (tOp (cIxL K) (uVar 0) (uVar 3)) tNil)) tNil))))) tNil)))))
  (tRet (uVar 2))))
theorem rd__law_steps {K : PySem.W.Frag} {vs : List V} {H : Hp} {Q : VK} {E : XK} (h : sp__law_steps K vs H Q E) : t__law_steps K { nx := fun _ H' => Q .non H', rt := Q } (start N__law_steps vs) H := by
  obtain ⟨a, ns, b, rfl, hl, hn, b0, b1, q⟩ := h
  have hlen : (ns.map V.int).length = ns.length := List.length_map ..
  refine ⟨by decide, fun p hp => ?_⟩
  have s0 : Same H (upd H p (.lst [])) := same_new hp
  have hl1 : SqL K (upd H p (.lst [])) a (ns.map V.int) := same_l s0 hl
  refine ⟨_, .inl hl1, _, rfl, by rw [hlen]; omega, by rw [hlen]; omega, for_range (lo := 0) (n := ((ns.map V.int).length : Int).toNat) (fun i σ H' => ∃ (rows : List Row) (xs : List V) (v1 v2 : Option V), σ = [some (.ref a), some (.int b), some (.ref p), v1, v2] ∧ Same H H' ∧ H' p = some (.lst xs) ∧ DpAll K H' xs (rows.map rowD) ∧ rows.length = i ∧ ∀ r ∈ rows, r.Ok) ⟨[], [], _, _, rfl, s0, upd_same, .nil, rfl, fun r h => by cases h⟩ ?_ ?_⟩
  · rintro i σ H' hi ⟨rows, xs, v1, v2, rfl, s, hp', al, hr, ok⟩
    have hi' : i < ns.length := by omega
    have hx : (ns.map V.int)[i]? = some (.int (ns[i])) := by rw [List.getElem?_map, List.getElem?_eq_getElem hi']; rfl
    have hxl : xs.length = i := by rw [dpAll_length al, List.length_map, hr]
    refine ⟨.inl (by decide), by decide, .inl ⟨rfl, _, SqL.of hp'⟩, ?_⟩
    refine ⟨b, _, rfl, b0, b1, by omega, by omega, fun z1 h1 => ⟨b, _, rfl, b0, b1, by omega, by omega, fun z2 h2 => ?_⟩⟩
    refine ⟨_, _, same_l s hl, at_nat (by omega) hx, _, rfl, fun rise => ⟨szr rfl, fun t ht => ?_⟩⟩
    have s2 : Same H' (upd H' t (.tup [.int (1 + (b + 5 * (0 + (i : Int))) % 97), .str z1, .str z2, .int rise])) := same_new ht
    have hpt : p ≠ t := ne_of_none hp' ht
    refine ⟨p, xs, _, rfl, rfl, s2 _ _ hp', szl (by omega), ?_⟩
    have s3 : Same H (upd (upd H' t (.tup [.int (1 + (b + 5 * (0 + (i : Int))) % 97), .str z1, .str z2, .int rise])) p (.lst (xs ++ [.ref t]))) := same_mut (s.trans s2) hp
    refine ⟨rows ++ [⟨1 + (b + 5 * (0 + (i : Int))) % 97, z1, z2, rise⟩], _, _, _, rfl, s3, upd_same, ?_, by simp [hr], ?_⟩
    · rw [List.map_append]
      have tp := (tups_of s2).mut (s2 _ _ hp') (o := .lst (xs ++ [.ref t])) True.intro
      refine dpAll_snoc (prows_tups tp al) (row_mk (SqT.of ?_))
      rw [upd_ne hpt.symm]
      exact upd_same
    · intro r hr
      rcases List.mem_append.mp hr with h | h
      · exact ok r h
      · have e := List.mem_singleton.mp h
        subst e
        exact ⟨h1.ok, h2.ok⟩
  · rintro σ H' ⟨rows, xs, v1, v2, rfl, s, hp', al, hr, ok⟩
    exact q p rows H' hp s (.lst (SqL.of hp') al) (by omega) ok
/-! ### _law_sum -/
abbrev N__law_sum : List Str := ["_law_steps_here", "_law_found", "_law_step"]
def sp__law_sum (K : PySem.W.Frag) : Sp := sp_total K
def t__law_sum (K : PySem.W.Frag) : TS :=
  (tSeq (tAsg (tC (.int 0)) (gName 1))
  (tSeq (tFor (iList K (uVar 0)) (gName 2)
  (tAsg (tOp kAdd (uVar 1) (tOp (cIxT K) (uVar 2) (tC (.int 3)))) (gName 1)))
  (tRet (uVar 1))))
theorem rd__law_sum {K : PySem.W.Frag} {vs : List V} {H : Hp} {Q : VK} {E : XK} (h : sp__law_sum K vs H Q E) : t__law_sum K { nx := fun _ H' => Q .non H', rt := Q } (start N__law_sum vs) H := by
  obtain ⟨v, rows, rfl, hr, q⟩ := h
  obtain ⟨a, xs, rfl, hl, hlen, hx⟩ := rows_at hr
  refine ⟨a, rfl, ⟨xs, hl⟩, for_list (K := K) (a := a) (xs := xs) (fun i σ H' => H' = H ∧ ∃ w, σ = [some (.ref a), some (.int (total (rows.take i))), w]) ⟨rfl, _, rfl⟩ (fun i σ H' _ h => by rw [h.1]; exact hl) ?_ ?_⟩
  · rintro i x σ H' e ⟨rfl, w, rfl⟩
    obtain ⟨r, t, er, rfl, ht⟩ := hx i x e
    refine ⟨_, _, ht, rfl, rfl, some (.ref t), ?_⟩
    rw [total_take er]
    rfl
  · rintro σ H' ⟨rfl, w, rfl⟩
    rw [hlen, List.take_length]
    exact q
/-! ### _law_tells -/
abbrev N__law_tells : List Str := ["_law_steps_here", "_law_handed", "_law_found"]
def sp__law_tells (K : PySem.W.Frag) : Sp := fun vs H Q _ => ∃ (v : V) (rows : List Row), vs = [v] ∧ Dp K H v (rowsD rows) ∧ (∀ r ∈ rows, r.Ok) ∧ ∀ (H' : Hp), Same H H' → Q (.bl true) H'
def t__law_tells (K : PySem.W.Frag) : TS :=
  (tSeq (tAsg (tCB (cList K) (tCons (uVar 0) tNil)) (gName 1))
  (tSeq (tAsg (tCall (sp_total K) [] E0 (tCons (uVar 1) tNil)) (gName 2))
  (tSeq (uIfS (uOr (uNot (uT (tCB (cIsi K) (tCons (uVar 2) (tCons (tC (.ty "int")) tNil))))) (uOr (uT (tCB (cIsi K) (tCons (uVar 2) (tCons (tC (.ty "bool")) tNil)))) (uT (tOp (rNeD K) (uVar 1) (uVar 0)))))
  (tRet (tC (.bl false)))
  tNext)
  (tRet (tOp kEqI (uVar 2) (tCall (sp__law_sum K) [] E0 (tCons (uVar 0) tNil)))))))
theorem rd__law_tells {K : PySem.W.Frag} {vs : List V} {H : Hp} {Q : VK} {E : XK} (h : sp__law_tells K vs H Q E) : t__law_tells K { nx := fun _ H' => Q .non H', rt := Q } (start N__law_tells vs) H := by
  obtain ⟨v, rows, rfl, hr, ok, q⟩ := h
  obtain ⟨a, xs, rfl, hl, al⟩ := dp_lst hr
  refine ⟨xs, .inl hl, fun p hp => ?_⟩
  have s : Same H (upd H p (.lst xs)) := same_new hp
  have d1 : Dp K (upd H p (.lst xs)) (.ref p) (rowsD rows) := .lst (SqL.of upd_same) (dpAll_mono s al)
  have d2 : Dp K (upd H p (.lst xs)) (.ref a) (rowsD rows) := dp_mono s hr
  refine ⟨_, rows, rfl, d1, _, _, .base (.int _), rfl, br_f ⟨_, _, .base (.int _), (by decide +kernel : kitB "int" "bool" = some false), br_f ?_⟩⟩
  refine ⟨rowsD rows, rowsD rows, d1, d2, rowsD_shaped ok, rowsD_shaped ok, ?_⟩
  have e : PyData.eqv (rowsD rows) (rowsD rows) = true := by
    show PyData.eqvAll (rows.map rowD) (rows.map rowD) = true
    rw [rowsD_eqv, decide_eq_true rfl]
  rw [e]
  refine br_f ⟨_, rows, rfl, d2, ?_⟩
  show Q (.bl (decide (total rows = total rows))) _
  rw [decide_eq_true rfl]
  exact q _ s
/-! ### law -/
abbrev N_law : List Str := ["_law_script", "_law_cells", "_law_base", "_law_cell", "_law_steps_here", "_law_handed", "_law_before", "_law_one"]
def sp_law (K : PySem.W.Frag) : Sp := fun vs H Q _ => ∃ (a : Addr) (ns : List Int), vs = [.ref a] ∧ SqL K H a (ns.map V.int) ∧ ns.length ≤ 63 ∧ ∀ (H' : Hp), Q (.bl true) H'
def t_law (K : PySem.W.Frag) : TS :=
  (tSeq (tAsg (tSl (cSlL K) (uVar 0) tNoPart (uPart (tC (.int 84)))) (gName 1))
  (tSeq (tAsg (tOp kMod (tCB (cSum K) (tCons (uLc (iList K (uVar 1)) (gName 3) tYes (tOp kMod (uVar 3) (tC (.int 676))) [3]) tNil)) (tC (.int 676))) (gName 2))
  (tSeq (tAsg (tCall (sp__law_steps K) [] E0 (tCons (uVar 1) (tCons (uVar 2) tNil))) (gName 4))
  (tSeq (uIfS (uOr (uNot (uT (tCall (sp__law_tells K) [] E0 (tCons (uVar 4) tNil)))) (uNot (uT (tCall (sp__law_tells K) [] E0 (tCons (tLst tNil) tNil)))))
  (tRet (tC (.bl false)))
  tNext)
  (tSeq (uIfS (uOr (uNot (uT (tCall (sp__law_tells K) [] E0 (tCons (tSl (cSlL K) (uVar 4) tNoPart (uPart (tOp kMod (uVar 2) (tOp kAdd (tCB (cLenQ K) (tCons (uVar 4) tNil)) (tC (.int 1)))))) tNil)))) (uNot (uT (tCall (sp__law_tells K) [] E0 (tCons (uRev K (uVar 4)) tNil)))))
  (tRet (tC (.bl false)))
  tNext)
  (tSeq (uIfS (uT (tOp kEqI (tCB (cLenQ K) (tCons (uVar 4) tNil)) (tC (.int 0))))
  (tRet (tC (.bl true)))
  tNext)
  (tSeq (tAsg (tCB (cList K) (tCons (uVar 4) tNil)) (gName 5))
  (tSeq (tAsg (tCall (sp_total K) [] E0 (tCons (uVar 5) tNil)) (gName 6))
  (tSeq (tAsg (tOp (cIxL K) (uVar 4) (tC (.int 0))) (gName 7))
  (tSeq (tAsg (tTup (tCons (tOp (cIxT K) (uVar 7) (tC (.int 0))) (tCons (tOp (cIxT K) (uVar 7) (tC (.int 1))) (tCons (tOp (cIxT K) (uVar 7) (tC (.int 2))) (tCons (tOp kAdd (tOp (cIxT K) (uVar 7) (tC (.int 3))) (tC (.int 1))) tNil))))) (gSub (uVar 5) (tC (.int 0)) rSetL))
  (tSeq (uIfS (uT (tOp kEqI (tOp kAdd (tOp (cIxT K) (uVar 7) (tC (.int 3))) (tC (.int 1))) (tOp kPow (tC (.int 10)) (tC (.int 60)))))
  (tAsg (tTup (tCons (tOp (cIxT K) (uVar 7) (tC (.int 0))) (tCons (tOp (cIxT K) (uVar 7) (tC (.int 1))) (tCons (tOp (cIxT K) (uVar 7) (tC (.int 2))) (tCons (tOp kSub (tOp (cIxT K) (uVar 7) (tC (.int 3))) (tC (.int 1))) tNil))))) (gSub (uVar 5) (tC (.int 0)) rSetL))
  tNext)
  (tRet (uAndV (tOp kEqI (tOp kSub (tCall (sp_total K) [] E0 (tCons (uVar 5) tNil)) (uVar 6)) (tOp kSub (tOp (cIxT K) (tOp (cIxL K) (uVar 5) (tC (.int 0))) (tC (.int 3))) (tOp (cIxT K) (uVar 7) (tC (.int 3))))) (tCall (sp__law_tells K) [] E0 (tCons (uVar 4) tNil)))))))))))))))
theorem rd_law {K : PySem.W.Frag} {vs : List V} {H : Hp} {Q : VK} {E : XK} (h : sp_law K vs H Q E) : t_law K { nx := fun _ H' => Q .non H', rt := Q } (start N_law vs) H := by
  obtain ⟨a, ns, rfl, hS, hlen, q⟩ := h
  refine ⟨ns.map V.int, hS, fun p hp => ?_⟩
  obtain ⟨ms, em, hms⟩ := cutV_map V.int ns none (some 84)
  have h1 : upd H p (.lst (cutV (ns.map V.int) none (some 84))) p = some (.lst (ms.map V.int)) := by rw [upd_same, em]
  generalize upd H p (.lst (cutV (ns.map V.int) none (some 84))) = H1 at *
  have hml : (ms.map V.int).length = ms.length := List.length_map ..
  refine lc_map (K := K) (a := p) (xs := ms.map V.int) (f := fun i => .int (ms.getD i 0 % 676)) (SqL.of h1) (fun R h => h) (by rw [hml]; omega) (fun x => rfl) (fun i x H2 R e s k => ?_) (fun p2 H2 hp2 s2 h2 => ?_)
  · have e2 : x = .int (ms.getD i 0) := by
      rw [List.getElem?_map] at e
      rw [List.getD_eq_getElem?_getD]
      cases em : ms[i]? with
      | none => rw [em] at e; cases e
      | some z => rw [em] at e; exact (Option.some.inj e).symm
    subst e2
    exact ⟨by decide, k H2 (Same.refl H2)⟩
  generalize hg : (List.map V.int ms).length = n at *
  have h2' : H2 p2 = some (.lst (((List.range n).map fun i => ms.getD i 0 % 676).map V.int)) := by rw [h2, List.map_map]; rfl
  refine ⟨_, SqL.of h2', by decide, ?_⟩
  generalize ((List.range n).map fun i => ms.getD i 0 % 676).sum = b0
  have b1 : 0 ≤ b0 % 676 := by omega
  have b2 : b0 % 676 < 676 := by omega
  refine ⟨p, ms, b0 % 676, rfl, SqL.of (s2 _ _ h1), by omega, b1, b2, fun p3 rows H3 hp3 s3 d3 hr ok => ?_⟩
  obtain ⟨p4, xs, e4, l4, al4⟩ := dp_lst d3
  cases e4
  have hxl : xs.length = rows.length := by rw [dpAll_length al4, List.length_map]
  refine ⟨_, rows, rfl, d3, ok, fun H4 s4 => br_f ⟨szr rfl, fun p5 hp5 => ⟨.ref p5, [], rfl, .lst (SqL.of upd_same) .nil, (fun r h => by cases h), fun H5 s5 => br_f ?_⟩⟩⟩
  have s35 := (s4.trans (same_new hp5)).trans s5
  clear s4 s5
  -- the first few, and all the other way about
  refine ⟨xs, .inl (same_l s35 l4), by omega, xs, same_l s35 l4, fun p6 hp6 => ?_⟩
  obtain ⟨ms1, dm1, sub1⟩ := cut_dp rowD (dpAll_mono (s35.trans (same_new hp6)) al4) none (some (b0 % 676 % (xs.length + 1)))
  have s36 := s35.trans (same_new hp6 (o := .lst (cutV xs none (some (b0 % 676 % (xs.length + 1))))))
  have l6 : (upd H5 p6 (.lst (cutV xs none (some (b0 % 676 % (xs.length + 1)))))) p6 = some (.lst (cutV xs none (some (b0 % 676 % (xs.length + 1))))) := upd_same
  refine ⟨.ref p6, ms1, rfl, .lst (SqL.of l6) dm1, fun r h => ok r (sub1 r h), fun H7 s7 => br_f ?_⟩
  have s37 := s36.trans s7
  refine ⟨xs, same_l s37 l4, fun p8 hp8 => ?_⟩
  have s38 := s37.trans (same_new hp8 (o := .lst xs.reverse))
  refine ⟨_, rows.reverse, rfl, .lst (SqL.of upd_same) ?_, fun r h => ok r (List.mem_reverse.mp h), fun H9 s9 => br_f ?_⟩
  · rw [List.map_reverse]
    exact dpAll_reverse (dpAll_mono s38 al4)
  have s39 := s38.trans s9
  refine ⟨xs, .inl (same_l s39 l4), ⟨fun z => q _, fun z => ?_⟩⟩
  have hx0 : 0 < xs.length := by
    have := of_decide_eq_false z
    omega
  refine ⟨xs, .inl (same_l s39 l4), fun p10 hp10 => ?_⟩
  have s3a := s39.trans (same_new hp10 (o := .lst xs))
  have l10 : (upd H9 p10 (.lst xs)) p10 = some (.lst xs) := upd_same
  generalize upd H9 p10 (.lst xs) = H10 at *
  refine ⟨_, rows, rfl, .lst (SqL.of l10) (dpAll_mono s3a al4), ?_⟩
  obtain ⟨x0, hx⟩ : ∃ x0, xs[0]? = some x0 := ⟨_, List.getElem?_eq_getElem hx0⟩
  obtain ⟨d0, hd0, dx0⟩ := dpAll_get al4 hx
  rw [List.getElem?_map] at hd0
  obtain ⟨r0, hr0, rfl⟩ := Option.map_eq_some_iff.mp hd0
  obtain ⟨t0, rfl, ht0⟩ := row_at dx0
  have ht1 := same_t s3a ht0
  refine ⟨xs, _, same_l s3a l4, at_nat (j := 0) rfl hx, ?_⟩
  refine ⟨_, _, ht1, rfl, _, _, ht1, rfl, _, _, ht1, rfl, _, _, ht1, rfl, szr rfl, fun p11 hp11 => ?_⟩
  have n3a : H3 p10 = none := s39.free hp10
  have ixz : ∀ v, ixN (xs.set 0 v).length 0 = some 0 := fun v => by
    unfold ixN
    rw [List.length_set, if_pos (by decide), if_pos (by omega)]
    rfl
  have ix0 : ixN xs.length 0 = some 0 := by
    unfold ixN
    rw [if_pos (by decide), if_pos (by omega)]
    rfl
  have ne1 : p10 ≠ p11 := ne_of_none l10 hp11
  -- what the end asks
  have fin : ∀ (z : Int) (t1 : Addr) (H' : Hp), Same H3 H' → H' t1 = some (.tup (rowV ⟨r0.n, r0.one, r0.other, z⟩)) → H' p10 = some (.lst (xs.set 0 (.ref t1))) →
      Dp K H' (.ref p10) (rowsD (rows.set 0 ⟨r0.n, r0.one, r0.other, z⟩)) := fun z t1 H' s ht hl => by
    refine .lst (SqL.of hl) ?_
    rw [List.map_set]
    exact dpAll_set 0 (dpAll_mono s al4) (row_mk (SqT.of ht))
  have tot : ∀ z, total (rows.set 0 ⟨r0.n, r0.one, r0.other, z⟩) = total rows - r0.rise + z := fun z => by
    unfold total
    rw [List.map_set]
    exact sum_set (by rw [List.getElem?_map, hr0]; rfl)
  have cmp : ∀ z, decide (total (rows.set 0 ⟨r0.n, r0.one, r0.other, z⟩) - total rows = z - r0.rise) = true := fun z => decide_eq_true (by rw [tot]; omega)
  have st : ∀ v, (xs.set 0 v)[0]? = some v := fun v => by rw [List.getElem?_set_self hx0]
  have l11 : (upd H10 p11 (.tup [.int r0.n, .str r0.one, .str r0.other, .int (r0.rise + 1)])) p10 = some (.lst xs) := by rw [upd_ne ne1]; exact l10
  refine ⟨p10, xs, 0, 0, rfl, rfl, l11, ix0, ?_⟩
  have t11 : (upd (upd H10 p11 (.tup [.int r0.n, .str r0.one, .str r0.other, .int (r0.rise + 1)])) p10 (.lst (xs.set 0 (.ref p11)))) p11 = some (.tup (rowV ⟨r0.n, r0.one, r0.other, r0.rise + 1⟩)) := by rw [upd_ne ne1.symm]; exact upd_same
  have m11 : (upd (upd H10 p11 (.tup [.int r0.n, .str r0.one, .str r0.other, .int (r0.rise + 1)])) p10 (.lst (xs.set 0 (.ref p11)))) p10 = some (.lst (xs.set 0 (.ref p11))) := upd_same
  have s3b : Same H3 (upd (upd H10 p11 (.tup [.int r0.n, .str r0.one, .str r0.other, .int (r0.rise + 1)])) p10 (.lst (xs.set 0 (.ref p11)))) := same_mut (s3a.trans (same_new hp11)) n3a
  have t0b := same_t s3b ht0
  have d3b := dp_mono s3b d3
  generalize upd (upd H10 p11 (.tup [.int r0.n, .str r0.one, .str r0.other, .int (r0.rise + 1)])) p10 (.lst (xs.set 0 (.ref p11))) = H11 at *
  refine ⟨_, _, t0b, rfl, p60, ⟨fun _ => ?_, fun _ => ?_⟩⟩
  · refine ⟨_, _, t0b, rfl, _, _, t0b, rfl, _, _, t0b, rfl, _, _, t0b, rfl, szr rfl, fun p12 hp12 => ?_⟩
    have ne2 : p10 ≠ p12 := ne_of_none m11 hp12
    have l12 : (upd H11 p12 (.tup [.int r0.n, .str r0.one, .str r0.other, .int (r0.rise - 1)])) p10 = some (.lst (xs.set 0 (.ref p11))) := by rw [upd_ne ne2]; exact m11
    refine ⟨p10, _, 0, 0, rfl, rfl, l12, ixz _, ?_⟩
    rw [List.set_set]
    have t12 : (upd (upd H11 p12 (.tup [.int r0.n, .str r0.one, .str r0.other, .int (r0.rise - 1)])) p10 (.lst (xs.set 0 (.ref p12)))) p12 = some (.tup (rowV ⟨r0.n, r0.one, r0.other, r0.rise - 1⟩)) := by rw [upd_ne ne2.symm]; exact upd_same
    have m12 : (upd (upd H11 p12 (.tup [.int r0.n, .str r0.one, .str r0.other, .int (r0.rise - 1)])) p10 (.lst (xs.set 0 (.ref p12)))) p10 = some (.lst (xs.set 0 (.ref p12))) := upd_same
    have s3c : Same H3 (upd (upd H11 p12 (.tup [.int r0.n, .str r0.one, .str r0.other, .int (r0.rise - 1)])) p10 (.lst (xs.set 0 (.ref p12)))) := same_mut (s3b.trans (same_new hp12)) n3a
    have t0c := same_t s3c ht0
    have d3c := dp_mono s3c d3
    exact ⟨_, _, rfl, fin _ _ _ s3c t12 m12, _, _, SqL.of m12, at_nat (j := 0) rfl (st _), _, _, SqT.of t12, rfl, _, _, t0c, rfl, br_tt (cmp _) ⟨_, rows, rfl, d3c, ok, fun H' _ => q H'⟩⟩
  · exact ⟨_, _, rfl, fin _ _ _ s3b t11 m11, _, _, SqL.of m11, at_nat (j := 0) rfl (st _), _, _, SqT.of t11, rfl, _, _, t0b, rfl, br_tt (cmp _) ⟨_, rows, rfl, d3b, ok, fun H' _ => q H'⟩⟩
def top (i : Nat) : Stmt := PySem.Challenge.pw_pegrise_k02_total.main.body.getD i (.Pass ⟨0, 0, 0, 0⟩)
/-- what the names of the module hold -/
structure Mg (mg : Str → Option Value) : Prop where
  m_len : mg "len" = none
  m_range : mg "range" = none
  m_list : mg "list" = none
  m_int : mg "int" = none
  m_isinstance : mg "isinstance" = none
  m_bool : mg "bool" = none
  m_sum : mg "sum" = none
section
variable {P : Program} {w : World} {K : PySem.W.Frag} {mg : Str → Option Value} {base : Heap}
abbrev s_total : Stmt := top 1
theorem sc_total : FnScope N_total ["steps"] (defScope s_total) := ⟨rfl, rfl, rfl, by decide +kernel, rfl, by decide +kernel, by decide +kernel⟩
theorem ok_total {f : Addr} {fd : FuncData} (F : Fun K "total" "total" s_total f fd) (hm : mg "total" = some (.ref f)) (hb : Binds K fd ["steps"] []) (M : Mg mg)  :
    Cal P w K mg base CX0 1 "total" ["steps"] (sp_total K) := by
  refine ⟨f, fd, F.ok sc_total (fun vs H Q E h => ?_) (fun cdv A outer s H vs Q E hr h => ?_), hm, F.kp, hb⟩
  · unfold sp_total at h
    first
      | (obtain ⟨rfl, _⟩ := h; rfl)
      | (obtain ⟨_, rfl, _⟩ := h; rfl)
      | (obtain ⟨_, _, rfl, _⟩ := h; rfl)
      | (obtain ⟨_, _, _, rfl, _⟩ := h; rfl)
      | (obtain ⟨_, _, _, _, rfl, _⟩ := h; rfl)
      | (obtain ⟨_, _, _, _, _, rfl, _⟩ := h; rfl)
      | (obtain ⟨_, _, _, _, _, _, rfl, _⟩ := h; rfl)
      | (obtain ⟨_, _, _, _, _, _, _, rfl, _⟩ := h; rfl)
      | (obtain ⟨_, _, _, _, _, _, _, _, rfl, _⟩ := h; rfl)
      | (obtain ⟨_, _, _, _, _, _, _, _, _, rfl, _⟩ := h; rfl)
  have hu := hu_of hr
  have hu64 := hr.units
  have hu65 := hr.u65
  have nd := sc_total.nd
  exact ⟨t_total K, (pss_cons (ps_set (i := 1) nd rfl (by first | exact Or.inl rfl | exact Or.inr rfl) pe_int)
  (pss_cons (ps_for pnever rfl (pi_list (uv 0)) (pg_name (i := 2) nd rfl (by first | exact Or.inl rfl | exact Or.inr rfl))
  (pss_one (ps_set (i := 1) nd rfl (by first | exact Or.inl rfl | exact Or.inr rfl) (pe_op o_add (uv 1) (pe_ix x_tup (uv 2) pe_int plainIx)))))
  (pss_one (ps_ret (uv 1))))), rd_total h⟩
abbrev s__law_peg : Stmt := top 3
theorem sc__law_peg : FnScope N__law_peg ["_law_base", "_law_k"] (defScope s__law_peg) := ⟨rfl, rfl, rfl, by decide +kernel, rfl, by decide +kernel, by decide +kernel⟩
theorem ok__law_peg {f : Addr} {fd : FuncData} (F : Fun K "_law_peg" "_law_peg" s__law_peg f fd) (hm : mg "_law_peg" = some (.ref f)) (hb : Binds K fd ["_law_base", "_law_k"] []) (M : Mg mg)  :
    Cal P w K mg base CX0 1 "_law_peg" ["_law_base", "_law_k"] (sp__law_peg K) := by
  refine ⟨f, fd, F.ok sc__law_peg (fun vs H Q E h => ?_) (fun cdv A outer s H vs Q E hr h => ?_), hm, F.kp, hb⟩
  · unfold sp__law_peg at h
    first
      | (obtain ⟨rfl, _⟩ := h; rfl)
      | (obtain ⟨_, rfl, _⟩ := h; rfl)
      | (obtain ⟨_, _, rfl, _⟩ := h; rfl)
      | (obtain ⟨_, _, _, rfl, _⟩ := h; rfl)
      | (obtain ⟨_, _, _, _, rfl, _⟩ := h; rfl)
      | (obtain ⟨_, _, _, _, _, rfl, _⟩ := h; rfl)
      | (obtain ⟨_, _, _, _, _, _, rfl, _⟩ := h; rfl)
      | (obtain ⟨_, _, _, _, _, _, _, rfl, _⟩ := h; rfl)
      | (obtain ⟨_, _, _, _, _, _, _, _, rfl, _⟩ := h; rfl)
      | (obtain ⟨_, _, _, _, _, _, _, _, _, rfl, _⟩ := h; rfl)
  have hu := hu_of hr
  have hu64 := hr.units
  have hu65 := hr.u65
  have nd := sc__law_peg.nd
  exact ⟨t__law_peg K, (pss_cons (ps_set (i := 2) nd rfl (by first | exact Or.inl rfl | exact Or.inr rfl) pe_str)
  (pss_one (ps_ret (pe_op o_addS (pe_op o_addS (pe_ix x_str (uv 2) (pe_op o_mod (pe_op o_add (uv 0) (uv 1)) pe_int) plainIx) (pe_ix x_str (uv 2) (pe_op o_div (uv 1) pe_int) plainIx)) (pe_ix x_str (uv 2) (pe_op o_mod (pe_op o_div (uv 0) pe_int) pe_int) plainIx))))), rd__law_peg h⟩
abbrev s__law_rise : Stmt := top 4
theorem sc__law_rise : FnScope N__law_rise ["_law_cell"] (defScope s__law_rise) := ⟨rfl, rfl, rfl, by decide +kernel, rfl, by decide +kernel, by decide +kernel⟩
theorem ok__law_rise {f : Addr} {fd : FuncData} (F : Fun K "_law_rise" "_law_rise" s__law_rise f fd) (hm : mg "_law_rise" = some (.ref f)) (hb : Binds K fd ["_law_cell"] []) (M : Mg mg)  :
    Cal P w K mg base CX0 1 "_law_rise" ["_law_cell"] (sp__law_rise K) := by
  refine ⟨f, fd, F.ok sc__law_rise (fun vs H Q E h => ?_) (fun cdv A outer s H vs Q E hr h => ?_), hm, F.kp, hb⟩
  · unfold sp__law_rise at h
    first
      | (obtain ⟨rfl, _⟩ := h; rfl)
      | (obtain ⟨_, rfl, _⟩ := h; rfl)
      | (obtain ⟨_, _, rfl, _⟩ := h; rfl)
      | (obtain ⟨_, _, _, rfl, _⟩ := h; rfl)
      | (obtain ⟨_, _, _, _, rfl, _⟩ := h; rfl)
      | (obtain ⟨_, _, _, _, _, rfl, _⟩ := h; rfl)
      | (obtain ⟨_, _, _, _, _, _, rfl, _⟩ := h; rfl)
      | (obtain ⟨_, _, _, _, _, _, _, rfl, _⟩ := h; rfl)
      | (obtain ⟨_, _, _, _, _, _, _, _, rfl, _⟩ := h; rfl)
      | (obtain ⟨_, _, _, _, _, _, _, _, _, rfl, _⟩ := h; rfl)
  have hu := hu_of hr
  have hu64 := hr.units
  have hu65 := hr.u65
  have nd := sc__law_rise.nd
  exact ⟨t__law_rise K, (pss_cons (s_if (t_cmp (c_op o_eqI (pe_op o_mod (uv 0) pe_int) pe_int))
  (pss_one (ps_ret (pe_op o_sub (pe_op o_mod (pe_op o_div (uv 0) pe_int) pe_int) pe_int)))
  pss_nil)
  (pss_one (ps_ret (pe_op o_sub (pe_op o_mod (pe_op o_sub (pe_op o_add (pe_op o_mul (uv 0) pe_int) (pe_op o_pow pe_int pe_int)) pe_int) (pe_op o_sub (pe_op o_mul pe_int (pe_op o_pow pe_int pe_int)) pe_int)) (pe_op o_sub (pe_op o_pow pe_int pe_int) pe_int))))), rd__law_rise h⟩
abbrev s__law_steps : Stmt := top 5
theorem sc__law_steps : FnScope N__law_steps ["_law_cells", "_law_base"] (defScope s__law_steps) := ⟨rfl, rfl, rfl, by decide +kernel, rfl, by decide +kernel, by decide +kernel⟩
theorem ok__law_steps {f : Addr} {fd : FuncData} (F : Fun K "_law_steps" "_law_steps" s__law_steps f fd) (hm : mg "_law_steps" = some (.ref f)) (hb : Binds K fd ["_law_cells", "_law_base"] []) (M : Mg mg) (c__law_rise : Cal P w K mg base CX0 1 "_law_rise" ["_law_cell"] (sp__law_rise K)) (c__law_peg : Cal P w K mg base CX0 1 "_law_peg" ["_law_base", "_law_k"] (sp__law_peg K)) :
    Cal P w K mg base CX0 2 "_law_steps" ["_law_cells", "_law_base"] (sp__law_steps K) := by
  refine ⟨f, fd, F.ok sc__law_steps (fun vs H Q E h => ?_) (fun cdv A outer s H vs Q E hr h => ?_), hm, F.kp, hb⟩
  · unfold sp__law_steps at h
    first
      | (obtain ⟨rfl, _⟩ := h; rfl)
      | (obtain ⟨_, rfl, _⟩ := h; rfl)
      | (obtain ⟨_, _, rfl, _⟩ := h; rfl)
      | (obtain ⟨_, _, _, rfl, _⟩ := h; rfl)
      | (obtain ⟨_, _, _, _, rfl, _⟩ := h; rfl)
      | (obtain ⟨_, _, _, _, _, rfl, _⟩ := h; rfl)
      | (obtain ⟨_, _, _, _, _, _, rfl, _⟩ := h; rfl)
      | (obtain ⟨_, _, _, _, _, _, _, rfl, _⟩ := h; rfl)
      | (obtain ⟨_, _, _, _, _, _, _, _, rfl, _⟩ := h; rfl)
      | (obtain ⟨_, _, _, _, _, _, _, _, _, rfl, _⟩ := h; rfl)
  have hu := hu_of hr
  have hu64 := hr.units
  have hu65 := hr.u65
  have nd := sc__law_steps.nd
  exact ⟨t__law_steps K, (pss_cons (ps_set (i := 2) nd rfl (by first | exact Or.inl rfl | exact Or.inr rfl) (pe_lst pa_nil))
  (pss_cons (ps_for pnever rfl (pi_range1 (by rfl) M.m_range (pa_cons (pe_callB l_seq (by rfl) M.m_len (by decide +kernel) (pa_cons (uv 0) pa_nil)) pa_nil)) (pg_name (i := 3) nd rfl (by first | exact Or.inl rfl | exact Or.inr rfl))
  (pss_cons (ps_set (i := 4) nd rfl (by first | exact Or.inl rfl | exact Or.inr rfl) (pe_op o_add pe_int (pe_op o_mod (pe_op o_add (uv 1) (pe_op o_mul pe_int (uv 3))) pe_int)))
  (pss_one (ps_expr (pe_bm PySem.F.plainAttrs_list PySem.F.slot_list_append PySem.F.type_list_append mt_append (uv 2) (pa_cons (pe_tup (pa_cons (uv 4) (pa_cons (c__law_peg.pe (hr.mono (by decide)) pass0 (pa_cons (uv 1) (pa_cons (uv 3) pa_nil))) (pa_cons (c__law_peg.pe (hr.mono (by decide)) pass0 (pa_cons (uv 1) (pa_cons (pe_op o_add (uv 3) pe_int) pa_nil))) (pa_cons (c__law_rise.pe (hr.mono (by decide)) pass0 (pa_cons (pe_ix x_list (uv 0) (uv 3) plainIx) pa_nil)) pa_nil))))) pa_nil))))))
  (pss_one (ps_ret (uv 2))))), rd__law_steps h⟩
abbrev s__law_sum : Stmt := top 6
theorem sc__law_sum : FnScope N__law_sum ["_law_steps_here"] (defScope s__law_sum) := ⟨rfl, rfl, rfl, by decide +kernel, rfl, by decide +kernel, by decide +kernel⟩
theorem ok__law_sum {f : Addr} {fd : FuncData} (F : Fun K "_law_sum" "_law_sum" s__law_sum f fd) (hm : mg "_law_sum" = some (.ref f)) (hb : Binds K fd ["_law_steps_here"] []) (M : Mg mg)  :
    Cal P w K mg base CX0 1 "_law_sum" ["_law_steps_here"] (sp__law_sum K) := by
  refine ⟨f, fd, F.ok sc__law_sum (fun vs H Q E h => ?_) (fun cdv A outer s H vs Q E hr h => ?_), hm, F.kp, hb⟩
  · unfold sp__law_sum at h
    first
      | (obtain ⟨rfl, _⟩ := h; rfl)
      | (obtain ⟨_, rfl, _⟩ := h; rfl)
      | (obtain ⟨_, _, rfl, _⟩ := h; rfl)
      | (obtain ⟨_, _, _, rfl, _⟩ := h; rfl)
      | (obtain ⟨_, _, _, _, rfl, _⟩ := h; rfl)
      | (obtain ⟨_, _, _, _, _, rfl, _⟩ := h; rfl)
      | (obtain ⟨_, _, _, _, _, _, rfl, _⟩ := h; rfl)
      | (obtain ⟨_, _, _, _, _, _, _, rfl, _⟩ := h; rfl)
      | (obtain ⟨_, _, _, _, _, _, _, _, rfl, _⟩ := h; rfl)
      | (obtain ⟨_, _, _, _, _, _, _, _, _, rfl, _⟩ := h; rfl)
  have hu := hu_of hr
  have hu64 := hr.units
  have hu65 := hr.u65
  have nd := sc__law_sum.nd
  exact ⟨t__law_sum K, (pss_cons (ps_set (i := 1) nd rfl (by first | exact Or.inl rfl | exact Or.inr rfl) pe_int)
  (pss_cons (ps_for pnever rfl (pi_list (uv 0)) (pg_name (i := 2) nd rfl (by first | exact Or.inl rfl | exact Or.inr rfl))
  (pss_one (ps_set (i := 1) nd rfl (by first | exact Or.inl rfl | exact Or.inr rfl) (pe_op o_add (uv 1) (pe_ix x_tup (uv 2) pe_int plainIx)))))
  (pss_one (ps_ret (uv 1))))), rd__law_sum h⟩
abbrev s__law_tells : Stmt := top 7
theorem sc__law_tells : FnScope N__law_tells ["_law_steps_here"] (defScope s__law_tells) := ⟨rfl, rfl, rfl, by decide +kernel, rfl, by decide +kernel, by decide +kernel⟩
theorem ok__law_tells {f : Addr} {fd : FuncData} (F : Fun K "_law_tells" "_law_tells" s__law_tells f fd) (hm : mg "_law_tells" = some (.ref f)) (hb : Binds K fd ["_law_steps_here"] []) (M : Mg mg) (c_total : Cal P w K mg base CX0 1 "total" ["steps"] (sp_total K)) (c__law_sum : Cal P w K mg base CX0 1 "_law_sum" ["_law_steps_here"] (sp__law_sum K)) :
    Cal P w K mg base CX0 2 "_law_tells" ["_law_steps_here"] (sp__law_tells K) := by
  refine ⟨f, fd, F.ok sc__law_tells (fun vs H Q E h => ?_) (fun cdv A outer s H vs Q E hr h => ?_), hm, F.kp, hb⟩
  · unfold sp__law_tells at h
    first
      | (obtain ⟨rfl, _⟩ := h; rfl)
      | (obtain ⟨_, rfl, _⟩ := h; rfl)
      | (obtain ⟨_, _, rfl, _⟩ := h; rfl)
      | (obtain ⟨_, _, _, rfl, _⟩ := h; rfl)
      | (obtain ⟨_, _, _, _, rfl, _⟩ := h; rfl)
      | (obtain ⟨_, _, _, _, _, rfl, _⟩ := h; rfl)
      | (obtain ⟨_, _, _, _, _, _, rfl, _⟩ := h; rfl)
      | (obtain ⟨_, _, _, _, _, _, _, rfl, _⟩ := h; rfl)
      | (obtain ⟨_, _, _, _, _, _, _, _, rfl, _⟩ := h; rfl)
      | (obtain ⟨_, _, _, _, _, _, _, _, _, rfl, _⟩ := h; rfl)
  have hu := hu_of hr
  have hu64 := hr.units
  have hu65 := hr.u65
  have nd := sc__law_tells.nd
  exact ⟨t__law_tells K, (pss_cons (ps_set (i := 1) nd rfl (by first | exact Or.inl rfl | exact Or.inr rfl) (pe_callTy b_list (by rfl) M.m_list (by decide +kernel) (pa_cons (uv 0) pa_nil)))
  (pss_cons (ps_set (i := 2) nd rfl (by first | exact Or.inl rfl | exact Or.inr rfl) (c_total.pe (hr.mono (by decide)) pass0 (pa_cons (uv 1) pa_nil)))
  (pss_cons (s_if (PW.pt (w_or (t_not (t_val (pe_callB b_isi (by rfl) M.m_isinstance (by decide +kernel) (pa_cons (uv 2) (pa_cons (pe_bltn (v := .ty "int") (by rfl) M.m_int (by decide +kernel) rfl) pa_nil))))) (w_or (t_val (pe_callB b_isi (by rfl) M.m_isinstance (by decide +kernel) (pa_cons (uv 2) (pa_cons (pe_bltn (v := .ty "bool") (by rfl) M.m_bool (by decide +kernel) rfl) pa_nil)))) (pw_or1 (t_cmp (c_op (op_neD hu64) (uv 1) (uv 0)))))))
  (pss_one (ps_ret pe_bl))
  pss_nil)
  (pss_one (ps_ret (e_cmp (c_op o_eqI (uv 2) (c__law_sum.pe (hr.mono (by decide)) pass0 (pa_cons (uv 0) pa_nil))))))))), rd__law_tells h⟩
abbrev s_law : Stmt := top 8
theorem sc_law : FnScope N_law ["_law_script"] (defScope s_law) := ⟨rfl, rfl, rfl, by decide +kernel, rfl, by decide +kernel, by decide +kernel⟩
theorem ok_law {f : Addr} {fd : FuncData} (F : Fun K "law" "law" s_law f fd) (hm : mg "law" = some (.ref f)) (hb : Binds K fd ["_law_script"] []) (M : Mg mg) (c__law_steps : Cal P w K mg base CX0 2 "_law_steps" ["_law_cells", "_law_base"] (sp__law_steps K)) (c__law_tells : Cal P w K mg base CX0 2 "_law_tells" ["_law_steps_here"] (sp__law_tells K)) (c_total : Cal P w K mg base CX0 1 "total" ["steps"] (sp_total K)) :
    Cal P w K mg base CX0 3 "law" ["_law_script"] (sp_law K) := by
  refine ⟨f, fd, F.ok sc_law (fun vs H Q E h => ?_) (fun cdv A outer s H vs Q E hr h => ?_), hm, F.kp, hb⟩
  · unfold sp_law at h
    first
      | (obtain ⟨rfl, _⟩ := h; rfl)
      | (obtain ⟨_, rfl, _⟩ := h; rfl)
      | (obtain ⟨_, _, rfl, _⟩ := h; rfl)
      | (obtain ⟨_, _, _, rfl, _⟩ := h; rfl)
      | (obtain ⟨_, _, _, _, rfl, _⟩ := h; rfl)
      | (obtain ⟨_, _, _, _, _, rfl, _⟩ := h; rfl)
      | (obtain ⟨_, _, _, _, _, _, rfl, _⟩ := h; rfl)
      | (obtain ⟨_, _, _, _, _, _, _, rfl, _⟩ := h; rfl)
      | (obtain ⟨_, _, _, _, _, _, _, _, rfl, _⟩ := h; rfl)
      | (obtain ⟨_, _, _, _, _, _, _, _, _, rfl, _⟩ := h; rfl)
  have hu := hu_of hr
  have hu64 := hr.units
  have hu65 := hr.u65
  have nd := sc_law.nd
  exact ⟨t_law K, (pss_cons (ps_set (i := 1) nd rfl (by first | exact Or.inl rfl | exact Or.inr rfl) (pe_slice s_list (uv 0) po_none (p_some pe_int)))
  (pss_cons (ps_set (i := 2) nd rfl (by first | exact Or.inl rfl | exact Or.inr rfl) (pe_op o_mod (pe_callB (b_sum rfl) (by rfl) M.m_sum (by decide +kernel) (pa_cons (u_lc (own := [("_law_cell", 3)]) (g := (gName 3)) (tt := tYes) rfl nd (pi_list (uv 1)) (blkOk_by (N := N_law) (sc := defScope s_law) (own := [("_law_cell", 3)]) (by decide +kernel)) (fun _ _ _ _ _ => (pg_name (i := 3) nd rfl (by first | exact Or.inl rfl | exact Or.inr rfl))) (fun _ _ _ _ _ => pts_nil) (fun _ _ _ _ _ => (pe_op o_mod (uv 3) pe_int))) pa_nil)) pe_int))
  (pss_cons (ps_set (i := 4) nd rfl (by first | exact Or.inl rfl | exact Or.inr rfl) (c__law_steps.pe (hr.mono (by decide)) pass0 (pa_cons (uv 1) (pa_cons (uv 2) pa_nil))))
  (pss_cons (s_if (PW.pt (w_or (t_not (t_val (c__law_tells.pe (hr.mono (by decide)) pass0 (pa_cons (uv 4) pa_nil)))) (pw_or1 (t_not (t_val (c__law_tells.pe (hr.mono (by decide)) pass0 (pa_cons (pe_lst pa_nil) pa_nil)))))))
  (pss_one (ps_ret pe_bl))
  pss_nil)
  (pss_cons (s_if (PW.pt (w_or (t_not (t_val (c__law_tells.pe (hr.mono (by decide)) pass0 (pa_cons (pe_slice s_list (uv 4) po_none (p_some (pe_op o_mod (uv 2) (pe_op o_add (pe_callB l_seq (by rfl) M.m_len (by decide +kernel) (pa_cons (uv 4) pa_nil)) pe_int)))) pa_nil)))) (pw_or1 (t_not (t_val (c__law_tells.pe (hr.mono (by decide)) pass0 (pa_cons (e_rev (uv 4)) pa_nil)))))))
  (pss_one (ps_ret pe_bl))
  pss_nil)
  (pss_cons (s_if (t_cmp (c_op o_eqI (pe_callB l_seq (by rfl) M.m_len (by decide +kernel) (pa_cons (uv 4) pa_nil)) pe_int))
  (pss_one (ps_ret pe_bl))
  pss_nil)
  (pss_cons (ps_set (i := 5) nd rfl (by first | exact Or.inl rfl | exact Or.inr rfl) (pe_callTy b_list (by rfl) M.m_list (by decide +kernel) (pa_cons (uv 4) pa_nil)))
  (pss_cons (ps_set (i := 6) nd rfl (by first | exact Or.inl rfl | exact Or.inr rfl) (c_total.pe (hr.mono (by decide)) pass0 (pa_cons (uv 5) pa_nil)))
  (pss_cons (ps_set (i := 7) nd rfl (by first | exact Or.inl rfl | exact Or.inr rfl) (pe_ix x_list (uv 4) pe_int plainIx))
  (pss_cons (ps_asg (pe_tup (pa_cons (pe_ix x_tup (uv 7) pe_int plainIx) (pa_cons (pe_ix x_tup (uv 7) pe_int plainIx) (pa_cons (pe_ix x_tup (uv 7) pe_int plainIx) (pa_cons (pe_op o_add (pe_ix x_tup (uv 7) pe_int plainIx) pe_int) pa_nil))))) (pg_sub (uv 5) pe_int set_list))
  (pss_cons (s_if (t_cmp (c_op o_eqI (pe_op o_add (pe_ix x_tup (uv 7) pe_int plainIx) pe_int) (pe_op o_pow pe_int pe_int)))
  (pss_one (ps_asg (pe_tup (pa_cons (pe_ix x_tup (uv 7) pe_int plainIx) (pa_cons (pe_ix x_tup (uv 7) pe_int plainIx) (pa_cons (pe_ix x_tup (uv 7) pe_int plainIx) (pa_cons (pe_op o_sub (pe_ix x_tup (uv 7) pe_int plainIx) pe_int) pa_nil))))) (pg_sub (uv 5) pe_int set_list)))
  pss_nil)
  (pss_one (ps_ret (v_and (e_cmp (c_op o_eqI (pe_op o_sub (c_total.pe (hr.mono (by decide)) pass0 (pa_cons (uv 5) pa_nil)) (uv 6)) (pe_op o_sub (pe_ix x_tup (pe_ix x_list (uv 5) pe_int plainIx) pe_int plainIx) (pe_ix x_tup (uv 7) pe_int plainIx)))) (pe_one (c__law_tells.pe (hr.mono (by decide)) pass0 (pa_cons (uv 4) pa_nil))))))))))))))))), rd_law h⟩
end
section
variable {P : Program} {w : World} {K : PySem.W.Frag} {mg : Str → Option Value} {base : Heap}
theorem fn_law {f : Addr} {fd : FuncData} (F : Fun K "law" "law" s_law f fd) (M : Mg mg) (c__law_steps : Cal P w K mg base CX0 2 "_law_steps" ["_law_cells", "_law_base"] (sp__law_steps K)) (c__law_tells : Cal P w K mg base CX0 2 "_law_tells" ["_law_steps_here"] (sp__law_tells K)) (c_total : Cal P w K mg base CX0 1 "total" ["steps"] (sp_total K)) :
    FnOk P w K mg base CX0 3 f fd ["_law_script"] (sp_law K) := by
  refine F.ok sc_law (fun vs H Q E h => ?_) (fun cdv A outer s H vs Q E hr h => ?_)
  · unfold sp_law at h
    first
      | (obtain ⟨rfl, _⟩ := h; rfl)
      | (obtain ⟨_, rfl, _⟩ := h; rfl)
      | (obtain ⟨_, _, rfl, _⟩ := h; rfl)
      | (obtain ⟨_, _, _, rfl, _⟩ := h; rfl)
      | (obtain ⟨_, _, _, _, rfl, _⟩ := h; rfl)
      | (obtain ⟨_, _, _, _, _, rfl, _⟩ := h; rfl)
      | (obtain ⟨_, _, _, _, _, _, rfl, _⟩ := h; rfl)
      | (obtain ⟨_, _, _, _, _, _, _, rfl, _⟩ := h; rfl)
      | (obtain ⟨_, _, _, _, _, _, _, _, rfl, _⟩ := h; rfl)
      | (obtain ⟨_, _, _, _, _, _, _, _, _, rfl, _⟩ := h; rfl)
  have hu := hu_of hr
  have hu64 := hr.units
  have hu65 := hr.u65
  have nd := sc_law.nd
  exact ⟨t_law K, (pss_cons (ps_set (i := 1) nd rfl (by first | exact Or.inl rfl | exact Or.inr rfl) (pe_slice s_list (uv 0) po_none (p_some pe_int)))
  (pss_cons (ps_set (i := 2) nd rfl (by first | exact Or.inl rfl | exact Or.inr rfl) (pe_op o_mod (pe_callB (b_sum rfl) (by rfl) M.m_sum (by decide +kernel) (pa_cons (u_lc (own := [("_law_cell", 3)]) (g := (gName 3)) (tt := tYes) rfl nd (pi_list (uv 1)) (blkOk_by (N := N_law) (sc := defScope s_law) (own := [("_law_cell", 3)]) (by decide +kernel)) (fun _ _ _ _ _ => (pg_name (i := 3) nd rfl (by first | exact Or.inl rfl | exact Or.inr rfl))) (fun _ _ _ _ _ => pts_nil) (fun _ _ _ _ _ => (pe_op o_mod (uv 3) pe_int))) pa_nil)) pe_int))
  (pss_cons (ps_set (i := 4) nd rfl (by first | exact Or.inl rfl | exact Or.inr rfl) (c__law_steps.pe (hr.mono (by decide)) pass0 (pa_cons (uv 1) (pa_cons (uv 2) pa_nil))))
  (pss_cons (s_if (PW.pt (w_or (t_not (t_val (c__law_tells.pe (hr.mono (by decide)) pass0 (pa_cons (uv 4) pa_nil)))) (pw_or1 (t_not (t_val (c__law_tells.pe (hr.mono (by decide)) pass0 (pa_cons (pe_lst pa_nil) pa_nil)))))))
  (pss_one (ps_ret pe_bl))
  pss_nil)
  (pss_cons (s_if (PW.pt (w_or (t_not (t_val (c__law_tells.pe (hr.mono (by decide)) pass0 (pa_cons (pe_slice s_list (uv 4) po_none (p_some (pe_op o_mod (uv 2) (pe_op o_add (pe_callB l_seq (by rfl) M.m_len (by decide +kernel) (pa_cons (uv 4) pa_nil)) pe_int)))) pa_nil)))) (pw_or1 (t_not (t_val (c__law_tells.pe (hr.mono (by decide)) pass0 (pa_cons (e_rev (uv 4)) pa_nil)))))))
  (pss_one (ps_ret pe_bl))
  pss_nil)
  (pss_cons (s_if (t_cmp (c_op o_eqI (pe_callB l_seq (by rfl) M.m_len (by decide +kernel) (pa_cons (uv 4) pa_nil)) pe_int))
  (pss_one (ps_ret pe_bl))
  pss_nil)
  (pss_cons (ps_set (i := 5) nd rfl (by first | exact Or.inl rfl | exact Or.inr rfl) (pe_callTy b_list (by rfl) M.m_list (by decide +kernel) (pa_cons (uv 4) pa_nil)))
  (pss_cons (ps_set (i := 6) nd rfl (by first | exact Or.inl rfl | exact Or.inr rfl) (c_total.pe (hr.mono (by decide)) pass0 (pa_cons (uv 5) pa_nil)))
  (pss_cons (ps_set (i := 7) nd rfl (by first | exact Or.inl rfl | exact Or.inr rfl) (pe_ix x_list (uv 4) pe_int plainIx))
  (pss_cons (ps_asg (pe_tup (pa_cons (pe_ix x_tup (uv 7) pe_int plainIx) (pa_cons (pe_ix x_tup (uv 7) pe_int plainIx) (pa_cons (pe_ix x_tup (uv 7) pe_int plainIx) (pa_cons (pe_op o_add (pe_ix x_tup (uv 7) pe_int plainIx) pe_int) pa_nil))))) (pg_sub (uv 5) pe_int set_list))
  (pss_cons (s_if (t_cmp (c_op o_eqI (pe_op o_add (pe_ix x_tup (uv 7) pe_int plainIx) pe_int) (pe_op o_pow pe_int pe_int)))
  (pss_one (ps_asg (pe_tup (pa_cons (pe_ix x_tup (uv 7) pe_int plainIx) (pa_cons (pe_ix x_tup (uv 7) pe_int plainIx) (pa_cons (pe_ix x_tup (uv 7) pe_int plainIx) (pa_cons (pe_op o_sub (pe_ix x_tup (uv 7) pe_int plainIx) pe_int) pa_nil))))) (pg_sub (uv 5) pe_int set_list)))
  pss_nil)
  (pss_one (ps_ret (v_and (e_cmp (c_op o_eqI (pe_op o_sub (c_total.pe (hr.mono (by decide)) pass0 (pa_cons (uv 5) pa_nil)) (uv 6)) (pe_op o_sub (pe_ix x_tup (pe_ix x_list (uv 5) pe_int plainIx) pe_int plainIx) (pe_ix x_tup (uv 7) pe_int plainIx)))) (pe_one (c__law_tells.pe (hr.mono (by decide)) pass0 (pa_cons (uv 4) pa_nil))))))))))))))))), rd_law h⟩
end
theorem all_mk {l : PySem.W.OpenLaw} {w : World} {K : PySem.W.Frag} {h : Heap} {mg : Str → Option Value} {fa : Addr} {f0 : Addr} {od0 an0 : Option Addr} {sl0 : Array (Option Value)} {oc0 kV0 dc0 pm0 cd0 ct0 : Value} {f1 : Addr} {od1 an1 : Option Addr} {sl1 : Array (Option Value)} {oc1 kV1 dc1 pm1 cd1 ct1 : Value} {f2 : Addr} {od2 an2 : Option Addr} {sl2 : Array (Option Value)} {oc2 kV2 dc2 pm2 cd2 ct2 : Value} {f3 : Addr} {od3 an3 : Option Addr} {sl3 : Array (Option Value)} {oc3 kV3 dc3 pm3 cd3 ct3 : Value} {f4 : Addr} {od4 an4 : Option Addr} {sl4 : Array (Option Value)} {oc4 kV4 dc4 pm4 cd4 ct4 : Value} {f5 : Addr} {od5 an5 : Option Addr} {sl5 : Array (Option Value)} {oc5 kV5 dc5 pm5 cd5 ct5 : Value} {f6 : Addr} {od6 an6 : Option Addr} {sl6 : Array (Option Value)} {oc6 kV6 dc6 pm6 cd6 ct6 : Value} (X : K.In h) (G : h.Ns mainGlobals mg) (hfa : mg "law" = some (.ref fa))
    (a0 : PySem.W.nsIn K mainGlobals "total" = some (some (.ref f0))) (l0 : K.lookup f0 = some ⟨oc0, od0, .func (PySem.W.fnOf "total" "total" (defArgs s_total) (defBody s_total) (defScope s_total) .none kV0 dc0 pm0 an0 cd0 ct0), sl0⟩) (c0 : PySem.W.codeIn K cd0 "total" = true) (k0 : PySem.W.keepIn K (.ref f0) = true)
    (a1 : PySem.W.nsIn K mainGlobals "_law_peg" = some (some (.ref f1))) (l1 : K.lookup f1 = some ⟨oc1, od1, .func (PySem.W.fnOf "_law_peg" "_law_peg" (defArgs s__law_peg) (defBody s__law_peg) (defScope s__law_peg) .none kV1 dc1 pm1 an1 cd1 ct1), sl1⟩) (c1 : PySem.W.codeIn K cd1 "_law_peg" = true) (k1 : PySem.W.keepIn K (.ref f1) = true)
    (a2 : PySem.W.nsIn K mainGlobals "_law_rise" = some (some (.ref f2))) (l2 : K.lookup f2 = some ⟨oc2, od2, .func (PySem.W.fnOf "_law_rise" "_law_rise" (defArgs s__law_rise) (defBody s__law_rise) (defScope s__law_rise) .none kV2 dc2 pm2 an2 cd2 ct2), sl2⟩) (c2 : PySem.W.codeIn K cd2 "_law_rise" = true) (k2 : PySem.W.keepIn K (.ref f2) = true)
    (a3 : PySem.W.nsIn K mainGlobals "_law_steps" = some (some (.ref f3))) (l3 : K.lookup f3 = some ⟨oc3, od3, .func (PySem.W.fnOf "_law_steps" "_law_steps" (defArgs s__law_steps) (defBody s__law_steps) (defScope s__law_steps) .none kV3 dc3 pm3 an3 cd3 ct3), sl3⟩) (c3 : PySem.W.codeIn K cd3 "_law_steps" = true) (k3 : PySem.W.keepIn K (.ref f3) = true)
    (a4 : PySem.W.nsIn K mainGlobals "_law_sum" = some (some (.ref f4))) (l4 : K.lookup f4 = some ⟨oc4, od4, .func (PySem.W.fnOf "_law_sum" "_law_sum" (defArgs s__law_sum) (defBody s__law_sum) (defScope s__law_sum) .none kV4 dc4 pm4 an4 cd4 ct4), sl4⟩) (c4 : PySem.W.codeIn K cd4 "_law_sum" = true) (k4 : PySem.W.keepIn K (.ref f4) = true)
    (a5 : PySem.W.nsIn K mainGlobals "_law_tells" = some (some (.ref f5))) (l5 : K.lookup f5 = some ⟨oc5, od5, .func (PySem.W.fnOf "_law_tells" "_law_tells" (defArgs s__law_tells) (defBody s__law_tells) (defScope s__law_tells) .none kV5 dc5 pm5 an5 cd5 ct5), sl5⟩) (c5 : PySem.W.codeIn K cd5 "_law_tells" = true) (k5 : PySem.W.keepIn K (.ref f5) = true)
    (a6 : PySem.W.nsIn K mainGlobals "law" = some (some (.ref f6))) (l6 : K.lookup f6 = some ⟨oc6, od6, .func (PySem.W.fnOf "law" "law" (defArgs s_law) (defBody s_law) (defScope s_law) .none kV6 dc6 pm6 an6 cd6 ct6), sl6⟩) (c6 : PySem.W.codeIn K cd6 "law" = true) (k6 : PySem.W.keepIn K (.ref f6) = true)
    (z_len : PySem.W.nsIn K mainGlobals "len" = some none)
    (z_range : PySem.W.nsIn K mainGlobals "range" = some none)
    (z_list : PySem.W.nsIn K mainGlobals "list" = some none)
    (z_int : PySem.W.nsIn K mainGlobals "int" = some none)
    (z_isinstance : PySem.W.nsIn K mainGlobals "isinstance" = some none)
    (z_bool : PySem.W.nsIn K mainGlobals "bool" = some none)
    (z_sum : PySem.W.nsIn K mainGlobals "sum" = some none) :
    ∃ fd : FuncData, (∀ (s : Shared) (v : Value), BindsTo s fd ⟨[v], []⟩ [("_law_script", v)]) ∧ ∀ base : Heap, K.In base → base.Ns mainGlobals mg → FnOk l.prog w K mg base CX0 3 fa fd ["_law_script"] (sp_law K) := by
  have e := hfa.symm.trans (PySem.W.mg_of X G a6)
  cases e
  have M : Mg mg := ⟨PySem.W.mg_none_of X G z_len, PySem.W.mg_none_of X G z_range, PySem.W.mg_none_of X G z_list, PySem.W.mg_none_of X G z_int, PySem.W.mg_none_of X G z_isinstance, PySem.W.mg_none_of X G z_bool, PySem.W.mg_none_of X G z_sum⟩
  have F0 := fun_mk (st := s_total) l0 c0 k0
  have b0 := F0.binds (ps := ["steps"]) fun _ _ _ _ _ _ us hl => match us, hl with | [_], _ => rfl
  have F1 := fun_mk (st := s__law_peg) l1 c1 k1
  have b1 := F1.binds (ps := ["_law_base", "_law_k"]) fun _ _ _ _ _ _ us hl => match us, hl with | [_, _], _ => rfl
  have F2 := fun_mk (st := s__law_rise) l2 c2 k2
  have b2 := F2.binds (ps := ["_law_cell"]) fun _ _ _ _ _ _ us hl => match us, hl with | [_], _ => rfl
  have F3 := fun_mk (st := s__law_steps) l3 c3 k3
  have b3 := F3.binds (ps := ["_law_cells", "_law_base"]) fun _ _ _ _ _ _ us hl => match us, hl with | [_, _], _ => rfl
  have F4 := fun_mk (st := s__law_sum) l4 c4 k4
  have b4 := F4.binds (ps := ["_law_steps_here"]) fun _ _ _ _ _ _ us hl => match us, hl with | [_], _ => rfl
  have F5 := fun_mk (st := s__law_tells) l5 c5 k5
  have b5 := F5.binds (ps := ["_law_steps_here"]) fun _ _ _ _ _ _ us hl => match us, hl with | [_], _ => rfl
  have F6 := fun_mk (st := s_law) l6 c6 k6
  have b6 := F6.binds (ps := ["_law_script"]) fun _ _ _ _ _ _ us hl => match us, hl with | [_], _ => rfl
  refine ⟨PySem.W.fnOf "law" "law" (defArgs s_law) (defBody s_law) (defScope s_law) .none kV6 dc6 pm6 an6 cd6 ct6, fun s v => .of_eq rfl, fun base _ _ => ?_⟩
  have C_total := ok_total (P := l.prog) (w := w) (base := base) F0 (PySem.W.mg_of X G a0) b0 M 
  have C__law_peg := ok__law_peg (P := l.prog) (w := w) (base := base) F1 (PySem.W.mg_of X G a1) b1 M 
  have C__law_rise := ok__law_rise (P := l.prog) (w := w) (base := base) F2 (PySem.W.mg_of X G a2) b2 M 
  have C__law_steps := ok__law_steps (P := l.prog) (w := w) (base := base) F3 (PySem.W.mg_of X G a3) b3 M C__law_rise C__law_peg
  have C__law_sum := ok__law_sum (P := l.prog) (w := w) (base := base) F4 (PySem.W.mg_of X G a4) b4 M 
  have C__law_tells := ok__law_tells (P := l.prog) (w := w) (base := base) F5 (PySem.W.mg_of X G a5) b5 M C_total C__law_sum
  exact fn_law F6 M C__law_steps C__law_tells C_total
theorem walk {l : PySem.W.OpenLaw} {q : Program} {loose : List Str} {XP : (Str → Option Value) → Heap → Prop} {YP : World → Heap → Prop} {d : DefRec} {K : Params → PySem.W.Frag} (hn : l.most = some 63) (hdf : d.params.defaults = [])
    (hY : ∀ (w : World) (h : Heap), YP w h → (K w.params).In h)
    (F : ∀ (w : World) (mg : Str → Option Value) (fa : Addr) (h : Heap), (K w.params).In h → h.Ns mainGlobals mg → mg d.name = some (.ref fa) →
      ∃ fd : FuncData, (∀ (s : Shared) (u : Value), BindsTo s fd ⟨[u], []⟩ [("_law_script", u)]) ∧ ∀ base : Heap, (K w.params).In base → base.Ns mainGlobals mg → FnOk l.prog w (K w.params) mg base CX0 3 fa fd ["_law_script"] (sp_law (K w.params))) :
    PySem.W.WalkO q loose XP YP l.row.toRowW d [] (fun f vs => PySem.call f vs) :=
  L2.walk_of (n := 63) (k := 3) (x := "_law_script") (CX := fun _ => CX0) (sp := fun w => sp_law (K w.params)) hn (by decide) hdf ⟨rfl, by decide, by decide⟩ hY F (fun _ _ a ns hl _ hS => ⟨a, ns, rfl, hS, hl, fun _ => rfl⟩) fun _ _ _ _ _ z => z
end Peg
open PySem PySem.W PyProof.Rows
set_option maxRecDepth 100000 in
set_option maxHeartbeats 0 in
theorem PySem.Challenge.cw_pegrise_k02_total_holds : PySem.Challenge.rw_pegrise_k02_total.Holds := by
  w_on; o_law; k_head; (case hw => w_witness2)
  k_fill
  refine Peg.walk (l := PySem.Challenge.rw_pegrise_k02_total) rfl rfl (fun w h Y => PySem.W.kIn_of Y) ?F
  case F =>
    intro w mg fa h KX G hmg
    refine' Peg.all_mk KX G hmg ?a0 ?l0 ?c0 ?k0 ?a1 ?l1 ?c1 ?k1 ?a2 ?l2 ?c2 ?k2 ?a3 ?l3 ?c3 ?k3 ?a4 ?l4 ?c4 ?k4 ?a5 ?l5 ?c5 ?k5 ?a6 ?l6 ?c6 ?k6 ?z_len ?z_range ?z_list ?z_int ?z_isinstance ?z_bool ?z_sum
    (case a0 => k_is)
    (case l0 => k_is)
    (case c0 => k_is)
    (case k0 => k_is)
    (case a1 => k_is)
    (case l1 => k_is)
    (case c1 => k_is)
    (case k1 => k_is)
    (case a2 => k_is)
    (case l2 => k_is)
    (case c2 => k_is)
    (case k2 => k_is)
    (case a3 => k_is)
    (case l3 => k_is)
    (case c3 => k_is)
    (case k3 => k_is)
    (case a4 => k_is)
    (case l4 => k_is)
    (case c4 => k_is)
    (case k4 => k_is)
    (case a5 => k_is)
    (case l5 => k_is)
    (case c5 => k_is)
    (case k5 => k_is)
    (case a6 => k_is)
    (case l6 => k_is)
    (case c6 => k_is)
    (case k6 => k_is)
    (case z_len => k_is)
    (case z_range => k_is)
    (case z_list => k_is)
    (case z_int => k_is)
    (case z_isinstance => k_is)
    (case z_bool => k_is)
    (case z_sum => k_is)

import PyProof.Rows.All
import Wide.All
import OpenK.AllK
import Wide.FinOn
import HandS.ForMost
import HandS.Exc
import HandS.ExcOwn
import HandS.TryOnly
import HandS.WordsExc
import HandS.IsInst
import HandS.Defaults
import HandS.Flow
import KE.KExcSuper
import HandS.ExcInit
import KE.KExcIs
import HandS.ExcIs
import HandS.ExcField
import HandS.HeadHook1
import HandS.Property
import HandS.Style
import HandS.More
import HandS.Walk
import HandS.Codes
import HandS.HeadHook4
import KE.KStateDown
import Lean
import HandS.Head0
import HandS.Head1
import HandS.Head2
import HandS.HeadEnd
import HandS.ClsMeth
import HandS.HeadNt
import HandS.AnyAll
import HandS.EndTab
import PyProof.Rows.StrMul
import KE.KxField
import HandS.FStr
import PyProof.Rows.StrDigitsNeg
import HandS.Dict
import HandS.DictComp
import HandS.Finally
import KE.GoesNew
import HandS.TupAny
import HandS.Star
import HandS.MakeKwOnly
import HandS.Deep
import PyProof.EqAt
import PyProof.MeetsSeq
import PySem.Challenge.RW_manyrides_k03_text_and_town_are_each_oth
set_option Elab.async false
set_option linter.all false
set_option maxRecDepth 100000
set_option maxHeartbeats 1000000
namespace U
open PySem PySem.Spec PyProof.Rows L2
section
variable {X : Cx}

/-! readings made weaker, joined -/
theorem peI {e : Expr} {t t' : TE} (h : PE X e t) (w : ∀ σ H Q, t' σ H Q → t σ H Q) : PE X e t' :=
  ⟨fun p s σ H Q I q => h.run p s σ H Q I (w σ H Q q)⟩
theorem ptI {e : Expr} {t t' : TT} (h : PT X e t) (w : ∀ σ H Q, t' σ H Q → t σ H Q) : PT X e t' :=
  ⟨fun p s σ H Q I q => h.run p s σ H Q I (w σ H Q q)⟩
theorem psI {e : Stmt} {t t' : TS} (h : PS X e t) (w : ∀ D σ H, t' D σ H → t D σ H) : PS X e t' :=
  ⟨fun p s σ H D I q => h.run p s σ H D I (w D σ H q)⟩
theorem piI {g e : Expr} {t t' : TI} (h : PI X g e t) (w : ∀ σ H R, t' σ H R → t σ H R) : PI X g e t' :=
  ⟨fun p s σ H R I q => h.run p s σ H R I (w σ H R q)⟩
theorem peOr {e : Expr} {t u : TE} (h : PE X e t) (k : PE X e u) : PE X e (fun σ H Q => t σ H Q ∨ u σ H Q) :=
  ⟨fun p s σ H Q I q => q.elim (h.run p s σ H Q I) (k.run p s σ H Q I)⟩
theorem psOr {e : Stmt} {t u : TS} (h : PS X e t) (k : PS X e u) : PS X e (fun D σ H => t D σ H ∨ u D σ H) :=
  ⟨fun p s σ H D I q => q.elim (h.run p s σ H D I) (k.run p s σ H D I)⟩

/-! a name, read off its slot -/
def uV (i : Nat) : TE := fun σ H Q => match σ[i]? with
  | some (some v) => Q v H
  | _ => False
theorem pu (i : Nat) {x : Str} {pos : Pos} (hN : X.N[i]? = some x := by rfl) (hv : Vis X.env.scope x := by first | exact Or.inl rfl | exact Or.inr (Or.inl rfl) | exact Or.inr (Or.inr rfl))
    (hd : (x == ("__debug__" : Str)) = false := by decide) (hcd : (x == ("__classdict__" : Str)) = false := by decide) : PE X (.Name x pos) (uV i) :=
  peI (pe_var hN hv hd hcd) fun σ H Q q => by
    unfold uV at q
    split at q
    · exact ⟨_, by assumption, q⟩
    · exact q.elim

/-! operators, by values -/
def uAdd (K : PySem.W.Frag) : R2 := fun x y H Q => match x, y with
  | .int i, .int j => Q (.int (i + j)) H
  | .str a, .str b => a.length + b.length ≤ sizeLine ∧ Q (.str (a ++ b)) H
  | .ref a, .ref b => (∃ xs ys, H a = some (.lst xs) ∧ H b = some (.lst ys) ∧ xs.length + ys.length ≤ sizeLine ∧ ∀ p, H p = none → Q (.ref p) (upd H p (.lst (xs ++ ys)))) ∨ rCatT K x y H Q
  | _, _ => False
theorem o_add : OpR X (binaryOp .Add) (uAdd X.K) := by
  intro pins s σ H x y v u Q I rx ry h
  cases x with
  | int i => cases y with
    | int j => exact op_add pins s σ H _ _ v u Q I rx ry ⟨i, j, rfl, rfl, h⟩
    | _ => exact (show False from h).elim
  | str a => cases y with
    | str b => exact op_add_str pins s σ H _ _ v u Q I rx ry ⟨a, b, rfl, rfl, h.1, h.2⟩
    | _ => exact (show False from h).elim
  | ref a => cases y with
    | ref b =>
      rcases (show _ ∨ _ from h) with ⟨xs, ys, h1, h2, h3, h4⟩ | h
      · exact op_cat pins s σ H _ _ v u Q I rx ry ⟨a, b, xs, ys, rfl, rfl, h1, h2, h3, h4⟩
      · exact op_catT pins s σ H _ _ v u Q I rx ry h
    | _ => exact (show False from h).elim
  | _ => exact (show False from h).elim
/-- two ints, and what is asked of them -/
def uI (f : Int → Int → VK → Hp → Prop) : R2 := fun x y H Q => match x, y with
  | .int i, .int j => f i j Q H
  | _, _ => False
theorem uI_of {f : Value → Value → Sem Value} {r : R2} {g : Int → Int → VK → Hp → Prop} (h : OpR X f r) (w : ∀ i j Q H, g i j Q H → r (.int i) (.int j) H Q) : OpR X f (uI g) := by
  intro pins s σ H x y v u Q I rx ry q
  cases x with
  | int i => cases y with
    | int j => exact h pins s σ H _ _ v u Q I rx ry (w i j Q H q)
    | _ => exact (show False from q).elim
  | _ => exact (show False from q).elim
def uSub : R2 := uI fun i j Q H => Q (.int (i - j)) H
theorem o_sub : OpR X (binaryOp .Sub) uSub := uI_of op_sub fun i j Q H q => ⟨i, j, rfl, rfl, q⟩
def uMul : R2 := uI fun i j Q H => CMul i j ∧ Q (.int (i * j)) H
theorem o_mul : OpR X (binaryOp .Mult) uMul := uI_of op_mul fun i j Q H q => ⟨i, j, rfl, rfl, q.1, q.2⟩
def uMod : R2 := uI fun i j Q H => 0 < j ∧ Q (.int (i % j)) H
theorem o_mod : OpR X (binaryOp .Mod) uMod := uI_of op_mod fun i j Q H q => ⟨i, j, rfl, rfl, q.1, q.2⟩
def uDiv : R2 := uI fun i j Q H => (0 < j ∧ j < 1073741824) ∧ Q (.int (i / j)) H
theorem o_div : OpR X (binaryOp .FloorDiv) uDiv := uI_of op_fdiv fun i j Q H q => ⟨i, j, rfl, rfl, q.1, q.2⟩
def uPow : R2 := uI fun i j Q H => CPow i j ∧ Q (.int (i ^ j.toNat)) H
theorem o_pow : OpR X (binaryOp .Pow) uPow := uI_of op_pow fun i j Q H q => ⟨i, j, rfl, rfl, q.1, q.2⟩
def uLt : R2 := uI fun i j Q H => Q (.bl (decide (i < j))) H
theorem o_lt : OpR X (compareOp .Lt) uLt := uI_of op_lt fun i j Q H q => ⟨i, j, rfl, rfl, q⟩
def uLe : R2 := uI fun i j Q H => Q (.bl (decide (i ≤ j))) H
theorem o_le : OpR X (compareOp .LtE) uLe := uI_of op_le fun i j Q H q => ⟨i, j, rfl, rfl, q⟩
def uGt : R2 := uI fun i j Q H => Q (.bl (decide (j < i))) H
theorem o_gt : OpR X (compareOp .Gt) uGt := uI_of op_gt fun i j Q H q => ⟨i, j, rfl, rfl, q⟩
def uGe : R2 := uI fun i j Q H => Q (.bl (decide (j ≤ i))) H
theorem o_ge : OpR X (compareOp .GtE) uGe := uI_of op_ge fun i j Q H q => ⟨i, j, rfl, rfl, q⟩
def eqB : V → V → Bool
  | .int i, .int j => decide (i = j)
  | .str a, .str b => decide (a = b)
  | .bl a, .bl b => decide (a = b)
  | x, y => decide (x = y)
theorem eqB_dec (x y : V) : eqB x y = decide (x = y) := by
  cases x <;> cases y <;> simp [eqB]
/-- ==: scalars | data -/
def uEq (K : PySem.W.Frag) : R2 := fun x y H Q => match x, y with
  | .ref _, .ref _ => rEqD K x y H Q
  | x, y => scal x y = true ∧ Q (.bl (eqB x y)) H
def uNe (K : PySem.W.Frag) : R2 := fun x y H Q => match x, y with
  | .ref _, .ref _ => rNeD K x y H Q
  | x, y => scal x y = true ∧ Q (.bl (!eqB x y)) H
theorem o_eq (hu : X.A.units + 64 < cLine) : OpR X (compareOp .Eq) (uEq X.K) := by
  intro pins s σ H x y v u Q I rx ry h
  have go : (scal x y = true ∧ Q (.bl (eqB x y)) H) → wpAny (model X.prog X.w) X.A (compareOp .Eq v u) (EP X pins σ Q) X.xe s := fun q =>
    op_eq pins s σ H x y v u Q I rx ry ⟨q.1, by rw [← eqB_dec]; exact q.2⟩
  cases x with
  | ref a => cases y with
    | ref b => exact op_eqD hu pins s σ H _ _ v u Q I rx ry h
    | _ => exact go h
  | _ => exact go h
theorem o_ne (hu : X.A.units + 64 < cLine) : OpR X (compareOp .NotEq) (uNe X.K) := by
  intro pins s σ H x y v u Q I rx ry h
  have go : (scal x y = true ∧ Q (.bl (!eqB x y)) H) → wpAny (model X.prog X.w) X.A (compareOp .NotEq v u) (EP X pins σ Q) X.xe s := fun q =>
    op_ne pins s σ H x y v u Q I rx ry ⟨q.1, by rw [← eqB_dec]; exact q.2⟩
  cases x with
  | ref a => cases y with
    | ref b => exact op_neD hu pins s σ H _ _ v u Q I rx ry h
    | _ => exact go h
  | _ => exact go h
/-- is None -/
def isNonV : V → Bool
  | .non => true
  | _ => false
theorem isNonV_dec (x : V) : isNonV x = decide (x = .non) := by cases x <;> simp [isNonV]
def uIsN : R2 := fun x y H Q => y = .non ∧ Q (.bl (isNonV x)) H
def uNotN : R2 := fun x y H Q => y = .non ∧ Q (.bl (!isNonV x)) H
theorem o_isN : OpR X (compareOp .Is) uIsN := fun pins s σ H x y v u Q I rx ry h => op_isN pins s σ H x y v u Q I rx ry ⟨h.1, by rw [← isNonV_dec]; exact h.2⟩
theorem o_notN : OpR X (compareOp .IsNot) uNotN := fun pins s σ H x y v u Q I rx ry h => op_notN pins s σ H x y v u Q I rx ry ⟨h.1, by rw [← isNonV_dec]; exact h.2⟩
/-- in: one sign in a text | a flat thing in a list or a tuple -/
def uIn (K : PySem.W.Frag) : R2 := fun x y H Q => match y with
  | .str z => ∃ c : Nat, x = .str ⟨#[c]⟩ ∧ Q (.bl (decide (c ∈ z.cps.toList))) H
  | .ref p => ∃ xs, (SqL K H p xs ∨ SqT K H p xs) ∧ flatV x = true ∧ xs.all flatV = true ∧ Q (.bl (inV x xs)) H
  | _ => False
def uNotIn (K : PySem.W.Frag) : R2 := fun x y H Q => match y with
  | .str z => ∃ c : Nat, x = .str ⟨#[c]⟩ ∧ Q (.bl (!decide (c ∈ z.cps.toList))) H
  | .ref p => ∃ xs, (SqL K H p xs ∨ SqT K H p xs) ∧ flatV x = true ∧ xs.all flatV = true ∧ Q (.bl (!inV x xs)) H
  | _ => False
theorem o_in : OpR X (compareOp .In) (uIn X.K) := by
  intro pins s σ H x y v u Q I rx ry h
  cases y with
  | str z => obtain ⟨c, e, q⟩ := (show ∃ c : Nat, _ ∧ _ from h); exact op_in_sign pins s σ H _ _ v u Q I rx ry ⟨c, z, e, rfl, q⟩
  | ref p => obtain ⟨xs, a, b, c, q⟩ := (show ∃ xs, _ ∧ _ from h); exact op_in_seq pins s σ H _ _ v u Q I rx ry ⟨p, xs, rfl, a, b, c, q⟩
  | _ => exact (show False from h).elim
theorem o_notIn : OpR X (compareOp .NotIn) (uNotIn X.K) := by
  intro pins s σ H x y v u Q I rx ry h
  cases y with
  | str z => obtain ⟨c, e, q⟩ := (show ∃ c : Nat, _ ∧ _ from h); exact op_notIn_sign pins s σ H _ _ v u Q I rx ry ⟨c, z, e, rfl, q⟩
  | ref p => obtain ⟨xs, a, b, c, q⟩ := (show ∃ xs, _ ∧ _ from h); exact op_notIn_seq pins s σ H _ _ v u Q I rx ry ⟨p, xs, rfl, a, b, c, q⟩
  | _ => exact (show False from h).elim
/-- a list's, a tuple's, a text's item -/
def uIx (K : PySem.W.Frag) : R2 := fun x y H Q => match x, y with
  | .ref a, .int i => ∃ xs v, (SqL K H a xs ∨ SqT K H a xs) ∧ atI xs i = some v ∧ Q v H
  | .str z, .int i => ∃ c, z.length ≤ sizeLine ∧ atI z.cps.toList i = some c ∧ Q (.str ⟨#[c]⟩) H
  | _, _ => False
theorem o_ix : IxR X (uIx X.K) := by
  intro value slice pins s σ H x y v u Q I rx ry h hs
  cases x with
  | ref a => cases y with
    | int i =>
      obtain ⟨xs, v', hq, hi, q⟩ := (show ∃ xs v, (_ ∨ _) ∧ _ from h)
      rcases hq with hq | hq
      · exact ix_list value slice pins s σ H _ _ v u Q I rx ry ⟨a, xs, i, v', rfl, rfl, hq, hi, q⟩ hs
      · exact ix_tup value slice pins s σ H _ _ v u Q I rx ry ⟨a, xs, i, v', rfl, rfl, hq, hi, q⟩ hs
    | _ => exact (show False from h).elim
  | str z => cases y with
    | int i =>
      obtain ⟨c, hz, hi, q⟩ := (show ∃ c, _ ∧ _ from h)
      exact ix_str value slice pins s σ H _ _ v u Q I rx ry ⟨z, i, c, rfl, rfl, hz, hi, q⟩ hs
    | _ => exact (show False from h).elim
  | _ => exact (show False from h).elim

/-! tests -/
def uT (t : TE) : TT := fun σ H Q => t σ H fun x H' => match x with
  | .bl k => Q k H'
  | _ => False
theorem uT_eq (t : TE) : uT t = tTest t := by
  funext σ H Q
  unfold uT tTest
  congr 1
  funext x H'
  cases x <;> simp
theorem ut_cmp {op : CmpOp} {r : R2} {a b : Expr} {ta tb : TE} {pos : Pos} (ho : OpR X (compareOp op) r) (ha : PE X a ta) (hb : PE X b tb) (hm : behindInMarks op b = false) : PT X (.Compare a [op] [b] pos) (uT (tOp r ta tb)) := by
  rw [uT_eq]
  exact pt_cmpR ho ha hb hm
theorem ut_chain {op op' : CmpOp} {r r' : R2} {a b c : Expr} {ta tb tc : TE} {pos : Pos} (ho : OpR X (compareOp op) r) (ho' : OpR X (compareOp op') r') (ha : PE X a ta) (hb : PE X b tb) (hc : PE X c tc)
    (hm : lastMarks [op, op'] [b, c] = false := by with_unfolding_all rfl) : PT X (.Compare a [op, op'] [b, c] pos) (uT (tChain r r' ta tb tc)) := by
  rw [uT_eq]
  exact pt_chain ho ho' ha hb hc hm
theorem ut_val {e : Expr} {t : TE} (h : PE X e t) (he : ∀ whole, isTrue e X.env whole = (do let v ← whole; standAt e.pos; holding [v] (truthy v)) := by intro _; rfl) : PT X e (uT t) := by
  have q := pt_val h he
  rw [show tB t = uT t from (uT_eq t).symm ▸ rfl] at q
  exact q
/-- a branch -/
def br (b : Bool) (A B : Prop) : Prop := (b = true → A) ∧ (b = false → B)
theorem br_eq (b : Bool) (A B : Prop) : br b A B = (if b = true then A else B) := by
  cases b <;> simp [br]
def uIf (c : TT) (t u : TS) : TS := fun D σ H => c σ H fun b H1 => br b (t D σ H1) (u D σ H1)
theorem us_if {c : Expr} {a b : List Stmt} {pos : Pos} {tc : TT} {t u : TS} (hc : PT X c tc) (ha : PSs X a t) (hb : PSs X b u) : PS X (.If c a b pos) (uIf tc t u) := by
  have q := ps_if (pos := pos) hc ha hb
  have e : uIf tc t u = tIfS tc t u := by
    funext D σ H
    unfold uIf tIfS
    congr 1
    funext b H1
    exact br_eq ..
  rw [e]
  exact q
def uAnd (t u : TT) : TT := fun σ H Q => t σ H fun c H1 => br c (u σ H1 Q) (Q false H1)
def uOr (t u : TT) : TT := fun σ H Q => t σ H fun c H1 => br c (Q true H1) (u σ H1 Q)
theorem uw_and {a b : Expr} {rest : List Expr} {pos : Pos} {t u : TT} (ha : PT X a t) (hb : PW X (.BoolOp .And (b :: rest) pos) u) : PW X (.BoolOp .And (a :: b :: rest) pos) (uAnd t u) := by
  have e : uAnd t u = tAnd t u := by
    funext σ H Q
    unfold uAnd tAnd
    congr 1
    funext b H1
    exact br_eq ..
  rw [e]
  exact pw_and ha hb
theorem uw_or {a b : Expr} {rest : List Expr} {pos : Pos} {t u : TT} (ha : PT X a t) (hb : PW X (.BoolOp .Or (b :: rest) pos) u) : PW X (.BoolOp .Or (a :: b :: rest) pos) (uOr t u) := by
  have e : uOr t u = tOr t u := by
    funext σ H Q
    unfold uOr tOr
    congr 1
    funext b H1
    exact br_eq ..
  rw [e]
  exact pw_or ha hb
def uAndV (ta tb : TE) : TE := fun σ H Q => ta σ H fun x H1 => match x with
  | .bl c => br c (tb σ H1 Q) (Q (.bl false) H1)
  | _ => False
def uOrV (ta tb : TE) : TE := fun σ H Q => ta σ H fun x H1 => match x with
  | .bl c => br c (Q (.bl true) H1) (tb σ H1 Q)
  | _ => False
theorem ue_and {a b : Expr} {rest : List Expr} {pos : Pos} {ta tb : TE} (ha : PE X a ta) (hb : PE X (.BoolOp .And (b :: rest) pos) tb) : PE X (.BoolOp .And (a :: b :: rest) pos) (uAndV ta tb) := by
  have e : uAndV ta tb = tAndV ta tb := by
    funext σ H Q
    unfold uAndV tAndV
    congr 1
    funext x H1
    cases x <;> simp [br_eq]
  rw [e]
  exact pe_and ha hb
theorem ue_or {a b : Expr} {rest : List Expr} {pos : Pos} {ta tb : TE} (ha : PE X a ta) (hb : PE X (.BoolOp .Or (b :: rest) pos) tb) : PE X (.BoolOp .Or (a :: b :: rest) pos) (uOrV ta tb) := by
  have e : uOrV ta tb = tOrV ta tb := by
    funext σ H Q
    unfold uOrV tOrV
    congr 1
    funext x H1
    cases x <;> simp [br_eq]
  rw [e]
  exact pe_or ha hb
def uNotV (ta : TE) : TE := fun σ H Q => ta σ H fun x H1 => match x with
  | .bl c => Q (.bl (!c)) H1
  | _ => False
theorem ue_not {a : Expr} {pos : Pos} {ta : TE} (ha : PE X a ta) : PE X (.UnaryOp .Not a pos) (uNotV ta) := by
  have e : uNotV ta = tNotV ta := by
    funext σ H Q
    unfold uNotV tNotV
    congr 1
    funext x H1
    cases x <;> simp
  rw [e]
  exact pe_not ha
def uIfE (t : TT) (ta tb : TE) : TE := fun σ H Q => t σ H fun c H1 => br c (ta σ H1 Q) (tb σ H1 Q)
theorem ue_if {c a b : Expr} {pos : Pos} {t : TT} {ta tb : TE} (hc : PT X c t) (ha : PE X a ta) (hb : PE X b tb) : PE X (.IfExp c a b pos) (uIfE t ta tb) := by
  have e : uIfE t ta tb = tIf t ta tb := by
    funext σ H Q
    unfold uIfE tIf
    congr 1
    funext b H1
    exact br_eq ..
  rw [e]
  exact pe_ifExp hc ha hb

/-! a call of an own def -/
/-- the def that the module's name x stands for keeps its promise -/
structure Cal (P : Program) (w : World) (K : PySem.W.Frag) (mg : Str → Option Value) (base : Heap) (CX : CXT) (k : Nat) (x : Str) (ps : List Str) (sp : Sp) : Prop where
  ok : ∃ f fd, mg x = some (.ref f) ∧ PySem.W.keepIn K (.ref f) = true ∧ Binds K fd ps [] ∧ FnOk P w K mg base CX k f fd ps sp
def uCall (sp : Sp) (E : XK) (t : TA) : TE := fun σ H Q => t σ H fun vs H1 => sp vs H1 Q E
theorem ue_call {CX : CXT} {k : Nat} {x : Str} {ps : List Str} {sp : Sp} {E : XK} {e : Expr} {es : List Expr} {p pos : Pos} {t : TA} (C : Cal X.prog X.w X.K X.mg X.base CX k x ps sp) (hr : Room k X.A) (hg : Gl X x) (hx : Passes CX X E)
    (ha : PA X (e :: es) t) (hdb : (x == ("__debug__" : Str)) = false := by decide) (he : starEach (e :: es) X.env = (false, eval e X.env) :: starEach es X.env := by rfl) (hpl : (backTo pos (starEach es X.env)).any (·.1) = false := by rfl) :
    PE X (.Call (.Name x p) (e :: es) [] pos) (uCall sp E t) := by
  obtain ⟨f, fd, hm, hk, hb, F⟩ := C.ok
  refine peI (pe_call F hr hg hm hk hb .nil hx ha hdb he hpl) fun σ H Q q => ?_
  have q' : t σ H (fun vs H1 => sp vs H1 Q E) := q
  simpa only [tCall, List.append_nil] using q'
end
end U
set_option Elab.async false
set_option linter.all false
set_option maxRecDepth 100000
set_option maxHeartbeats 1000000
namespace PySem
namespace XC
open PySem.W PySem.Calls PyProof.Rows PySem.HandSPX
abbrev veB : List Value := [.type "ValueError", .type "Exception", .type "BaseException", .type "object"]
/-- a class over ValueError, perhaps by own classes, with instances that have a dict -/
def oxB (K : Frag) (C : Addr) : Bool := match K.lookup C with
  | some ⟨.type "type", _, .cls cd, sl⟩ => (match cd.mro, sl.toList with
    | .ref C' :: bm, [_, _, _, _, some (.builtin n), _] => C' == C && n == "ValueError.__new__" && !cd.hasDel && (refsVE bm && cd.hasDict)
    | _, _ => false)
  | _ => false
def OX (K : Frag) (C : Addr) : Prop := ∃ nm q N bs bm sn sub ab col dd k0 k1 k2 k3 k5, K.lookup C = some (excClassObj nm q C N bs bm true sn sub ab col dd k0 k1 k2 k3 k5 "ValueError.__new__") ∧ refsVE bm = true
theorem oxB_ok {K : Frag} {C : Addr} (q : oxB K C = true) : OX K C := by
  unfold oxB at q
  split at q
  · rename_i dd cd sl ho
    split at q
    · rename_i C' bm k0 k1 k2 k3 n k5 hm hs
      simp only [Bool.and_eq_true, beq_iff_eq, Bool.not_eq_true'] at q
      obtain ⟨⟨⟨rfl, rfl⟩, hdel⟩, ht, hd⟩ := q
      obtain ⟨nm, bs, mro, N, qn, hdct, sn, sub, ab, col, del⟩ := cd
      dsimp only at hm hdel hd
      subst hm hdel hd
      have e : sl = #[k0, k1, k2, k3, some (.builtin "ValueError.__new__"), k5] := by
        apply Array.toList_inj.mp
        rw [hs]
      subst e
      exact ⟨nm, qn, N, bs, bm, sn, sub, ab, col, dd, k0, k1, k2, k3, k5, ho, ht⟩
    · cases q
  · cases q
/-- what the written part tells of the class at C and of its __init__ at fI -/
structure Ini (K : Frag) (prog : Program) (C fI : Addr) (qual : Str) (ar : Arguments) (body : List Stmt) (sc : Scope) : Prop where
  ox : OX K C
  ini : excInitIn K C veB "ValueError.__new__" = true
  sa : findIn K (.ref C) "__setattr__" = some (some (.builtin "object.__setattr__"))
  iC : findIn K (.ref C) "__init__" = some (some (.ref fI))
  tC : typeIn K (.ref fI) = some (.type "function")
  sub : subIn K (.ref C) (.type "ValueError") = some true
  mro : mroIn K C (.ref C) = some true
  sup : ks_superIn K C C "__init__" = some (some (.builtin "ValueError.__init__"))
  tp : nsIn K cStatics "thirdparty.any" = some none
  fn : ∃ (oc : Value) (od : Option Addr) (doc pm : Value) (an : Option Addr) (cda cc : Addr) (ct : Value) (osl : Array (Option Value)) (ccl : Value) (cdd : Option Addr) (vs : Array Value) (ccs : Array (Option Value)) (file : Str) (tf : Tok) (cl : Value) (cld : Option Addr) (csl : Array (Option Value)),
    K.lookup fI = some ⟨oc, od, .func (ksFn "__init__" qual ar body sc .none .none doc pm an (.ref cda) ct cc), osl⟩ ∧ codeIn K (.ref cda) qual = true ∧
    K.lookup cda = some ⟨ccl, cdd, .fields vs, ccs⟩ ∧ vs[2]? = some (.str file tf) ∧ ((prog.main.file : Str) == file) = true ∧ K.lookup cc = some ⟨cl, cld, .cell (some (.ref C)), csl⟩
/-- what such an __init__ leaves: the exception at x has its own dict at dx, with the fields of fs -/
structure End (h h' : Heap) (x C dx : Addr) (fs : List (Str × Value)) : Prop where
  keep : ∀ b o, h.get? b = some o → h'.get? b = some o
  obj : ∃ t1 : Addr, h'.get? x = some { cls := .ref C, dict := some dx, data := .fields #[.ref t1, .none, .none, .none, .bool false, .none] }
  dbig : h.objs.size ≤ dx
  dne : dx ≠ x
  ns : h'.Ns1 dx (fun y => fs.lookup y)
abbrev q1 (p1 p2 p3 p4 p5 : Pos) (arg : Expr) : Stmt := .Expr (.Call (.Attribute (.Call (.Name "super" p1) [] [] p2) "__init__" p3) [arg] [] p4) p5
abbrev q2 (f : Str) (p1 p2 p3 p4 : Pos) : Stmt := .Assign [.Attribute (.Name "self" p1) f p2] (.Name f p3) p4
section
variable {prog : Program} {w : World} {A : Around} {E : Value → Shared → Prop} {R : Result → Shared → Prop} {s : Shared} {K : Frag} {mg : Str → Option Value} {C fI : Addr} {qual : Str} {ar : Arguments} {body : List Stmt} {sc : Scope}
/-- super().__init__(arg) -/
theorem sup_run {Q : Flow → Shared → Prop} {p1 p2 p3 p4 p5 : Pos} {arg : Expr} {h₀ : Heap} {L x t cda cc : Addr} {m mb : Str → Option Value} {v0 : Arg} {bdy : List Stmt} (T : Ini K prog C fI qual ar body sc)
    (F : Fr h₀ L s.heap m) (X₀ : K.In h₀) (N : News h₀ L s.heap [(x, excObj C t none .none)]) (hself : m "self" = some (.ref x)) (har : (ar.posonlyargs ++ ar.args).head? = some v0) (hv0 : v0.arg = "self")
    {oc : Value} {od : Option Addr} {doc pm : Value} {an : Option Addr} {ct : Value} {osl : Array (Option Value)} {ccl : Value} {cdd : Option Addr} {vs : Array Value} {ccs : Array (Option Value)} {file : Str} {tf : Tok} {cl : Value} {cld : Option Addr} {csl : Array (Option Value)}
    (hfI : K.lookup fI = some ⟨oc, od, .func (ksFn "__init__" qual ar body sc .none .none doc pm an (.ref cda) ct cc), osl⟩) (hcda : K.lookup cda = some ⟨ccl, cdd, .fields vs, ccs⟩) (hvs : vs[2]? = some (.str file tf)) (hfile : ((prog.main.file : Str) == file) = true)
    (hcc : K.lookup cc = some ⟨cl, cld, .cell (some (.ref C)), csl⟩)
    (G : h₀.Ns mainGlobals mg) (hsup : mg "super" = none) (B : h₀.Ns builtinsNs mb) (hb : mb "super" = some (.type "super")) (htop : (prog.main.scope.names.lookup ("super" : Str)).isSome = false)
    (hks : sc.names.lookup ("super" : Str) = some .globalImplicit) (hkc : sc.names.lookup ("__class__" : Str) = some .free) (hka : sc.names.lookup ("self" : Str) = some .local) (hk : sc.kind = .function)
    (harg : ∀ (s' : Shared) (Q : Value → Shared → Prop), s'.heap.Ns L m → (∀ u tk, Q u { s' with toks := tk }) → wpAny (model prog w) A (eval arg (ksEnv qual sc L fI (.ref cda) cc)) Q E s')
    (h : ∀ t' h' tk, Fr h₀ L h' m → News h₀ L h' [(x, excObj C t' none .none)] → Q .next { s with heap := h', toks := tk })
    (he : starEach [arg] (ksEnv qual sc L fI (.ref cda) cc) = (false, eval arg (ksEnv qual sc L fI (.ref cda) cc)) :: starEach [] (ksEnv qual sc L fI (.ref cda) cc) := by rfl)
    {pl : Sem Bool} (hev : eval (.Call (.Attribute (.Call (.Name "super" p1) [] [] p2) "__init__" p3) [arg] [] p4) (ksEnv qual sc L fI (.ref cda) cc) = (do
      let ov ← attributeBase (.Call (.Name "super" p1) [] [] p2) "__init__" (ksEnv qual sc L fI (.ref cda) cc) (eval (.Call (.Name "super" p1) [] [] p2) (ksEnv qual sc L fI (.ref cda) cc))
      standAt p3.atName
      let (f, first) ← holding [ov] (getMethod ov "__init__" pl)
      callWith p4 f first (backTo p4 (starEach [arg] (ksEnv qual sc L fI (.ref cda) cc))) []) := by rfl)
    (hsw : swapsWith (.Call (.Attribute (.Call (.Name "super" p1) [] [] p2) "__init__" p3) [arg] [] p4) none p5.line (ksEnv qual sc L fI (.ref cda) cc) = pure false := by rfl) :
    wpAt (model prog w) A (.func bdy (ksEnv qual sc L fI (.ref cda) cc)) (exec (q1 p1 p2 p3 p4 p5 arg) (ksEnv qual sc L fI (.ref cda) cc)) Q E s := by
  have X : K.In s.heap := X₀.keeps F.keep
  obtain ⟨nm, q, NN, bs, bm, sn, sub, ab, col, dd, k0, k1, k2, k3, k5, hC, hbm⟩ := T.ox
  have hx := (N (x, excObj C t none .none) (by simp)).1
  have hD1 := X _ _ hC
  have hxC : x ≠ C := fun z => by
    rw [← z] at hD1
    rw [hx] at hD1
    cases hD1
  obtain ⟨hh, g, d, tk, os⟩ := s
  refine ks_wpAt_Expr_any (ks_wpAt_MethodCall (pl := pl) ?_ hev) (by simp [interactive, hk]) hsw
  refine ks_wpAt_super_base (env := ksEnv qual sc L fI (.ref cda) cc) hks hkc (by decide) rfl (X _ _ hfI) rfl har rfl (X _ _ hcda) rfl hvs hfile htop ?_
  rw [hv0]
  refine ks_loadName_global hk hks (loadGlobal_builtin (env := ksEnv qual sc L fI (.ref cda) cc) (G.keeps F.keep) hsup (B.keeps F.keep) hb ⟨rfl, ?_⟩)
  refine wpAny_loadName_free hk hkc rfl ⟨_, X _ _ hcc, rfl⟩ ?_
  refine wpAny_loadName_local hk hka F.ns hself ?_
  refine ks_wpAny_isType_cls hD1 rfl ⟨rfl, ?_⟩
  refine ks_wpAny_call_super hD1 rfl hx rfl (fun c e => ?_) (looks_mroIn X T.mro) (fun h' e k => ?_)
  · cases e
  obtain ⟨F', N', l'⟩ := ks_newsPush (s := ⟨hh, g, d, tk, os⟩) F N rfl e k
  have hI : InstAt h' x (excObj C t none .none) C none := ⟨(N' (x, excObj C t none .none) (by simp)).1, rfl, rfl, trivial⟩
  refine kxs_method (s := ⟨h', g, d, tk, os⟩) kxs_ValueError F' X₀ N' (so := hh.objs.size) (x := x) (C := C) (D := C) (by simp) hI T.tp T.sup T.sub (by decide) fun u h2 F2 N2 l2 => ?_
  refine kxs_callWith1 (s := ⟨h2, g, d, tk + 1, os⟩) (i := "ValueError.__init__") (x := x) N2 (by simp) ?_ he (by rfl)
  rw [he]
  show wpAny _ _ (spliced ((false, eval arg (ksEnv qual sc L fI (.ref cda) cc)) :: backTo _ (starEach [] (ksEnv qual sc L fI (.ref cda) cc)))) _ _ _
  refine Calls.spliced_cons (harg _ _ F2.ns fun av tk2 => Calls.spliced_nil ?_)
  refine ⟨kxs_at N2 (by simp), ?_⟩
  have xu : x ≠ u := fun z => absurd (l2 (x, excObj C t none .none) (by simp)) (by rw [z]; exact Nat.lt_irrefl _)
  have xs : x ≠ hh.objs.size := Nat.ne_of_lt (Heap.lt_size hx)
  have su : hh.objs.size ≠ u := Nat.ne_of_lt (l2 (hh.objs.size, ks_superObj C x C) (by simp))
  refine kxs_call (s := ⟨h2, g, d, tk2, os⟩) (t := t) (dv := none) (c2 := .none) F2 X₀ N2 PySem.F.excBase_ValueError T.ini (by simp)
    (U := .tail (Ne.symm xu) (.tail (Ne.symm xs) (.head fun p hp => nomatch hp))) (by rw [sizeLine_eq]; exact (by decide : 1 ≤ 16777216)) fun t' h3 F3 N3 l3 => ?_
  exact h t' h3 tk2 F3 fun p hp => N3 p (by
    have e : p = (x, excObj C t' none .none) := by simpa using hp
    rw [e]
    simp)
theorem lk {α : Type} (f g : Str) (y : α) (fs : List (Str × α)) : List.lookup g ((f, y) :: fs) = if g = f then some y else List.lookup g fs := by
  by_cases h : g = f
  · subst h
    simp [List.lookup]
  · have e : (g == f) = false := by simpa using h
    rw [if_neg h]
    simp [List.lookup, e]
theorem ns1_congr {h : Heap} {a : Addr} {m m' : Str → Option Value} (x : h.Ns1 a m) (e : ∀ y, m y = m' y) : h.Ns1 a m' := by
  have z : m = m' := funext e
  rw [← z]
  exact x
theorem ld {M : Model} {A : Around} {E : Value → Shared → Prop} {s : Shared} {env : Env} {m : Str → Option Value} {x : Str} {pos : Pos} {v : Value} {Q : Value → Shared → Prop} (hn : s.heap.Ns env.locals m) (hv : m x = some v) (hk : env.scope.kind = .function) (hl : env.kindOf x = some .local) (h : Q v s)
    (hd : (x == ("__debug__" : Str)) = false) : wpAny M A (eval (.Name x pos) env) Q E s := wpAny_Name (wpAny_loadName_local hk hl hn hv h) hd
/-- self.f = f, the first field -/
theorem st1 {env : Env} {Q : Flow → Shared → Prop} {f : Str} {p1 p2 p3 p4 : Pos} {v : Value} {h₀ : Heap} {L x t : Addr} {m : Str → Option Value} (T : Ini K prog C fI qual ar body sc) (hno : findIn K (.ref C) f = some none)
    (F : Fr h₀ L s.heap m) (X₀ : K.In h₀) (N : News h₀ L s.heap [(x, excObj C t none .none)]) (hL : env.locals = L) (hk : env.scope.kind = .function) (hself : m "self" = some (.ref x)) (hv : m f = some v)
    (k1 : env.kindOf "self" = some .local) (k2 : env.kindOf f = some .local) (hd : (f == ("__debug__" : Str)) = false)
    (h : ∀ h' tk dx, Fr h₀ L h' m → h'.get? x = some { cls := .ref C, dict := some dx, data := .fields #[.ref t, .none, .none, .none, .bool false, .none] } → h₀.objs.size ≤ dx → dx ≠ x → dx ≠ L → h'.Ns1 dx (fun y => List.lookup y [(f, v)]) → Q .next { s with heap := h', toks := tk })
    (hsw : swapsWith (.Name f p3) (some (.Attribute (.Name "self" p1) f p2)) p4.line env = pure false := by rfl) : wpAny (model prog w) A (exec (q2 f p1 p2 p3 p4) env) Q E s := by
  have X : K.In s.heap := X₀.keeps F.keep
  obtain ⟨nm, q, NN, bs, bm, sn, sub, ab, col, dd, k0, k1', k2', k3, k5, hC, hbm⟩ := T.ox
  have hcl : clsIn K C = some { name := nm, bases := bs, mro := .ref C :: bm, ns := NN, qualname := q, hasDict := true, slotNames := sn, subclasses := sub, abstract := ab, collection := col, hasDel := false } := by unfold clsIn; rw [hC] <;> rfl
  have hx := (N (x, excObj C t none .none) (by simp)).1
  have hxn := (N (x, excObj C t none .none) (by simp)).2.2
  have hxL := (N (x, excObj C t none .none) (by simp)).2.1
  subst hL
  refine plainObj_wpAny_Assign_Attribute ?_ hsw
  refine ld F.ns hv hk k2 (ld F.ns hself hk k1 ?_ (by decide)) hd
  refine set_plain X (ox := excO C t) (od := none) ⟨hx, rfl, rfl, trivial⟩ T.sa ?_
  obtain ⟨hh, g, d, tk, os⟩ := s
  refine exc_osa X hx hcl (show refsVE (.ref C :: bm) = true from hbm) rfl hno (fun h' tk' dx k dn dne hx' hn => ?_)
  obtain ⟨oL, es, ep, hLo, r⟩ := F.ns
  refine h h' tk' dx ⟨⟨oL, es, ep, k _ _ (Ne.symm hxL) hLo, r⟩, fun b o e => k b o (fun z => by rw [z, hxn] at e; cases e) (F.keep b o e), F.above⟩ hx' ?_ dne ?_ ?_
  · exact Nat.le_trans (Nat.le_trans F.above (Nat.le_of_lt (Heap.lt_size hLo))) dn
  · exact Ne.symm (Nat.ne_of_lt (Nat.lt_of_lt_of_le (Heap.lt_size hLo) dn))
  · exact ns1_congr hn fun y => (lk f y v []).symm
/-- self.f = f, one more -/
theorem st2 {env : Env} {Q : Flow → Shared → Prop} {f : Str} {p1 p2 p3 p4 : Pos} {v : Value} {h₀ : Heap} {L x t dx : Addr} {m : Str → Option Value} {fs : List (Str × Value)} (T : Ini K prog C fI qual ar body sc) (hno : findIn K (.ref C) f = some none)
    (F : Fr h₀ L s.heap m) (X₀ : K.In h₀) (hx : s.heap.get? x = some { cls := .ref C, dict := some dx, data := .fields #[.ref t, .none, .none, .none, .bool false, .none] }) (hdx : h₀.objs.size ≤ dx) (hdL : dx ≠ L) (hne : dx ≠ x) (hns : s.heap.Ns1 dx (fun y => fs.lookup y)) (hlen : fs.length ≤ 900)
    (hL : env.locals = L) (hk : env.scope.kind = .function) (hself : m "self" = some (.ref x)) (hv : m f = some v)
    (k1 : env.kindOf "self" = some .local) (k2 : env.kindOf f = some .local) (hd : (f == ("__debug__" : Str)) = false)
    (h : ∀ h' tk, Fr h₀ L h' m → h'.get? x = some { cls := .ref C, dict := some dx, data := .fields #[.ref t, .none, .none, .none, .bool false, .none] } → h'.Ns1 dx (fun y => List.lookup y ((f, v) :: fs)) → Q .next { s with heap := h', toks := tk })
    (hsw : swapsWith (.Name f p3) (some (.Attribute (.Name "self" p1) f p2)) p4.line env = pure false := by rfl) : wpAny (model prog w) A (exec (q2 f p1 p2 p3 p4) env) Q E s := by
  have X : K.In s.heap := X₀.keeps F.keep
  obtain ⟨nm, q, NN, bs, bm, sn, sub, ab, col, dd, k0, k1', k2', k3, k5, hC, hbm⟩ := T.ox
  have hcl : clsIn K C = some { name := nm, bases := bs, mro := .ref C :: bm, ns := NN, qualname := q, hasDict := true, slotNames := sn, subclasses := sub, abstract := ab, collection := col, hasDel := false } := by unfold clsIn; rw [hC] <;> rfl
  have hw : Within (fun y => fs.lookup y) (fs.map (·.1)) := fun y hy => by
    have key : ∀ l : List (Str × Value), l.lookup y ≠ none → y ∈ l.map (·.1) := by
      intro l
      induction l with
      | nil => intro z; exact absurd rfl z
      | cons p l ih =>
        intro z
        obtain ⟨a, b⟩ := p
        by_cases e : y = a
        · subst e; simp
        · simp only [List.lookup, beq_eq_false_iff_ne.mpr e] at z
          exact List.mem_cons_of_mem _ (ih z)
    exact key fs hy
  obtain ⟨oD, esD, epD, hoD, _, _⟩ := hns.count hw
  subst hL
  refine plainObj_wpAny_Assign_Attribute ?_ hsw
  refine ld F.ns hv hk k2 (ld F.ns hself hk k1 ?_ (by decide)) hd
  refine set_plain X (ox := { cls := .ref C, dict := some dx, data := .fields #[.ref t, .none, .none, .none, .bool false, .none] }) (od := some oD) ⟨hx, rfl, rfl, hoD⟩ T.sa ?_
  obtain ⟨hh, g, d, tk, os⟩ := s
  refine PySem.OEX.osa_old X hx hns hw (by rw [List.length_map]; omega) hcl (show refsVE (.ref C :: bm) = true from hbm) rfl hno (fun h' tk' k hn => ?_)
  obtain ⟨oL, es, ep, hLo, r⟩ := F.ns
  refine h h' tk' ⟨⟨oL, es, ep, k _ _ (Ne.symm hdL) hLo, r⟩, fun b o e => k b o (fun z => ?_) (F.keep b o e), F.above⟩ (k _ _ (Ne.symm hne) hx) ?_
  · rw [z] at e
    exact absurd (Nat.lt_of_lt_of_le (Heap.lt_size e) hdx) (Nat.lt_irrefl _)
  · exact ns1_congr hn fun y => (lk f y v _).symm
/-- a made exception of the class at C, with its fields -/
structure Made (h h' : Heap) (e C d : Addr) (fs : List (Str × Value)) : Prop where
  keep : ∀ b o, h.get? b = some o → h'.get? b = some o
  new : h.objs.size ≤ e
  obj : ∃ t1 : Addr, h'.get? e = some { cls := .ref C, dict := some d, data := .fields #[.ref t1, .none, .none, .none, .bool false, .none] }
  dbig : h.objs.size ≤ d
  dne : d ≠ e
  ns : h'.Ns1 d (fun y => fs.lookup y)
/-- the message's reading asks nothing and leaves the heap -/
def Quiet (prog : Program) (w : World) (arg : Expr) (qual : Str) (sc : Scope) (fI : Addr) (ok : (Str → Option Value) → Prop) : Prop :=
  ∀ (A : Around) (E : Value → Shared → Prop) (L cda cc : Addr) (m : Str → Option Value) (s' : Shared) (Q : Value → Shared → Prop), s'.heap.Ns L m → ok m → (∀ u tk, Q u { s' with toks := tk }) → wpAny (model prog w) A (eval arg (ksEnv qual sc L fI (.ref cda) cc)) Q E s'
/-- the text of an __init__ of one field -/
structure Text1 (prog : Program) (fI : Addr) (qual f : Str) (ar : Arguments) (body : List Stmt) (sc : Scope) (arg : Expr) : Prop where
  shape : ∃ p1 p2 p3 p4 p5 r1 r2 r3 r4, body = [q1 p1 p2 p3 p4 p5 arg, q2 f r1 r2 r3 r4] ∧
    (∀ L cda cc, ∃ pl : Sem Bool, eval (.Call (.Attribute (.Call (.Name "super" p1) [] [] p2) "__init__" p3) [arg] [] p4) (ksEnv qual sc L fI (.ref cda) cc) = (do
      let ov ← attributeBase (.Call (.Name "super" p1) [] [] p2) "__init__" (ksEnv qual sc L fI (.ref cda) cc) (eval (.Call (.Name "super" p1) [] [] p2) (ksEnv qual sc L fI (.ref cda) cc))
      standAt p3.atName
      let (f, first) ← holding [ov] (getMethod ov "__init__" pl)
      callWith p4 f first (backTo p4 (starEach [arg] (ksEnv qual sc L fI (.ref cda) cc))) [])) ∧
    (∀ L cda cc, swapsWith (.Call (.Attribute (.Call (.Name "super" p1) [] [] p2) "__init__" p3) [arg] [] p4) none p5.line (ksEnv qual sc L fI (.ref cda) cc) = pure false) ∧
    (∀ L cda cc, swapsWith (.Name f r3) (some (.Attribute (.Name "self" r1) f r2)) r4.line (ksEnv qual sc L fI (.ref cda) cc) = pure false)
  star : ∀ L cda cc, starEach [arg] (ksEnv qual sc L fI (.ref cda) cc) = (false, eval arg (ksEnv qual sc L fI (.ref cda) cc)) :: starEach [] (ksEnv qual sc L fI (.ref cda) cc)
  bind : ∀ (doc pm : Value) (an : Option Addr) (cdv ct : Value) (cc : Addr) (us : List Value), us.length = 2 → bindArgs (ksFn "__init__" qual ar body sc .none .none doc pm an cdv ct cc) ⟨us, []⟩ = pure ((["self", f] : List Str).zip us)
  hd : ∃ v0 : Arg, (ar.posonlyargs ++ ar.args).head? = some v0 ∧ v0.arg = "self"
  ks : sc.names.lookup ("super" : Str) = some .globalImplicit
  kc : sc.names.lookup ("__class__" : Str) = some .free
  ka : sc.names.lookup ("self" : Str) = some .local
  kf : sc.names.lookup f = some .local
  fn : f ≠ "self"
  nd : (f == ("__debug__" : Str)) = false
  kind : sc.kind = .function
  co : sc.isCoroutine = false
  gen : sc.isGenerator = false
  cell : ∀ x ∈ sc.names, x.2 ≠ .cell
  top : (prog.main.scope.names.lookup ("super" : Str)).isSome = false
theorem init1 {f : Str} {arg : Expr} {x t : Addr} {v : Value} {h₀ : Heap} {mb : Str → Option Value} (T : Ini K prog C fI qual ar body sc) (Y : Text1 prog fI qual f ar body sc arg) (hno : findIn K (.ref C) f = some none)
    (hq : Quiet prog w arg qual sc fI fun m => m f = some v) (X₀ : K.In h₀) (k₀ : ∀ b o, h₀.get? b = some o → s.heap.get? b = some o) (sz : h₀.objs.size ≤ s.heap.objs.size) (hx : s.heap.get? x = some (excObj C t none .none)) (hxn : h₀.get? x = none) (hlim : s.heap.NoLimit) (hroom : A.depth < recursionLimit)
    (G : h₀.Ns mainGlobals mg) (hsup : mg "super" = none) (B : h₀.Ns builtinsNs mb) (hb : mb "super" = some (.type "super"))
    (hR : ∀ h' tk dx, End h₀ h' x C dx [(f, v)] → R (.ok (.ret .none)) { s with heap := h', toks := tk }) : codeAny (model prog w) A (.call (.ref fI) ⟨[.ref x, v], []⟩) R s := by
  obtain ⟨oc, od, doc, pm, an, cda, cc, ct, osl, ccl, cdd, vs, ccs, file, tf, cl, cld, csl, hfI, hcd, hcda, hvs, hfile, hcc⟩ := T.fn
  obtain ⟨p1, p2, p3, p4, p5, r1, r2, r3, r4, rfl, hev, hsw1, hsw2⟩ := Y.shape
  obtain ⟨v0, har, hv0⟩ := Y.hd
  have X : K.In s.heap := X₀.keeps k₀
  refine ks_codeAny_call_defAt hroom (X _ _ hfI) rfl hlim (codeRec_of X hcd) rfl (binds := [("self", .ref x), (f, v)]) (BindsTo.of_eq (Y.bind _ _ _ _ _ _ [.ref x, v] rfl)) Y.cell (fun y hy => ?_) (fun h₁ hns hk₁ => ?_) Y.co Y.gen Y.kind
  · rcases List.mem_cons.mp hy with e | hy
    · rw [e]; exact Y.ka
    · have e : y = (f, v) := by simpa using hy
      rw [e]; exact Y.kf
  have F : Fr h₀ s.heap.objs.size h₁ (fun y => List.lookup y ([(f, v), (("self" : Str), Value.ref x)] : List (Str × Value))) := ⟨hns, fun b o e => hk₁ b o (k₀ b o e), sz⟩
  have N : News h₀ s.heap.objs.size h₁ [(x, excObj C t none .none)] := fun p hp => by
    have e : p = (x, excObj C t none .none) := by simpa using hp
    rw [e]
    exact ⟨hk₁ _ _ hx, Nat.ne_of_lt (Heap.lt_size hx), hxn⟩
  have hself : List.lookup ("self" : Str) ([(f, v), (("self" : Str), Value.ref x)] : List (Str × Value)) = some (.ref x) := by
    rw [lk, if_neg (Ne.symm Y.fn), lk, if_pos rfl]
  have hf : List.lookup f ([(f, v), (("self" : Str), Value.ref x)] : List (Str × Value)) = some v := by rw [lk, if_pos rfl]
  obtain ⟨pl, hev⟩ := hev s.heap.objs.size cda cc
  refine ks_wpAt_execs_cons (sup_run (s := ⟨h₁, _, _, _, _⟩) (h₀ := h₀) (m := fun y => List.lookup y ([(f, v), (("self" : Str), Value.ref x)] : List (Str × Value))) T F X₀ N hself har hv0 hfI hcda hvs hfile hcc G hsup B hb Y.top Y.ks Y.kc Y.ka Y.kind (fun s' Q hn z => hq _ _ _ _ _ _ s' Q hn hf z) (fun t' h' tk F' N' => ?_) (Y.star _ _ _) hev (hsw1 _ _ _))
  refine wpAt_of_wpAny (wpAny_execs_cons (st1 (s := ⟨h', _, _, _, _⟩) T hno F' X₀ N' rfl Y.kind hself hf Y.ka Y.kf Y.nd (fun h2 tk2 dx F2 hx2 hd1 hd2 hd3 hn2 => ?_) (hsw2 _ _ _)))
  exact wpAny_execs_nil (hR h2 tk2 dx ⟨F2.keep, ⟨_, hx2⟩, hd1, hd2, hn2⟩)
theorem made1 {f : Str} {arg : Expr} {v : Value} {mb : Str → Option Value} (T : Ini K prog C fI qual ar body sc) (Y : Text1 prog fI qual f ar body sc arg) (hno : findIn K (.ref C) f = some none)
    (hq : Quiet prog w arg qual sc fI fun m => m f = some v) (X : K.In s.heap) (hlim : s.heap.NoLimit) (hroom : A.depth + 1 < recursionLimit)
    (G : s.heap.Ns mainGlobals mg) (hsup : mg "super" = none) (B : s.heap.Ns builtinsNs mb) (hb : mb "super" = some (.type "super"))
    (hR : ∀ h' tk e d, Made s.heap h' e C d [(f, v)] → R (.ok (.ret (.ref e))) { s with heap := h', toks := tk }) : codeAny (model prog w) A (.call (.ref C) ⟨[v], []⟩) R s := by
  obtain ⟨nm, q, NN, bs, bm, sn, sub, ab, col, dd, k0, k1, k2, k3, k5, hC, hbm⟩ := T.ox
  obtain ⟨hp, g, dr, tk, os⟩ := s
  have k : ∀ b o, hp.get? b = some o → ((hp.push (kdv_tup [v])).push (excO C hp.objs.size)).get? b = some o := fun b o e => Heap.get?_push_of_some _ (Heap.get?_push_of_some _ e)
  have hget : ((hp.push (kdv_tup [v])).push (excO C hp.objs.size)).get? (hp.objs.size + 1) = some (excO C hp.objs.size) := by heap_get
  have hn : hp.get? (hp.objs.size + 1) = none := Heap.get?_none_of_le (Nat.le_succ _)
  refine call_own F.excBase_ValueError (fun X => refsVE_contains X bm hbm) (X _ _ hC) (looks_findIn X T.iC) (fun self => bind_fn X self T.tC) (by rw [sizeLine_eq]; exact (by decide : 1 ≤ 16777216)) ?_
  refine init1 (s := ⟨(hp.push (kdv_tup [v])).push (excO C hp.objs.size), g, dr, tk, os⟩) (t := hp.objs.size) T Y hno hq X k ?_ hget hn (hlim.keeps k) ?_ G hsup B hb fun h' tk' dx E' => ⟨rfl, hR h' tk' (hp.objs.size + 1) dx ⟨E'.keep, Nat.le_succ _, E'.obj, E'.dbig, E'.dne, E'.ns⟩⟩
  · show hp.objs.size ≤ _
    rw [Heap.size_push, Heap.size_push]
    exact Nat.le_succ_of_le (Nat.le_succ _)
  · show A.depth + 1 < recursionLimit
    exact hroom
end
end XC
end PySem
set_option Elab.async false
set_option linter.all false
set_option maxRecDepth 100000
set_option maxHeartbeats 1000000
namespace U
open PySem PySem.Spec PyProof.Rows L2
section
variable {X : Cx}
/-- what is known of the exception class that the module's name nm stands for: raised by nm(v), it holds v as its field f -/
structure Exc1 (P : Program) (w : World) (K : PySem.W.Frag) (mg : Str → Option Value) (nm f : Str) (okv : V → Prop) : Prop where
  ex : ∃ (C fI : Addr) (qual : Str) (ar : Arguments) (body : List Stmt) (sc : Scope) (arg : Expr), C = He.ga K nm ∧ mg nm = some (.ref C) ∧ XC.Ini K P C fI qual ar body sc ∧ XC.Text1 P fI qual f ar body sc arg ∧ PySem.W.findIn K (.ref C) f = some none ∧
    (∀ v u, okv v → RelV v u → XC.Quiet P w arg qual sc fI fun m => m f = some u) ∧ PySem.W.keepIn K (.ref C) = true ∧ PySem.W.subIn K (.ref C) (.type "BaseException") = some true ∧ PySem.W.typeIn K (.ref C) = some (.type "type")
  sup : mg "super" = none
def tMk1 (C : Addr) (f : Str) (okv : V → Prop) (ta : TA) : L2.St → Hp → XK → Prop := fun σ H Q => ta σ H fun vs H1 => ∃ v, vs = [v] ∧ okv v ∧ ∀ d, H1 d = none → Q (.ref C) (some d) (upd H1 d (.xd [(f, v)]))
theorem relO1 {f : Str} {v : V} {v' : Value} (r : RelV v v') (g : Str) : RelO (List.lookup g [(f, v)]) (List.lookup g [(f, v')]) := by
  rw [XC.lk, XC.lk]
  by_cases h : g = f
  · rw [if_pos h, if_pos h]
    exact r
  · rw [if_neg h, if_neg h]
    trivial
theorem pmk1 {nm f : Str} {okv : V → Prop} {a : Expr} {ta : TA} {p pos : Pos} {k : Nat} (T : Exc1 X.prog X.w X.K X.mg nm f okv) (hr : Room k X.A) (ha : PA X [a] ta) (hg : Gl X nm) (hd : (nm == ("__debug__" : Str)) = false := by decide)
    (he : starEach (a :: []) X.env = (false, eval a X.env) :: starEach [] X.env := by rfl) (hpl : (backTo pos (starEach [] X.env)).any (·.1) = false := by rfl) :
    PMk X (.Call (.Name nm p) [a] [] pos) (tMk1 (He.ga X.K nm) f okv ta) := by
  intro pins s σ H Q I h
  obtain ⟨C, fI, qual, ar, body, sc, arg, rfl, gC, Tn, Ty, hno, hq, kC, exC, tyC⟩ := T.ex
  refine wpAny_Call_Name_kw (ld_glob I hg gC ?_ hd)
  refine PySem.W.callWith_K (h₀ := X.base) I.ok.mod.kin kC (thn (ha.run pos pins s σ H _ I h) fun us s1 hh => ?_) he hpl
  obtain ⟨vs, H1, I1, r1, v, ev, hok, q1⟩ := hh
  subst ev
  refine ⟨I1.kIn, ?_⟩
  cases r1 with
  | cons rv rn =>
    rename_i v' us'
    cases rn
    show wpAny _ _ (call (.ref (He.ga X.K nm)) [v']) _ _ _
    have hlim := I1.nolimit
    obtain ⟨mb, hB1, hB2⟩ := I1.mod.blt
    have bsup : mb "super" = some (.type "super") := (hB2 "super" (by decide +kernel)).trans (by decide +kernel)
    have hG := I1.mod.glob.keeps I1.bk
    have hBb := hB1.keeps I1.bk
    have hK := I1.kIn
    obtain ⟨hp, g, dr, tk, os⟩ := s1
    refine wpAny_call (XC.made1 (s := ⟨hp, g, dr, tk, os⟩) Tn Ty hno (hq v v' hok rv) hK hlim (by have := hr.dp; omega) hG T.sup hBb bsup fun h' tk' e d M => ?_)
    show MkP X pins σ Q (.ref e) ⟨h', g, dr, tk', os⟩
    obtain ⟨t1, hoe⟩ := M.obj
    have hns := M.ns
    obtain ⟨G', g1, g2⟩ := restrict h' fun b => decide (b ≠ e)
    have gk : ∀ b, b ≠ e → G'.get? b = h'.get? b := fun b hb => g1 b (decide_eq_true hb)
    have ge : G'.get? e = none := g2 e (by simp)
    have old : ∀ b o, hp.get? b = some o → G'.get? b = some o := fun b o q => (gk b (Nat.ne_of_lt (Nat.lt_of_lt_of_le (Heap.lt_size q) M.new))).trans (M.keep b o q)
    have ob : ObjOk X.prog X.w (upd H1 d (.xd [(f, v)])) G' d (.xd [(f, v)]) := ⟨_, hns.at (fun o q => (gk d M.dne).trans q), fun y => relO1 rv y⟩
    have J : Inv X pins σ (upd H1 d (.xd [(f, v)])) ⟨G', g, dr, tk', os⟩ := I1.laid (t' := tk') old M.dbig ob
    refine ⟨e, _, _, ⟨G', g, dr, tk', os⟩, _, .ref (He.ga X.K nm), some d, rfl, J, fun b o q => ?_, ge, hoe, ⟨rfl, rfl⟩, rfl, rfl, ?_, rfl, I1.bare, raises_own exC tyC, q1 d (I1.hok.fresh M.dbig)⟩
    · by_cases hb : b = e
      · have q' : G'.get? b = some o := q
        rw [hb, ge] at q'
        cases q'
      · exact (gk b hb).symm.trans q
    · rw [upd_ne (Ne.symm M.dne)]
      exact I1.hok.fresh M.new
/-- raise nm(e) -/
def tRaise1 (C : Addr) (f : Str) (okv : V → Prop) (W : WX) (ta : TA) : TS := fun _ σ H => tMk1 C f okv ta σ H fun cls d H' => W cls d σ H'
theorem us_raise1 {nm f : Str} {okv : V → Prop} {a : Expr} {ta : TA} {W : WX} {p pos pos2 : Pos} {k : Nat} (hc : X.calm = true) (T : Exc1 X.prog X.w X.K X.mg nm f okv) (hr : Room k X.A) (tk : Takes X W) (ha : PA X [a] ta) (hg : Gl X nm := by rfl) (hd : (nm == ("__debug__" : Str)) = false := by decide)
    (he : starEach (a :: []) X.env = (false, eval a X.env) :: starEach [] X.env := by rfl) (hpl : (backTo pos (starEach [] X.env)).any (·.1) = false := by rfl) :
    PS X (.Raise (some (.Call (.Name nm p) [a] [] pos)) none pos2) (tRaise1 (He.ga X.K nm) f okv W ta) :=
  ps_raise hc tk (pmk1 T hr ha hg hd he hpl)
/-- isinstance(e, c), e the exception (of the class cls, with its dict d) that the suite holds at a -/
def rIsX (K : PySem.W.Frag) (a : Addr) (cls : Value) (d : Option Addr) : List V → Hp → VK → Prop := fun xs H Q =>
  ∃ (D dd : Addr) (fs : List (Str × V)) (c : V) (cv : Value) (b : Bool), cls = .ref D ∧ d = some dd ∧ H dd = some (.xd fs) ∧ ExcC K D ∧ xs = [.ref a, c] ∧ (∀ u, RelV c u → u = cv) ∧ PySem.W.kitOne K (.ref D) cv = some b ∧ Q (.bl b) H
theorem call_isX {a : Addr} {cls : Value} {d : Option Addr} {oe : Obj} {pn : List (Addr × Obj)} (hz : Zc cls d oe) (hf : ∃ vs, oe.data = .fields vs) : CallR (X.suite a ((a, oe) :: pn)) (.builtin "isinstance") (rIsX X.K a cls d) := by
  intro pins s σ H xs us Q I r h
  obtain ⟨D, dd, fs, c, cv, b, rfl, rfl, hdd, C, rfl, hcv, e, q⟩ := h
  cases r with
  | cons rx rr =>
    cases rr with
    | cons rt rr =>
      cases rr
      cases rx
      have ec := hcv _ rt
      subst ec
      obtain ⟨hget, _⟩ := I.pin (a, oe) (List.mem_append.mpr (.inl List.mem_cons_self))
      obtain ⟨vs, hv⟩ := hf
      have hx : ObjOk X.prog X.w H s.heap dd (.xd fs) := I.hok dd _ hdd
      obtain ⟨mA, hns, hr⟩ := hx
      obtain ⟨od, ho, hl⟩ := lookIn_ns hns
      have J : PySem.W.InstAt s.heap a oe D (some od) := by
        obtain ⟨oc, od', oda, osl⟩ := oe
        obtain ⟨h1, h2⟩ := hz
        dsimp only at h1 h2 hv
        subst h1 h2 hv
        exact ⟨hget, rfl, rfl, ho⟩
      have hcl : (PySem.W.clsIn X.K D).isSome = true := by
        obtain ⟨cd, hc, _⟩ := PySem.W.any_some C.hd
        rw [hc]; rfl
      exact PySem.W.kia_one (PySem.W.kitx_exc (od := some od) hcl C.hg C.hk C.hs C.ha C.hn C.ht C.hm) I.kIn J e (fun z => nomatch z) fun tk => ⟨.bl b, H, I.kept (t' := tk) fun _ _ z => z, rfl, q⟩
end
end U
set_option Elab.async false
set_option linter.all false
set_option maxRecDepth 100000
set_option maxHeartbeats 1000000
namespace U
open PySem PySem.Spec PyProof.Rows L2
section
variable {X : Cx}
/-! built-ins, by values -/
abbrev CR := List V → Hp → VK → Prop
def uLen (K : PySem.W.Frag) : CR := fun xs H Q => match xs with
  | [.str z] => z.length ≤ sizeLine ∧ Q (.int z.length) H
  | [.ref p] => ∃ n : Nat, ((∃ ys, SqL K H p ys ∧ n = ys.length) ∨ (∃ ys, SqT K H p ys ∧ n = ys.length) ∨ ∃ kvs, H p = some (.dK kvs) ∧ n = kvs.length) ∧ Q (.int n) H
  | _ => False
theorem c_len : CallR X (.builtin "len") (uLen X.K) := by
  intro pins s σ H xs us Q I r h
  match xs, h with
  | [.str z], h => exact call_len pins s σ H _ us Q I r ⟨_, _, rfl, ⟨h.1, rfl⟩, h.2⟩
  | [.ref p], ⟨n, q, h⟩ =>
    rcases q with ⟨ys, a, b⟩ | ⟨ys, a, b⟩ | ⟨kvs, a, b⟩
    · exact call_len pins s σ H _ us Q I r ⟨_, n, rfl, .inl ⟨ys, a, b⟩, h⟩
    · exact call_len pins s σ H _ us Q I r ⟨_, n, rfl, .inr ⟨ys, a, b⟩, h⟩
    · subst b; exact call_lenD pins s σ H _ us Q I r ⟨p, kvs, rfl, a, h⟩
def uAbs : CR := fun xs H Q => match xs with
  | [.int i] => Q (.int (if i < 0 then -i else i)) H
  | _ => False
theorem c_abs : CallR X (.builtin "abs") uAbs := by
  intro pins s σ H xs us Q I r h
  match xs, h with
  | [.int i], h => exact call_abs pins s σ H _ us Q I r ⟨i, rfl, h⟩
def uInt : CR := fun xs H Q => match xs with
  | [.int i] => Q (.int i) H
  | [.str z] => ∃ n, PySem.intText? z = some n ∧ z.length ≤ 640 ∧ Q (.int n) H
  | [.bl k] => Q (.int (if k then 1 else 0)) H
  | _ => False
theorem c_int : CallR X (.type "int") uInt := by
  intro pins s σ H xs us Q I r h
  match xs, h with
  | [.int i], h => exact call_int1 pins s σ H _ us Q I r (.inl ⟨i, rfl, h⟩)
  | [.bl k], h => exact call_int1 pins s σ H _ us Q I r (.inr ⟨k, rfl, h⟩)
  | [.str z], ⟨n, a, b, h⟩ => exact call_int_str pins s σ H _ us Q I r ⟨z, n, rfl, a, b, h⟩
def uStr : CR := fun xs H Q => match xs with
  | [.int i] => i.natAbs.log2 < 1920 ∧ Q (.str (toString i)) H
  | _ => False
theorem c_str : CallR X (.type "str") uStr := by
  intro pins s σ H xs us Q I r h
  match xs, h with
  | [.int i], h => exact call_str_int pins s σ H _ us Q I r ⟨i, rfl, h.1, h.2⟩
def uMin (K : PySem.W.Frag) : CR := fun xs H Q => match xs with
  | [.int i, .int j] => Q (.int (if j < i then j else i)) H
  | [.ref p] => rMin K xs H Q
  | _ => False
theorem c_min (hc : X.calm = true) : CallR X (.builtin "min") (uMin X.K) := by
  intro pins s σ H xs us Q I r h
  match xs, h with
  | [.int i, .int j], h => exact call_min2 hc pins s σ H _ us Q I r ⟨i, j, rfl, h⟩
  | [.ref p], h => exact cr_min hc pins s σ H _ us Q I r h
def uMax (K : PySem.W.Frag) : CR := fun xs H Q => match xs with
  | [.int i, .int j] => Q (.int (if j > i then j else i)) H
  | [.ref p] => rMax K xs H Q
  | _ => False
theorem c_max (hc : X.calm = true) : CallR X (.builtin "max") (uMax X.K) := by
  intro pins s σ H xs us Q I r h
  match xs, h with
  | [.int i, .int j], h => exact call_max2 hc pins s σ H _ us Q I r ⟨i, j, rfl, h⟩
  | [.ref p], h => exact cr_max hc pins s σ H _ us Q I r h
def uAll (K : PySem.W.Frag) : CR := fun xs H Q => match xs with
  | [.ref p] => ∃ bs : List Bool, SqL K H p (bs.map V.bl) ∧ Q (.bl (bs.all id)) H
  | _ => False
theorem c_all (hc : X.calm = true) : CallR X (.builtin "all") (uAll X.K) := by
  intro pins s σ H xs us Q I r h
  match xs, h with
  | [.ref p], ⟨bs, a, h⟩ => exact cr_all hc pins s σ H _ us Q I r ⟨p, bs, rfl, a, h⟩
def uTuple (K : PySem.W.Frag) : CR := fun xs H Q => match xs with
  | [.ref p] => ∃ ys, (SqL K H p ys ∧ ∀ l, H l = none → Q (.ref l) (upd H l (.tup ys))) ∨ (SqT K H p ys ∧ Q (.ref p) H)
  | _ => False
theorem c_tuple : CallR X (.type "tuple") (uTuple X.K) := by
  intro pins s σ H xs us Q I r h
  match xs, h with
  | [.ref p], ⟨ys, h⟩ => exact call_tuple_of pins s σ H _ us Q I r ⟨p, ys, rfl, h⟩
/-- what list(..) takes: a list, a tuple, a dict's keys -/
def uList (K : PySem.W.Frag) : CR := fun xs H Q => match xs with
  | [.ref p] => ∃ ys, (SqL K H p ys ∨ SqT K H p ys ∨ ∃ kvs : List (Key × V), H p = some (.dK kvs) ∧ ys = kvs.map fun kv => kV kv.1) ∧ ∀ l, H l = none → Q (.ref l) (upd H l (.lst ys))
  | _ => False
theorem c_list (hc : X.calm = true) : CallR X (.type "list") (uList X.K) := by
  intro pins s σ H xs us Q I r h
  match xs, h with
  | [.ref p], ⟨ys, a, h⟩ =>
    rcases a with a | a | ⟨kvs, a, rfl⟩
    · exact call_list_of pins s σ H _ us Q I r ⟨p, ys, rfl, .inl a, h⟩
    · exact call_list_of pins s σ H _ us Q I r ⟨p, ys, rfl, .inr a, h⟩
    · exact call_listD hc pins s σ H _ us Q I r ⟨p, kvs, rfl, .inl a, h⟩
def uSum (K : PySem.W.Frag) : CR := fun xs H Q => match xs with
  | [.ref p] => ∃ ns : List Int, SqL K H p (ns.map V.int) ∧ Q (.int ns.sum) H
  | _ => False
theorem c_sum (hc : X.calm = true) : CallR X (.builtin "sum") (uSum X.K) := by
  intro pins s σ H xs us Q I r h
  match xs, h with
  | [.ref p], ⟨ns, a, h⟩ => exact cr_sum hc pins s σ H _ us Q I r ⟨p, ns, rfl, a, h⟩
/-! slices -/
abbrev SR := V → Option Int → Option Int → Hp → VK → Prop
def uSl (K : PySem.W.Frag) : SR := fun x lo hi H Q => match x with
  | .str z => z.length ≤ sizeLine ∧ Q (.str (cutS z lo hi)) H
  | .ref a => ∃ xs, SqL K H a xs ∧ ∀ p, H p = none → Q (.ref p) (upd H p (.lst (cutV xs lo hi)))
  | _ => False
theorem s_sl : SlR X (uSl X.K) := by
  intro pins s σ H x v vl vu lo hi sl Q I rx hs pl pu h
  cases x with
  | str z => exact sl_str pins s σ H _ v vl vu lo hi sl Q I rx hs pl pu ⟨z, rfl, h.1, h.2⟩
  | ref a => obtain ⟨xs, h1, h2⟩ := (show ∃ xs, _ ∧ _ from h); exact sl_list pins s σ H _ v vl vu lo hi sl Q I rx hs pl pu ⟨a, xs, rfl, h1, h2⟩
  | _ => exact (show False from h).elim
def uPart (t : TE) : TO := fun σ H Q => t σ H fun x H1 => match x with
  | .int i => Q (some i) H1
  | _ => False
theorem po_u {e : Expr} {te : TE} (h : PE X e te) : PO X (some e) (uPart te) := by
  have e1 : uPart te = tPart te := by
    funext σ H Q
    unfold uPart tPart
    congr 1
    funext x H1
    cases x <;> simp
  rw [e1]
  exact po_some h
/-! methods of built-in types: the receiver's type is told by its value -/
def isL (K : PySem.W.Frag) (a : Addr) (H : Hp) : Prop := ∃ xs, H a = some (.lst xs)
def uApp : V → List V → Hp → VK → Prop := fun x vs H Q => match x, vs with
  | .ref l, [y] => ∃ xs, H l = some (.lst xs) ∧ xs.length < sizeLine ∧ Q .non (upd H l (.lst (xs ++ [y])))
  | _, _ => False
theorem tyL {K : PySem.W.Frag} {l : Addr} {H : Hp} {xs : List V} (h : H l = some (.lst xs)) : tyV K "list" (.ref l) H := .inl ⟨rfl, _, Or.inl (Or.inl h)⟩
theorem m_app : MtR X "list.append" uApp := by
  intro pins s σ H x xs v us Q I rx rs h
  match x, xs, h with
  | .ref l, [y], ⟨zs, a, b, h⟩ => exact mt_append pins s σ H _ _ v us Q I rx rs ⟨l, zs, y, rfl, rfl, a, b, h⟩
def uSplit : V → List V → Hp → VK → Prop := fun x vs H Q => match x, vs with
  | .str a, [.str b] => (b.length == 0) = false ∧ a.length + 2 ≤ sizeLine ∧ ∀ p, H p = none → Q (.ref p) (upd H p (.lst ((Txt.split a b).map V.str)))
  | _, _ => False
theorem m_split : MtR X "str.split" uSplit := by
  intro pins s σ H x xs v us Q I rx rs h
  match x, xs, h with
  | .str a, [.str b], ⟨h1, h2, h3⟩ => exact mt_split pins s σ H _ _ v us Q I rx rs ⟨a, b, rfl, rfl, h1, h2, h3⟩
def uJoin (K : PySem.W.Frag) : V → List V → Hp → VK → Prop := fun x vs H Q => match x, vs with
  | .str a, [.ref p] => ∃ ys : List Str, (SqL K H p (ys.map V.str) ∨ SqT K H p (ys.map V.str)) ∧ (ys.map (·.length)).sum + ys.length * a.length ≤ 16777216 ∧ Q (.str (Str.join a ys)) H
  | _, _ => False
theorem m_join : MtR X "str.join" (uJoin X.K) := by
  intro pins s σ H x xs v us Q I rx rs h
  match x, xs, h with
  | .str a, [.ref p], ⟨ys, h1, h2, h3⟩ => exact mt_join pins s σ H _ _ v us Q I rx rs ⟨a, p, ys, rfl, rfl, h1, h2, by rw [TL.join_eq]; exact h3⟩
def uSet : TSet := fun o i v H Q => match o, i with
  | .ref p, .int k => ∃ xs j, H p = some (.lst xs) ∧ ixN xs.length k = some j ∧ Q (upd H p (.lst (xs.set j v)))
  | _, _ => False
theorem st_list : PSet X uSet := by
  intro pins s σ H o i v ov iv u Q I ro ri rv h
  match o, i, h with
  | .ref p, .int k, ⟨xs, j, h1, h2, h3⟩ => exact set_list pins s σ H _ _ v ov iv u Q I ro ri rv ⟨p, xs, k, j, rfl, rfl, h1, h2, h3⟩
/-- a module's constant -/
theorem pg_c {x : Str} {v : V} {pos : Pos} (h : ∃ u, X.mg x = some u ∧ RelV v u) (hg : Gl X x := by rfl) (hd : (x == ("__debug__" : Str)) = false := by decide) : PE X (.Name x pos) (tC v) := by
  obtain ⟨u, e, r⟩ := h
  exact pe_glob hg e r hd
theorem cI {mg : Str → Option Value} {x : Str} {i : Int} (h : ∃ t, mg x = some (.int i t)) : ∃ u, mg x = some u ∧ RelV (.int i) u := by
  obtain ⟨t, e⟩ := h
  exact ⟨_, e, _, rfl⟩
theorem cS {mg : Str → Option Value} {x i : Str} (h : ∃ t, mg x = some (.str i t)) : ∃ u, mg x = some u ∧ RelV (.str i) u := by
  obtain ⟨t, e⟩ := h
  exact ⟨_, e, _, rfl⟩
end
theorem sl {n : Nat} (h : Nat.ble n sizeLine = true) : n ≤ sizeLine := Nat.le_of_ble_eq_true h
/-! heaps: all but what stands at S is kept; a code object's table may grow -/
def isTab : HO → Bool
  | .tbl _ => true
  | _ => false
def KeepO (o : HO) (r : Option HO) : Prop := match o with
  | .tbl ps => ∃ ps' : Array Value, r = some (.tbl ps') ∧ (TriplesOk ps.toList → TriplesOk ps'.toList)
  | o => r = some o
theorem KeepO.of {o : HO} {r : Option HO} (h : r = some o) : KeepO o r := by
  cases o <;> first | exact h | exact ⟨_, h, id⟩
theorem KeepO.eq {o : HO} {r : Option HO} (h : KeepO o r) (t : isTab o = false) : r = some o := by
  cases o <;> first | exact h | cases t
theorem KeepO.some {o : HO} {r : Option HO} (h : KeepO o r) : ∃ o', r = .some o' ∧ ∀ r', KeepO o' r' → KeepO o r' := by
  cases o with
  | tbl ps =>
    obtain ⟨ps', e, k⟩ := h
    exact ⟨_, e, fun r' ⟨ps2, e2, k2⟩ => ⟨ps2, e2, fun z => k2 (k z)⟩⟩
  | _ => exact ⟨_, h, fun _ z => z⟩
def Kp (S : List Addr) (H H' : Hp) : Prop := ∀ b o, H b = some o → b ∉ S → KeepO o (H' b)
section
variable {S S' : List Addr} {H H1 H2 : Hp} {p b : Addr} {o u : HO}
theorem Kp.refl : Kp S H H := fun _ _ h _ => .of h
theorem Kp.trans (a : Kp S H H1) (c : Kp S H1 H2) : Kp S H H2 := fun b o h n => by
  obtain ⟨o', e, k⟩ := (a b o h n).some
  exact k _ (c b o' e n)
theorem Kp.mono (a : Kp S H H1) (h : ∀ b ∈ S, b ∈ S') : Kp S' H H1 := fun b o e n => a b o e fun z => n (h b z)
theorem Kp.new (h : H p = none) : Kp S H (upd H p o) := fun b u e _ => .of (by rw [upd_ne (ne_of_none e h)]; exact e)
theorem Kp.set (h : p ∈ S) : Kp S H (upd H p o) := fun b u e n => .of (by rw [upd_ne (fun z => n (by rw [z]; exact h))]; exact e)
/-- a store to what is younger than H -/
theorem Kp.loc (a : Kp S H H1) (h : H p = none) : Kp S H (upd H1 p o) := fun b u e n => by rw [upd_ne (ne_of_none e h)]; exact a b u e n
theorem Kp.put (a : Kp S H H1) (h : p ∈ S) : Kp S H (upd H1 p o) := a.trans (Kp.set h)
theorem Kp.get (a : Kp S H H1) (h : H b = some o) (n : b ∉ S) (t : isTab o = false := by rfl) : H1 b = some o := (a b o h n).eq t
theorem Kp.get0 (a : Kp [] H H1) (h : H b = some o) (t : isTab o = false := by rfl) : H1 b = some o := (a b o h (by simp)).eq t
theorem Kp.get1 {q : Addr} (a : Kp [q] H H1) (h : H b = some o) (n : b ≠ q) (t : isTab o = false := by rfl) : H1 b = some o := (a b o h (by simpa using n)).eq t
theorem Kp.free (a : Kp S H H1) (h : H1 b = none) (n : b ∉ S) : H b = none := by
  cases q : H b with
  | none => rfl
  | some o =>
    obtain ⟨o', e, _⟩ := (a b o q n).some
    rw [e] at h; cases h
theorem Kp.free0 (a : Kp [] H H1) (h : H1 b = none) : H b = none := a.free h (by simp)
theorem Kp.same (a : Same H H1) : Kp S H H1 := fun b o h _ => .of (a b o h)
theorem Kp.to (a : Kp [] H H1) : Kp S H H1 := a.mono (by simp)
/-- what is younger than H may change behind it -/
theorem Kp.over {q : Addr} (a : Kp [] H H1) (n : H q = none) (c : Kp [q] H1 H2) : Kp [] H H2 := fun b o e _ => by
  obtain ⟨o', e1, k⟩ := (a b o e (by simp)).some
  exact k _ (c b o' e1 (by simpa using ne_of_none e n))
theorem get_new (h : H b = some o) (n : H p = none) : upd H p u b = some o := by rw [upd_ne (ne_of_none h n)]; exact h
theorem get_ne (h : H b = some o) (n : b ≠ p) : upd H p u b = some o := by rw [upd_ne n]; exact h
theorem none_ne (h : H b = some o) (n : upd H p u b = none) : False := by
  by_cases e : b = p
  · subst e; rw [upd_same] at n; cases n
  · rw [upd_ne e, h] at n; cases n
theorem ne_none_of (h : H b = some o) (n : H p = none) : p ≠ b := fun z => by subst z; rw [h] at n; cases n
theorem none_of (n : upd H p u b = none) : H b = none := by
  by_cases e : b = p
  · subst e; rw [upd_same] at n; cases n
  · rw [upd_ne e] at n; exact n
theorem ne_new (n : upd H p u b = none) : b ≠ p := fun e => by subst e; rw [upd_same] at n; cases n
end
end U
set_option Elab.async false
set_option linter.all false
set_option maxRecDepth 100000
set_option maxHeartbeats 1000000
namespace U
open PySem PySem.Spec PyProof.Rows L2
section
variable {X : Cx}
def isBl (b : Bool) : V → Bool
  | .bl a => a == b
  | _ => false
def uIsB : R2 := fun x y H Q => match y with
  | .bl b => Q (.bl (isBl b x)) H
  | _ => False
theorem o_isB : OpR X (compareOp .Is) uIsB := by
  intro pins s σ H x y v u Q I rx ry h
  match y, h with
  | .bl b, h =>
    cases (show u = Value.bool b from ry)
    refine wpAny_is_plain ?_ ⟨.bl (isBl b x), H, I, ?_, h⟩
    · cases x with
      | non => cases (show v = .none from rx); rfl
      | bl a => cases (show v = .bool a from rx); rfl
      | int i => obtain ⟨t, rfl⟩ := rx; rfl
      | str i => obtain ⟨t, rfl⟩ := rx; rfl
      | byt i => obtain ⟨t, rfl⟩ := rx; rfl
      | flt i => obtain ⟨t, rfl⟩ := rx; rfl
      | ref a => cases (show v = .ref a from rx); rfl
      | ty n => cases (show v = .type n from rx); rfl
    · show _ = Value.bool _
      congr 1
      cases x with
      | non => cases (show v = .none from rx); rfl
      | bl a =>
        cases (show v = .bool a from rx)
        cases a <;> cases b <;> rfl
      | int i => obtain ⟨t, rfl⟩ := rx; rfl
      | str i => obtain ⟨t, rfl⟩ := rx; rfl
      | byt i => obtain ⟨t, rfl⟩ := rx; rfl
      | flt i => obtain ⟨t, rfl⟩ := rx; rfl
      | ref a => cases (show v = .ref a from rx); rfl
      | ty n => cases (show v = .type n from rx); rfl
def uIsi (K : PySem.W.Frag) : CR := fun xs H Q => match xs with
  | [x, .ty n] => ∃ (t : String) (b : Bool), TyX K H x (.type t) ∧ kitB t n = some b ∧ Q (.bl b) H
  | _ => False
theorem c_isi : CallR X (.builtin "isinstance") (uIsi X.K) := by
  intro pins s σ H xs us Q I r h
  match xs, h with
  | [x, .ty n], ⟨t, b, h1, h2, h3⟩ => exact call_isi pins s σ H _ us Q I r ⟨x, .ty n, .type t, .type n, b, rfl, .ty n, h1, kit_ty h2, h3⟩
def uChain (r r' : R2) (ta tb tc : TE) : TE := fun σ H Q => ta σ H fun x H1 => tb σ H1 fun y H2 => r x y H2 fun z H3 => match z with
  | .bl k => br k (tc σ H3 fun w' H4 => r' y w' H4 Q) (Q (.bl false) H3)
  | _ => False
theorem uChain_eq (r r' : R2) (ta tb tc : TE) : uChain r r' ta tb tc = tChain r r' ta tb tc := by
  funext σ H Q
  unfold uChain tChain
  congr 1
  funext x H1
  congr 1
  funext y H2
  congr 1
  funext z H3
  cases z <;> simp [br_eq]
theorem ue_chain {op op' : CmpOp} {r r' : R2} {a b c : Expr} {ta tb tc : TE} {pos : Pos} (ho : OpR X (compareOp op) r) (ho' : OpR X (compareOp op') r') (ha : PE X a ta) (hb : PE X b tb) (hc : PE X c tc)
    (hm : lastMarks [op, op'] [b, c] = false := by with_unfolding_all rfl) : PE X (.Compare a [op, op'] [b, c] pos) (uChain r r' ta tb tc) := by
  rw [uChain_eq]
  exact pe_chain ho ho' ha hb hc hm
theorem ut_chainU {op op' : CmpOp} {r r' : R2} {a b c : Expr} {ta tb tc : TE} {pos : Pos} (ho : OpR X (compareOp op) r) (ho' : OpR X (compareOp op') r') (ha : PE X a ta) (hb : PE X b tb) (hc : PE X c tc)
    (hm : lastMarks [op, op'] [b, c] = false := by with_unfolding_all rfl) : PT X (.Compare a [op, op'] [b, c] pos) (uT (uChain r r' ta tb tc)) := by
  rw [uChain_eq]
  exact ut_chain ho ho' ha hb hc hm
/-! the same rules with the fragment told -/
variable (K : PySem.W.Frag)
theorem kAdd (e : X.K = K := by rfl) : OpR X (binaryOp .Add) (uAdd K) := e ▸ o_add
theorem kEq (hu : X.A.units + 64 < cLine) (e : X.K = K := by rfl) : OpR X (compareOp .Eq) (uEq K) := e ▸ o_eq hu
theorem kNe (hu : X.A.units + 64 < cLine) (e : X.K = K := by rfl) : OpR X (compareOp .NotEq) (uNe K) := e ▸ o_ne hu
theorem kIn (e : X.K = K := by rfl) : OpR X (compareOp .In) (uIn K) := e ▸ o_in
theorem kNotIn (e : X.K = K := by rfl) : OpR X (compareOp .NotIn) (uNotIn K) := e ▸ o_notIn
theorem kIx (e : X.K = K := by rfl) : IxR X (uIx K) := e ▸ o_ix
theorem kLen (e : X.K = K := by rfl) : CallR X (.builtin "len") (uLen K) := e ▸ c_len
theorem kMin (hc : X.calm = true) (e : X.K = K := by rfl) : CallR X (.builtin "min") (uMin K) := e ▸ c_min hc
theorem kMax (hc : X.calm = true) (e : X.K = K := by rfl) : CallR X (.builtin "max") (uMax K) := e ▸ c_max hc
theorem kAll (hc : X.calm = true) (e : X.K = K := by rfl) : CallR X (.builtin "all") (uAll K) := e ▸ c_all hc
theorem kTuple (e : X.K = K := by rfl) : CallR X (.type "tuple") (uTuple K) := e ▸ c_tuple
theorem kList (hc : X.calm = true) (e : X.K = K := by rfl) : CallR X (.type "list") (uList K) := e ▸ c_list hc
theorem kSum (hc : X.calm = true) (e : X.K = K := by rfl) : CallR X (.builtin "sum") (uSum K) := e ▸ c_sum hc
theorem kIsi (e : X.K = K := by rfl) : CallR X (.builtin "isinstance") (uIsi K) := e ▸ c_isi
theorem kSl (e : X.K = K := by rfl) : SlR X (uSl K) := e ▸ s_sl
theorem kJoin (e : X.K = K := by rfl) : MtR X "str.join" (uJoin K) := e ▸ m_join
theorem kiList {g e : Expr} {te : TE} (h : PE X e te) (q : X.K = K := by rfl) : PI X g e (iList K te) := q ▸ pi_list h
theorem kiTup {g e : Expr} {te : TE} (h : PE X e te) (q : X.K = K := by rfl) : PI X g e (iTup K te) := q ▸ pi_tup h
end
theorem brT {A B : Prop} (h : A) : br true A B := ⟨fun _ => h, fun z => nomatch z⟩
theorem brF {A B : Prop} (h : B) : br false A B := ⟨fun z => (nomatch z), fun _ => h⟩
theorem brK {b : Bool} {A B : Prop} (h1 : b = true → A) (h2 : b = false → B) : br b A B := ⟨h1, h2⟩
/-! data -/
inductive Dt where
  | non | bl (b : Bool) | int (i : Int) | str (s : Str) | tup (l : List Dt) | lst (l : List Dt) | dct (ks : List Str) (l : List Dt)
/-- a dict's pairs -/
def kvL (ks : List Str) (xs : List V) : List (Key × V) := List.zipWith (fun k v => ((.inr k : Key), v)) ks xs
mutual
inductive Rp (H : Hp) : V → Dt → Prop
  | non : Rp H .non .non
  | bl (b : Bool) : Rp H (.bl b) (.bl b)
  | int (i : Int) : Rp H (.int i) (.int i)
  | str (x : Str) : Rp H (.str x) (.str x)
  | tup {a : Addr} {xs : List V} {ds : List Dt} : H a = some (.tup xs) → RpL H xs ds → Rp H (.ref a) (.tup ds)
  | lst {a : Addr} {xs : List V} {ds : List Dt} : H a = some (.lst xs) → RpL H xs ds → Rp H (.ref a) (.lst ds)
  | dct {a : Addr} {ks : List Str} {xs : List V} {ds : List Dt} : H a = some (.dK (kvL ks xs)) → ks.Nodup → ks.length = xs.length → RpL H xs ds → Rp H (.ref a) (.dct ks ds)
inductive RpL (H : Hp) : List V → List Dt → Prop
  | nil : RpL H [] []
  | cons {v : V} {vs : List V} {d : Dt} {ds : List Dt} : Rp H v d → RpL H vs ds → RpL H (v :: vs) (d :: ds)
end
def Dt.kind : Dt → String
  | .non => "NoneType" | .bl _ => "bool" | .int _ => "int" | .str _ => "str" | .tup _ => "tuple" | .lst _ => "list" | .dct _ _ => "dict"
theorem Rp.ty {K : PySem.W.Frag} {H : Hp} {v : V} {d : Dt} (h : Rp H v d) : TyX K H v (.type d.kind) := by
  cases h with
  | non => exact .base .non
  | bl b => exact .base (.bl b)
  | int i => exact .base (.int i)
  | str s => exact .base (.str s)
  | tup h _ => exact .base (.tup h)
  | lst h _ => exact .base (.lst h)
  | dct h _ _ _ => exact .base (.dK h)
theorem RpL.length {H : Hp} : ∀ {vs : List V} {ds : List Dt}, RpL H vs ds → vs.length = ds.length
  | _, _, .nil => rfl
  | _, _, .cons _ t => congrArg Nat.succ t.length
theorem RpL.get {H : Hp} : ∀ {vs : List V} {ds : List Dt} {i : Nat} {d : Dt}, RpL H vs ds → ds[i]? = some d → ∃ v, vs[i]? = some v ∧ Rp H v d
  | _, _, _, _, .nil, e => by simp at e
  | _, _, 0, _, .cons r _, e => by simp at e; subst e; exact ⟨_, rfl, r⟩
  | _, _, i + 1, d, .cons _ t, e => by
    obtain ⟨v, h1, h2⟩ := RpL.get (i := i) (d := d) t (by simpa using e)
    exact ⟨v, by simpa using h1, h2⟩
theorem RpL.app {H : Hp} : ∀ {vs ws : List V} {ds es : List Dt}, RpL H vs ds → RpL H ws es → RpL H (vs ++ ws) (ds ++ es)
  | _, _, _, _, .nil, s => s
  | _, _, _, _, .cons r t, s => .cons r (t.app s)
theorem RpL.snoc {H : Hp} {vs : List V} {ds : List Dt} {v : V} {d : Dt} (h : RpL H vs ds) (r : Rp H v d) : RpL H (vs ++ [v]) (ds ++ [d]) := h.app (.cons r .nil)
mutual
def Dt.depth : Dt → Nat
  | .tup l => 1 + depthL l
  | .lst l => 1 + depthL l
  | .dct _ l => 2 + depthL l
  | _ => 0
def depthL : List Dt → Nat
  | [] => 0
  | d :: l => max d.depth (depthL l)
end
theorem depth_mem {d : Dt} : ∀ {l : List Dt}, d ∈ l → d.depth ≤ depthL l
  | a :: l, h => by
    rcases List.mem_cons.mp h with e | h
    · subst e; exact Nat.le_max_left _ _
    · exact Nat.le_trans (depth_mem h) (Nat.le_max_right _ _)
mutual
/-- it holds no list -/
def Dt.still : Dt → Bool
  | .tup l => stillL l
  | .lst _ => false
  | .dct _ _ => false
  | _ => true
def stillL : List Dt → Bool
  | [] => true
  | d :: l => d.still && stillL l
end
mutual
/-- no row in it is too long -/
def Dt.wide : Dt → Prop
  | .tup l => l.length ≤ 100000 ∧ wideL l
  | .lst l => l.length ≤ 100000 ∧ wideL l
  | .dct _ l => l.length ≤ 100000 ∧ wideL l
  | _ => True
def wideL : List Dt → Prop
  | [] => True
  | d :: l => d.wide ∧ wideL l
end
theorem wide_mem {d : Dt} : ∀ {l : List Dt}, d ∈ l → wideL l → d.wide
  | a :: l, h, q => by
    rcases List.mem_cons.mp h with e | h
    · subst e; exact q.1
    · exact wide_mem h q.2
theorem wideL_of : ∀ {l : List Dt}, (∀ d ∈ l, d.wide) → wideL l
  | [], _ => trivial
  | d :: l, h => ⟨h d (by simp), wideL_of fun e q => h e (by simp [q])⟩
def TK (H H' : Hp) : Prop := ∀ b xs, H b = some (.tup xs) → H' b = some (.tup xs)
theorem Kp.tk {S : List Addr} {H H' : Hp} (k : Kp S H H') (h : ∀ b ∈ S, ∀ xs, H b ≠ some (.tup xs)) : TK H H' := fun b xs e => k b _ e fun z => h b z xs e
theorem Kp.tk0 {H H' : Hp} (k : Kp [] H H') : TK H H' := k.tk (by simp)
theorem TK.refl {H : Hp} : TK H H := fun _ _ h => h
theorem TK.trans {H H1 H2 : Hp} (a : TK H H1) (b : TK H1 H2) : TK H H2 := fun c xs h => b c xs (a c xs h)
theorem TK.put {H : Hp} {p : Addr} {o : HO} {xs : List V} (h : H p = some (.lst xs)) : TK H (upd H p o) := fun b ys e => get_ne e fun z => by subst z; rw [h] at e; cases e
theorem TK.new {H : Hp} {p : Addr} {o : HO} (h : H p = none) : TK H (upd H p o) := fun b xs e => get_new e h
mutual
theorem Rp.still {H H' : Hp} (k : TK H H') : ∀ {d : Dt} {v : V}, Rp H v d → d.still = true → Rp H' v d
  | .non, _, .non, _ => .non
  | .bl _, _, .bl b, _ => .bl b
  | .int _, _, .int i, _ => .int i
  | .str _, _, .str i, _ => .str i
  | .tup l, _, .tup h r, s => .tup (k _ _ h) (RpL.still k r (by simpa [Dt.still] using s))
  | .lst _, _, .lst _ _, s => by simp [Dt.still] at s
  | .dct _ _, _, .dct _ _ _ _, s => by simp [Dt.still] at s
theorem RpL.still {H H' : Hp} (k : TK H H') : ∀ {ds : List Dt} {vs : List V}, RpL H vs ds → stillL ds = true → RpL H' vs ds
  | [], _, .nil, _ => .nil
  | d :: ds, _, .cons r t, s => by
    simp only [stillL, Bool.and_eq_true] at s
    exact .cons (Rp.still k r s.1) (RpL.still k t s.2)
end
mutual
theorem Rp.keep {H H' : Hp} (k : Kp [] H H') : ∀ {d : Dt} {v : V}, Rp H v d → Rp H' v d
  | .non, _, .non => .non
  | .bl _, _, .bl b => .bl b
  | .int _, _, .int i => .int i
  | .str _, _, .str i => .str i
  | .tup l, _, .tup h r => .tup (k.get0 h) (RpL.keep k r)
  | .lst _, _, .lst h r => .lst (k.get0 h) (RpL.keep k r)
  | .dct _ _, _, .dct h n l r => .dct (k.get0 h) n l (RpL.keep k r)
theorem RpL.keep {H H' : Hp} (k : Kp [] H H') : ∀ {ds : List Dt} {vs : List V}, RpL H vs ds → RpL H' vs ds
  | [], _, .nil => .nil
  | d :: ds, _, .cons r t => .cons (Rp.keep k r) (RpL.keep k t)
end
/-- a comprehension at work: the new list at D holds F i, what stood before it is kept but at S -/
def LcP (S : List Addr) (H1 : Hp) (D : Addr) (F : Nat → List V) (i : Nat) (H : Hp) : Prop := H D = some (.lst (F i)) ∧ Kp S H1 H
theorem LcP.start {S : List Addr} {H1 : Hp} {D : Addr} {F : Nat → List V} (hD : H1 D = none) (e : F 0 = []) : LcP S H1 D F 0 (upd H1 D (.lst [])) := ⟨by rw [upd_same, e], Kp.new hD⟩
theorem LcP.step {S : List Addr} {H1 H H4 : Hp} {D : Addr} {F : Nat → List V} {i : Nat} {y : V} (p : LcP S H1 D F i H) (hD : H1 D = none) (k : Kp S H H4) (n : D ∉ S) (e : F (i + 1) = F i ++ [y]) (hl : (F i).length < sizeLine) :
    ∃ acc, H4 D = some (.lst acc) ∧ acc.length < sizeLine ∧ LcP S H1 D F (i + 1) (upd H4 D (.lst (acc ++ [y]))) :=
  ⟨F i, k _ _ p.1 n, hl, by rw [upd_same, e], (p.2.trans k).loc hD⟩
theorem LcP.skip {S : List Addr} {H1 H H3 : Hp} {D : Addr} {F : Nat → List V} {i : Nat} (p : LcP S H1 D F i H) (k : Kp S H H3) (n : D ∉ S) (e : F (i + 1) = F i) : LcP S H1 D F (i + 1) H3 :=
  ⟨by rw [e]; exact k _ _ p.1 n, p.2.trans k⟩
/-- isinstance of data with a built-in class -/
def Dt.isK (d : Dt) (t : String) : Bool := d.kind == t || (t == "int" && d.kind == "bool")
theorem Dt.kit (d : Dt) (t : String) (ht : t ∈ ["tuple", "list", "dict", "int", "bool", "str"]) : kitB d.kind t = some (d.isK t) := by
  have go : ∀ k ∈ ["NoneType", "bool", "int", "str", "tuple", "list", "dict"], ∀ t ∈ ["tuple", "list", "dict", "int", "bool", "str"], kitB k t = some (k == t || (t == "int" && k == "bool")) := by decide +kernel
  refine go _ ?_ t ht
  cases d <;> simp [Dt.kind]
theorem kv_get {ks : List Str} {xs : List V} : ∀ {i : Nat} {k : Str}, ks.Nodup → ks.length = xs.length → ks[i]? = some k → valV (kvL ks xs) (.inr k) = xs[i]? := by
  induction ks generalizing xs with
  | nil => intro i k _ _ h; simp at h
  | cons a ks ih =>
    intro i k nd hl h
    cases xs with
    | nil => simp at hl
    | cons x xs =>
      have nd' := List.nodup_cons.mp nd
      cases i with
      | zero =>
        simp at h
        subst h
        exact valV_pos rfl
      | succ i =>
        simp at h
        have hm := List.mem_of_getElem? h
        have ne : ¬ (.inr a : Key) = .inr k := fun z => nd'.1 (by rw [Sum.inr.inj z]; exact hm)
        exact (valV_neg (r := kvL ks xs) ne).trans ((ih nd'.2 (by simpa using hl) h).trans (by simp))
theorem kv_keys {ks : List Str} {xs : List V} (hl : ks.length = xs.length) : ((kvL ks xs).map fun kv => kV kv.1) = ks.map V.str := by
  induction ks generalizing xs with
  | nil => rfl
  | cons a ks ih =>
    cases xs with
    | nil => simp at hl
    | cons x xs =>
      have := ih (xs := xs) (by simpa using hl)
      unfold kvL at this ⊢
      rw [List.zipWith_cons_cons, List.map_cons, List.map_cons, this]
      rfl
theorem bl_list (bs : List Bool) : (bs.map V.bl).length = bs.length := List.length_map ..
end U
set_option Elab.async false
set_option linter.all false
set_option maxRecDepth 100000
set_option maxHeartbeats 1000000
namespace U
open PySem PySem.Spec PyProof.Rows L2
section
variable {X : Cx}
/-! while, append -/
def uWhile (c : TT) (tb : TS) : TS := fun D σ H => ∃ W : Nat → L2.St → Hp → Prop, (∃ m, W m σ H) ∧ ∀ m σ H, W m σ H →
  c σ H fun b H1 => br b (∃ N : L2.St → Hp → Prop, (∀ σ' H', N σ' H' → ∃ m', m' < m ∧ W m' σ' H') ∧ tb { D with nx := N, ct := N, bk := D.nx } σ H1) (D.nx σ H1)
theorem us_while {c : Expr} {body : List Stmt} {tc : TT} {tb : TS} {pos : Pos} (hp : PassesOwn (model X.prog X.w) X.A X.env X.xe) (hc : PT X c tc) (hb : PSs X body tb) : PS X (.While c body [] pos) (uWhile tc tb) := by
  have e : uWhile tc tb = tWhile tc tb := by
    funext D σ H
    unfold uWhile tWhile
    simp only [br_eq]
  rw [e]
  exact ps_while hp hc hb
def tApp (to : TE) (t : TA) : TE := fun σ H Q => to σ H fun x H1 => match x with
  | .ref l => (∃ zs, H1 l = some (.lst zs)) ∧ t σ H1 fun xs H2 => uApp (.ref l) xs H2 Q
  | _ => False
theorem ue_append {o e : Expr} {to : TE} {t : TA} {apos cpos : Pos} (ho : PE X o to) (ha : PA X [e] t)
    (hbase : attributeBase o "append" X.env (eval o X.env) = eval o X.env := by rfl)
    (hfew : ((backTo cpos (starEach [e] X.env)).all (fun x => !x.1) && (backToKw cpos (keywordEach [] X.env)).all (fun x => x.1.isSome)
      && decide ([e].length + ([] : List Keyword).length + (if ([] : List Keyword).isEmpty then 0 else 1) < 30)) = true := by rfl)
    (hline : (apos.endLine == cpos.line) = true := by rfl) (hs : starEach [e] X.env = (false, eval e X.env) :: starEach [] X.env := by rfl) (hplain : (backTo cpos (starEach [] X.env)).any (·.1) = false := by rfl) :
    PE X (.Call (.Attribute o "append" apos) [e] [] cpos) (tApp to t) := by
  refine ⟨fun pins s σ H Q I h => ?_⟩
  refine wpAny_Call_method_late hbase hfew hline rfl (thn (ho.run pins s σ H _ I h) fun v s1 ⟨x, H1, I1, r1, q1⟩ => ?_)
  match x, r1, q1 with
  | .ref l, r1, ⟨⟨zs, hz⟩, q1⟩ =>
    obtain ⟨h1, h2⟩ := tyV_is I1 r1 (tyL hz)
    refine ⟨"list", "list.append", PySem.F.plainAttrs_list, PySem.F.slot_list_append, PySem.F.type_list_append, h1, h2, ?_⟩
    have hA := ha.run cpos pins s1 σ H1 _ I1 q1
    rw [hs] at hA ⊢
    have hp : (false || (backTo cpos (starEach [] X.env)).any (·.1)) = false := hplain
    exact Calls.callWith_builtin hp (Calls.evalArgs_plain (thn hA fun us s2 ⟨vs, H2, I2, r2, q2⟩ => m_app pins s2 σ H2 _ vs v us Q I2 r1 r2 q2))
end
section
variable {X : Cx}
def uNeg : V → Hp → VK → Prop := fun x H Q => match x with
  | .int i => Q (.int (-i)) H
  | _ => False
theorem o_neg : UnR X (unaryOp .USub) uNeg := by
  intro pins s σ H x v Q I rx h
  match x, rx, h with
  | .int i, rx, h => exact un_neg pins s σ H _ v Q I rx ⟨i, rfl, h⟩
end
theorem stillL_app : ∀ {l m : List Dt}, stillL l = true → stillL m = true → stillL (l ++ m) = true
  | [], _, _, h => h
  | a :: l, m, h, k => by
    simp only [stillL, Bool.and_eq_true, List.cons_append] at h ⊢
    exact ⟨h.1, stillL_app h.2 k⟩
theorem stillL_one {d : Dt} (h : d.still = true) : stillL [d] = true := by simp [stillL, h]
/-- a comprehension of data at work: the new list at D holds ds i -/
def LcR (H1 : Hp) (D : Addr) (ds : Nat → List Dt) (i : Nat) (H : Hp) : Prop := ∃ xs, H D = some (.lst xs) ∧ RpL H xs (ds i) ∧ stillL (ds i) = true ∧ Kp [] H1 H
theorem LcR.start {H1 : Hp} {D : Addr} {ds : Nat → List Dt} (hD : H1 D = none) (e : ds 0 = []) : LcR H1 D ds 0 (upd H1 D (.lst [])) := ⟨[], upd_same, by rw [e]; exact .nil, by rw [e]; rfl, Kp.new hD⟩
theorem LcR.step {H1 H H4 : Hp} {D : Addr} {ds : Nat → List Dt} {i : Nat} {y : V} {d : Dt} (p : LcR H1 D ds i H) (hD : H1 D = none) (k : Kp [] H H4) (r : Rp H4 y d) (st : d.still = true) (e : ds (i + 1) = ds i ++ [d]) (hl : (ds i).length < sizeLine) :
    ∃ acc, H4 D = some (.lst acc) ∧ acc.length < sizeLine ∧ LcR H1 D ds (i + 1) (upd H4 D (.lst (acc ++ [y]))) := by
  obtain ⟨xs, h1, h2, h3, h4⟩ := p
  have h5 := k.get0 h1
  have tk : TK H4 (upd H4 D (.lst (xs ++ [y]))) := TK.put h5
  refine ⟨xs, h5, by rw [h2.length]; exact hl, xs ++ [y], upd_same, ?_, ?_, (h4.trans k).loc hD⟩
  · rw [e]; exact (h2.still (k.tk0.trans tk) h3).snoc (r.still tk st)
  · rw [e]; exact stillL_app h3 (stillL_one st)
/-! slices -/
theorem cut_from (xs : List V) (k : Nat) : cutV xs (some (k : Int)) none = xs.drop k := by
  unfold cutV
  rw [HT.sIx_nat, HT.sIx_none]
  by_cases h : k ≤ xs.length
  · rw [Nat.min_eq_left h, List.take_of_length_le (by simp)]
  · rw [Nat.min_eq_right (by omega), List.drop_eq_nil_of_le (Nat.le_refl _), List.drop_eq_nil_of_le (by omega)]; simp
theorem cut_mid (xs : List V) (a b : Nat) : cutV xs (some (a : Int)) (some (b : Int)) = (xs.drop a).take (b - a) := by
  unfold cutV
  rw [HT.sIx_nat, HT.sIx_nat]
  by_cases h : a ≤ xs.length
  · rw [Nat.min_eq_left h]
    by_cases h2 : b ≤ xs.length
    · rw [Nat.min_eq_left h2]
    · rw [Nat.min_eq_right (show xs.length ≤ b by omega), List.take_of_length_le (by simp), List.take_of_length_le (by simp; omega)]
  · rw [List.drop_eq_nil_of_le (show xs.length ≤ min a xs.length by omega), List.drop_eq_nil_of_le (show xs.length ≤ a by omega)]; simp
theorem cut_to (xs : List V) (b : Nat) : cutV xs none (some (b : Int)) = xs.take b := by
  unfold cutV
  rw [HT.sIx_nat, HT.sIx_none, List.drop_zero, Nat.sub_zero]
  by_cases h : b ≤ xs.length
  · rw [Nat.min_eq_left h]
  · rw [Nat.min_eq_right (by omega), List.take_of_length_le (Nat.le_refl _), List.take_of_length_le (by omega)]
theorem cut_init (xs : List V) : cutV xs none (some (-1)) = xs.dropLast := by
  unfold cutV
  rw [HT.sIx_none, List.drop_zero, Nat.sub_zero, List.dropLast_eq_take]
  congr 1
  have e : HT.sIx xs.length xs.length (some (-1)) = ((-1 : Int) + (xs.length : Int)).toNat := rfl
  rw [e]
  omega
/-! walks over a text -/
theorem its_yld {z : Str} {i : Nat} {v : V} (h : ∃ c, z.cps[i]? = some c ∧ v = .str ⟨#[c]⟩) : ∃ c, z.cps.toList[i]? = some c ∧ v = .str ⟨#[c]⟩ := by
  obtain ⟨c, e, r⟩ := h
  exact ⟨c, by rw [Array.getElem?_toList]; exact e, r⟩
theorem for_str {z : Str} {g : TG} {tb : TS} {D : Ends} {σ : L2.St} {H : Hp} (Pv : Nat → L2.St → Hp → Prop) (h0 : Pv 0 σ H)
    (hs : ∀ i c σ H, z.cps.toList[i]? = some c → Pv i σ H → g (.str ⟨#[c]⟩) σ H fun σ2 H2 => tb { D with nx := Pv (i + 1), ct := Pv (i + 1), bk := D.nx } σ2 H2) (hd : ∀ σ H, Pv z.length σ H → D.nx σ H) :
    ∃ W : Nat → Nat → L2.St → Hp → Prop, (∃ m, W 0 m σ H) ∧ ∀ i m σ H, W i m σ H →
      ((Its z).stop i H ∧ D.nx σ H) ∨ ((Its z).go i H ∧ ∃ N : L2.St → Hp → Prop, (∀ σ' H', N σ' H' → ∃ m', m' < m ∧ W (i + 1) m' σ' H') ∧ ∀ x H', (Its z).yld i H x H' → g x σ H' fun σ2 H2 => tb { D with nx := N, ct := N, bk := D.nx } σ2 H2) :=
  for_it walk_str Pv h0 (fun _ _ _ _ _ => trivial) (fun i x σ H H' _ p y => by
    obtain ⟨e, y⟩ := y
    obtain ⟨c, e1, e2⟩ := its_yld y
    subst e e2
    exact hs i c σ _ e1 p) hd
theorem lc_str {z : Str} {g : TG} {tt : TT} {te : TE} {vs : List Nat} {σ : L2.St} {H1 : Hp} {D : Addr} {Qd : Hp → Prop} (Pv : Nat → Hp → Prop) (h0 : Pv 0 (upd H1 D (.lst [])))
    (hs : ∀ i c H, z.cps.toList[i]? = some c → Pv i H → g (.str ⟨#[c]⟩) (wipe σ vs) H fun σ2 H2 => wipe σ2 vs = wipe σ vs ∧ tt σ2 H2 fun b H3 =>
      if b = true then te σ2 H3 fun y H4 => ∃ acc, H4 D = some (.lst acc) ∧ acc.length < sizeLine ∧ Pv (i + 1) (upd H4 D (.lst (acc ++ [y]))) else Pv (i + 1) H3) (hd : ∀ H, Pv z.length H → Qd H) :
    ∃ W : Nat → Nat → Hp → Prop, (∃ m, W 0 m (upd H1 D (.lst []))) ∧ ∀ i m H, W i m H →
      ((Its z).stop i H ∧ Qd H) ∨ ((Its z).go i H ∧ ∃ Nx : Hp → Prop, (∀ H', Nx H' → ∃ m', m' < m ∧ W (i + 1) m' H') ∧ ∀ x H', (Its z).yld i H x H' → g x (wipe σ vs) H' fun σ2 H2 => wipe σ2 vs = wipe σ vs ∧ tt σ2 H2 fun b H3 =>
        if b = true then te σ2 H3 fun y H4 => ∃ acc, H4 D = some (.lst acc) ∧ acc.length < sizeLine ∧ Nx (upd H4 D (.lst (acc ++ [y]))) else Nx H3) :=
  lc_it walk_str Pv h0 (fun _ _ _ _ => trivial) (fun i x H H' _ p y => by
    obtain ⟨e, y⟩ := y
    obtain ⟨c, e1, e2⟩ := its_yld y
    subst e e2
    exact hs i c _ e1 p) hd
theorem len_cps (z : Str) : z.length = z.cps.toList.length := TL.len_tl z
theorem cps_lt {z : Str} {i c : Nat} (h : z.cps.toList[i]? = some c) : i < z.length := by
  rw [len_cps]; exact (List.getElem?_eq_some_iff.mp h).1
/-- a comprehension of booleans over a text's signs -/
theorem all_str {z : Str} {f : Nat → Bool} {n : Nat} (h : n = z.length) : ((z.cps.toList.take n).map f).all id = z.cps.toList.all f := by
  rw [h, len_cps, List.take_length]; simp
theorem take_one {l : List Nat} {i c : Nat} (h : l[i]? = some c) : l.take (i + 1) = l.take i ++ [c] := by
  rw [List.take_add_one, h]; rfl
theorem str_ne_len {z : Str} : z = ("" : Str) ↔ z.length = 0 := by
  constructor
  · intro h; subst h; rfl
  · intro h
    apply TL.ext_tl
    rw [len_cps] at h
    exact List.eq_nil_of_length_eq_zero h
theorem inV_str (x : Str) (l : List Str) : inV (.str x) (l.map V.str) = decide (x ∈ l) := by
  unfold inV
  induction l with
  | nil => rfl
  | cons a l ih =>
    rw [List.map_cons, List.any_cons, ih]
    have e : eqV (.str a) (.str x) = decide (x = a) := by
      unfold eqV
      by_cases h : x = a
      · subst h; simp
      · have h2 : ¬ a = x := fun e => h e.symm
        simp [h, h2]
    rw [e]
    simp [Bool.or_eq_true]
end U
set_option Elab.async false
set_option linter.all false
set_option maxRecDepth 100000
set_option maxHeartbeats 1000000
namespace U
open PySem PySem.Spec PyProof.Rows L2
section
variable {X : Cx}
/-! own classes: making, properties, fields -/
structure Mkr (P : Program) (w : World) (K : PySem.W.Frag) (mg : Str → Option Value) (base : Heap) (CX : CXT) (k : Nat) (x : Str) (ps : List Str) (sp : Sp) : Prop where
  ok : ∃ fI fd, mg x = some (.ref (He.ga K x)) ∧ Mk K (He.ga K x) fI ∧ Binds K fd ps [] ∧ FnOk P w K mg base CX k fI fd ps sp
def uMake (C : Addr) (sp : Sp) (E : XK) (t : TA) : TE := fun σ H Q => t σ H fun vs H1 => ∀ x dx, H1 x = none → H1 dx = none → dx ≠ x → sp (.ref x :: vs) (upd (upd H1 dx (.own x)) x (.ins C dx [])) (fun v H2 => v = .non ∧ Q (.ref x) H2) E
theorem ue_make {CX : CXT} {k : Nat} {x : Str} {ps : List Str} {sp : Sp} {E : XK} {e : Expr} {es : List Expr} {p pos : Pos} {t : TA} (M : Mkr X.prog X.w X.K X.mg X.base CX k x ps sp) (hr : Room (k + 1) X.A) (hg : Gl X x) (hx : Passes CX X E)
    (ha : PA X (e :: es) t) (hdb : (x == ("__debug__" : Str)) = false := by decide) (he : starEach (e :: es) X.env = (false, eval e X.env) :: starEach es X.env := by rfl) (hpl : (backTo pos (starEach es X.env)).any (·.1) = false := by rfl) :
    PE X (.Call (.Name x p) (e :: es) [] pos) (uMake (He.ga X.K x) sp E t) := by
  obtain ⟨fI, fd, hm, hk, hb, F⟩ := M.ok
  refine peI (pe_make hk F hr hg hm hb .nil hx ha hdb he hpl) fun σ H Q q => ?_
  unfold uMake at q
  simpa only [tMake, List.append_nil] using q
/-- .. where what it lets out is taken at the slots -/
def uMakeS (C : Addr) (sp : Sp) (W : WX) (t : TA) : TE := fun σ H Q => t σ H fun vs H1 => ∀ x dx, H1 x = none → H1 dx = none → dx ≠ x → sp (.ref x :: vs) (upd (upd H1 dx (.own x)) x (.ins C dx [])) (fun v H2 => v = .non ∧ Q (.ref x) H2) (WE W σ)
theorem makes_at {k : Nat} {C f : Addr} {fd : FuncData} {ps : List Str} {sp : Sp} {E : XK} {CX : CXT} {pins : List (Addr × Obj)} {σ : L2.St} {H : Hp} {s : Shared} {Q : VK} {us : List Value} {vs : List V} (M : Mk X.K C f) (F : FnOk X.prog X.w X.K X.mg X.base CX k f fd ps sp)
    (hr : Room (k + 1) X.A) (hb : Binds X.K fd ps []) (hx : PassesAt CX X σ E) (I : Inv X pins σ H s) (r : Vals vs us)
    (h : ∀ x dx, H x = none → H dx = none → dx ≠ x → sp (.ref x :: vs) (upd (upd H dx (.own x)) x (.ins C dx [])) (fun v H2 => v = .non ∧ Q (.ref x) H2) E) :
    wpAny (model X.prog X.w) X.A (call (.ref C) us) (EP X pins σ Q) X.xe s := by
  have z := s.heap.objs.size
  have hq := h _ _ (I.hok.fresh (Nat.le_succ s.heap.objs.size)) (I.hok.fresh (Nat.le_refl s.heap.objs.size)) (Nat.ne_of_lt (Nat.lt_succ_self _))
  have I2 := Inv.made (C := C) I
  have r2 : Vals (V.ref (s.heap.objs.size + 1) :: vs) (Value.ref (s.heap.objs.size + 1) :: us) := .cons rfl r
  have hl : (Value.ref (s.heap.objs.size + 1) :: us).length = ps.length := by rw [← r2.length]; exact F.len _ _ _ _ hq
  have b := hb _ (Value.ref (s.heap.objs.size + 1) :: us) I2.kIn (by rw [List.append_nil]; exact hl)
  rw [List.append_nil] at b
  refine wpAny_call (make_map (f := f) I.kIn M.makes M.init (beq_iff_eq.mp M.fn) (codeAny_mono (F.run _ X.stack _ _ ⟨Value.ref (s.heap.objs.size + 1) :: us, []⟩ _ _ _ E (hr.make C us []) (I2.env0.make C us []) b r2 hq) fun t s' hq' => ?_))
  match t with
  | .error e => exact hx pins _ _ e s' I2 hq'
  | .ok (.ret u) =>
    obtain ⟨v, H', I3, rv, ev, q3⟩ := I2.after hq'
    subst ev
    exact ⟨rv, ⟨V.ref (s.heap.objs.size + 1), H', I3, rfl, q3⟩⟩
  | .ok .next => exact False.elim hq'
  | .ok .brk => exact False.elim hq'
  | .ok .cont => exact False.elim hq'
theorem ue_makeS {k : Nat} {x : Str} {ps : List Str} {sp : Sp} {W : WX} {e : Expr} {es : List Expr} {p pos : Pos} {t : TA} (M : Mkr X.prog X.w X.K X.mg X.base (L2.CX X.prog X.w) k x ps sp) (hr : Room (k + 1) X.A) (hg : Gl X x) (tk : Takes X W)
    (ha : PA X (e :: es) t) (hdb : (x == ("__debug__" : Str)) = false := by decide) (he : starEach (e :: es) X.env = (false, eval e X.env) :: starEach es X.env := by rfl) (hpl : (backTo pos (starEach es X.env)).any (·.1) = false := by rfl) :
    PE X (.Call (.Name x p) (e :: es) [] pos) (uMakeS (He.ga X.K x) sp W t) := by
  obtain ⟨fI, fd, hm, hk, hb, F⟩ := M.ok
  refine ⟨fun pins s σ H Q I h => ?_⟩
  refine wpAny_Call_Name_kw (ld_glob I hg hm ?_ hdb)
  exact PySem.W.callWith_K (h₀ := X.base) I.ok.mod.kin hk.kp (thn (ha.run pos pins s σ H _ I h) fun us s1 ⟨vs, H1, I1, r, q⟩ => ⟨I1.kIn, makes_at hk F hr hb (passAt tk σ) I1 r q⟩) he hpl
def uCallS (sp : Sp) (W : WX) (t : TA) : TE := fun σ H Q => t σ H fun vs H1 => sp vs H1 Q (WE W σ)
theorem ue_callS {k : Nat} {x : Str} {ps : List Str} {sp : Sp} {W : WX} {e : Expr} {es : List Expr} {p pos : Pos} {t : TA} (C : Cal X.prog X.w X.K X.mg X.base (L2.CX X.prog X.w) k x ps sp) (hr : Room k X.A) (hg : Gl X x) (tk : Takes X W)
    (ha : PA X (e :: es) t) (hdb : (x == ("__debug__" : Str)) = false := by decide) (he : starEach (e :: es) X.env = (false, eval e X.env) :: starEach es X.env := by rfl) (hpl : (backTo pos (starEach es X.env)).any (·.1) = false := by rfl) :
    PE X (.Call (.Name x p) (e :: es) [] pos) (uCallS sp W t) := by
  obtain ⟨f, fd, hm, hk, hb, F⟩ := C.ok
  exact pe_callS (E := WE W) F hr hg hm hk hb (fun σ => passAt tk σ) ha hdb he hpl
structure Prp (P : Program) (w : World) (K : PySem.W.Frag) (mg : Str → Option Value) (base : Heap) (CX : CXT) (k : Nat) (cls f : Str) (sp : Sp) : Prop where
  ok : ∃ p g fd ps, Cls K (He.ga K cls) ∧ PropOf K (He.ga K cls) f p g ∧ Binds K fd ps [] ∧ FnOk P w K mg base CX k g fd ps sp
def uProp (C : Addr) (sp : Sp) (te : TE) : TE := fun σ H Q => te σ H fun x H1 => ∃ a dx fs, x = .ref a ∧ H1 a = some (.ins C dx fs) ∧ sp [.ref a] H1 Q E0
theorem ue_prop {k : Nat} {cls f : Str} {sp : Sp} {e : Expr} {te : TE} {pos : Pos} (h : Prp X.prog X.w X.K X.mg X.base CX0 k cls f sp) (hr : Room (k + 1) X.A) (he : PE X e te) (hb : attributeBase e f X.env (eval e X.env) = eval e X.env) :
    PE X (.Attribute e f pos) (uProp (He.ga X.K cls) sp te) := by
  obtain ⟨p, g, fd, ps, c, hp, hbd, F⟩ := h.ok
  exact peI (pe_prop (E := E0) (dvs := []) he c hp F hr hbd .nil pass0 hb) fun σ H Q q => q
/-- a caught exception: its class and its field -/
structure Cau (K : PySem.W.Frag) (nm f : Str) : Prop where
  xf : XfC K (He.ga K nm)
  no : PySem.W.findIn K (.ref (He.ga K nm)) f = some none
  ec : ExcC K (He.ga K nm)
/-! the same with the fragment told -/
section
variable (K : PySem.W.Frag)
theorem kMake {CX : CXT} {k : Nat} {x : Str} {ps : List Str} {sp : Sp} {E : XK} {e : Expr} {es : List Expr} {p pos : Pos} {t : TA} (M : Mkr X.prog X.w X.K X.mg X.base CX k x ps sp) (hr : Room (k + 1) X.A) (hg : Gl X x) (hx : Passes CX X E)
    (ha : PA X (e :: es) t) (hdb : (x == ("__debug__" : Str)) = false := by decide) (he : starEach (e :: es) X.env = (false, eval e X.env) :: starEach es X.env := by rfl) (hpl : (backTo pos (starEach es X.env)).any (·.1) = false := by rfl) (eK : X.K = K := by rfl) :
    PE X (.Call (.Name x p) (e :: es) [] pos) (uMake (He.ga K x) sp E t) := eK ▸ ue_make M hr hg hx ha hdb he hpl
theorem kMakeS {k : Nat} {x : Str} {ps : List Str} {sp : Sp} {W : WX} {e : Expr} {es : List Expr} {p pos : Pos} {t : TA} (M : Mkr X.prog X.w X.K X.mg X.base (L2.CX X.prog X.w) k x ps sp) (hr : Room (k + 1) X.A) (hg : Gl X x) (tk : Takes X W)
    (ha : PA X (e :: es) t) (hdb : (x == ("__debug__" : Str)) = false := by decide) (he : starEach (e :: es) X.env = (false, eval e X.env) :: starEach es X.env := by rfl) (hpl : (backTo pos (starEach es X.env)).any (·.1) = false := by rfl) (eK : X.K = K := by rfl) :
    PE X (.Call (.Name x p) (e :: es) [] pos) (uMakeS (He.ga K x) sp W t) := eK ▸ ue_makeS M hr hg tk ha hdb he hpl
theorem kProp {k : Nat} {cls f : Str} {sp : Sp} {e : Expr} {te : TE} {pos : Pos} (h : Prp X.prog X.w X.K X.mg X.base CX0 k cls f sp) (hr : Room (k + 1) X.A) (he : PE X e te) (hb : attributeBase e f X.env (eval e X.env) = eval e X.env) (eK : X.K = K := by rfl) :
    PE X (.Attribute e f pos) (uProp (He.ga K cls) sp te) := eK ▸ ue_prop h hr he hb
theorem kFld {e : Expr} {f : Str} {te : TE} {pos : Pos} (he : PE X e te) (hb : attributeBase e f X.env (eval e X.env) = eval e X.env) (eK : X.K = K := by rfl) : PE X (.Attribute e f pos) (tFld K te f) := eK ▸ pe_fld he hb
theorem kSetF {o value : Expr} {f : Str} {ta tv : TE} {pos pos' : Pos} (ha : PE X o ta) (hv : PE X value tv) (hs : swapsWith value (some (.Attribute o f pos')) pos.line X.env = pure false) (eK : X.K = K := by rfl) : PS X (.Assign [.Attribute o f pos'] value pos) (sFld K ta tv f) := eK ▸ ps_fld ha hv hs
theorem kRaise1 {nm f : Str} {okv : V → Prop} {a : Expr} {ta : TA} {W : WX} {p pos pos2 : Pos} {k : Nat} (hc : X.calm = true) (T : Exc1 X.prog X.w X.K X.mg nm f okv) (hr : Room k X.A) (tk : Takes X W) (ha : PA X [a] ta) (hg : Gl X nm := by rfl) (hd : (nm == ("__debug__" : Str)) = false := by decide)
    (he : starEach (a :: []) X.env = (false, eval a X.env) :: starEach [] X.env := by rfl) (hpl : (backTo pos (starEach [] X.env)).any (·.1) = false := by rfl) (eK : X.K = K := by rfl) :
    PS X (.Raise (some (.Call (.Name nm p) [a] [] pos)) none pos2) (tRaise1 (He.ga K nm) f okv W ta) := eK ▸ us_raise1 hc T hr tk ha hg hd he hpl
theorem kgTup {es : List Expr} {j : Nat} {t : TGs} {n : Nat} {pos : Pos} (hc : X.calm = true) (h : PGs X es t)
    (hn : (assignEach es X.env).length = n := by rfl) (hst : (assignEach es X.env).findIdx? (·.1) = none := by rfl) (eK : X.K = K := by rfl) : PG X (.Tuple es j pos) (gTup K n t) := eK ▸ pg_tup hc h hn hst
end
theorem names_glob {K : PySem.W.Frag} {x : Str} (h : X.mg x = some (.ref (He.ga K x))) (hg : Gl X x := by rfl) (hd : (x == ("__debug__" : Str)) = false := by decide) : Names X x (.ref (He.ga K x)) := ⟨hg, hd, .inl h⟩
theorem rel_ref {a : Addr} : ∀ u, RelV (.ref a) u → u = .ref a := fun u h => h
end
end U
set_option Elab.async false
set_option linter.all false
set_option maxRecDepth 100000
set_option maxHeartbeats 1000000
namespace U
open PySem PySem.Spec PyProof.Rows L2 He
/-! the head's facts: defs by any address, own exceptions, further checks -/
/-- one def -/
structure DA where
  ad : PySem.W.Frag → Addr
  name : Str
  qual : Str
  params : Arguments
  body : List Stmt
  scope : Scope
  dfl : List Dv := []
  kwd : List (Str × Dv) := []
abbrev FnA : Type := Option (Str × Str × Arguments × FuncBody × Scope × Addr × List Str × Addr)
def fnA (K : PySem.W.Frag) (a : Addr) : FnA := match K.lookup a with
  | some ⟨_, _, .func fd, _⟩ => some (fd.name, fd.qualname, fd.params, fd.body, fd.scope, fd.globals, fd.closure.map (·.1), fd.builtins)
  | _ => none
def DA.val (d : DA) : FnA := some (d.name, d.qual, d.params, .stmts d.body, d.scope, mainGlobals, [], builtinsNs)
def DA.dvs (K : PySem.W.Frag) (d : DA) : List V := d.dfl.map (Dv.v K)
def DA.kws (K : PySem.W.Frag) (d : DA) : List (Str × V) := d.kwd.map fun q => (q.1, q.2.v K)
def DA.okB (K : PySem.W.Frag) (d : DA) : Bool := PySem.W.keepIn K (.ref (d.ad K)) && (match K.lookup (d.ad K) with
  | some ⟨_, _, .func fd, _⟩ => PySem.W.codeIn K fd.code d.qual && (dflB K fd.defaults (d.dvs K) && kwdB K fd.kwdefaults (d.kws K))
  | _ => false)
theorem DA.funD {K : PySem.W.Frag} {d : DA} (e : fnA K (d.ad K) = d.val) (c : d.okB K = true) : ∃ fd, FunD K d.name d.qual d.params d.body d.scope (d.dvs K) (d.kws K) (d.ad K) fd := by
  obtain ⟨kp, c2⟩ := ba c
  unfold fnA at e
  cases q : K.lookup (d.ad K) with
  | none => rw [q] at c2; cases c2
  | some o =>
    obtain ⟨oc, od, dt, osl⟩ := o
    rw [q] at c2 e
    cases dt with
    | func fd =>
      obtain ⟨n1, n2, n3, n4, n5, n6, n7, n8, n9, n10, n11, n12, n13, n14, n15⟩ := fd
      have e2 : (some (n1, n2, n3, n4, n5, n6, n7.map (·.1), n15) : FnA) = some (d.name, d.qual, d.params, .stmts d.body, d.scope, mainGlobals, [], builtinsNs) := e
      simp only [Option.some.injEq, Prod.mk.injEq, List.map_eq_nil_iff] at e2
      obtain ⟨h1, h2, h3, h4, h5, h6, h7, h8⟩ := e2
      subst h1 h2 h3 h4 h5 h6 h7 h8
      obtain ⟨k1, k2⟩ := ba (show (PySem.W.codeIn K n13 d.qual && (dflB K n8 (d.dvs K) && kwdB K n9 (d.kws K))) = true from c2)
      obtain ⟨k3, k4⟩ := ba k2
      exact ⟨_, ⟨oc, od, n8, n9, n10, n11, n12, n13, n14, osl, rfl, q, k1, dflB_ok k3, kwdB_ok k4⟩, kp⟩
    | _ => cases c2
/-- an own exception class whose __init__ calls super().__init__ -/
structure DX where
  cls : Str
  qual : Str
  params : Arguments
  body : List Stmt
  scope : Scope
def DX.ad (d : DX) (K : PySem.W.Frag) : Addr := ma K (ga K d.cls) "__init__"
def DX.val (d : DX) : FnA := some ("__init__", d.qual, d.params, .stmts d.body, d.scope, mainGlobals, ["__class__"], builtinsNs)
def noneV : Value → Bool
  | .none => true
  | _ => false
theorem noneV_ok {v : Value} (h : noneV v = true) : v = .none := by cases v <;> first | rfl | cases h
def codeFile (K : PySem.W.Frag) (c : Value) (qual file : Str) : Bool := match c with
  | .ref cda => PySem.W.codeIn K (.ref cda) qual && (match K.lookup cda with
    | some ⟨_, _, .fields vs, _⟩ => (match (vs[2]? : Option Value) with
      | some (Value.str f _) => decide (f = file)
      | _ => false)
    | _ => false)
  | _ => false
theorem codeFile_ok {K : PySem.W.Frag} {c : Value} {qual file : Str} (h : codeFile K c qual file = true) : ∃ cda ccl cdd vs ccs tf, c = .ref cda ∧ PySem.W.codeIn K (.ref cda) qual = true ∧ K.lookup cda = some ⟨ccl, cdd, .fields vs, ccs⟩ ∧ vs[2]? = some (.str file tf) := by
  unfold codeFile at h
  split at h
  · rename_i cda
    obtain ⟨h1, h2⟩ := ba h
    split at h2
    · rename_i a b vs d e
      split at h2
      · rename_i f t e2
        have e3 : f = file := of_decide_eq_true h2
        subst e3
        exact ⟨cda, _, _, _, _, _, rfl, h1, e, e2⟩
      · cases h2
    · cases h2
  · cases h
def cellB (K : PySem.W.Frag) (C : Addr) (cl : List (Str × Addr)) : Bool := match cl with
  | [(_, cc)] => (match K.lookup cc with
    | some ⟨_, _, .cell (some (.ref D)), _⟩ => decide (D = C)
    | _ => false)
  | _ => false
theorem cellB_ok {K : PySem.W.Frag} {C : Addr} {cl : List (Str × Addr)} (h : cellB K C cl = true) : ∃ n cc a b c, cl = [(n, cc)] ∧ K.lookup cc = some ⟨a, b, .cell (some (.ref C)), c⟩ := by
  unfold cellB at h
  split at h
  · rename_i n cc
    split at h
    · rename_i a b D d e
      have e3 : D = C := of_decide_eq_true h
      subst e3
      exact ⟨n, cc, _, _, _, rfl, e⟩
    · cases h
  · cases h
def DX.okB (K : PySem.W.Frag) (file : Str) (d : DX) : Bool :=
  (XC.oxB K (ga K d.cls) && (PySem.W.excInitIn K (ga K d.cls) XC.veB "ValueError.__new__" && (eqO (PySem.W.findIn K (.ref (ga K d.cls)) "__setattr__") (some (some (.builtin "object.__setattr__"))) && (eqO (PySem.W.findIn K (.ref (ga K d.cls)) "__init__") (some (some (.ref (d.ad K)))) &&
  (decide (PySem.W.typeIn K (.ref (d.ad K)) = some (.type "function")) && (decide (PySem.W.subIn K (.ref (ga K d.cls)) (.type "ValueError") = some true) && (decide (PySem.W.mroIn K (ga K d.cls) (.ref (ga K d.cls)) = some true) &&
  (eqO (PySem.W.ks_superIn K (ga K d.cls) (ga K d.cls) "__init__") (some (some (.builtin "ValueError.__init__"))) && eqO (PySem.W.nsIn K cStatics "thirdparty.any") (some none))))))))) &&
  ((PySem.W.keepIn K (.ref (ga K d.cls)) && (decide (PySem.W.subIn K (.ref (ga K d.cls)) (.type "BaseException") = some true) && decide (PySem.W.typeIn K (.ref (ga K d.cls)) = some (.type "type")))) &&
  (match K.lookup (d.ad K) with
    | some ⟨_, _, .func fd, _⟩ => noneV fd.defaults && (noneV fd.kwdefaults && (codeFile K fd.code d.qual file && cellB K (ga K d.cls) fd.closure))
    | _ => false))
theorem DX.ok {K : PySem.W.Frag} {P : Program} {d : DX} {file : Str} (e : fnA K (d.ad K) = d.val) (c : d.okB K file = true) (hf : ((P.main.file : Str) == file) = true) :
    XC.Ini K P (ga K d.cls) (d.ad K) d.qual d.params d.body d.scope ∧ PySem.W.keepIn K (.ref (ga K d.cls)) = true ∧ PySem.W.subIn K (.ref (ga K d.cls)) (.type "BaseException") = some true ∧ PySem.W.typeIn K (.ref (ga K d.cls)) = some (.type "type") := by
  obtain ⟨c1, c2⟩ := ba c
  obtain ⟨a1, c1⟩ := ba c1
  obtain ⟨a2, c1⟩ := ba c1
  obtain ⟨a3, c1⟩ := ba c1
  obtain ⟨a4, c1⟩ := ba c1
  obtain ⟨a5, c1⟩ := ba c1
  obtain ⟨a6, c1⟩ := ba c1
  obtain ⟨a7, c1⟩ := ba c1
  obtain ⟨a8, a9⟩ := ba c1
  obtain ⟨c3, c4⟩ := ba c2
  obtain ⟨b1, c3⟩ := ba c3
  obtain ⟨b2, b3⟩ := ba c3
  refine ⟨⟨XC.oxB_ok a1, a2, eqO_ok a3, eqO_ok a4, of_decide_eq_true a5, of_decide_eq_true a6, of_decide_eq_true a7, eqO_ok a8, eqO_ok a9, ?_⟩, b1, of_decide_eq_true b2, of_decide_eq_true b3⟩
  unfold fnA at e
  cases q : K.lookup (d.ad K) with
  | none => rw [q] at c4; cases c4
  | some o =>
    obtain ⟨oc, od, dt, osl⟩ := o
    rw [q] at c4 e
    cases dt with
    | func fd =>
      obtain ⟨n1, n2, n3, n4, n5, n6, n7, n8, n9, n10, n11, n12, n13, n14, n15⟩ := fd
      have e2 : (some (n1, n2, n3, n4, n5, n6, n7.map (·.1), n15) : FnA) = some (("__init__" : Str), d.qual, d.params, .stmts d.body, d.scope, mainGlobals, [("__class__" : Str)], builtinsNs) := e
      simp only [Option.some.injEq, Prod.mk.injEq] at e2
      obtain ⟨h1, h2, h3, h4, h5, h6, h7, h8⟩ := e2
      obtain ⟨k1, k2⟩ := ba (show (noneV n8 && (noneV n9 && (codeFile K n13 d.qual file && cellB K (ga K d.cls) n7))) = true from c4)
      obtain ⟨k3, k4⟩ := ba k2
      obtain ⟨k5, k6⟩ := ba k4
      obtain ⟨cda, ccl, cdd, vs, ccs, tf, r1, r2, r3, r4⟩ := codeFile_ok k5
      obtain ⟨n, cc, x1, x2, x3, s1, s2⟩ := cellB_ok k6
      have e8 := noneV_ok k1
      have e9 := noneV_ok k3
      subst h1 h2 h3 h4 h5 h6 h8 e8 e9 r1 s1
      have e7 : n = ("__class__" : Str) := by simpa using h7
      subst e7
      exact ⟨oc, od, n10, n11, n12, cda, cc, n14, osl, ccl, cdd, vs, ccs, file, tf, x1, x2, x3, rfl, r2, r3, r4, hf, s2⟩
    | _ => cases c4
/-! properties, caught exceptions -/
def propGet (K : PySem.W.Frag) (cls f : Str) : Addr := match PySem.W.recIn K (ma K (ga K cls) f) "property" with
  | some (.ref g :: _) => g
  | _ => 0
def propB (K : PySem.W.Frag) (cls f : Str) : Bool := eqO (PySem.W.findIn K (.ref (ga K cls)) f) (some (some (.ref (ma K (ga K cls) f)))) &&
  (eqO (PySem.W.specialIn K (.ref (ma K (ga K cls) f)) "__get__") (some (some (.builtin "property.__get__"))) && (decide (PySem.W.takesIn K (.ref (ma K (ga K cls) f)) = some true) && (match PySem.W.recIn K (ma K (ga K cls) f) "property" with
    | some (.ref g :: _) => true
    | _ => false)))
theorem propB_ok {K : PySem.W.Frag} {cls f : Str} (h : propB K cls f = true) : PropOf K (ga K cls) f (ma K (ga K cls) f) (propGet K cls f) := by
  obtain ⟨h1, h⟩ := ba h
  obtain ⟨h2, h⟩ := ba h
  obtain ⟨h3, h⟩ := ba h
  refine ⟨eqO_ok h1, eqO_ok h2, of_decide_eq_true h3, ?_⟩
  unfold propGet
  split at h
  · rename_i g rest e
    rw [e]
    exact ⟨_, rfl⟩
  · cases h
def cauB (K : PySem.W.Frag) (nm f : Str) : Bool := xfB K (ga K nm) && (eqO (PySem.W.findIn K (.ref (ga K nm)) f) (some none) && (eqO (PySem.W.findIn K (.ref (ga K nm)) "__class__") (some (some (.builtin "object.__class__"))) &&
  (eqO (PySem.W.specialIn K (.builtin "object.__class__") "__get__") (some (some (.builtin "getset_descriptor.__get__"))) && (decide (PySem.W.takesIn K (.builtin "object.__class__") = some true) && decide (PySem.W.mroIn K (ga K nm) (.type "object") = some true)))))
theorem cauB_ok {K : PySem.W.Frag} {nm f : Str} (h : cauB K nm f = true) : Cau K nm f := by
  obtain ⟨h1, h⟩ := ba h
  obtain ⟨h2, h⟩ := ba h
  obtain ⟨h3, h⟩ := ba h
  obtain ⟨h4, h⟩ := ba h
  obtain ⟨h5, h6⟩ := ba h
  have x := xfB_ok h1
  exact ⟨x, eqO_ok h2, ⟨x.ga, x.gg, x.exC, x.hdC, eqO_ok h3, eqO_ok h4, of_decide_eq_true h5, of_decide_eq_true h6⟩⟩
def kiB (K : PySem.W.Frag) (a b : Str) (r : Bool) : Bool := decide (PySem.W.kitOne K (.ref (ga K a)) (.ref (ga K b)) = some r)
theorem kiB_ok {K : PySem.W.Frag} {a b : Str} {r : Bool} (h : kiB K a b r = true) : PySem.W.kitOne K (.ref (ga K a)) (.ref (ga K b)) = some r := of_decide_eq_true h
/-- a class's constant -/
def conV (v : V) : Value → Bool
  | .int j _ => decide (v = .int j)
  | .str z _ => decide (v = .str z)
  | _ => false
def conB (K : PySem.W.Frag) (c f : Str) (v : V) : Bool := PySem.W.readsIn K (ga K c) (.type "type") && (eqO (PySem.W.specialIn K (.ref (ga K c)) "__getattribute__") (some (some (.builtin "type.__getattribute__"))) && (match PySem.W.findCls K (.ref (ga K c)) (.type "type") f with
  | some (.val u) => conV v u
  | _ => false))
theorem conB_ok {K : PySem.W.Frag} {c f : Str} {v : V} (h : conB K c f v = true) : ∃ mc u, ClX.CRead K (He.ga K c) mc ∧ ClX.CVal K (He.ga K c) mc f v u := by
  obtain ⟨h1, h⟩ := ba h
  obtain ⟨h2, h3⟩ := ba h
  split at h3
  · rename_i u e
    refine ⟨.type "type", u, ⟨h1, eqO_ok h2⟩, ⟨e, ?_⟩⟩
    cases u <;> first | cases h3 | skip
    · have := of_decide_eq_true h3
      subst this
      exact ⟨_, rfl⟩
    · have := of_decide_eq_true h3
      subst this
      exact ⟨_, rfl⟩
  · cases h3
/-- a class's classmethod -/
def cmAt (K : PySem.W.Frag) (c m : Str) : Addr := He5.wf K (ga K c) "classmethod" m
def cmB (K : PySem.W.Frag) (c m : Str) : Bool := PySem.W.readsIn K (ga K c) (.type "type") && (eqO (PySem.W.specialIn K (.ref (ga K c)) "__getattribute__") (some (some (.builtin "type.__getattribute__"))) && (He5.wrapB K (ga K c) "classmethod" "classmethod.__get__" m && PySem.W.fnIn K (cmAt K c m)))
theorem cmB_ok {K : PySem.W.Frag} {c m : Str} (h : cmB K c m = true) : ClX.CRead K (He.ga K c) (.type "type") ∧ ∃ p, ClX.CMet K (He.ga K c) (.type "type") m p (cmAt K c m) := by
  obtain ⟨h1, h⟩ := ba h
  obtain ⟨h2, h⟩ := ba h
  obtain ⟨h3, h4⟩ := ba h
  exact ⟨⟨h1, eqO_ok h2⟩, _, He5.cmet_of h3 h4⟩
/-! further checks, by kind -/
inductive Fu where
  | tup (x : Str) (vs : List Dv)
  | prop (c f : Str)
  | cau (c f : Str)
  | ki (a b : Str) (r : Bool)
  | con (c f : Str) (v : V)
  | cm (c m : Str)
def Fu.ok (K : PySem.W.Frag) : Fu → Bool
  | .tup x vs => tupB K x vs
  | .prop c f => propB K c f
  | .cau c f => cauB K c f
  | .ki a b r => kiB K a b r
  | .con c f v => conB K c f v
  | .cm c m => cmB K c m
/-! the Hook -/
def asU (g : Addr → Option Obj) : Nat → List Addr
  | 0 => [mainGlobals, cStatics]
  | n + 1 => growD g (asU g n)
structure Facts where
  fa : List Fa
  fu : List Fu
  fn : List DA
  fx : List DX
  file : Str
abbrev AlU : Type := Bool × List FnA
def Facts.obs (T : Facts) (K : PySem.W.Frag) : AlU := ((T.fa.all fun f => f.ok K) && ((T.fu.all fun f => f.ok K) && ((T.fn.all fun d => d.okB K) && T.fx.all fun d => d.okB K T.file)), T.fn.map (fun d => fnA K (d.ad K)) ++ T.fx.map fun d => fnA K (d.ad K))
def Facts.val (T : Facts) : AlU := (true, T.fn.map DA.val ++ T.fx.map DX.val)
structure Facts.Says (T : Facts) (K : PySem.W.Frag) : Prop where
  eq : T.obs K = T.val
def Facts.obsG (T : Facts) (n : Nat) (g : Addr → Option Obj) : AlU := T.obs (frG g (asU g n))
def hookU (n : Nat) (T : Facts) : PySem.W.Hook where
  α := AlU
  obs := fun s => T.obsG n s.heap.get?
  val := fun _ => T.val
  says := fun _ h => ∃ K : PySem.W.Frag, K.In h ∧ T.Says K
  of := fun _ _ e => ⟨_, frG_in, ⟨e⟩⟩
  keeps := fun _ _ _ ⟨K, hK, c⟩ k => ⟨K, PySem.W.Frag.In.keeps hK k, c⟩
theorem obsU_eq {n : Nat} {T : Facts} {g : Addr → Option Obj} {s : Shared} (h : ∀ a, g a = s.heap.get? a) : T.obsG n g = (hookU n T).obs s := by
  have e : g = s.heap.get? := funext h
  rw [e] <;> rfl
section
variable {T : Facts} {K : PySem.W.Frag}
theorem Facts.Says.b (c : T.Says K) : ((T.fa.all fun f => f.ok K) && ((T.fu.all fun f => f.ok K) && ((T.fn.all fun d => d.okB K) && T.fx.all fun d => d.okB K T.file))) = true := congrArg (fun z : AlU => z.1) c.eq
theorem Facts.Says.fact (c : T.Says K) (i : Nat) {f : Fa} (h : T.fa[i]? = some f := by rfl) : f.ok K = true := List.all_eq_true.mp (ba c.b).1 f (List.mem_of_getElem? h)
theorem Facts.Says.more (c : T.Says K) (i : Nat) {f : Fu} (h : T.fu[i]? = some f := by rfl) : f.ok K = true := List.all_eq_true.mp (ba (ba c.b).2).1 f (List.mem_of_getElem? h)
theorem Facts.Says.lists (c : T.Says K) : T.fn.map (fun d => fnA K (d.ad K)) = T.fn.map DA.val ∧ T.fx.map (fun d => fnA K (d.ad K)) = T.fx.map DX.val := by
  have e : T.fn.map (fun d => fnA K (d.ad K)) ++ T.fx.map (fun d => fnA K (d.ad K)) = T.fn.map DA.val ++ T.fx.map DX.val := congrArg (fun z : AlU => z.2) c.eq
  exact List.append_inj e (by simp)
theorem Facts.Says.def_ (c : T.Says K) (i : Nat) {d : DA} (h : T.fn[i]? = some d := by rfl) : ∃ fd, FunD K d.name d.qual d.params d.body d.scope (d.dvs K) (d.kws K) (d.ad K) fd := by
  have c2 := (ba (ba (ba c.b).2).2).1
  have e2 : (T.fn.map fun d => fnA K (d.ad K))[i]? = (T.fn.map DA.val)[i]? := by rw [c.lists.1]
  rw [List.getElem?_map, List.getElem?_map, h] at e2
  exact DA.funD (Option.some.inj e2) (List.all_eq_true.mp c2 d (List.mem_of_getElem? h))
theorem Facts.Says.exc (c : T.Says K) (i : Nat) {P : Program} {d : DX} (h : T.fx[i]? = some d := by rfl) (hf : ((P.main.file : Str) == T.file) = true) :
    XC.Ini K P (ga K d.cls) (d.ad K) d.qual d.params d.body d.scope ∧ PySem.W.keepIn K (.ref (ga K d.cls)) = true ∧ PySem.W.subIn K (.ref (ga K d.cls)) (.type "BaseException") = some true ∧ PySem.W.typeIn K (.ref (ga K d.cls)) = some (.type "type") := by
  have c2 := (ba (ba (ba c.b).2).2).2
  have e2 : (T.fx.map fun d => fnA K (d.ad K))[i]? = (T.fx.map DX.val)[i]? := by rw [c.lists.2]
  rw [List.getElem?_map, List.getElem?_map, h] at e2
  exact DX.ok (Option.some.inj e2) (List.all_eq_true.mp c2 d (List.mem_of_getElem? h)) hf
end
end U
set_option Elab.async false
set_option linter.all false
set_option maxRecDepth 100000
set_option maxHeartbeats 1000000
namespace U
open PySem PySem.Spec PyProof.Rows L2 GxR
section
variable {X : Cx} {pins : List (Addr × Obj)} {σ : L2.St} {s : Shared} {H : Hp}
/-! tables of code objects -/
theorem Kp.tabbed {S : List Addr} {H1 H2 : Hp} {P : Addr} (h : TabG H1 P) (t : Tabbed P H1 H2) : Kp S H1 H2 := fun b o e _ => by
  by_cases hb : b = P
  · subst hb
    obtain ⟨ps, e1, _⟩ := h
    obtain ⟨⟨ps', e2, t2⟩, _⟩ := t
    rw [e1] at e
    cases e
    exact ⟨ps', e2, fun _ => t2⟩
  · exact .of (by rw [t.2 b hb]; exact e)
theorem TabG.keep {S : List Addr} {H1 H2 : Hp} {P : Addr} (h : TabG H1 P) (k : Kp S H1 H2) (n : P ∉ S) : TabG H2 P := by
  obtain ⟨ps, e, t⟩ := h
  obtain ⟨ps', e', t'⟩ := k _ _ e n
  exact ⟨ps', e', t' t⟩
theorem TabG.ne {H1 : Hp} {P a : Addr} {o : HO} (h : TabG H1 P) (e : H1 a = some o) (t : isTab o = false := by rfl) : P ≠ a := fun z => by
  obtain ⟨ps, e1, _⟩ := h
  rw [z, e] at e1
  cases e1
  cases t
theorem TabG.new {H1 : Hp} {P a : Addr} {o : HO} (h : TabG H1 P) (n : H1 a = none) : TabG (upd H1 a o) P := U.TabG.keep (S := []) h (Kp.new n) (by simp)
/-! generator expressions, consumed at once -/
/-- the element of the generator expression over what stands at s1: F tells what it gives -/
def EltQ (X : Cx) (scope : Scope) (x : Str) (elt : Expr) (P : Addr) (s1 : Shared) (Pf F : Nat → Value → Prop) : Prop :=
  ∀ (cenv : Env) (A' : Around) (E' : Value → Shared → Prop) (i : Nat) (v : Value) (s₂ : Shared) (m₂ : Str → Option Value), A'.handled = none → cenv.scope = scope → cenv.globals = mainGlobals → Pf i v → s₂.heap.Ns cenv.locals m₂ → m₂ x = some v →
    (∀ b o, b ≠ P → s1.heap.get? b = some o → s₂.heap.get? b = some o) → wpAny (model X.prog X.w) A' (eval elt cenv) (fun y s₃ => F i y ∧ Keeps s₂ s₃) E' s₂
def GenReady (X : Cx) (pins : List (Addr × Obj)) (σ : L2.St) (H1 : Hp) (P : Addr) (n : Nat) (F : Nat → Value → Prop) (g : Addr) (s5 : Shared) : Prop :=
  ∃ (fp wr : List Addr) (G : Array GenState → Array GenState → Prop) (St : Nat → Shared → Prop) (F' : Nat → Value → Prop),
    (∀ j y, F' j y → j < n ∧ F j y) ∧ WalksS X.prog X.w X.A.in1 g fp wr G n F' St ∧ St 0 s5 ∧ (∀ b ∈ fp, b < s5.heap.objs.size) ∧ ∀ s', Moved wr G s5 s' → ∃ H2, Tabbed P H1 H2 ∧ Inv X pins σ H2 s'
theorem gen_any {c P : Addr} {elt iter : Expr} {x : Str} {px gpos : Pos} {scope : Scope} {k : Nat} {Q' : Value → Shared → Prop}
    (hr : Room k X.A) (TB : TabB X.base X.mg c P) (hcode : X.env.code = .ref c) (S : GenS X.env scope x) (hs : ∀ v, genFold iter X.env v = pure v)
    (h : wpAny (model X.prog X.w) X.A (eval iter X.env) (fun xv s1 => ∃ H1, Inv X pins σ H1 s1 ∧ TabG H1 P ∧ ∃ (n : Nat) (Pf F : Nat → Value → Prop),
      (∀ (Q1 : Value → Shared → Prop), (∀ (o : Obj) (St : Nat → Heap → Prop) (fp : List Addr), (∀ b ∈ fp, b = s1.heap.objs.size ∨ (b ≠ P ∧ b < s1.heap.objs.size)) → (∀ A' : Around, A'.handled = none → Walks X.prog X.w A' s1.heap.objs.size fp [s1.heap.objs.size] n Pf St) → St 0 (s1.heap.push o) →
        Q1 (.ref s1.heap.objs.size) { s1 with heap := s1.heap.push o }) → wpAny (model X.prog X.w) X.A (pyIter xv) Q1 X.xe s1) ∧
      EltQ X scope x elt P s1 Pf F ∧ ∀ g s5, GenReady X pins σ H1 P n F g s5 → Q' (.ref g) s5) X.xe s) :
    wpAny (model X.prog X.w) X.A (eval (.GeneratorExp elt [⟨.Name x px, iter, [], 0⟩] scope gpos) X.env) Q' X.xe s := by
  refine wpAny_GeneratorExp_walksQ hr.hd S.co (closure_ok S.free) S.cell S.dot S.loc S.kind (by have := hr.dp; omega) (thn h fun xv s1 q => ?_) hs
  obtain ⟨H1, I1, ⟨ps, hP, ht⟩, n, Pf, F, hit, hel, hQ⟩ := q
  refine hit _ fun o St fp0 hfp0 W hst => ?_
  have hPs : s1.heap.get? P = some { cls := .none, data := .fields ps } := I1.hok P _ hP
  have hPlt : P < s1.heap.objs.size := Heap.lt_size hPs
  have hP2 : (s1.heap.push o).get? P = some { cls := .none, data := .fields ps } := Heap.get?_push_of_some _ hPs
  have cd : PySem.W.CodeHd (s1.heap.push o) c P := TB.code.keeps fun b u e => Heap.get?_push_of_some _ (I1.bk b u e)
  have lim2 : (s1.heap.push o).NoLimit := I1.nolimit.push o
  have cont : ∀ (code : Value) (h3 : Heap) (tk : Nat) (ps' : Array Value), Heap.ExtBut P (s1.heap.push o) h3 → (s1.heap.push o).objs.size ≤ h3.objs.size → h3.get? P = some { cls := .none, data := .fields ps' } → (∃ more, ps' = ps ++ more) → TriplesOk ps'.toList →
      wpAny (model X.prog X.w) X.A (builtinsFor X.env.globals X.env.builtins) (fun bi s₄ =>
        ∃ Ia fp wr n₀ Pf St₀ pz F, Value.ref s1.heap.objs.size = .ref Ia ∧ (∀ A' : Around, A'.handled = none → Walks X.prog X.w A' Ia fp wr n₀ Pf St₀) ∧ St₀ 0 s₄.heap ∧ (∀ b ∈ fp, b < s₄.heap.objs.size) ∧ s₄.heap.NoLimit ∧ cStatics ∉ wr ∧
          (∀ href : Heap, (∀ b o, s₄.heap.get? b = some o → href.get? b = some o) →
            QuietGen X.prog X.w (genEnv scope (cloFrom X.env.cells scope.names []) s₄.heap.objs.size code bi X.env) x [] elt (List.range s₄.heap.objs.size) wr Pf pz F href) ∧
          (∀ a h₅ tk gs, gs.bare = true → s₄.heap.objs.size < a → h₅.objs.size = a + 1 → (∀ b o, s₄.heap.get? b = some o → h₅.get? b = some o) →
            WalksS X.prog X.w X.A.in4 a (a :: s₄.heap.objs.size :: List.range s₄.heap.objs.size) (s₄.heap.objs.size :: wr) (GenOnlyQ s₄.gens.size) (passing pz n₀ 0).length
              (fun j y => ∃ i, (passing pz n₀ 0)[j]? = some i ∧ F i y) (GenAt X.prog X.w X.A.in4 a s₄.gens.size s₄.heap.objs.size (List.range s₄.heap.objs.size) wr pz n₀ F) →
            GenAt X.prog X.w X.A.in4 a s₄.gens.size s₄.heap.objs.size (List.range s₄.heap.objs.size) wr pz n₀ F 0 { s₄ with gens := s₄.gens.push gs, toks := tk, heap := h₅ } →
            Q' (.ref a) { s₄ with gens := s₄.gens.push gs, toks := tk, heap := h₅ })) X.xe { s1 with heap := h3, toks := tk } := by
    intro code h3 tk ps' hx hsz hP3 hmore ht3
    obtain ⟨bm, ob, e1, e2, e3, e4, e5, e6, e7, e8⟩ := TB.bm
    have hcP : cStatics ≠ P := fun e => by
      obtain ⟨_, hns, _⟩ := I1.nolimit
      obtain ⟨o', es, ep, ho, hd, _⟩ := hns
      rw [e, hPs] at ho
      cases ho
      cases hd
    have hcl : cStatics < s1.heap.objs.size := let ⟨_, hns, _⟩ := I1.nolimit; hns.lt
    have sz2 : (s1.heap.push o).objs.size = s1.heap.objs.size + 1 := Heap.size_push ..
    have keep3 : ∀ b u, b ≠ P → s1.heap.get? b = some u → h3.get? b = some u := fun b u hb e => hx b u hb (Heap.get?_push_of_some _ e)
    refine wpAny_builtinsFor (m := X.mg) (by rw [I1.ok.glob]; exact ((I1.mod.glob.keeps I1.bk).push o).extBut hx TB.gP) e1 e2 (keep3 _ _ e4 (I1.bk _ _ e5)) e6 e7 e8 ?_
    refine ⟨s1.heap.objs.size, fp0, [s1.heap.objs.size], n, Pf, St, (fun _ => true), F, rfl, W, ?_, ?_, lim2.extBut hx hcP, ?_, ?_, ?_⟩
    · refine (W X.A hr.hd).frame _ _ _ hst fun b hb u e => hx b u (fun z => ?_) e
      rcases hfp0 b hb with z2 | z2
      · exact Nat.ne_of_lt hPlt (z.symm.trans z2)
      · exact z2.1 z
    · intro b hb
      have h9 : (s1.heap.objs.size : Nat) < h3.objs.size := by omega
      rcases hfp0 b hb with z | z
      · rw [z]; exact h9
      · exact Nat.lt_trans z.2 h9
    · intro z
      have z : cStatics = s1.heap.objs.size := by simpa using z
      exact Nat.ne_of_lt hcl z
    · intro href hhref
      refine ⟨fun A' E' i v s₂ m₂ hA hPv hn hm hk => ?_, fun A' E' i v s₂ m₂ hA hPv hp hn hm hk => ?_⟩
      · simp only [List.forIn_nil]
        exact wpAny_pure ⟨rfl, keeps_refl _⟩
      · refine hel _ A' E' i v s₂ m₂ hA rfl I1.ok.glob hPv hn hm fun b u hb e => ?_
        have hb3 : h3.get? b = some u := keep3 b u hb e
        have hbl : b < s1.heap.objs.size := Heap.lt_size e
        refine hk b (List.mem_range.mpr (Heap.lt_size hb3)) (fun z => ?_) u (hhref b u hb3)
        have z : b = s1.heap.objs.size := by simpa using z
        rw [z] at hbl
        exact Nat.lt_irrefl _ hbl
    · intro g h5 tk5 gs hgb hag hsz5 hk5 W5 hat
      simp only [GxR.passing_true, List.length_range] at W5
      refine hQ g _ ⟨_, _, _, _, _, fun j y hy => ?_, W5.in4_1, hat, ?_, fun s' hm => ?_⟩
      · obtain ⟨i, hij, hF⟩ := hy
        obtain ⟨hj, ej⟩ := List.getElem?_eq_some_iff.mp hij
        rw [List.getElem_range] at ej
        subst ej
        exact ⟨by simpa using hj, hF⟩
      · intro b hb
        show b < h5.objs.size
        rw [hsz5]
        rcases List.mem_cons.mp hb with z | z
        · rw [z]; exact Nat.lt_succ_self g
        · rcases List.mem_cons.mp z with z | z
          · rw [z]; exact Nat.lt_succ_of_lt hag
          · exact Nat.lt_succ_of_lt (Nat.lt_trans (List.mem_range.mp z) hag)
      · obtain ⟨more, em⟩ := hmore
        have nwr : ∀ b u, s1.heap.get? b = some u → b ∉ h3.objs.size :: [s1.heap.objs.size] := fun b u e hb => by
          have hl := Heap.lt_size e
          rcases List.mem_cons.mp hb with z | z
          · rw [z] at hl
            have h9 : (h3.objs.size : Nat) < s1.heap.objs.size := hl
            omega
          · have z : b = s1.heap.objs.size := by simpa using z
            rw [z] at hl
            exact Nat.lt_irrefl _ hl
        have J := inv_tab (more := more) (h' := s'.heap) (g' := s'.gens) (d' := s'.drawn) (t' := s'.toks) I1 hP (fun b u hb e => hm.heap b u (nwr b u e) (hk5 b u (keep3 b u hb e)))
          (by rw [← em]; exact hm.heap P _ (nwr P _ hPs) (hk5 P _ hP3)) (AllBare.movedS (I1.bare.push hgb) hm)
        rw [sh_eta s1 s' hm.os] at J
        exact ⟨upd H1 P (.tbl (ps ++ more)), ⟨⟨ps ++ more, upd_same, by rw [← em]; exact ht3⟩, fun b hb => upd_ne hb⟩, J⟩
  refine ⟨lim2, ?_⟩
  cases hf : codeAmong gpos ps.toList with
  | none =>
    refine wpAny_genexprCodeX hcode (cd.code hP2 ht) (cd.tab hP2) hf fun c' h' tk hx hge hlt hco' _ htab' _ => ?_
    obtain ⟨o1, vs, f1, tf, fl, tg, inF, tx, tt, op, _, _, _, _, _, _, _, _, _, htr, _⟩ := hco'
    exact cont _ h' tk _ hx (Nat.le_trans hge (Nat.le_of_lt hlt)) htab'.2 ⟨_, rfl⟩ htr
  | some cv =>
    refine wpAny_genexprCode_hit hcode (cd.code hP2 ht) hf ?_
    exact cont cv (s1.heap.push o) s1.toks ps (Heap.ExtBut.refl _ _) (Nat.le_refl _) hP2 ⟨#[], by simp⟩ ht
/-! all over the signs of a text -/
def uAllG (P : Addr) (pb : Nat → Bool) (te : TE) : TE := fun σ H Q => te σ H fun v H1 => match v with
  | .str a => TabG H1 P ∧ ∀ H2, Tabbed P H1 H2 → Q (.bl (a.cps.toList.all pb)) H2
  | _ => False
theorem ue_allG {c P : Addr} {elt iter : Expr} {x : Str} {px p pos gpos : Pos} {scope : Scope} {pb : Nat → Bool} {te : TE} {k : Nat}
    (hr : Room k X.A) (hg : Gl X "all") (hm : X.mg "all" = none) (hb : bootBuiltins "all" = some (.builtin "all")) (TB : TabB X.base X.mg c P) (hcode : X.env.code = .ref c) (S : GenS X.env scope x) (hi : PE X iter te)
    (hel : ∀ s1 (a : Str), s1.heap.Ns mainGlobals X.mg → EltQ X scope x elt P s1 (SignAt a) fun i y => ∃ cc, a.cps[i]? = some cc ∧ y = .bool (pb cc)) (hs : ∀ v, genFold iter X.env v = pure v)
    (he : starEach [.GeneratorExp elt [⟨.Name x px, iter, [], 0⟩] scope gpos] X.env = (false, eval (.GeneratorExp elt [⟨.Name x px, iter, [], 0⟩] scope gpos) X.env) :: starEach [] X.env := by rfl) :
    PE X (.Call (.Name "all" p) [.GeneratorExp elt [⟨.Name x px, iter, [], 0⟩] scope gpos] [] pos) (uAllG P pb te) := by
  refine ⟨fun pins s σ H Q I h => ?_⟩
  refine wpAny_Call_Name_kw (ld_blt I hg hm hb ?_)
  refine PyProof.Rows.callWith_builtin1 ?_ he (by rfl)
  rw [he]
  show wpAny _ _ (spliced ((false, eval (.GeneratorExp elt [⟨.Name x px, iter, [], 0⟩] scope gpos) X.env) :: backTo pos (starEach [] X.env))) _ _ s
  refine Calls.spliced_cons (gen_any (pins := pins) (σ := σ) hr TB hcode S hs (thn (hi.run pins s σ H _ I h) fun xv s1 ⟨v, H1, I1, r1, q1⟩ => ?_))
  match v, r1, q1 with
  | .str a, r1, ⟨hT, q1⟩ =>
    obtain ⟨t, rfl⟩ := r1
    refine ⟨H1, I1, hT, a.cps.size, SignAt a, _, fun Q1 hQ1 => wpAny_pyIter_str fun o St W hst => hQ1 o St _ (fun b hb => .inl (by simpa using hb)) W hst, hel s1 a (I1.mod.glob.keeps I1.bk), fun g s5 hG => ?_⟩
    obtain ⟨fp, wr, G, St, F', hF', W, hst, _, hI⟩ := hG
    refine Calls.spliced_nil ?_
    refine call_all_walkS (W.self 0 _ _ _ hst ⟨g, fp, wr, G, _, F', St, trF pb a.cps.toList, rfl, W, hst, fun j y sj Qj Ej hy hQj => ?_, fun s' hmv => ?_⟩)
    · obtain ⟨hj, cc, hcc, rfl⟩ := hF' j y hy
      have e9 : a.cps.toList[j]? = some cc := by rw [Array.getElem?_toList]; exact hcc
      have hQ2 : Qj (trF pb a.cps.toList j) sj := hQj
      rw [trF_some e9] at hQ2
      exact wpAny_truthy_bool hQ2
    · obtain ⟨H2, hT2, J⟩ := hI s' hmv
      refine ⟨.bl _, H2, J, rfl, ?_⟩
      rw [all_signs a pb]
      exact q1 H2 hT2
/-- x in A or x in B, A and B texts of the module -/
theorem elt_in2 {P : Addr} {scope : Scope} {x n1 n2 : Str} {z1 z2 : Str} {p1 p2 p3 p4 p5 p6 p7 : Pos} (h1 : ∃ t, X.mg n1 = some (.str z1 t)) (h2 : ∃ t, X.mg n2 = some (.str z2 t)) (gP : mainGlobals ≠ P)
    (hk : scope.kind = .function) (hl : scope.names.lookup x = some .local) (g1 : scope.names.lookup n1 = some .globalImplicit) (g2 : scope.names.lookup n2 = some .globalImplicit)
    (d0 : (x == ("__debug__" : Str)) = false := by decide) (d1 : (n1 == ("__debug__" : Str)) = false := by decide) (d2 : (n2 == ("__debug__" : Str)) = false := by decide) (s1 : Shared) (a : Str) (G : s1.heap.Ns mainGlobals X.mg) :
    EltQ X scope x (.BoolOp .Or [.Compare (.Name x p1) [.In] [.Name n1 p2] p3, .Compare (.Name x p4) [.In] [.Name n2 p5] p6] p7) P s1 (SignAt a) fun i y => ∃ cc, a.cps[i]? = some cc ∧ y = .bool (decide (cc ∈ z1.cps.toList) || decide (cc ∈ z2.cps.toList)) := by
  intro cenv A' E' i v s₂ m₂ hA hsc hgl hPf hn hm hkp
  obtain ⟨cc, u, hcc, rfl⟩ := hPf
  obtain ⟨t1, h1⟩ := h1
  obtain ⟨t2, h2⟩ := h2
  have G2 : s₂.heap.Ns cenv.globals X.mg := by rw [hgl]; exact G.extBut hkp gP
  have kx : cenv.kindOf x = some .local := by show cenv.scope.names.lookup x = _; rw [hsc]; exact hl
  have kf : cenv.scope.kind = .function := by rw [hsc]; exact hk
  refine wpAny_Or2 ?_
  refine wpAny_Compare1 (wpAny_Name (wpAny_loadName_local kf kx hn hm ?_) d0)
  refine Calls.Name_function_global kf (by show cenv.scope.names.lookup n1 = _; rw [hsc]; exact g1) (Calls.loadGlobal_global G2 h1 ?_) d1
  refine PyProof.Rows.in_str ?_
  rw [PySem.StrLaws.found_one]
  refine wpAny_truthy_bool ?_
  cases e1 : decide (cc ∈ z1.cps.toList) with
  | true => exact ⟨⟨cc, hcc, by rw [e1]; rfl⟩, keeps_refl _⟩
  | false =>
    refine wpAny_Compare1 (wpAny_Name (wpAny_loadName_local kf kx hn hm ?_) d0)
    refine Calls.Name_function_global kf (by show cenv.scope.names.lookup n2 = _; rw [hsc]; exact g2) (Calls.loadGlobal_global G2 h2 ?_) d2
    refine PyProof.Rows.in_str ?_
    rw [PySem.StrLaws.found_one]
    exact ⟨⟨cc, hcc, by rw [e1]; rfl⟩, keeps_refl _⟩
/-- i if x[n] else j, x a tuple -/
theorem elt_kept {P : Addr} {scope : Scope} {x : Str} {n : Nat} {i1 i2 : Int} {k1 k2 k3 : Nat} {p1 p2 p3 p4 p5 p6 : Pos} (hk : scope.kind = .function) (hl : scope.names.lookup x = some .local) (s1 : Shared) (items : Array Value) (val : Nat → Int)
    (hit : ∀ i v, items[i]? = some v → ∃ (a : Addr) (its : List Value) (b : Bool), v = .ref a ∧ a ≠ P ∧ IsTup s1.heap a its.toArray ∧ n < 1000 ∧ its[n]? = some (.bool b) ∧ val i = if b = true then i1 else i2) (d0 : (x == ("__debug__" : Str)) = false := by decide) :
    EltQ X scope x (.IfExp (.Subscript (.Name x p1) (.Constant (.int (n : Nat)) k1 p2) p3) (.Constant (.int i1) k2 p4) (.Constant (.int i2) k3 p5) p6) P s1 (fun i v => items[i]? = some v) fun i y => ∃ t, y = .int (val i) t := by
  intro cenv A' E' i v s₂ m₂ hA hsc hgl hPf hn hm hkp
  obtain ⟨a, its, b, rfl, haP, ht, hn1, hb, hv⟩ := hit i v hPf
  have ht2 : IsTup s₂.heap a its.toArray := ht.extBut hkp haP
  have kx : cenv.kindOf x = some .local := by show cenv.scope.names.lookup x = _; rw [hsc]; exact hl
  have kf : cenv.scope.kind = .function := by rw [hsc]; exact hk
  have hnl : n < its.length := (List.getElem?_eq_some_iff.mp hb).1
  refine wpAny_IfExp (isTrue_plain (Subscript_ (wpAny_Name (wpAny_loadName_local kf kx hn hm ?_) d0)) rfl)
  refine wpAny_Constant_int ?_
  refine subscriptTail_builtinR (x := .bool b) ht2.typeIs slot_tuple_getitem.lookup (getItem_tuple (j := n) ht2 (by omega) (by omega) ?_ (by simpa using hb) ⟨rfl, ?_⟩) rfl
  · rw [List.size_toArray]
    unfold seqIndex?
    have n0 : ¬ ((n : Int) < 0) := by omega
    simp [n0, hnl]
  refine wpAny_truthy_bool ?_
  cases b with
  | true => exact wpAny_Constant_int ⟨⟨_, by rw [hv]; rfl⟩, keeps_tok _ _⟩
  | false => exact wpAny_Constant_int ⟨⟨_, by rw [hv]; rfl⟩, keeps_tok _ _⟩
/-! sum over the rows of a tuple -/
def uSumG (K : PySem.W.Frag) (P : Addr) (rowOk : Hp → V → Int → Prop) (te : TE) : TE := fun σ H Q => te σ H fun v H1 => match v with
  | .ref a => ∃ (xs : List V) (ns : List Int), SqT K H1 a xs ∧ ns.length = xs.length ∧ xs.length ≤ 100000 ∧ (∀ (i : Nat) x, xs[i]? = some x → rowOk H1 x (ns.getD i 0)) ∧ (∀ m ∈ ns, -1000 ≤ m ∧ m ≤ 1000) ∧ TabG H1 P ∧ ∀ H2, Tabbed P H1 H2 → Q (.int ns.sum) H2
  | _ => False
theorem preSum_take (ns : List Int) : ∀ m, m ≤ ns.length → preSum (fun i => ns.getD i 0) m = (ns.take m).sum
  | 0, _ => by simp [preSum]
  | m + 1, h => by
    have e : ns[m]? = some ns[m] := List.getElem?_eq_getElem (by omega)
    simp only [preSum]
    rw [preSum_take ns m (by omega), List.take_add_one, e, List.sum_append]
    simp only [List.getD, e, Option.getD_some, Option.toList_some, List.sum_cons, List.sum_nil, Int.add_zero]
theorem sum_bound (ns : List Int) (h : ∀ m ∈ ns, -1000 ≤ m ∧ m ≤ 1000) : -1000 * (ns.length : Int) ≤ ns.sum ∧ ns.sum ≤ 1000 * (ns.length : Int) := by
  induction ns with
  | nil => simp
  | cons a l ih =>
    have h1 := h a (by simp)
    have h2 := ih fun m hm => h m (by simp [hm])
    simp only [List.sum_cons, List.length_cons]
    constructor <;> omega
theorem ue_sumG {K : PySem.W.Frag} {c P : Addr} {elt iter : Expr} {x : Str} {px p pos gpos : Pos} {scope : Scope} {rowOk : Hp → V → Int → Prop} {te : TE} {k : Nat}
    (hr : Room k X.A) (hg : Gl X "sum") (hm : X.mg "sum" = none) (hb : bootBuiltins "sum" = some (.builtin "sum")) (TB : TabB X.base X.mg c P) (hcode : X.env.code = .ref c) (S : GenS X.env scope x) (hi : PE X iter te)
    (hel : ∀ (pins : List (Addr × Obj)) (σ : L2.St) (H1 : Hp) (s1 : Shared) (xs : List V) (its : List Value) (ns : List Int), Inv X pins σ H1 s1 → TabG H1 P → Vals xs its → (∀ (i : Nat) x, xs[i]? = some x → rowOk H1 x (ns.getD i 0)) →
      EltQ X scope x elt P s1 (fun i v => its.toArray[i]? = some v) fun i y => ∃ t, y = .int (ns.getD i 0) t) (hs : ∀ v, genFold iter X.env v = pure v) (eK : X.K = K := by rfl)
    (he : starEach [.GeneratorExp elt [⟨.Name x px, iter, [], 0⟩] scope gpos] X.env = (false, eval (.GeneratorExp elt [⟨.Name x px, iter, [], 0⟩] scope gpos) X.env) :: starEach [] X.env := by rfl) :
    PE X (.Call (.Name "sum" p) [.GeneratorExp elt [⟨.Name x px, iter, [], 0⟩] scope gpos] [] pos) (uSumG K P rowOk te) := by
  subst eK
  refine ⟨fun pins s σ H Q I h => ?_⟩
  refine wpAny_Call_Name_kw (ld_blt I hg hm hb ?_)
  refine PyProof.Rows.callWith_builtin1 ?_ he (by rfl)
  rw [he]
  show wpAny _ _ (spliced ((false, eval (.GeneratorExp elt [⟨.Name x px, iter, [], 0⟩] scope gpos) X.env) :: backTo pos (starEach [] X.env))) _ _ s
  refine Calls.spliced_cons (gen_any (pins := pins) (σ := σ) hr TB hcode S hs (thn (hi.run pins s σ H _ I h) fun xv s1 ⟨v, H1, I1, r1, q1⟩ => ?_))
  match v, r1, q1 with
  | .ref a, r1, ⟨xs, ns, hq, hnl, hxl, hok, hbd, hT, q1⟩ =>
    obtain rfl : xv = Value.ref a := r1
    obtain ⟨its, rv, ht, hz⟩ := I1.tuple hq
    have hil : its.length = xs.length := rv.length.symm
    have haP : a ≠ P := fun z => by
      obtain ⟨ps, hP, _⟩ := hT
      have hPs : s1.heap.get? P = some { cls := .none, data := .fields ps } := I1.hok P _ hP
      obtain ⟨o, ho, hc, _⟩ := ht
      rw [z, hPs] at ho
      cases ho
      cases hc
    have hal : a < s1.heap.objs.size := let ⟨o, ho, _⟩ := ht; Heap.lt_size ho
    refine ⟨H1, I1, hT, its.toArray.size, (fun i v => its.toArray[i]? = some v), _, fun Q1 hQ1 => ?_, hel pins σ H1 s1 xs its ns I1 hT rv hok, fun g s5 hG => ?_⟩
    · refine wpAny_pyIter_tuple (show s1.heap.IsTuple a its.toArray from ht) ?_
      refine hQ1 _ _ [s1.heap.objs.size, a] (fun b hb => ?_) (fun A' hA => Walks.tuple hA _ a (Nat.ne_of_lt hal) _) ⟨⟨_, Heap.get?_push_size _ rfl, rfl, rfl⟩, (show s1.heap.IsTuple a its.toArray from ht).push _⟩
      rcases List.mem_cons.mp hb with z | z
      · exact .inl z
      · have z : b = a := by simpa using z
        exact .inr (by rw [z]; exact ⟨haP, hal⟩)
    obtain ⟨fp, wr, G, St, F', hF', W, hst, hfp, hI⟩ := hG
    refine Calls.spliced_nil ?_
    have nsz : its.toArray.size = ns.length := by simp [hil, hnl]
    refine call_sum_walkS (W.self 0 _ _ _ hst ⟨g, fp, wr, G, _, F', St, fun i => ns.getD i 0, rfl, W, hst, hfp, fun i v hv => (hF' i v hv).2, fun j hj => ?_, fun s' t' hmv => ?_⟩)
    · rw [nsz] at hj
      have e : ns[j]? = some ns[j] := List.getElem?_eq_getElem hj
      have b1 := hbd _ (List.getElem_mem hj)
      have b2 := sum_bound (ns.take (j + 1)) fun m hm => hbd m (List.mem_of_mem_take hm)
      rw [preSum_take ns (j + 1) hj]
      simp only [List.getD, e, Option.getD_some, InLong]
      have hl : ((ns.take (j + 1)).length : Int) ≤ 100000 := by simp; omega
      constructor
      · constructor <;> omega
      · constructor <;> omega
    · obtain ⟨H2, hT2, J⟩ := hI s' hmv
      refine ⟨.int ns.sum, H2, J, ⟨t', ?_⟩, q1 H2 hT2⟩
      rw [nsz, preSum_take ns _ (Nat.le_refl _), List.take_length]
end
end U
set_option Elab.async false
set_option linter.all false
set_option maxRecDepth 100000
set_option maxHeartbeats 1000000
namespace U
open PySem PySem.Spec PyProof.Rows L2 GxR
/-! defs with generator expressions: their code objects and tables -/
section
variable {P : Program} {w : World} {K : PySem.W.Frag} {mg : Str → Option Value} {base : Heap} {x qual : Str} {params : Arguments} {body : List Stmt} {scope : Scope} {dvs : List V} {kws : List (Str × V)} {f : Addr} {fd : FuncData}
theorem okC {CX : CXT} {N ps : List Str} {k : Nat} {sp : Sp} {c : Addr} (F : FunD K x qual params body scope dvs kws f fd) (hc : fd.code = .ref c) (S : FnScope N ps scope) (len : ∀ vs H Q E, sp vs H Q E → vs.length = ps.length)
    (hbody : ∀ (A : Around) (outer : List Env) (s : Shared) (H : Hp) (vs : List V) (Q : VK) (E : XK), Room k (A.deeper (envOfC qual scope s.heap.objs.size f (.ref c))) → sp vs H Q E →
      ∃ t, PSs (cxOf CX P w K mg base N qual scope f (.ref c) A outer s H E) body t ∧ t { nx := fun _ H' => Q .non H', rt := Q } (L2.start N vs) H) : FnOk P w K mg base CX (k + 1) f fd ps sp := by
  obtain ⟨oc, od, dV, kV, doc, pm, an, cdv, ct, osl, rfl, lk, hcd, _, _⟩ := F.ex
  obtain rfl : cdv = .ref c := hc
  exact fn_of lk hcd S len fun A outer s H vs Q E hr hsp => hbody A outer s H vs Q E hr hsp
end
theorem genS {env : Env} {scope : Scope} {x : Str} (k : scope.kind = .function := by rfl) (co : scope.isCoroutine = false := by rfl) (cell : ∀ y ∈ scope.names, y.2 ≠ .cell := by decide +kernel)
    (dot : scope.names.lookup (".0" : Str) = some NameKind.local := by rfl) (loc : scope.names.lookup x = some .local := by rfl) (fr : ∀ y ∈ scope.names, y.2 ≠ .free := by decide +kernel) : GenS env scope x :=
  ⟨k, co, cell, dot, loc, fun y hy e => absurd e (fr y hy)⟩
section
variable {X : Cx}
/-- all(x in A or x in B for x in e) -/
theorem ue_allIn2 {c P : Addr} {iter : Expr} {x n1 n2 z1 z2 : Str} {px p pos gpos p1 p2 p3 p4 p5 p6 p7 : Pos} {scope : Scope} {te : TE} {k : Nat} (hr : Room k X.A) (hm : X.mg "all" = none) (TB : TabB X.base X.mg c P) (hi : PE X iter te) (h1 : ∃ t, X.mg n1 = some (.str z1 t)) (h2 : ∃ t, X.mg n2 = some (.str z2 t))
    (hcode : X.env.code = .ref c := by rfl) (S : GenS X.env scope x := by exact genS) (g1 : scope.names.lookup n1 = some .globalImplicit := by rfl) (g2 : scope.names.lookup n2 = some .globalImplicit := by rfl)
    (hg : Gl X "all" := by rfl) (d0 : (x == ("__debug__" : Str)) = false := by decide) (d1 : (n1 == ("__debug__" : Str)) = false := by decide) (d2 : (n2 == ("__debug__" : Str)) = false := by decide)
    (hs : ∀ v, genFold iter X.env v = pure v := by intro _; rfl)
    (he : starEach [.GeneratorExp (.BoolOp .Or [.Compare (.Name x p1) [.In] [.Name n1 p2] p3, .Compare (.Name x p4) [.In] [.Name n2 p5] p6] p7) [⟨.Name x px, iter, [], 0⟩] scope gpos] X.env = (false, eval (.GeneratorExp (.BoolOp .Or [.Compare (.Name x p1) [.In] [.Name n1 p2] p3, .Compare (.Name x p4) [.In] [.Name n2 p5] p6] p7) [⟨.Name x px, iter, [], 0⟩] scope gpos) X.env) :: starEach [] X.env := by rfl) :
    PE X (.Call (.Name "all" p) [.GeneratorExp (.BoolOp .Or [.Compare (.Name x p1) [.In] [.Name n1 p2] p3, .Compare (.Name x p4) [.In] [.Name n2 p5] p6] p7) [⟨.Name x px, iter, [], 0⟩] scope gpos] [] pos)
      (uAllG P (fun cc => decide (cc ∈ z1.cps.toList) || decide (cc ∈ z2.cps.toList)) te) :=
  ue_allG hr hg hm (by decide +kernel) TB hcode S hi (fun s1 a G => elt_in2 h1 h2 TB.gP S.kind S.loc g1 g2 d0 d1 d2 s1 a G) hs he
/-- the n-th of the row x at H is a bool, m is i1 or i2 by it -/
def keptRow (n : Nat) (i1 i2 : Int) (H : Hp) (x : V) (m : Int) : Prop := ∃ a ys b, x = .ref a ∧ H a = some (.tup ys) ∧ ys[n]? = some (.bl b) ∧ m = if b = true then i1 else i2
theorem vals_at {xs : List V} {its : List Value} (h : Vals xs its) : ∀ {i : Nat} {v : Value}, its[i]? = some v → ∃ x, xs[i]? = some x ∧ RelV x v := by
  induction h with
  | nil => intro i v e; simp at e
  | cons r _ ih =>
    intro i v e
    cases i with
    | zero => simp at e; subst e; exact ⟨_, rfl, r⟩
    | succ i => exact ih (i := i) (by simpa using e)
/-- sum(i1 if x[n] else i2 for x in e), e a tuple of tuples -/
theorem ue_sumKept (K : PySem.W.Frag) {c P : Addr} {iter : Expr} {x : Str} {n : Nat} {i1 i2 : Int} {k1 k2 k3 : Nat} {px p pos gpos p1 p2 p3 p4 p5 p6 : Pos} {scope : Scope} {te : TE} {k : Nat} (hr : Room k X.A) (hm : X.mg "sum" = none) (TB : TabB X.base X.mg c P) (hi : PE X iter te) (hn : n < 1000 := by decide)
    (hcode : X.env.code = .ref c := by rfl) (S : GenS X.env scope x := by exact genS) (hg : Gl X "sum" := by rfl) (d0 : (x == ("__debug__" : Str)) = false := by decide) (hs : ∀ v, genFold iter X.env v = pure v := by intro _; rfl) (eK : X.K = K := by rfl)
    (he : starEach [.GeneratorExp (.IfExp (.Subscript (.Name x p1) (.Constant (.int (n : Nat)) k1 p2) p3) (.Constant (.int i1) k2 p4) (.Constant (.int i2) k3 p5) p6) [⟨.Name x px, iter, [], 0⟩] scope gpos] X.env = (false, eval (.GeneratorExp (.IfExp (.Subscript (.Name x p1) (.Constant (.int (n : Nat)) k1 p2) p3) (.Constant (.int i1) k2 p4) (.Constant (.int i2) k3 p5) p6) [⟨.Name x px, iter, [], 0⟩] scope gpos) X.env) :: starEach [] X.env := by rfl) :
    PE X (.Call (.Name "sum" p) [.GeneratorExp (.IfExp (.Subscript (.Name x p1) (.Constant (.int (n : Nat)) k1 p2) p3) (.Constant (.int i1) k2 p4) (.Constant (.int i2) k3 p5) p6) [⟨.Name x px, iter, [], 0⟩] scope gpos] [] pos) (uSumG K P (keptRow n i1 i2) te) := by
  subst eK
  refine ue_sumG hr hg hm (by decide +kernel) TB hcode S hi (fun pins σ H1 s1 xs its ns I hT rv hok => ?_) hs rfl he
  refine elt_kept S.kind S.loc s1 its.toArray (fun i => ns.getD i 0) (fun i v hv => ?_) d0
  obtain ⟨x0, hx, rx⟩ := vals_at rv (by simpa using hv)
  obtain ⟨a, ys, b, rfl, ha, hb, hm2⟩ := hok i x0 hx
  obtain ⟨its2, r2, t2, _⟩ := I.tuple (SqT.of ha)
  obtain ⟨v2, e2, rb⟩ := r2.get hb
  cases rb
  exact ⟨a, its2, b, rx, (U.TabG.ne hT ha).symm, t2, hn, e2, hm2⟩
end
/-! the head, with tables -/
def codeAt (K : PySem.W.Frag) (a : Addr) : Addr := match K.lookup a with
  | some ⟨_, _, .func fd, _⟩ => (match fd.code with
    | .ref c => c
    | _ => 0)
  | _ => 0
def codeRefB (K : PySem.W.Frag) (a : Addr) : Bool := match K.lookup a with
  | some ⟨_, _, .func fd, _⟩ => (match fd.code with
    | .ref _ => true
    | _ => false)
  | _ => false
theorem codeAt_eq {K : PySem.W.Frag} {a : Addr} {x qual : Str} {params : Arguments} {body : List Stmt} {scope : Scope} {dvs : List V} {kws : List (Str × V)} {fd : FuncData} (F : FunD K x qual params body scope dvs kws a fd) (h : codeRefB K a = true) : fd.code = .ref (codeAt K a) := by
  obtain ⟨oc, od, dV, kV, doc, pm, an, cdv, ct, osl, rfl, lk, hcd, _, _⟩ := F.ex
  unfold codeRefB at h
  unfold codeAt
  rw [lk] at h ⊢
  show cdv = _
  cases cdv with
  | ref c => rfl
  | _ => cases h
def tabP (K : PySem.W.Frag) (a : Addr) : Addr × Addr := (codeAt K a, He.tabOf K (codeAt K a))
structure FactsT extends Facts where
  tf : List (PySem.W.Frag → Addr)
def FactsT.tabs (T : FactsT) (K : PySem.W.Frag) : List (Addr × Addr) := T.tf.map fun f => tabP K (f K)
def FactsT.tabsB (T : FactsT) (g : Addr → Option Obj) (K : PySem.W.Frag) : Bool := T.tf.all fun f => codeRefB K (f K) && (PySem.W.codeHdIn K (tabP K (f K)).1 (tabP K (f K)).2 && (match g (tabP K (f K)).2 with
  | some o => He.emptyTab o
  | none => false))
structure FactsT.SaysT (T : FactsT) (K : PySem.W.Frag) (h : Heap) : Prop where
  says : T.toFacts.Says K
  ref_ : ∀ f ∈ T.tf, codeRefB K (f K) = true
  hd : ∀ p ∈ T.tabs K, PySem.W.codeHdIn K p.1 p.2 = true
  out : ∀ p ∈ T.tabs K, K.lookup p.2 = none
  empty : ∀ p ∈ T.tabs K, h.get? p.2 = some { cls := .none, data := .fields #[] }
abbrev AlV : Type := AlU × Bool
def FactsT.obsT (T : FactsT) (n : Nat) (g : Addr → Option Obj) : AlV := (T.toFacts.obs (He.frT g (asU g n)), T.tabsB g (He.frT g (asU g n)))
def hookV (n : Nat) (T : FactsT) : PySem.W.Hook where
  α := AlV
  obs := fun s => T.obsT n s.heap.get?
  val := fun _ => (T.toFacts.val, true)
  says := fun _ h => ∃ K : PySem.W.Frag, K.In h ∧ T.SaysT K h
  of := fun _ s e => by
    have e1 : T.toFacts.obs (He.frT s.heap.get? (asU s.heap.get? n)) = T.toFacts.val := congrArg (fun z : AlV => z.1) e
    have e2 : T.tabsB s.heap.get? (He.frT s.heap.get? (asU s.heap.get? n)) = true := congrArg (fun z : AlV => z.2) e
    have key := List.all_eq_true.mp e2
    refine ⟨_, He.frT_in, ⟨⟨e1⟩, fun f hf => (He.ba (key f hf)).1, fun p hp => ?_, fun p hp => ?_, fun p hp => ?_⟩⟩
    · obtain ⟨f, hf, rfl⟩ := List.mem_map.mp hp
      exact (He.ba (He.ba (key f hf)).2).1
    · obtain ⟨f, hf, rfl⟩ := List.mem_map.mp hp
      have h2 := (He.ba (He.ba (key f hf)).2).2
      split at h2
      · rename_i o q
        exact He.frT_none q h2
      · cases h2
    · obtain ⟨f, hf, rfl⟩ := List.mem_map.mp hp
      have h2 := (He.ba (He.ba (key f hf)).2).2
      split at h2
      · rename_i o q
        rw [q, He.emptyTab_eq h2]
      · cases h2
  keeps := fun _ _ _ ⟨K, hK, c⟩ k => ⟨K, PySem.W.Frag.In.keeps hK k, ⟨c.says, c.ref_, c.hd, c.out, fun p hp => k _ _ (c.empty p hp)⟩⟩
theorem obsV_eq {n : Nat} {T : FactsT} {g : Addr → Option Obj} {s : Shared} (h : ∀ a, g a = s.heap.get? a) : T.obsT n g = (hookV n T).obs s := by
  have e : g = s.heap.get? := funext h
  rw [e] <;> rfl
/-- a law over such a head -/
theorem walk_ofV {l : PySem.W.OpenLaw} {n k m : Nat} {T : FactsT} {q : Program} {loose : List Str} {XP : (Str → Option Value) → Heap → Prop} {d : DefRec} {CX : CXT} {x : Str}
    (hn : l.most = some n) (hn2 : n ≤ sizeLine) (hdf : d.params.defaults = []) (hr : Room k callerA)
    (F : ∀ (w : World) (mg : Str → Option Value) (fa : Addr) (h : Heap) (K : PySem.W.Frag), K.In h → T.SaysT K h → h.Ns mainGlobals mg → mg d.name = some (.ref fa) →
      ∃ (fd : FuncData) (sp : Sp), (∀ (s : Shared) (u : Value), BindsTo s fd ⟨[u], []⟩ [(x, u)]) ∧
        (∀ (H : Hp) (a : Addr) (ns : List Int), ns.length ≤ n → (∀ p ∈ T.tabs K, TabG H p.2) → SqL K H a (ns.map V.int) → sp [.ref a] H (fun v _ => v = .bl true) fun _ _ _ => False) ∧
        ∀ base : Heap, K.In base → base.Ns mainGlobals mg → (∀ p ∈ T.tabs K, TabB base mg p.1 p.2) → FnOk l.prog w K mg base CX k fa fd [x] sp)
    (hCX : ∀ (H : Hp) (s : Shared) (e : Value) (s' : Shared), CX [] H s (fun _ _ _ => False) e s' → False) :
    PySem.W.WalkO q loose XP (hookV m T).says l.row.toRowW d [] (fun f vs => PySem.call f vs) := by
  refine Att.attach_callB hn hdf fun w s₀ s₁ mg mb fa o pm cd doc a vs ns G Y ho hd hcd hmg hobj hints hlen hbits hg => ?_
  obtain ⟨K, KX, c⟩ := Y
  obtain ⟨fd, sp, hb, hsp, hF⟩ := F w mg fa _ K KX c G.T.g hmg
  exact LamX.law_callTs KX G.T.g G.T.b G.T.builtins G.T.nolimit hg c.empty c.out (fun p hp => PySem.W.codeHd_of_K KX (c.hd p hp)) G.T.bmain hobj hints (Nat.le_trans hlen hn2) hr (fun base h1 h2 h3 => hF base h1 h2 fun p hp => ⟨(h3 p hp).code, (h3 p hp).bm, (h3 p hp).gP⟩) hb
    (fun H hH hS => hsp H a ns hlen (fun p hp => ⟨#[], hH p hp, by trivial⟩) hS) fun H e s' => hCX H s₁ e s'
end U
set_option Elab.async false
set_option linter.all false
set_option maxRecDepth 100000
set_option maxHeartbeats 1000000
namespace U
open PySem PySem.Spec PyProof.Rows L2
section
variable {X : Cx}
/-- *: two ints | a text and an int | a list and an int -/
def uMulS : R2 := fun x y H Q => match x, y with
  | .int i, .int j => CMul i j ∧ Q (.int (i * j)) H
  | .str z, .int n => z.length ≤ 1000 ∧ -10000 ≤ n ∧ n ≤ 10000 ∧ Q (.str (Txt.mul z n)) H
  | .ref l, .int k => rRep x y H Q
  | _, _ => False
theorem o_mulS : OpR X (binaryOp .Mult) uMulS := by
  intro pins s σ H x y v u Q I rx ry h
  match x, y, h with
  | .int i, .int j, h => exact op_mul pins s σ H _ _ v u Q I rx ry ⟨i, j, rfl, rfl, h.1, h.2⟩
  | .str z, .int n, ⟨h1, h2, h3, q⟩ =>
    obtain ⟨t, rfl⟩ := rx
    obtain ⟨t', rfl⟩ := ry
    refine SB.mul (mulOk_of 1000 10000 h1 (by omega) (by omega) (by decide) (by decide)) fun t2 k => ⟨.str _, H, I.tok _, ⟨_, rfl⟩, q⟩
  | .ref l, .int k, h => exact op_rep pins s σ H _ _ v u Q I rx ry h
end
section
variable {X : Cx}
/-- a class's constant -/
def CCon (K : PySem.W.Frag) (x f : Str) (v : V) : Prop := ∃ mc u, ClX.CRead K (He.ga K x) mc ∧ ClX.CVal K (He.ga K x) mc f v u
theorem kCv {K : PySem.W.Frag} {x f : Str} {v : V} {p pos : Pos} (hm : X.mg x = some (.ref (He.ga K x))) (h : CCon K x f v) (hg : Gl X x := by rfl) (hd : (x == ("__debug__" : Str)) = false := by decide) (eK : X.K = K := by rfl) : PE X (.Attribute (.Name x p) f pos) (tC v) := by
  subst eK
  obtain ⟨mc, u, h1, h2⟩ := h
  exact peI (ClX.pe_cval (pe_glob (v := .ref (He.ga X.K x)) hg hm rfl hd)) fun σ H Q q => ⟨_, mc, v, u, rfl, h1, h2, q⟩
/-- tables -/
def TbG (tb : List Addr) (H : Hp) : Prop := ∀ p ∈ tb, GxR.TabG H p
theorem TbG.keep0 {tb : List Addr} {H H' : Hp} (h : TbG tb H) (k : Kp [] H H') : TbG tb H' := fun p hp => U.TabG.keep (h p hp) k (by simp)
theorem TbG.keep1 {tb : List Addr} {H H' : Hp} {a : Addr} {o : HO} (h : TbG tb H) (k : Kp [a] H H') (e : H a = some o) (t : isTab o = false := by rfl) : TbG tb H' := fun p hp => U.TabG.keep (h p hp) k (by simpa using U.TabG.ne (h p hp) e t)
theorem TbG.new {tb : List Addr} {H : Hp} {a : Addr} {o : HO} (h : TbG tb H) (n : H a = none) : TbG tb (upd H a o) := h.keep0 (Kp.new n)
theorem TbG.put {tb : List Addr} {H : Hp} {a : Addr} {o u : HO} (h : TbG tb H) (e : H a = some u) (t : isTab u = false := by rfl) : TbG tb (upd H a o) := h.keep1 (Kp.set (by simp)) e t
end
theorem foldl_cat (c : Array Nat) : ∀ (k : Nat) (acc : Array Nat), ((List.replicate k c).foldl (· ++ ·) acc).toList = acc.toList ++ (List.replicate k c.toList).flatten
  | 0, acc => by simp
  | k + 1, acc => by
    rw [List.replicate_succ, List.foldl_cons, foldl_cat c k, List.replicate_succ, List.flatten_cons]
    simp
theorem mul_cps (z : Str) (n : Int) : (Txt.mul z n).cps.toList = (List.replicate n.toNat z.cps.toList).flatten := by
  unfold Txt.mul
  by_cases h1 : n < 1
  · rw [if_pos h1, show n.toNat = 0 by omega]; rfl
  · rw [if_neg h1]
    by_cases h2 : (n == 1 || z.length == 0) = true
    · rw [if_pos h2]
      rcases Bool.or_eq_true_iff.mp h2 with h | h
      · have : n = 1 := by simpa using h
        subst this
        simp
      · have h0 : z.cps.toList = [] := by
          have : z.length = 0 := by simpa using h
          rw [len_cps] at this
          exact List.eq_nil_of_length_eq_zero this
        rw [h0]
        have e : ∀ k : Nat, (List.replicate k ([] : List Nat)).flatten = [] := fun k => by
          induction k with
          | zero => rfl
          | succ k ih => rw [List.replicate_succ, List.flatten_cons, ih]; rfl
        rw [e]
    · rw [if_neg h2]
      show ((List.replicate n.toNat z.cps).foldl (· ++ ·) #[]).toList = _
      rw [foldl_cat]
      simp
/-- one sign n times -/
theorem mul_one (c : Nat) (n : Int) : (Txt.mul ⟨#[c]⟩ n).cps.toList = List.replicate n.toNat c := by
  rw [mul_cps]
  show (List.replicate n.toNat [c]).flatten = _
  generalize n.toNat = k
  induction k with
  | zero => rfl
  | succ k ih => rw [List.replicate_succ, List.flatten_cons, ih]; rfl
end U
set_option Elab.async false
set_option linter.all false
set_option maxRecDepth 100000
set_option maxHeartbeats 1000000
namespace U
open PySem PySem.Spec PyProof.Rows L2
/-- spaces -/
def spc (n : Nat) : Str := ⟨(List.replicate n 32).toArray⟩
def fL8 : Builtin.Float.FormatSpec := { fill := 32, align := 60, width := some 8 }
theorem parse_L8 : Builtin.Float.parseFormatSpec ("<8" : Str).cps.toList "str" 60 = .ok fL8 := by rfl
theorem sub_all (x : Str) : Builtin.Str.strSub x 0 x.length = x := by
  refine Str.ext' ?_
  unfold Builtin.Str.strSub
  simp [Str.length]
theorem fieldL8 (x : Str) : Builtin.Str.strField x fL8 "str" = .ok (if 8 ≤ x.length then none else some (x ++ spc (8 - x.length))) := by
  show (if (decide (8 ≤ x.length) && true) = true then Except.ok none else Except.ok (some (Builtin.Str.padded (Builtin.Str.strSub x 0 x.length) 0 (8 - (Builtin.Str.strSub x 0 x.length).length - 0) 32))) = _
  rw [sub_all]
  by_cases h : 8 ≤ x.length
  · simp [h]
  · simp only [h, decide_false, Bool.false_and, Bool.false_eq_true, if_false]
    refine congrArg (fun z => Except.ok (some z)) (Str.ext' ?_)
    unfold Builtin.Str.padded spc
    rw [Str.cps_append]
    simp
section
variable {prog : Program} {w : World} {A : Around} {E : Value → Shared → Prop} {s : Shared} {t : Tok} {x : Str}
theorem form_L8 (hx : x.length ≤ 1000) {Q : Value → Shared → Prop} (h : ∀ t' k, Q (.str (x ++ spc (8 - x.length)) t') { s with toks := k }) : wpAny (model prog w) A (formatField (.str x t) "<8") Q E s := by
  refine PySem.W.KXf.field_str (spec' := "<8") rfl rfl (by decide +kernel) (by decide +kernel) ?_ h
  intro _
  apply PySem.W.KPc.meets_of
  intro _ _ _ _ _ _ hh
  unfold Builtin.«str.__format__»
  refine wpAny_bind (wpAny_of_eq (a := (_, _, _)) rfl ?_)
  refine wpAny_bind (wpAny_of_eq (a := some _) rfl ?_)
  kxf_if
  kxf_if
  refine wpAny_bind (PySem.W.KXf.cut_str ?_)
  rw [parse_L8]
  have e : ∀ g : Builtin.Float.FormatSpec, g = fL8 → (if (g.type.isNone && ("<8" : Str).cps.back? == some 0) = true then { g with type := some 0 } else g) = fL8 := fun g h => by subst h; exact if_neg (by decide +kernel)
  have e2 : Builtin.Str.tooLong (fL8.width.getD 0) = false := by decide +kernel
  dsimp only [bind, Except.bind]
  rw [e _ rfl, e2]
  rw [if_neg (by decide), fieldL8]
  by_cases hl : 8 ≤ x.length
  · rw [if_pos hl]
    have z : x ++ spc (8 - x.length) = x := by
      refine Str.ext' ?_
      rw [Str.cps_append, show 8 - x.length = 0 by omega]
      simp [spc]
    rw [z] at hh
    show wpAny _ _ (do rule "str.__format__.unchanged"; ret (Value.str x t)) _ _ _
    refine wpAny_bind (wpAny_rule ?_)
    exact PySem.W.KXf.ret_same rfl hh
  · rw [if_neg hl]
    show wpAny _ _ (retStr (x ++ spc (8 - x.length))) _ _ _
    refine PySem.W.KXf.ret_text rfl ?_ hh
    have : (x ++ spc (8 - x.length)).length = 8 := by
      show (x ++ spc (8 - x.length)).cps.size = 8
      rw [Str.cps_append]
      have : x.length = x.cps.size := rfl
      simp [spc]; omega
    rw [this]; exact sl (by decide)
end
/-! {i:>8} -/
def fR8 : Builtin.Float.FormatSpec := { fill := 32, align := 62, width := some 8 }
theorem parse_R8 : Builtin.Float.parseFormatSpec (">8" : Str).cps.toList "int" 62 = .ok fR8 := by rfl
theorem text_neg (m : Nat) : Str.ofString (toString (Int.negSucc m)) = ⟨(45 :: (Nat.toDigits 10 (m + 1)).map Char.toNat).toArray⟩ := by
  have e : (toString (Int.negSucc m)).toList = '-' :: Nat.toDigits 10 (m + 1) := by
    show ("-" ++ Nat.repr (m + 1)).toList = _
    rw [String.toList_append, Nat.toList_repr]
    rfl
  rw [Str.ofString_eq_toList, e]
  rfl
theorem field_R8 (neg : Bool) (ds : List Nat) (hd : ds.isEmpty = false) : intField' fR8 neg [] ds [] 3 = ⟨(List.replicate (8 - ((if neg then 1 else 0) + ds.length)) 32 ++ ((if neg then [45] else []) ++ ds)).toArray⟩ := by
  have e0 : (0 - ds.length : Nat) = 0 := by omega
  cases neg <;> simp [intField', fR8, hd]
  omega
theorem spec_R8 (a : Int) : intSpecTextOf ">8" a = spc (8 - (Str.ofString (toString a)).length) ++ Str.ofString (toString a) := by
  have e : intSpecTextOf ">8" a = intSpecText fR8 a := by unfold intSpecTextOf; rw [parse_R8]
  have ne : ∀ n, ((Nat.toDigits 10 n).map Char.toNat).isEmpty = false := fun n => by
    have := tDigits_len_ge 10 n
    cases h : Nat.toDigits 10 n with
    | nil => rw [h] at this; simp at this
    | cons _ _ => rfl
  rw [e]
  unfold intSpecText
  cases a with
  | ofNat m =>
    show intField' fR8 (decide (Int.ofNat m < 0)) [] ((Nat.toDigits 10 m).map Char.toNat) [] 3 = _
    rw [show decide (Int.ofNat m < 0) = false from decide_eq_false (Int.not_lt.mpr (Int.natCast_nonneg m)), field_R8 _ _ (ne m), text_ofNat]
    refine Str.ext' ?_
    rw [Str.cps_append]
    simp [spc, Str.length]
  | negSucc m =>
    show intField' fR8 (decide (Int.negSucc m < 0)) [] ((Nat.toDigits 10 (m + 1)).map Char.toNat) [] 3 = _
    rw [decide_eq_true (Int.negSucc_lt_zero m), field_R8 _ _ (ne _), text_neg]
    refine Str.ext' ?_
    rw [Str.cps_append]
    simp [spc, Str.length]
    omega
section
variable {prog : Program} {w : World} {A : Around} {E : Value → Shared → Prop} {s : Shared} {t : Tok}
theorem form_R8 {a : Int} (h0 : a.natAbs.log2 < 1920) {Q : Value → Shared → Prop} (h : ∀ t' k, Q (.str (spc (8 - (Str.ofString (toString a)).length) ++ Str.ofString (toString a)) t') { s with toks := k }) : wpAny (model prog w) A (formatField (.int a t) ">8") Q E s := by
  refine PySem.W.KXf.field_int (spec' := ">8") rfl (by decide +kernel) (by decide +kernel) ?_ h
  intro _
  apply PySem.W.KPc.meets_of
  intro _ _ _ _ _ _ hh
  unfold Builtin.«int.__format__»
  refine wpAny_bind (wpAny_of_eq (a := (_, _)) rfl ?_)
  refine wpAny_bind (wpAny_of_eq (a := _) rfl ?_)
  kxf_if
  refine wpAny_bind (wpAny_typeNameOf (T := "str") (typeIs_str _ _ _) (by decide) fun _ => ?_)
  refine wpAny_bind (wpAny_of_eq (a := some _) rfl ?_)
  kxf_if
  kxf_if
  refine wpAny_bind (wpAny_typeNameOfCut_int ?_)
  rw [parse_R8]
  dsimp only
  refine wpAny_ite (PySem.W.KPc.ite_yes (by decide +kernel) ?_)
  (repeat (first | (refine wpAny_ite (PySem.W.KPc.ite_no (by decide +kernel) ?_)) | (refine wpAny_ite (PySem.W.KPc.ite_yes (by decide +kernel) ?_))))
  refine wpAny_bind (wpAny_of_eq (PySem.overDigitLimit_small h0) ?_)
  (repeat (first | (refine wpAny_ite (PySem.W.KPc.ite_no (by decide +kernel) ?_)) | (refine wpAny_ite (PySem.W.KPc.ite_yes (by decide +kernel) ?_))))
  have fit : ∀ T : Str, T = spc (8 - (Str.ofString (toString a)).length) ++ Str.ofString (toString a) → T.length ≤ sizeLine := by
    rintro _ rfl
    have : (Str.ofString (toString a)).length ≤ sizeLine := int_text_fits h0
    have hl : (spc (8 - (Str.ofString (toString a)).length) ++ Str.ofString (toString a)).length = (8 - (Str.ofString (toString a)).length) + (Str.ofString (toString a)).length := by
      show (spc _ ++ _).cps.size = _
      rw [Str.cps_append]
      simp [spc, Str.length]
    rw [hl]
    by_cases h8 : 8 ≤ (Str.ofString (toString a)).length
    · rw [show 8 - (Str.ofString (toString a)).length = 0 by omega, Nat.zero_add]; exact this
    · rw [show 8 - (Str.ofString (toString a)).length + (Str.ofString (toString a)).length = 8 by omega]; exact sl (by decide)
  refine (fun e => PySem.W.KXf.ret_text e (fit _ e) hh) ?_
  rw [← spec_R8]
  have e : intSpecTextOf ">8" a = intSpecText fR8 a := by unfold intSpecTextOf; rw [parse_R8]
  rw [e]
  unfold intSpecText
  rfl
end
section
variable {X : Cx}
/-- {x:<8}, x a text -/
def tFmtL (te : TE) : TE := fun σ H Q => te σ H fun x H1 => ∃ y : Str, x = .str y ∧ y.length ≤ 1000 ∧ Q (.str (y ++ spc (8 - y.length))) H1
theorem pe_fmtL {e : Expr} {te : TE} {pos p1 p2 : Pos} {k : Nat} (he : PE X e te) : PE X (.FormattedValue e (-1) (some (.JoinedStr [.Constant (.str "<8") k p1] p2)) pos) (tFmtL te) := by
  refine ⟨fun pins s σ H Q I h => ?_⟩
  refine wpAny_FormattedValue_spec (thn (he.run pins s σ H _ I h) fun v s1 hv => ?_)
  obtain ⟨x, H1, I1, r1, y, rfl, hz, q⟩ := hv
  obtain ⟨t, rfl⟩ := r1
  refine thn ((pe_joined1 (pe_str (X := X))).run pins s1 σ H1 (fun v H2 => v = .str "<8" ∧ H2 = H1) I1 ⟨rfl, rfl⟩) fun v s2 hv => ?_
  obtain ⟨x, H2, I2, r2, rfl, rfl⟩ := hv
  obtain ⟨t2, rfl⟩ := r2
  exact ⟨_, _, rfl, form_L8 hz fun t' k => ⟨.str _, H2, I2.tok _, ⟨_, rfl⟩, q⟩⟩
/-- {i:>8}, i an int -/
def tFmtR (te : TE) : TE := fun σ H Q => te σ H fun x H1 => ∃ i : Int, x = .int i ∧ i.natAbs.log2 < 1920 ∧ Q (.str (spc (8 - (Str.ofString (toString i)).length) ++ Str.ofString (toString i))) H1
theorem pe_fmtR8 {e : Expr} {te : TE} {pos p1 p2 : Pos} {k : Nat} (he : PE X e te) : PE X (.FormattedValue e (-1) (some (.JoinedStr [.Constant (.str ">8") k p1] p2)) pos) (tFmtR te) := by
  refine ⟨fun pins s σ H Q I h => ?_⟩
  refine wpAny_FormattedValue_spec (thn (he.run pins s σ H _ I h) fun v s1 hv => ?_)
  obtain ⟨x, H1, I1, r1, i, rfl, hz, q⟩ := hv
  obtain ⟨t, rfl⟩ := r1
  refine thn ((pe_joined1 (pe_str (X := X))).run pins s1 σ H1 (fun v H2 => v = .str ">8" ∧ H2 = H1) I1 ⟨rfl, rfl⟩) fun v s2 hv => ?_
  obtain ⟨x, H2, I2, r2, rfl, rfl⟩ := hv
  obtain ⟨t2, rfl⟩ := r2
  exact ⟨_, _, rfl, form_R8 hz fun t' k => ⟨.str _, H2, I2.tok _, ⟨_, rfl⟩, q⟩⟩
/-- name = {k: v for ..} on one line, the name a local -/
theorem ps_setDc {i : Nat} {y : Str} {py : Pos} {kx vx tg iter : Expr} {ifs : List Expr} {scope : Scope} {own : List (Str × Nat)} {pos spos : Pos} {wi : TI} {g : TG} {tt : TT} {tk tv : TE} (hc : X.calm = true) (hN : X.N.Nodup) (hy : X.N[i]? = some y) (hyl : X.env.scope.names.lookup y = some .local)
    (hsw : swapsWith (.DictComp kx vx [⟨tg, iter, ifs, 0⟩] scope pos) (some (.Name y py)) spos.line X.env = pure true) (hi : PI X tg iter wi) (ok : BlkOk X.N X.env.scope scope own)
    (hg : ∀ (s : Shared) (H : Hp) (C : Addr) (cl : List (Str × Addr)) (fp : List Addr), PG (X.blk s H scope (compEnvC scope cl C X.env) fp) tg g) (ht : ∀ (s : Shared) (H : Hp) (C : Addr) (cl : List (Str × Addr)) (fp : List Addr), PTs (X.blk s H scope (compEnvC scope cl C X.env) fp) ifs tt)
    (hk : ∀ (s : Shared) (H : Hp) (C : Addr) (cl : List (Str × Addr)) (fp : List Addr), PE (X.blk s H scope (compEnvC scope cl C X.env) fp) kx tk)
    (he : ∀ (s : Shared) (H : Hp) (C : Addr) (cl : List (Str × Addr)) (fp : List Addr), PE (X.blk s H scope (compEnvC scope cl C X.env) fp) vx tv) (hs : ∀ x, foldedSetIterable iter X.env x = pure x := by intro _; rfl) :
    PS X (.Assign [.Name y py] (.DictComp kx vx [⟨tg, iter, ifs, 0⟩] scope pos) spos) (tAsg (tDc wi g tt tk tv (own.map (·.2))) (gName i)) := by
  refine ⟨fun pins s σ H D I h => ?_⟩
  rw [exec_Assign_Name_used _ _ _ _ hsw]
  refine wpAny_bind (wpAny_standAt (wpAny_bind ?_))
  show wpAny _ X.A (do let _ ← comprehension (.DictComp kx vx [⟨tg, iter, ifs, 0⟩] scope pos) scope X.env (firstIterPos [⟨tg, iter, ifs, 0⟩] pos) newDict false (eval iter X.env) (some (assign (.Name y py) X.env))) _ _ s
  have h : tDc wi g tt tk tv (own.map (·.2)) σ H (fun x H1 => gName i x σ H1 D.nx) := h
  refine wpAny_bind (thn (dc_core (Qf := fun _ s' => SP X pins D .next s') hc hN I hi ok hg ht hk he hs h fun L C s' m H' I' q hn f => ?_) fun _ s' hq => wpAny_pure (wpAny_pure hq))
  show wpAny _ _ (assign (.Name y py) X.env (.ref L)) _ _ _
  refine wpAny_assign_Name (store_ok2 (v := V.ref L) I' hN hy (.inl hyl) rfl (fun s2 I2 ⟨a, sb, ha⟩ => ?_) (.inr hyl))
  obtain ⟨f0, f1, f2, f3, f4, f5⟩ := f
  have haC : C ≠ a := by
    rcases ha with z | z
    · rw [z]; exact f1
    · exact fun e => f4 y a z e.symm
  refine ⟨m, hn.sameBut sb haC, fun h3 sb3 => ?_⟩
  exact ⟨_, H', I2.turned (t' := s2.toks) (fun b o hb e => (sb3.2 b hb).trans e) f0 f1 f3 f4 f5, q⟩
theorem sw_dict {kx vx : Expr} {gs : List Comprehension} {scope : Scope} {pos py : Pos} {y : Str} {l : Nat} {env : Env} (hk : env.scope.kind = .function) (hy : env.scope.names.lookup y = some .local) (hl : (py.line == pos.line) = true)
    (ha : (scope.names.any fun (n, k) => n == y && (k == .local || k == .cell)) = false) : swapsWith (.DictComp kx vx gs scope pos) (some (.Name y py)) l env = pure true := by
  have ky : env.kindOf y = some .local := hy
  have hb : env.blockKind = .function := by unfold Env.blockKind; rw [hk]; rfl
  unfold swapsWith
  simp only [hb, ky, ha, Expr.pos, hl]
  rfl
/-- dict(d) -/
def uDict : CR := fun xs H Q => ∃ (a : Addr) (kvs : List (Key × V)), xs = [.ref a] ∧ H a = some (.dK kvs) ∧ ∀ p, H p = none → Q (.ref p) (upd H p (.dK kvs))
theorem c_dict : CallR X (.type "dict") uDict := fun pins s σ H xs us Q I r ⟨a, kvs, e, h, q⟩ => call_dictD pins s σ H xs us Q I r ⟨a, kvs, e, .inl h, q⟩
end
end U
set_option Elab.async false
set_option linter.all false
set_option maxRecDepth 100000
set_option maxHeartbeats 1000000
namespace U
open PySem PySem.Spec PyProof.Rows L2
/-! methods of own classes -/
structure Met (P : Program) (w : World) (K : PySem.W.Frag) (mg : Str → Option Value) (base : Heap) (CX : CXT) (k : Nat) (cls m : Str) (ps : List Str) (sp : Sp) : Prop where
  ok : ∃ f fd, Cls K (He.ga K cls) ∧ Meth K (He.ga K cls) m f ∧ Binds K fd ps [] ∧ FnOk P w K mg base CX k f fd ps sp
def uMeth (C : Addr) (m : Str) (sp : Sp) (E : XK) (te : TE) (t : TA) : TE := fun σ H Q => te σ H fun x H1 => ∃ a dx fs, x = .ref a ∧ H1 a = some (.ins C dx fs) ∧ fs.lookup m = none ∧ t σ H1 fun vs H2 => sp (x :: vs) H2 Q E
def uMethS (C : Addr) (m : Str) (sp : Sp) (W : WX) (te : TE) (t : TA) : TE := fun σ H Q => te σ H fun x H1 => ∃ a dx fs, x = .ref a ∧ H1 a = some (.ins C dx fs) ∧ fs.lookup m = none ∧ t σ H1 fun vs H2 => sp (x :: vs) H2 Q (WE W σ)
section
variable {X : Cx} {k : Nat} {cls m : Str} {ps : List Str} {sp : Sp} {W : WX} {E : XK} {CX : CXT} {o e : Expr} {es : List Expr} {te : TE} {t : TA} {apos pos p : Pos} {pl : Sem Bool}
theorem ue_meth (M : Met X.prog X.w X.K X.mg X.base CX k cls m ps sp) (hr : Room k X.A) (hx : Passes CX X E) (he : PE X o te) (ha : PA X (e :: es) t)
    (hst : starEach (e :: es) X.env = (false, eval e X.env) :: starEach es X.env := by rfl) (hpl : (backTo pos (starEach es X.env)).any (·.1) = false := by rfl)
    (ht : eval (.Call (.Attribute o m apos) (e :: es) [] pos) X.env = (do
      let ov ← eval o X.env
      standAt apos.atName
      let (f, first) ← holding [ov] (getMethod ov m pl)
      callWith pos f first (backTo pos (starEach (e :: es) X.env)) (backToKw pos (keywordEach [] X.env))) := by rfl) :
    PE X (.Call (.Attribute o m apos) (e :: es) [] pos) (uMeth (He.ga X.K cls) m sp E te t) := by
  obtain ⟨f, fd, c, hm, hb, F⟩ := M.ok
  refine peI (pe_meth (dvs := []) (ds := []) he c hm F hr hb .nil hx ha hst hpl ht) fun σ H Q q => ?_
  unfold uMeth at q
  simpa only [tMeth, List.append_nil] using q
theorem ue_meth0 (M : Met X.prog X.w X.K X.mg X.base CX k cls m ps sp) (hr : Room k X.A) (hx : Passes CX X E) (he : PE X o te)
    (ht : eval (.Call (.Attribute o m apos) [] [] pos) X.env = (do
      let ov ← eval o X.env
      standAt apos.atName
      let (f, first) ← holding [ov] (getMethod ov m pl)
      callWith pos f first (backTo pos (starEach [] X.env)) (backToKw pos (keywordEach [] X.env))) := by rfl) :
    PE X (.Call (.Attribute o m apos) [] [] pos) (uMeth (He.ga X.K cls) m sp E te tNil) := by
  obtain ⟨f, fd, c, hm, hb, F⟩ := M.ok
  refine peI (pe_meth0 (dvs := []) (ds := []) he c hm F hr hb .nil hx ht) fun σ H Q q => ?_
  unfold uMeth at q
  simpa only [tMeth, List.append_nil] using q
theorem ue_methS (M : Met X.prog X.w X.K X.mg X.base (L2.CX X.prog X.w) k cls m ps sp) (hr : Room k X.A) (tk : Takes X W) (he : PE X o te) (ha : PA X (e :: es) t)
    (hst : starEach (e :: es) X.env = (false, eval e X.env) :: starEach es X.env := by rfl) (hpl : (backTo pos (starEach es X.env)).any (·.1) = false := by rfl)
    (ht : eval (.Call (.Attribute o m apos) (e :: es) [] pos) X.env = (do
      let ov ← eval o X.env
      standAt apos.atName
      let (f, first) ← holding [ov] (getMethod ov m pl)
      callWith pos f first (backTo pos (starEach (e :: es) X.env)) (backToKw pos (keywordEach [] X.env))) := by rfl) :
    PE X (.Call (.Attribute o m apos) (e :: es) [] pos) (uMethS (He.ga X.K cls) m sp W te t) := by
  obtain ⟨f, fd, c, hm, hb, F⟩ := M.ok
  refine ⟨fun pins s σ H Q I h => ?_⟩
  refine PySem.W.methodCall_KW (pl := pl) (thn (he.run pins s σ H _ I h) fun u s1 ⟨x, H1, I1, rx, a, dx, fs, ex, ea, l, q⟩ => ?_) ht
  subst ex
  obtain rfl : u = Value.ref a := rx
  refine getmeth_ok I1 ea c hm l ?_
  refine PySem.W.callWith_K (first := [.ref a]) (h₀ := X.base) I.ok.mod.kin hm.kp (thn (ha.run pos pins s1 σ H1 _ I1 q) fun us s2 ⟨vs, H2, I2, r, q2⟩ => ⟨I2.kIn, ?_⟩) hst hpl
  exact run_fnS (E := WE W) (us := .ref a :: us) (vs := .ref a :: vs) F hr hb (passAt tk σ) I2 (.cons rfl r) q2
/-! a classmethod of no argument; making through a local name -/
structure Cmt (P : Program) (w : World) (K : PySem.W.Frag) (mg : Str → Option Value) (base : Heap) (CX : CXT) (k : Nat) (cls m : Str) (sp : Sp) : Prop where
  ok : ∃ p g fd ps, ClX.CRead K (He.ga K cls) (.type "type") ∧ ClX.CMet K (He.ga K cls) (.type "type") m p g ∧ Binds K fd ps [] ∧ FnOk P w K mg base CX k g fd ps sp
def uCm0 (C : Addr) (sp : Sp) (E : XK) : TE := fun σ H Q => sp [.ref C] H Q E
theorem ue_cm0 (M : Cmt X.prog X.w X.K X.mg X.base CX k cls m sp) (hm : X.mg cls = some (.ref (He.ga X.K cls))) (hr : Room k X.A) (hx : Passes CX X E) (hg : Gl X cls := by rfl) (hd : (cls == ("__debug__" : Str)) = false := by decide)
    (ht : eval (.Call (.Attribute (.Name cls p) m apos) [] [] pos) X.env = (do
      let ov ← eval (.Name cls p) X.env
      standAt apos.atName
      let (f, first) ← holding [ov] (getMethod ov m pl)
      callWith pos f first (backTo pos (starEach [] X.env)) (backToKw pos (keywordEach [] X.env))) := by rfl) :
    PE X (.Call (.Attribute (.Name cls p) m apos) [] [] pos) (uCm0 (He.ga X.K cls) sp E) := by
  obtain ⟨p', g, fd, ps, r, c, hb, F⟩ := M.ok
  have FR := F.raw (dvs := []) (ds := []) hb .nil
  refine ⟨fun pins s σ H Q I h => ?_⟩
  refine PySem.W.methodCall_KW (pl := pl) (thn ((pe_glob (v := .ref (He.ga X.K cls)) hg hm rfl hd).run pins s σ H (fun x H1 => x = .ref (He.ga X.K cls) ∧ sp [.ref (He.ga X.K cls)] H1 Q E) I ⟨rfl, h⟩) fun u s1 ⟨x, H1, I1, rx, ex, q⟩ => ?_) ht
  subst ex
  obtain rfl : u = Value.ref (He.ga X.K cls) := rx
  refine ClX.getmethcm_ok I1 r c fun s2 I2 => ?_
  exact PySem.W.callWith_M0 ⟨ClX.pin_at I2, I2.kIn⟩ c.fi (ClX.run_cm (us := []) (vs := []) FR hr hx I2 .nil (by simpa using q))
theorem ue_makeL {x : Str} {i : Nat} (M : Mkr X.prog X.w X.K X.mg X.base CX k cls ps sp) (hr : Room (k + 1) X.A) (hx : Passes CX X E) (hN : X.N[i]? = some x) (hv : Vis X.env.scope x) (ha : PA X (e :: es) t)
    (hdb : (x == ("__debug__" : Str)) = false := by decide) (hcd : (x == ("__classdict__" : Str)) = false := by decide)
    (he : starEach (e :: es) X.env = (false, eval e X.env) :: starEach es X.env := by rfl) (hpl : (backTo pos (starEach es X.env)).any (·.1) = false := by rfl) :
    PE X (.Call (.Name x p) (e :: es) [] pos) (fun σ H Q => σ[i]? = some (some (.ref (He.ga X.K cls))) ∧ uMake (He.ga X.K cls) sp E t σ H Q) := by
  obtain ⟨fI, fd, hm, hk, hb, F⟩ := M.ok
  refine ⟨fun pins s σ H Q I h => ?_⟩
  obtain ⟨hs, h⟩ := h
  refine wpAny_Call_Name_kw (thn ((pe_var (pos := p) hN hv hdb hcd).run pins s σ H (fun v H1 => v = .ref (He.ga X.K cls) ∧ H1 = H) I ⟨_, hs, rfl, rfl⟩) fun u s1 ⟨v, H1, I1, r1, q1⟩ => ?_)
  obtain ⟨rfl, rfl⟩ := q1
  cases r1
  refine PySem.W.callWith_K (h₀ := X.base) I.ok.mod.kin hk.kp (thn (ha.run pos pins s1 σ _ _ I1 h) fun us s2 ⟨vs, H2, I2, r, q⟩ => ⟨I2.kIn, ?_⟩) he hpl
  exact run_make (dvs := []) (ds := []) hk F hr hb .nil hx I2 r (by simpa only [List.append_nil] using q)
section
variable (K : PySem.W.Frag)
theorem kMeth (M : Met X.prog X.w X.K X.mg X.base CX k cls m ps sp) (hr : Room k X.A) (hx : Passes CX X E) (he : PE X o te) (ha : PA X (e :: es) t)
    (hst : starEach (e :: es) X.env = (false, eval e X.env) :: starEach es X.env := by rfl) (hpl : (backTo pos (starEach es X.env)).any (·.1) = false := by rfl)
    (ht : eval (.Call (.Attribute o m apos) (e :: es) [] pos) X.env = (do
      let ov ← eval o X.env
      standAt apos.atName
      let (f, first) ← holding [ov] (getMethod ov m pl)
      callWith pos f first (backTo pos (starEach (e :: es) X.env)) (backToKw pos (keywordEach [] X.env))) := by rfl) (eK : X.K = K := by rfl) :
    PE X (.Call (.Attribute o m apos) (e :: es) [] pos) (uMeth (He.ga K cls) m sp E te t) := eK ▸ ue_meth M hr hx he ha hst hpl ht
theorem kMeth0 (M : Met X.prog X.w X.K X.mg X.base CX k cls m ps sp) (hr : Room k X.A) (hx : Passes CX X E) (he : PE X o te)
    (ht : eval (.Call (.Attribute o m apos) [] [] pos) X.env = (do
      let ov ← eval o X.env
      standAt apos.atName
      let (f, first) ← holding [ov] (getMethod ov m pl)
      callWith pos f first (backTo pos (starEach [] X.env)) (backToKw pos (keywordEach [] X.env))) := by rfl) (eK : X.K = K := by rfl) :
    PE X (.Call (.Attribute o m apos) [] [] pos) (uMeth (He.ga K cls) m sp E te tNil) := eK ▸ ue_meth0 M hr hx he ht
theorem kMethS (M : Met X.prog X.w X.K X.mg X.base (L2.CX X.prog X.w) k cls m ps sp) (hr : Room k X.A) (tk : Takes X W) (he : PE X o te) (ha : PA X (e :: es) t)
    (hst : starEach (e :: es) X.env = (false, eval e X.env) :: starEach es X.env := by rfl) (hpl : (backTo pos (starEach es X.env)).any (·.1) = false := by rfl)
    (ht : eval (.Call (.Attribute o m apos) (e :: es) [] pos) X.env = (do
      let ov ← eval o X.env
      standAt apos.atName
      let (f, first) ← holding [ov] (getMethod ov m pl)
      callWith pos f first (backTo pos (starEach (e :: es) X.env)) (backToKw pos (keywordEach [] X.env))) := by rfl) (eK : X.K = K := by rfl) :
    PE X (.Call (.Attribute o m apos) (e :: es) [] pos) (uMethS (He.ga K cls) m sp W te t) := eK ▸ ue_methS M hr tk he ha hst hpl ht
theorem kCm0 (M : Cmt X.prog X.w X.K X.mg X.base CX k cls m sp) (hm : X.mg cls = some (.ref (He.ga K cls))) (hr : Room k X.A) (hx : Passes CX X E) (hg : Gl X cls := by rfl) (hd : (cls == ("__debug__" : Str)) = false := by decide)
    (ht : eval (.Call (.Attribute (.Name cls p) m apos) [] [] pos) X.env = (do
      let ov ← eval (.Name cls p) X.env
      standAt apos.atName
      let (f, first) ← holding [ov] (getMethod ov m pl)
      callWith pos f first (backTo pos (starEach [] X.env)) (backToKw pos (keywordEach [] X.env))) := by rfl) (eK : X.K = K := by rfl) :
    PE X (.Call (.Attribute (.Name cls p) m apos) [] [] pos) (uCm0 (He.ga K cls) sp E) := by
  subst eK
  exact ue_cm0 M hm hr hx hg hd ht
theorem kMakeL {x : Str} {i : Nat} (M : Mkr X.prog X.w X.K X.mg X.base CX k cls ps sp) (hr : Room (k + 1) X.A) (hx : Passes CX X E) (hN : X.N[i]? = some x) (hv : Vis X.env.scope x) (ha : PA X (e :: es) t)
    (hdb : (x == ("__debug__" : Str)) = false := by decide) (hcd : (x == ("__classdict__" : Str)) = false := by decide)
    (he : starEach (e :: es) X.env = (false, eval e X.env) :: starEach es X.env := by rfl) (hpl : (backTo pos (starEach es X.env)).any (·.1) = false := by rfl) (eK : X.K = K := by rfl) :
    PE X (.Call (.Name x p) (e :: es) [] pos) (fun σ H Q => σ[i]? = some (some (.ref (He.ga K cls))) ∧ uMake (He.ga K cls) sp E t σ H Q) := eK ▸ ue_makeL M hr hx hN hv ha hdb hcd he hpl
end
/-! lists: insert, pop, clear; dicts: clear -/
section
variable (K : PySem.W.Frag)
theorem kBm0 {T id : String} {name : Str} {r : V → List V → Hp → VK → Prop} {cpos : Pos} (pa : PlainAttrs T) (slot : Slot T name id) (hty : typeOf (.builtin id) = pure (.type "method_descriptor")) (hm : MtR X id r) (ho : PE X o te)
    (hbase : attributeBase o name X.env (eval o X.env) = eval o X.env := by rfl) (hline : (apos.endLine == cpos.line) = true := by rfl) (eK : X.K = K := by rfl) : PE X (.Call (.Attribute o name apos) [] [] cpos) (tBM0 K T r te) := eK ▸ pe_bm0 pa slot hty hm ho hbase hline
theorem kBm {T id : String} {name : Str} {r : V → List V → Hp → VK → Prop} {cpos : Pos} (pa : PlainAttrs T) (slot : Slot T name id) (hty : typeOf (.builtin id) = pure (.type "method_descriptor")) (hm : MtR X id r) (ho : PE X o te) (ha : PA X (e :: es) t)
    (hbase : attributeBase o name X.env (eval o X.env) = eval o X.env := by rfl)
    (hfew : ((backTo cpos (starEach (e :: es) X.env)).all (fun x => !x.1) && (backToKw cpos (keywordEach [] X.env)).all (fun x => x.1.isSome)
      && decide ((e :: es).length + ([] : List Keyword).length + (if ([] : List Keyword).isEmpty then 0 else 1) < 30)) = true := by rfl)
    (hline : (apos.endLine == cpos.line) = true := by rfl) (hs : starEach (e :: es) X.env = (false, eval e X.env) :: starEach es X.env := by rfl) (hplain : (backTo cpos (starEach es X.env)).any (·.1) = false := by rfl) (eK : X.K = K := by rfl) :
    PE X (.Call (.Attribute o name apos) (e :: es) [] cpos) (tBM K T r te t) := eK ▸ pe_bm pa slot hty hm ho ha hbase hfew hline hs hplain
end
end
/-! enumerate over a tuple -/
def IteT (K : PySem.W.Frag) (a : Addr) : It :=
  ⟨fun i H => ∃ (xs : List V) (x : V), SqT K H a xs ∧ xs[i]? = some x, fun i H v H' => ∃ T x, v = .ref T ∧ H T = none ∧ H' = upd H T (.tup [.int (i : Nat), x]) ∧ ∀ xs, SqT K H a xs → xs[i]? = some x, fun i H => ∃ xs : List V, SqT K H a xs ∧ xs.length = i⟩
theorem turn_enumT {P : Program} {w : World} {K : PySem.W.Frag} {elts : List Expr} {kk : Nat} {tpos : Pos} (a e it : Addr) :
    Turn P w K (.Tuple elts kk tpos) (IteT K a) [e, it] e (fun i h => (∃ old, IsEnum h e it ((i : Nat) : Int) old) ∧ h.IsTupleIter it a i ∧ e ≠ it) where
  mem := by simp
  obj := fun i h st b hb => by
    obtain ⟨⟨old, he⟩, ⟨o, ho, hc, hd⟩, _⟩ := st
    have e' : b = e ∨ b = it := by simpa using hb
    rcases e' with z | z
    · rw [z]; exact ⟨_, he, fun v q => nomatch q⟩
    · rw [z]; exact ⟨o, ho, fun v q => by rw [hd] at q; cases q⟩
  keep := fun i h h' st k => let ⟨⟨old, he⟩, hi, hne⟩ := st; ⟨⟨old, k e (by simp) _ he⟩, hi.at fun o q => k it (by simp) o q, hne⟩
  item := by
    intro X hP hw hK hc i pins s σ H E I hf st hg
    subst hP hw hK
    obtain ⟨⟨old, he⟩, hit, hne⟩ := st
    obtain ⟨xs, x, hq, hx⟩ := hg
    obtain ⟨its, rv, p, hz⟩ := I.tuple hq
    obtain ⟨u, hu, ru⟩ := rv.get hx
    have hel : e < s.heap.objs.size := Heap.lt_size he
    have hil : it < s.heap.objs.size := by obtain ⟨_, q, _⟩ := hit; exact Heap.lt_size q
    have hae : a ≠ e := fun z => by
      obtain ⟨o, ho, hc', _⟩ := p
      rw [z] at ho
      have e1 := ho.symm.trans he
      cases e1
      exact absurd (Value.type.inj hc') (by decide)
    have hai : a ≠ it := fun z => by
      obtain ⟨o, ho, hc', _⟩ := p
      obtain ⟨o2, ho2, hc2, _⟩ := hit
      rw [z] at ho
      have e1 := ho.symm.trans ho2
      cases e1
      rw [hc2] at hc'
      exact absurd (Value.type.inj hc') (by decide)
    have hlt : i < its.toArray.size := by
      have := (List.getElem?_eq_some_iff.mp hu).1
      simpa using this
    refine wpAny_pyNext_enum_itemC (c := (i : Nat)) (Draws.tuple (prog := X.prog) (w := X.w) (A := X.A.in1) (I.ok.hd hc) it a hai its.toArray) he ⟨hit, p⟩ hlt hne (by simp; exact ⟨hne, fun z => hae z.symm⟩) fun x' h' tk hP ho hst' hT hsz hk => ?_
    obtain ⟨hit', _⟩ := hst'
    have ex : x' = u := by
      have e1 : its.toArray[i]? = some u := by simpa using hu
      exact Option.some.inj (hP.symm.trans e1)
    subst ex
    refine ⟨_, rfl, wpAny_letOwnedTupleGo_enum (s := { s with heap := h', toks := tk + 1 }) ho fun h'' he' sb => ?_⟩
    have hT2 : h''.get? s.heap.objs.size = some { cls := .type "tuple", data := .seq #[.int i tk, x'] } := (sb.2 _ (Nat.ne_of_gt hel)).trans hT
    have new : ObjOk X.prog X.w (upd H s.heap.objs.size (.tup [.int (i : Nat), x])) h'' s.heap.objs.size (.tup [.int (i : Nat), x]) :=
      ⟨by show 2 ≤ sizeLine; decide, [.int i tk, x'], .cons ⟨_, rfl⟩ (.cons ru .nil), ⟨_, hT2, rfl, _, rfl⟩⟩
    have I1 : Inv X pins σ (upd H s.heap.objs.size (.tup [.int (i : Nat), x])) { s with heap := h'', toks := tk + 1 } :=
      I.turnedNew (ch := [e, it]) (fun b ob hb q => (sb.2 b (fun z => hb (by simp [z]))).trans (hk b ob (fun z => hb (by simp [z])) (fun z => hb (by simp [z])) q)) hf (Nat.le_refl _) new
    refine ⟨.ref s.heap.objs.size, _, I1, rfl, ⟨_, x, rfl, I.hok.fresh (Nat.le_refl _), rfl, fun ys hy => by rw [I.tuple_inj hy hq]; exact hx⟩, ⟨⟨x', ?_⟩, hit'.at fun o q => (sb.2 it (Ne.symm hne)).trans q, hne⟩, fun b hb => ?_⟩
    · have e1 : ((i + 1 : Nat) : Int) = (i : Int) + 1 := by omega
      rw [e1]; exact he'
    · have hb' : b < s.heap.objs.size := by
        have e' : b = e ∨ b = it := by simpa using hb
        rcases e' with z | z
        · rw [z]; exact hel
        · rw [z]; exact hil
      rw [upd_ne (Nat.ne_of_lt hb')]
      exact (hf b hb).1
  done := by
    intro X hP hw hK hc i pins s σ H E I hf st hg
    subst hP hw hK
    obtain ⟨⟨old, he⟩, hit, hne⟩ := st
    obtain ⟨xs, hq, hx⟩ := hg
    obtain ⟨its, rv, p, hz⟩ := I.tuple hq
    obtain ⟨f0, f1, f2, f3, f4, f5⟩ := hf it (by simp)
    have hl := rv.length
    have hai : a ≠ it := fun z => by
      obtain ⟨o, ho, hc', _⟩ := p
      obtain ⟨o2, ho2, hc2, _⟩ := hit
      rw [z] at ho
      have e1 := ho.symm.trans ho2
      cases e1
      rw [hc2] at hc'
      exact absurd (Value.type.inj hc') (by decide)
    have hsz : its.toArray.size = i := by rw [List.size_toArray, ← hl]; exact hx
    rw [← hsz] at hit
    exact wpAny_pyNext_enum_endD (Draws.tuple (prog := X.prog) (w := X.w) (A := X.A.in1) (I.ok.hd hc) it a hai its.toArray) he ⟨hit, p⟩ fun h' eb => ⟨rfl, I.turned (t' := s.toks) (fun b o hb q => eb b o hb q) f0 f1 f3 f4 f5⟩
  self := fun A i s Q E st h => let ⟨⟨_, he⟩, _⟩ := st; wpAny_pyIter_enum he h
set_option maxHeartbeats 1000000 in
theorem meets_enumerate_newB1 {v : Value} {o : Obj} {H : Heap → Prop} (B : Begins v o H) :
    Meets (Builtin.«enumerate.__new__» ⟨[.type "enumerate", v], []⟩) (fun _ R s => H s.heap ∧
      R (.ok (.ret (.ref (s.heap.push o).objs.size))) { s with heap := (s.heap.push o).push { cls := .type "enumerate", data := .fields #[.none, .bool false, .ref s.heap.objs.size, rawInt 0, .none, .none] } }) :=
  .of_wp fun prog w A R s h => by
    obtain ⟨hp, g, d, tk, os⟩ := s; obtain ⟨h1, h⟩ := h
    have hsub := sub_enumerate
    have q1 : ∀ {A' : Around} {E : Value → Shared → Prop} {Q : Value → Shared → Prop}, Q (.ref hp.objs.size) ⟨hp.push o, g, d, tk, os⟩ → wpAny (model prog w) A' (pyIter v) Q E ⟨hp, g, d, tk, os⟩ :=
      fun q => B.iter prog w _ _ ⟨hp, g, d, tk, os⟩ _ h1 q
    wp_walk using q1
    refine wpAny_stack_any fun st => wpAny_pure ?_
    split
    · rename_i c _ _ _ _ _
      cases (c == Value.type "enumerate")
      · wp_walk using q1
        exact ⟨_, rfl, h⟩
      · wp_walk using q1
        exact ⟨_, rfl, h⟩
    · wp_walk using q1
      exact ⟨_, rfl, h⟩
theorem enum_begins1 {prog : Program} {w : World} {A : Around} {E : Value → Shared → Prop} {s : Shared} {v : Value} {o : Obj} {H : Heap → Prop} {Q : Value → Shared → Prop} (B : Begins v o H) (h1 : H s.heap)
    (h : ∀ h', IsEnum h' (s.heap.objs.size + 1) s.heap.objs.size 0 .none → h'.get? s.heap.objs.size = some o → h'.objs.size = s.heap.objs.size + 2 →
      (∀ b o, s.heap.get? b = some o → h'.get? b = some o) → Q (.ref (s.heap.objs.size + 1)) { s with heap := h' }) :
    wpAny (model prog w) A (call (.type "enumerate") [v]) Q E s := by
  refine callType_new F.called_enumerate (by decide) (F.typeCall_enumerate_1 _) (F.newCall_enumerate_1 _) (fun obj => F.args_object_init_2 obj _) F.entry_enumerate_new
    (meets_enumerate_newB1 B) ⟨h1, ?_⟩
  have hz : (s.heap.push o).objs.size = s.heap.objs.size + 1 := Heap.size_push ..
  show _ ∧ _
  rw [hz]
  have he : IsEnum ((s.heap.push o).push { cls := .type "enumerate", data := .fields #[.none, .bool false, .ref s.heap.objs.size, rawInt 0, .none, .none] }) (s.heap.objs.size + 1) s.heap.objs.size 0 .none := by
    have := Heap.get?_push_size (s.heap.push o) (o := { cls := .type "enumerate", data := .fields #[.none, .bool false, .ref s.heap.objs.size, rawInt 0, .none, .none] }) rfl
    rw [hz] at this; exact this
  refine ⟨⟨_, he, rfl⟩, h _ he (Heap.get?_push_of_some _ (Heap.get?_push_size _ B.free)) (by rw [Heap.size_push, hz]) fun b o x => Heap.get?_push_of_some _ (Heap.get?_push_of_some _ x)⟩
def iEnumT (K : PySem.W.Frag) (ta : TA) : TI := fun σ H R => ta σ H fun vs H1 => ∃ a xs, vs = [.ref a] ∧ SqT K H1 a xs ∧ R (IteT K a) H1
theorem kiEnumT (K : PySem.W.Frag) {X : Cx} {e : Expr} {ta : TA} {p pos tpos : Pos} {elts : List Expr} {kk : Nat} (hm : X.mg "enumerate" = none) (ha : PA X [e] ta) (hg : Gl X "enumerate" := by rfl) (hs : starEach [e] X.env = [(false, eval e X.env)] := by rfl) (eK : X.K = K := by rfl) :
    PI X (.Tuple elts kk tpos) (.Call (.Name "enumerate" p) [e] [] pos) (iEnumT K ta) := by
  subst eK
  refine ⟨fun pins s σ H R I h => ?_⟩
  refine Call_ (ld_blt I hg hm boot_enumerate (PyProof.Rows.callWith_type1 (thn (ha.run pos pins s σ H _ I h) fun us s1 ⟨vs, H1, I1, r1, q1⟩ => ?_) hs rfl))
  obtain ⟨a, xs, ex, hq, q⟩ := q1
  subst ex
  cases r1 with
  | cons r rr =>
    cases rr
    cases r
    obtain ⟨its, rv, p', hz⟩ := I1.tuple hq
    refine enum_begins1 (begins_tuple a its.toArray) p' fun h' he hit hsz hk => wpAny_pyIter_enum he ?_
    have I2 : Inv X pins σ H1 { s1 with heap := h' } := I1.kept (t' := s1.toks) hk
    refine ⟨s1.heap.objs.size + 1, [s1.heap.objs.size + 1, s1.heap.objs.size], _, _, H1, rfl, I2, turn_enumT a (s1.heap.objs.size + 1) s1.heap.objs.size, ⟨⟨.none, he⟩, ⟨_, hit, rfl, rfl⟩, Nat.succ_ne_self _⟩, fun b hb => ?_, q⟩
    have e' : b = s1.heap.objs.size + 1 ∨ b = s1.heap.objs.size := by simpa using hb
    have hle : s1.heap.objs.size ≤ b := by
      rcases e' with z | z
      · rw [z]; exact Nat.le_add_right _ _
      · rw [z]; exact Nat.le_refl _
    exact I1.fpOk hle (I1.hok.fresh hle)
theorem walk_enumT {K : PySem.W.Frag} {a : Addr} {xs : List V} : Walk (IteT K a) xs.length (fun H => SqT K H a xs) (YPair (fun i => some (.int (i : Nat))) (fun i => xs[i]?)) := by
  refine ⟨fun i _ hi q => ⟨xs, xs[i], q, by simp [hi]⟩, fun _ q => ⟨xs, q, rfl⟩, fun i H v H' _ q y => ?_⟩
  obtain ⟨T, x, h1, h2, h3, h4⟩ := y
  exact ⟨T, .int (i : Nat), x, h1, h2, h3, rfl, h4 xs q⟩
theorem for_enumT {K : PySem.W.Frag} {a : Addr} {xs : List V} {g : TG} {tb : TS} {D : Ends} {σ : L2.St} {H : Hp} (Pv : Nat → L2.St → Hp → Prop) (h0 : Pv 0 σ H) (hG : ∀ i σ H, i ≤ xs.length → Pv i σ H → SqT K H a xs)
    (hs : ∀ i x σ H T, xs[i]? = some x → Pv i σ H → H T = none → g (.ref T) σ (upd H T (.tup [.int (i : Nat), x])) fun σ2 H2 => tb { D with nx := Pv (i + 1), ct := Pv (i + 1), bk := D.nx } σ2 H2) (hd : ∀ σ H, Pv xs.length σ H → D.nx σ H) :
    ∃ W : Nat → Nat → L2.St → Hp → Prop, (∃ m, W 0 m σ H) ∧ ∀ i m σ H, W i m σ H →
      ((IteT K a).stop i H ∧ D.nx σ H) ∨ ((IteT K a).go i H ∧ ∃ N : L2.St → Hp → Prop, (∀ σ' H', N σ' H' → ∃ m', m' < m ∧ W (i + 1) m' σ' H') ∧ ∀ x H', (IteT K a).yld i H x H' → g x σ H' fun σ2 H2 => tb { D with nx := N, ct := N, bk := D.nx } σ2 H2) :=
  for_it walk_enumT Pv h0 hG (fun i x σ H H' _ p y => by
    obtain ⟨T, u, v, rfl, hT, rfl, e1, e2⟩ := y
    cases e1
    exact hs i v σ H T e2 p hT) hd
/-! the message of an own error: a text with the field's text -/
def isStrB : V → Prop := fun v => ∃ z : Str, v = .str z ∧ z.length ≤ 1000000
theorem quiet_f {P : Program} {w : World} {c f qual : Str} {sc : Scope} {fI : Addr} {v : V} {u : Value} {k : Nat} {p1 p2 p3 p4 : Pos} (hv : isStrB v) (hu : RelV v u) (kf : sc.kind = .function := by rfl) (kx : sc.names.lookup f = some .local := by rfl) (hc : c.length ≤ 1000 := by decide +kernel)
    (d0 : (f == ("__debug__" : Str)) = false := by decide) : XC.Quiet P w (.JoinedStr [.Constant (.str c) k p1, .FormattedValue (.Name f p2) (-1) none p3] p4) qual sc fI fun m => m f = some u := by
  obtain ⟨z, rfl, hz⟩ := hv
  obtain ⟨t, rfl⟩ := hu
  intro A E L cda cc m s' Q hn hm h
  have h1 : (Str.empty ++ c).length ≤ sizeLine := by
    rw [Str.empty_append]
    exact Nat.le_trans hc (sl (by decide))
  have h2 : (Str.empty ++ c ++ z).length ≤ sizeLine := by
    rw [Str.empty_append]
    have : (c ++ z).length = c.length + z.length := by
      rw [len_cps, len_cps, len_cps, ← List.length_append]
      exact congrArg List.length (TL.tl_append c z)
    rw [this]
    exact Nat.le_trans (show c.length + z.length ≤ 1001000 by omega) (sl (by decide))
  refine wpAny_JoinedStr ?_
  refine Calls.Constant_str ⟨c, _, rfl, h1, ?_⟩
  refine wpAny_FormattedValue_plain (wpAny_Name (wpAny_loadName_local kf kx hn hm ?_) d0)
  exact wpAny_formatField_str ⟨z, _, rfl, h2, h2, h _ _⟩ ⟨z, _, rfl, h2, h2, h _ _⟩ (Nat.le_trans hz (sl (by decide)))
/-! a tuple's slice -/
def uSlT (K : PySem.W.Frag) : V → Option Int → Option Int → Hp → VK → Prop := fun x lo hi H Q => match x with
  | .ref a => ∃ xs, SqT K H a xs ∧ (HT.sIx xs.length 0 lo = 0 ∧ HT.sIx xs.length xs.length hi = xs.length → Q (.ref a) H) ∧ (¬ (HT.sIx xs.length 0 lo = 0 ∧ HT.sIx xs.length xs.length hi = xs.length) → ∀ p, H p = none → Q (.ref p) (upd H p (.tup (cutV xs lo hi))))
  | _ => False
theorem s_slT {X : Cx} : SlR X (uSlT X.K) := by
  intro pins s σ H x v vl vu lo hi sl Q I rx hs pl pu h
  cases x with
  | ref a => obtain ⟨xs, h1, h2, h3⟩ := (show ∃ xs, _ ∧ _ from h); exact sl_tupA pins s σ H _ v vl vu lo hi sl Q I rx hs pl pu ⟨a, xs, rfl, h1, h2, h3⟩
  | _ => exact (show False from h).elim
theorem kSlT {X : Cx} (K : PySem.W.Frag) (e : X.K = K := by rfl) : SlR X (uSlT K) := e ▸ s_slT
end U
set_option Elab.async false
set_option linter.all false
set_option maxRecDepth 100000
/-! U12: try: .. except (A, B) as e: .. where one of both takes whatever leaves the body (turned from the rule for one class). -/
namespace L2
open PySem PySem.Spec PyProof.Rows
def wAs2 (K : PySem.W.Frag) (c1 c2 : Value) (i : Nat) (ts : Addr → Value → Option Addr → TS) (D : Ends) : WX := fun cls d σ H =>
  PySem.W.exmAny K cls [c1, c2] = some true ∧ ∀ a, H a = none → ts a cls d { nx := fun σ' H' => D.nx (σ'.set i none) H', rt := D.rt, bk := fun σ' H' => D.bk (σ'.set i none) H', ct := fun σ' H' => D.ct (σ'.set i none) H' } (σ.set i (some (.ref a))) H
theorem exmAny2 {K : PySem.W.Frag} {cls c1 c2 : Value} {b1 b2 : Bool} (h1 : PySem.W.exmOne K cls c1 = some b1) (h2 : PySem.W.exmOne K cls c2 = some b2) : PySem.W.exmAny K cls [c1, c2] = some (b1 || b2) := by
  simp only [PySem.W.exmAny, h1, h2, Bool.or_false]
section
variable {X : Cx} {x1 x2 n : Str} {c1 c2 : Value} {i : Nat} {body suite : List Stmt} {b₀ : Stmt} {np1 np2 tp pos pos' : Pos} {tx : Nat} {tb : WX → TS} {ts : Addr → Value → Option Addr → TS}
theorem ps_try_as2 (hs : X.stack = X.env :: X.outer) (hf : X.env.frame = some X.env.locals) (hN : X.N.Nodup) (hi : X.N[i]? = some n) (hln : X.env.kindOf n = some .local) (hc1 : Names X x1 c1) (hc2 : Names X x2 c2)
    (hb : ∀ (W : WX) (pn : List (Addr × Obj)) (xe : Value → Shared → Prop), Takes (X.tr pn xe) W → PassesOwn (model X.prog X.w) X.A X.env xe → PSs (X.tr pn xe) body (tb W))
    (hsu : ∀ (a : Addr) (oe : Obj) (cls : Value) (d : Option Addr) (pn : List (Addr × Obj)), Zc cls d oe → (∃ vs, oe.data = .fields vs) → PSs (X.suite a ((a, oe) :: pn)) (b₀ :: suite) (ts a cls d)) :
    PS X (.Try body [.ExceptHandler (some (.Tuple [.Name x1 np1, .Name x2 np2] tx tp)) (some n) (b₀ :: suite) pos'] [] [] pos) (fun D σ H => tb (wAs2 X.K c1 c2 i ts D) D σ H) := by
  refine ⟨fun pins s σ H D I h => ?_⟩
  have ok := I.ok
  have hfr : X.A.frames = some (X.env :: X.outer) := by rw [ok.frames, hs]
  have hloc : Loc X.env.scope n := .inl hln
  refine wpAny_Try_except ?_
  refine wpAny_mono ((hb (wAs2 X.K c1 c2 i ts D) (X.pn ++ pins) (fun e s₁ => wpAny (model X.prog X.w) X.A (noteFrame e X.env) (fun _ s₂ => wpAny (model X.prog X.w) X.A (setFlight e none) (fun _ s₃ =>
    wpAny (model X.prog X.w) X.A (handleBy e X.env [.ExceptHandler (some (.Tuple [.Name x1 np1, .Name x2 np2] tx tp)) (some n) (b₀ :: suite) pos']) (SP X pins D) X.xe s₃) X.xe s₂) X.xe s₁) (fun u s' xx => ?_) PassesOwn.looking).run [] s σ H D (I.toTry _) h) (fun f s1 hsp => ?_) (fun e s1 he => he)
  · obtain ⟨a, B, sI, pins', σ', H', cls, d, rfl, J', nb, up, sky, na, os, ag, hb1, hyes⟩ := xx
    have J : Inv X pins σ' H' sI := J'.ofTry ok
    have sky' : Sky B (X.env :: X.outer) a (Zc cls d) X.env.locals s'.heap := by rw [← hs]; exact sky
    show wpAny (model X.prog X.w) X.A (noteFrame (.ref a) X.env) _ _ _
    refine Sky.land Zc.steady hfr hf sky' fun h3 fl3 up3 => ?_
    have J3 : Inv X pins σ' H' { s' with heap := h3 } := J.landed nb fl3.1 (up.trans up3) os ag
    obtain ⟨oe3, vs3, he3, hz3, hd3⟩ := fl3.there
    have notFr : ∀ {h : Heap} {o : Obj} {vs : Array Value}, h.FunFrames B (X.env :: X.outer) → h.get? a = some o → o.data = .fields vs → a ∉ frs (X.env :: X.outer) := fun {h o vs} ff e dd hm => by
      obtain ⟨_, o', e', hnf⟩ := ff.mem hm
      rw [e] at e'; cases e'
      exact hnf _ dd
    have nfr := notFr fl3.2.2.1 he3 hd3
    have nL : a ≠ X.env.locals := fun z => nfr (List.mem_filterMap.mpr ⟨X.env, List.mem_cons_self, by rw [hf, z]⟩)
    have nF : a ∉ X.fs := fun hm => by
      obtain ⟨e, he, q⟩ := List.mem_filterMap.mp hm
      exact nfr (List.mem_filterMap.mpr ⟨e, List.mem_cons_of_mem _ he, q⟩)
    have S3 := J3.suite he3 hd3 na nL nF
    have kp : ∀ b o, h3.get? b = some o → (h3.push { cls := .type "tuple", data := .seq [c1, c2].toArray }).get? b = some o := fun b o e => Heap.get?_push_of_some _ e
    have fl5 : HandSPX.FlyingZ B (X.env :: X.outer) a (Zc cls d) (h3.push { cls := .type "tuple", data := .seq [c1, c2].toArray }) := by
      obtain ⟨f1, f2, f3, oe, vs, T, oT, ts', q1, q2, q3, q4, q5, q6, q7, q8, q9⟩ := fl3
      exact ⟨fun b o e => kp _ _ (f1 b o e), f2, f3.of_keeps fun b o e _ => ⟨o, kp _ _ e, rfl⟩, oe, vs, T, oT, ts', kp _ _ q1, q2, q3, q4, q5, q6, kp _ _ q7, q8, q9⟩
    have up5 : h3.UpToSlots (h3.push { cls := .type "tuple", data := .seq [c1, c2].toArray }) := Heap.UpToSlots.of_keeps kp
    have J5 : Inv X pins σ' H' { s' with heap := h3.push { cls := .type "tuple", data := .seq [c1, c2].toArray } } := J.landed nb fl5.1 ((up.trans up3).trans up5) os ag
    refine wpAny_handleBy_cons (codeAny_handlers_test ?_) (by intro q; cases q)
    have LT : PySem.W.Looks (model X.prog X.w) (h3.push { cls := .type "tuple", data := .seq [c1, c2].toArray }) (typeOf (.ref a)) cls := fun A Q E s k q => wpAny_typeOf_ref (k _ _ (kp _ _ he3)) (by rw [hz3.1]; exact q)
    have LM := PySem.W.exm_tup2 (M := model X.prog X.w) (J5.kIn) LT (Heap.get?_push_size h3 rfl) hb1
    have test : ∀ {x : Str} {c : Value} {np : Pos} (hc : Names X x c) {Q : Value → Shared → Prop} {E : Value → Shared → Prop}, Q c { s' with heap := h3 } → wpAny (model X.prog X.w) (X.A.mark (some (.ref a))) (eval (.Name x np) X.env) Q E { s' with heap := h3 } := fun {x c np} hc {Q E} q => by
      obtain ⟨hg, hdbg, hm | ⟨hm, hv, hnn⟩⟩ := hc
      · exact ld_glob (X := X.suite a ((a, oe3) :: (X.pn ++ pins))) S3 hg hm q hdbg
      · exact ld_blt (X := X.suite a ((a, oe3) :: (X.pn ++ pins))) S3 hg hm hv q hnn hdbg
    refine wpAny_Tuple_spliced ?_
    refine Calls.spliced_cons (test hc1 ?_)
    refine Calls.spliced_cons (test hc2 ?_)
    refine Calls.spliced_nil ⟨by rw [sizeLine_eq]; simp, ?_⟩
    refine LM.here ?_
    refine codeAny_handlers_suite_as ?_
    refine HandSPX.lands_againZ fl5 fun h4 fl4 up4 => ?_
    have J4 : Inv X pins σ' H' { s' with heap := h4 } := J.landed nb fl4.1 (((up.trans up3).trans up5).trans up4) os ag
    obtain ⟨oe4, vs4, he4, hz4, hd4⟩ := fl4.there
    have S4 := J4.suite he4 hd4 na nL nF
    refine store_ok (X := X.suite a ((a, oe4) :: (X.pn ++ pins))) (v := .ref a) S4 hN hi hloc rfl (fun s5 S5 => ?_) (.inr hln)
    refine wpAny_mono ((hsu a oe4 cls d (X.pn ++ pins) hz4 ⟨_, hd4⟩).run [] s5 _ H' _ S5 (hyes a na)) (fun f s6 hsp => ?_) (fun _ _ z => False.elim z)
    have end_ : ∀ {σ6 : St} {H6 : Hp} {Q : Shared → Prop}, Inv (X.suite a ((a, oe4) :: (X.pn ++ pins))) [] σ6 H6 s6 → (∀ s7, Inv X pins (σ6.set i none) H6 s7 → Q s7) →
        wpAny (model X.prog X.w) X.A (do bindName X.env n .none; unbindBehindTheSuite X.env n pos') (fun _ s7 => Q s7) X.xe s6 := fun {σ6 H6 Q} S6 hq => gone_ok (S6.unsuite ok) hN hi hln hq
    cases f with
    | next =>
      obtain ⟨σ6, H6, S6, q6⟩ := hsp
      exact end_ S6 fun s7 J7 => ⟨_, _, J7, q6⟩
    | brk =>
      obtain ⟨σ6, H6, S6, q6⟩ := hsp
      exact end_ S6 fun s7 J7 => ⟨_, _, J7, q6⟩
    | cont =>
      obtain ⟨σ6, H6, S6, q6⟩ := hsp
      exact end_ S6 fun s7 J7 => ⟨_, _, J7, q6⟩
    | ret u =>
      obtain ⟨v6, σ6, H6, S6, r6, q6⟩ := hsp
      exact end_ S6 fun s7 J7 => ⟨_, _, _, J7, r6, q6⟩
  · cases f with
    | next =>
      obtain ⟨σ', H', J', q⟩ := hsp
      exact wpAny_execs_nil ⟨σ', H', J'.ofTry ok, q⟩
    | brk =>
      obtain ⟨σ', H', J', q⟩ := hsp
      exact ⟨σ', H', J'.ofTry ok, q⟩
    | cont =>
      obtain ⟨σ', H', J', q⟩ := hsp
      exact ⟨σ', H', J'.ofTry ok, q⟩
    | ret u =>
      obtain ⟨v, σ', H', J', r, q⟩ := hsp
      exact ⟨v, σ', H', J'.ofTry ok, r, q⟩
theorem pe_alt {X : Cx} {e : Expr} {t1 t2 : TE} (h1 : PE X e t1) (h2 : PE X e t2) : PE X e (fun σ H Q => t1 σ H Q ∨ t2 σ H Q) := ⟨fun pins s σ H Q I h => h.elim (h1.run pins s σ H Q I) (h2.run pins s σ H Q I)⟩
theorem kNotT (K : PySem.W.Frag) {X : Cx} {a : Expr} {pos : Pos} {ta : TE} (ha : PE X a ta) (eK : X.K = K := by rfl) : PE X (.UnaryOp .Not a pos) (tNotT K ta) := eK ▸ pe_notT ha
end
end L2
set_option Elab.async false
set_option linter.all false
set_option maxRecDepth 100000
/-! U13: match on a list of texts: cases of literals, of one of several literals, and of names. -/
namespace U
open PySem PySem.Spec PyProof.Rows L2
inductive Pk
  | lit (z : Str)
  | alt (zs : List Str)
  | cap (i : Nat)
def Pk.m : Pk → Str → Option (List (Nat × V))
  | .lit z, w => if w = z then some [] else none
  | .alt zs, w => if w ∈ zs then some [] else none
  | .cap i, w => some [(i, .str w)]
def mEach : List Pk → List Str → Option (List (Nat × V))
  | p :: ps, w :: ws => match p.m w with
    | none => none
    | some bs => match mEach ps ws with
      | none => none
      | some more => some (bs ++ more)
  | _, _ => some []
def setAll (σ : L2.St) (bs : List (Nat × V)) : L2.St := bs.foldl (fun σ b => σ.set b.1 (some b.2)) σ
inductive Lits (X : Cx) : List Pattern → List Str → Prop
  | nil : Lits X [] []
  | cons {e : Expr} {pos : Pos} {z : Str} {ps : List Pattern} {zs : List Str} (h : PE X e (tC (.str z))) (r : Lits X ps zs) : Lits X (.MatchValue e pos :: ps) (z :: zs)
inductive PkOk (X : Cx) : Pattern → Pk → Prop
  | lit {e : Expr} {pos : Pos} {z : Str} (h : PE X e (tC (.str z))) : PkOk X (.MatchValue e pos) (.lit z)
  | alt {ps : List Pattern} {zs : List Str} {pos : Pos} (h : Lits X ps zs) (hn : namesOfAll (ps.take 1) = [] := by rfl) : PkOk X (.MatchOr ps pos) (.alt zs)
  | cap {n : Str} {i : Nat} {pos : Pos} (hi : X.N[i]? = some n) (hx : Loc X.env.scope n) (hf : X.fn n = true ∨ X.env.scope.names.lookup n = some .local) : PkOk X (.MatchAs none (some n) pos) (.cap i)
inductive PksOk (X : Cx) : List Pattern → List Pk → Prop
  | nil : PksOk X [] []
  | cons {p : Pattern} {k : Pk} {ps : List Pattern} {ks : List Pk} (h : PkOk X p k) (r : PksOk X ps ks) : PksOk X (p :: ps) (k :: ks)
inductive RelB (X : Cx) : List (Nat × V) → List (Str × Value) → Prop
  | nil : RelB X [] []
  | cons {i : Nat} {n : Str} {v : V} {u : Value} {bs : List (Nat × V)} {cs : List (Str × Value)} (hi : X.N[i]? = some n) (hx : Loc X.env.scope n) (hf : X.fn n = true ∨ X.env.scope.names.lookup n = some .local) (r : RelV v u) (t : RelB X bs cs) : RelB X ((i, v) :: bs) ((n, u) :: cs)
theorem RelB.app {X : Cx} {as bs : List (Nat × V)} {cs ds : List (Str × Value)} (h : RelB X as cs) (t : RelB X bs ds) : RelB X (as ++ bs) (cs ++ ds) := by
  induction h with
  | nil => exact t
  | cons hi hx hf r _ ih => exact .cons hi hx hf r ih
def RelBO (X : Cx) : Option (List (Nat × V)) → Option (List (Str × Value)) → Prop
  | none, none => True
  | some a, some b => RelB X a b
  | _, _ => False
theorem PksOk.len {X : Cx} {ps : List Pattern} {ks : List Pk} (h : PksOk X ps ks) : ps.length = ks.length := by
  induction h with
  | nil => rfl
  | cons _ _ ih => simp [ih]
theorem PkOk.star {X : Cx} {p : Pattern} {k : Pk} (h : PkOk X p k) : p.isStar = false := by cases h <;> rfl
section
variable {X : Cx} {pins : List (Addr × Obj)} {σ : L2.St} {H : Hp} {s : Shared}
theorem lit_ok (hu : X.A.units + 64 < cLine) {e : Expr} {pos : Pos} {z w : Str} {u : Value} {Q : Option (List (Str × Value)) → Shared → Prop} (h : PE X e (tC (.str z))) (I : Inv X pins σ H s) (ru : RelV (.str w) u)
    (q : ∀ s', Inv X pins σ H s' → Q (if w = z then some [] else none) s') : wpAny (model X.prog X.w) X.A (matchPattern (.MatchValue e pos) X.env u) Q X.xe s := by
  refine wpAny_matchPattern_Value (thn (h.run pins s σ H (fun y H1 => y = .str z ∧ H1 = H) I ⟨rfl, rfl⟩) fun v1 s1 ⟨y, H1, I1, r1, e1, e2⟩ => ?_)
  subst e1 e2
  refine thn (o_eq hu pins s1 σ _ (.str w) (.str z) u v1 (fun y H2 => y = .bl (eqB (.str w) (.str z)) ∧ H2 = _) I1 ru r1 ⟨rfl, rfl, rfl⟩) fun c s2 ⟨y, H2, I2, r2, e1, e2⟩ => ?_
  subst e1 e2
  obtain rfl := r2
  refine wpAny_truthy_bool ?_
  have := q s2 I2
  by_cases c : w = z
  · rw [if_pos c] at this
    have e : eqB (.str w) (.str z) = true := by simpa [eqB] using c
    rw [e]; exact this
  · rw [if_neg c] at this
    have e : eqB (.str w) (.str z) = false := by simpa [eqB] using c
    rw [e]; exact this
theorem first_ok (hu : X.A.units + 64 < cLine) {w : Str} {u : Value} (ru : RelV (.str w) u) {ps : List Pattern} {zs : List Str} (h : Lits X ps zs) : ∀ {s : Shared} {Q : Option (List (Str × Value)) → Shared → Prop}, Inv X pins σ H s →
    (∀ s', Inv X pins σ H s' → Q (if w ∈ zs then some [] else none) s') → wpAny (model X.prog X.w) X.A (matchFirst ps X.env u) Q X.xe s := by
  induction h with
  | nil => exact fun {s Q} I q => wpAny_matchFirst_nil (by simpa using q s I)
  | @cons e pos z ps zs h r ih =>
    intro s Q I q
    refine wpAny_matchFirst_cons (lit_ok hu h I ru fun s1 I1 => ?_)
    by_cases c : w = z
    · rw [if_pos c]
      have := q s1 I1
      rw [if_pos (by simp [c])] at this
      exact this
    · rw [if_neg c]
      refine ih I1 fun s2 I2 => ?_
      have := q s2 I2
      simp only [List.mem_cons, c, false_or] at this
      exact this
theorem pk_ok (hu : X.A.units + 64 < cLine) {w : Str} {u : Value} (ru : RelV (.str w) u) {p : Pattern} {k : Pk} (h : PkOk X p k) {Q : Option (List (Str × Value)) → Shared → Prop} (I : Inv X pins σ H s)
    (q : ∀ s' r, RelBO X (k.m w) r → Inv X pins σ H s' → Q r s') : wpAny (model X.prog X.w) X.A (matchPattern p X.env u) Q X.xe s := by
  cases h with
  | @lit e pos z h =>
    refine lit_ok hu h I ru fun s1 I1 => ?_
    by_cases c : w = z
    · rw [if_pos c]
      refine q s1 (some []) ?_ I1
      show RelBO X (if w = z then some [] else none) _
      rw [if_pos c]; exact RelB.nil
    · rw [if_neg c]
      refine q s1 none ?_ I1
      show RelBO X (if w = z then some [] else none) _
      rw [if_neg c]; exact True.intro
  | @alt ps zs pos h hn =>
    refine wpAny_matchPattern_Or (first_ok hu ru h I fun s1 I1 => ?_)
    by_cases c : w ∈ zs
    · rw [if_pos c]
      rw [hn]
      refine q s1 (some []) ?_ I1
      show RelBO X (if w ∈ zs then some [] else none) _
      rw [if_pos c]; exact RelB.nil
    · rw [if_neg c]
      refine q s1 none ?_ I1
      show RelBO X (if w ∈ zs then some [] else none) _
      rw [if_neg c]; exact True.intro
  | cap hi hx hf => exact wpAny_matchPattern_Capture (q s _ (.cons hi hx hf ru .nil) I)
theorem each_ok (hu : X.A.units + 64 < cLine) {ps : List Pattern} {ks : List Pk} (h : PksOk X ps ks) : ∀ {ws : List Str} {us : List Value} {s : Shared} {Q : Option (List (Str × Value)) → Shared → Prop}, Vals (ws.map V.str) us → ws.length = ks.length → Inv X pins σ H s →
    (∀ s' r, RelBO X (mEach ks ws) r → Inv X pins σ H s' → Q r s') → wpAny (model X.prog X.w) X.A (matchEach ps X.env us) Q X.xe s := by
  induction h with
  | nil =>
    intro ws us s Q rv hl I q
    exact wpAny_matchEach_nil (q s (some []) (by unfold mEach; exact .nil) I)
  | @cons p k ps ks h r ih =>
    intro ws us s Q rv hl I q
    cases ws with
    | nil => cases hl
    | cons w ws =>
    cases rv with
    | cons r0 rr =>
    refine wpAny_matchEach_cons (pk_ok hu r0 h I fun s1 r1 hr1 I1 => ?_) h.star
    cases r1 with
    | none =>
      refine q s1 none ?_ I1
      unfold mEach
      cases e : k.m w with
      | none => exact True.intro
      | some bs => rw [e] at hr1; exact hr1.elim
    | some cs =>
      cases e : k.m w with
      | none => rw [e] at hr1; exact hr1.elim
      | some bs =>
      rw [e] at hr1
      refine ih rr (Nat.succ.inj hl) I1 fun s2 r2 hr2 I2 => ?_
      cases r2 with
      | none =>
        refine q s2 none ?_ I2
        unfold mEach
        rw [e]
        cases e2 : mEach ks ws with
        | none => exact True.intro
        | some more => rw [e2] at hr2; exact hr2.elim
      | some ds =>
        refine q s2 _ ?_ I2
        unfold mEach
        rw [e]
        cases e2 : mEach ks ws with
        | none => rw [e2] at hr2; exact hr2.elim
        | some more => rw [e2] at hr2; exact RelB.app hr1 hr2
theorem binds_ok (hN : X.N.Nodup) {bs : List (Nat × V)} {cs : List (Str × Value)} (h : RelB X bs cs) : ∀ {σ : L2.St} {s : Shared} {Q : Unit → Shared → Prop}, Inv X pins σ H s →
    (∀ s', Inv X pins (setAll σ bs) H s' → Q () s') → wpAny (model X.prog X.w) X.A (assignInOrder (cs.map fun (n, _) => bindName X.env n) (cs.map (·.2))) Q X.xe s := by
  induction h with
  | nil => exact fun {σ s Q} I q => wpAny_assignInOrder_none (q s I)
  | @cons i n v u bs cs hi hx hf r t ih =>
    intro σ s Q I q
    exact wpAny_assignInOrder_more (wpAny_bindName (store_ok I hN hi hx r (fun s1 I1 => ih I1 q) hf))
end
inductive CsOk (X : Cx) : List MatchCase → List (List Pk × TS) → Prop
  | nil : CsOk X [] []
  | cons {ps : List Pattern} {ks : List Pk} {pos : Pos} {body : List Stmt} {tb : TS} {r : List MatchCase} {cs : List (List Pk × TS)} (hp : PksOk X ps ks) (hb : PSs X body tb) (hr : CsOk X r cs)
      (hstar : ps.findIdx? (·.isStar) = none := by rfl) (hwild : (ps.all fun p => p.isWildcard || (p.isStar && p.names.isEmpty)) = false := by rfl) : CsOk X (⟨.MatchSequence ps pos, none, body⟩ :: r) ((ks, tb) :: cs)
def mRun : List (List Pk × TS) → List Str → TS
  | [], _ => tNext
  | (ks, tb) :: cs, ws => fun D σ H => if ws.length = ks.length then (match mEach ks ws with | some bs => tb D (setAll σ bs) H | none => mRun cs ws D σ H) else mRun cs ws D σ H
def uMatch (K : PySem.W.Frag) (te : TE) (cs : List (List Pk × TS)) : TS := fun D σ H => te σ H fun x H1 => ∃ (a : Addr) (ws : List Str), x = .ref a ∧ SqL K H1 a (ws.map V.str) ∧ mRun cs ws D σ H1
section
variable {X : Cx} {pins : List (Addr × Obj)} {σ : L2.St} {H : Hp}
theorem mrun_ok (hc : X.calm = true) (hu : X.A.units + 64 < cLine) (hN : X.N.Nodup) {a : Addr} {ws : List Str} (hq : SqL X.K H a (ws.map V.str)) {D : Ends} {cases : List MatchCase} {cs : List (List Pk × TS)} (h : CsOk X cases cs) :
    ∀ {first : Bool} {s : Shared}, Inv X pins σ H s → mRun cs ws D σ H → wpAny (model X.prog X.w) X.A (matchCases cases X.env (.ref a) first) (SP X pins D) X.xe s := by
  induction h with
  | nil => exact fun {first s} I q => wpAny_matchCases_nil ⟨σ, H, I, q⟩
  | @cons ps ks pos body tb r cs hp hb hr hstar hwild ih =>
    intro first s I q
    obtain ⟨its, rv, pl, hz⟩ := I.list hq
    have hil : its.length = ws.length := by rw [← rv.length]; simp
    have hfit : ((its.toArray.size : Nat) : Int) < 2 ^ 63 := by
      have : ws.length ≤ sizeLine := by simpa using hz
      rw [sizeLine_eq] at this
      simp; omega
    refine wpAny_matchCases_cons ?_
    by_cases c : ws.length = ks.length
    · refine matchSeq_list_hit pl.isList hfit (by simp [hil, c, hp.len]) ?_ hstar hwild
      rw [hp.len, ← c, show ws.length = its.toArray.size from by simp [hil]]
      refine PySem.W.kun_itemsOf (I.ok.hd hc) pl.isList fun h' hx => ?_
      have I1 : Inv X pins σ H { s with heap := h', toks := s.toks + 1 + 1 } := I.kept (t' := s.toks + 1 + 1) fun b o e => hx b o (Nat.ne_of_lt (Heap.lt_size e)) e
      refine each_ok hu hp (by simpa using rv) c I1 fun s2 r2 hr2 I2 => ?_
      have q' : (match mEach ks ws with | some bs => tb D (setAll σ bs) H | none => mRun cs ws D σ H) := by
        have := q
        simp only [mRun, c, if_true] at this
        exact this
      cases r2 with
      | none =>
        cases e : mEach ks ws with
        | none => rw [e] at q'; exact ih I2 q'
        | some bs => rw [e] at hr2; exact hr2.elim
      | some ds =>
        cases e : mEach ks ws with
        | none => rw [e] at hr2; exact hr2.elim
        | some bs =>
          rw [e] at q' hr2
          exact binds_ok hN hr2 I2 fun s3 I3 => hb.run pins s3 _ H D I3 q'
    · refine matchSeq_list_miss pl.isList hfit (by rw [hp.len]; simp [hil]; exact c) ?_ hstar hwild
      have I1 : Inv X pins σ H { s with toks := s.toks + 1 + 1 } := I.kept (t' := s.toks + 1 + 1) fun b o e => e
      have q' : mRun cs ws D σ H := by
        have := q
        simp only [mRun, c, if_false] at this
        exact this
      exact ih I1 q'
theorem kMatch (K : PySem.W.Frag) {e : Expr} {te : TE} {pos : Pos} {cases : List MatchCase} {cs : List (List Pk × TS)} (hc : X.calm = true) (hu : X.A.units + 64 < cLine) (hN : X.N.Nodup) (he : PE X e te) (h : CsOk X cases cs) (eK : X.K = K := by rfl) :
    PS X (.Match e cases pos) (uMatch K te cs) := by
  subst eK
  refine ⟨fun pins s σ H D I h0 => ?_⟩
  refine wpAny_Match (thn (he.run pins s σ H _ I h0) fun v s1 ⟨x, H1, I1, r1, a, ws, e1, hq, q⟩ => ?_)
  subst e1
  cases r1
  exact mrun_ok hc hu hN hq h I1 q
end
end U
set_option Elab.async false
set_option linter.all false
set_option maxRecDepth 100000
/-! U14: methods with keyword-only parameters, left out or written. -/
namespace U
open PySem PySem.Spec PyProof.Rows L2
structure MetD (P : Program) (w : World) (K : PySem.W.Frag) (mg : Str → Option Value) (base : Heap) (CX : CXT) (k : Nat) (cls m : Str) (ps : List Str) (dvs : List V) (sp : Sp) : Prop where
  ok : ∃ f fd ds, Cls K (He.ga K cls) ∧ Meth K (He.ga K cls) m f ∧ Binds K fd ps ds ∧ Vals dvs ds ∧ FnOk P w K mg base CX k f fd ps sp
structure MetN (P : Program) (w : World) (K : PySem.W.Frag) (mg : Str → Option Value) (base : Heap) (CX : CXT) (k : Nat) (cls m : Str) (n : Nat) (ks ps : List Str) (sp : Sp) : Prop where
  ok : ∃ f fd g, Cls K (He.ga K cls) ∧ Meth K (He.ga K cls) m f ∧ KBn K fd ps n ks g (fun vs zs => vs ++ zs) ∧ FnOk P w K mg base CX k f fd ps sp
def uMethD (C : Addr) (m : Str) (sp : Sp) (dvs : List V) (E : XK) (te : TE) (t : TA) : TE := fun σ H Q => te σ H fun x H1 => ∃ a dx fs, x = .ref a ∧ H1 a = some (.ins C dx fs) ∧ fs.lookup m = none ∧ t σ H1 fun vs H2 => sp (x :: (vs ++ dvs)) H2 Q E
def uMethN (C : Addr) (m : Str) (n : Nat) (ks : List Str) (sp : Sp) (E : XK) (te : TE) (t tk : TA) : TE := fun σ H Q => te σ H fun x H1 => ∃ a dx fs, x = .ref a ∧ H1 a = some (.ins C dx fs) ∧ fs.lookup m = none ∧ t σ H1 fun vs H2 =>
  tk σ H2 fun zs H3 => (x :: vs).length = n ∧ zs.length = ks.length ∧ sp ((x :: vs) ++ zs) H3 Q E
section
variable {X : Cx} {k n : Nat} {cls m : Str} {ks ps : List Str} {dvs : List V} {sp : Sp} {E : XK} {CX : CXT} {o e : Expr} {es : List Expr} {kws : List Keyword} {te : TE} {t tk : TA} {apos pos : Pos} {pl : Sem Bool}
theorem kMethD (K : PySem.W.Frag) (M : MetD X.prog X.w X.K X.mg X.base CX k cls m ps dvs sp) (hr : Room k X.A) (hx : Passes CX X E) (he : PE X o te) (ha : PA X (e :: es) t)
    (hst : starEach (e :: es) X.env = (false, eval e X.env) :: starEach es X.env := by rfl) (hpl : (backTo pos (starEach es X.env)).any (·.1) = false := by rfl)
    (ht : eval (.Call (.Attribute o m apos) (e :: es) [] pos) X.env = (do
      let ov ← eval o X.env
      standAt apos.atName
      let (f, first) ← holding [ov] (getMethod ov m pl)
      callWith pos f first (backTo pos (starEach (e :: es) X.env)) (backToKw pos (keywordEach [] X.env))) := by rfl) (eK : X.K = K := by rfl) :
    PE X (.Call (.Attribute o m apos) (e :: es) [] pos) (uMethD (He.ga K cls) m sp dvs E te t) := by
  subst eK
  obtain ⟨f, fd, ds, c, hm, hb, hd, F⟩ := M.ok
  exact pe_meth (dvs := dvs) (ds := ds) he c hm F hr hb hd hx ha hst hpl ht
theorem kMethN (K : PySem.W.Frag) (M : MetN X.prog X.w X.K X.mg X.base CX k cls m n ks ps sp) (hr : Room k X.A) (hx : Passes CX X E) (he : PE X o te) (ha : PA X (e :: es) t) (hkw : PK X kws tk)
    (hall : (backToKw pos (keywordEach kws X.env)).all (·.1.isSome) = true := by rfl) (hks : (backToKw pos (keywordEach kws X.env)).filterMap (·.1) = ks := by rfl)
    (hst : starEach (e :: es) X.env = (false, eval e X.env) :: starEach es X.env := by rfl) (hpl : ((backTo pos (starEach (e :: es) X.env)).any (·.1) || (backToKw pos (keywordEach kws X.env)).any (·.1.isNone)) = false := by rfl)
    (ht : eval (.Call (.Attribute o m apos) (e :: es) kws pos) X.env = (do
      let ov ← eval o X.env
      standAt apos.atName
      let (f, first) ← holding [ov] (getMethod ov m pl)
      callWith pos f first (backTo pos (starEach (e :: es) X.env)) (backToKw pos (keywordEach kws X.env))) := by rfl) (eK : X.K = K := by rfl) :
    PE X (.Call (.Attribute o m apos) (e :: es) kws pos) (uMethN (He.ga K cls) m n ks sp E te t tk) := by
  subst eK
  obtain ⟨f, fd, g, c, hm, hb, F⟩ := M.ok
  refine ⟨fun pins s σ H Q I h => ?_⟩
  refine PySem.W.methodCall_KW (pl := pl) (thn (he.run pins s σ H _ I h) fun u s1 ⟨x, H1, I1, rx, a, dx, fs, ex, ea, l, q⟩ => ?_) ht
  subst ex
  obtain rfl : u = Value.ref a := rx
  refine getmeth_ok I1 ea c hm l ?_
  refine PySem.W.callWith_KW (first := [.ref a]) (h₀ := X.base) I.ok.mod.kin hm.kp hall (thn (ha.run pos pins s1 σ H1 _ I1 q) fun us s2 ⟨vs, H2, I2, r, q2⟩ => ?_) hpl hst
  refine thn (hkw.run pos pins s2 σ H2 _ I2 q2) fun ws s3 ⟨zs, H3, I3, rz, l1, l2, q3⟩ => ⟨I3.kIn, ?_⟩
  rw [hks]
  have rr : Vals (V.ref a :: vs) (Value.ref a :: us) := .cons rfl r
  have n1 : (Value.ref a :: us).length = n := rr.length.symm.trans l1
  refine wpAny_call (codeAny_mono (F.run X.A X.stack s3 H3 ⟨Value.ref a :: us, ks.zip ws⟩ (g (Value.ref a :: us) ws) ((V.ref a :: vs) ++ zs) Q E hr I3.env0 (hb.to s3 _ ws I3.kIn n1 (rz.length.symm.trans l2)) (hb.rel rr rz) q3) fun r s' hq => ?_)
  cases r with
  | error e => exact hx pins σ H3 s3 e s' I3 hq
  | ok fl =>
    cases fl with
    | ret u => exact I3.after hq
    | next => exact False.elim hq
    | brk => exact False.elim hq
    | cont => exact False.elim hq
end
/-- the two ways to bind: n positional parameters, one keyword-only parameter with a default -/
theorem bindD {K : PySem.W.Frag} {x qual : Str} {params : Arguments} {body : List Stmt} {scope : Scope} {kn : Str} {v : V} {f : Addr} {fd : FuncData} {ps : List Str} (F : FunD K x qual params body scope [] [(kn, v)] f fd) (n : Nat) (hn : n + 1 = ps.length)
    (h : ∀ (D : Addr) (doc pm : Value) (an : Option Addr) (cdv ct : Value) (us : List Value) (z : Value), us.length = n → KwChain D [(kn, z)] (bindArgs (PySem.W.fnOf x qual params body scope .none (.ref D) doc pm an cdv ct) ⟨us, []⟩) (ps.zip (us ++ [z]))) :
    ∃ ds, Vals [v] ds ∧ Binds K fd ps ds := by
  refine FunD.binds0 F n (by simp) (by simpa using hn) fun D doc pm an cdv ct us ks l1 l2 => ?_
  match ks, l2 with
  | [z], _ => exact h D doc pm an cdv ct us z l1
theorem bindN {K : PySem.W.Frag} {x qual : Str} {params : Arguments} {body : List Stmt} {scope : Scope} {kn : Str} {v : V} {f : Addr} {fd : FuncData} {ps : List Str} (F : FunD K x qual params body scope [] [(kn, v)] f fd) (n : Nat)
    (h : ∀ (D : Addr) (doc pm : Value) (an : Option Addr) (cdv ct : Value) (us : List Value) (z : Value), us.length = n → bindArgs (PySem.W.fnOf x qual params body scope .none (.ref D) doc pm an cdv ct) ⟨us, [(kn, z)]⟩ = pure (ps.zip (us ++ [z]))) :
    KBn K fd ps n [kn] (fun us ws => us ++ ws) (fun vs zs => vs ++ zs) := by
  obtain ⟨mv, hb⟩ := FunD.kbinds0 (ps := ps) F n [kn] [] (fun us _ ws => us ++ ws) (by simp) (fun q hq => by cases hq) (fun r1 _ r3 => r1.append r3) (fun D doc pm an cdv ct us mv ws l1 l2 l3 => by
    match ws, l3 with
    | [z], _ =>
      match mv, l2 with
      | [], _ => exact h D doc pm an cdv ct us z l1)
  exact ⟨hb.to, fun r1 r2 => r1.append r2⟩
end U
set_option Elab.async false
set_option linter.all false
set_option maxRecDepth 100000
set_option maxHeartbeats 1000000
/-! U15: list.remove of data of any depth (turned from the rules for list.index and for list.remove of ints). -/
namespace PySem.SeqAt
open AutoSeq1 (wpAny_loadPart')
open MeetsSeq MeetsSeq2 MeetsSeq3 SeqRoads2
theorem szErased (a : Array Value) (i : Nat) : (a.eraseIdxIfInBounds i).size ≤ a.size := by
  unfold Array.eraseIdxIfInBounds
  split
  · rw [Array.size_eraseIdx]; omega
  · exact Nat.le_refl _
theorem remove_loopAt (l : Addr) (items : Array Value) (n : Nat) (x : Value) (e : Value → Bool) (j : Nat) (hj : j < items.size) (hit : e items[j] = true) (k : Nat) (hs1 : items.size ≤ sizeLine) :
    ∀ i : Nat, j - i = k → i ≤ j → (∀ m (hm : m < items.size), i ≤ m → m < j → e items[m] = false) → Meets (Builtin.«list.remove.loop» ⟨[.ref l, x, rawInt i], []⟩)
      (fun A R s => s.heap.get? l = some { cls := .type "list", dict := none, data := .seq items n, slots := #[] } ∧ (∀ y, y ∈ items → EqAt A.in1 s y x (e y)) ∧ R (.ok (.ret .none)) { s with heap := s.heap.update l (Obj.mapSeq fun xs => xs.eraseIdxIfInBounds j) }) := by
  induction k with
  | zero =>
    intro i hk hij hno prog w A R s h
    obtain ⟨hp, g, d, tk, os⟩ := s; obtain ⟨hl, he, h⟩ := h
    have hij' : i = j := by omega
    subst hij'
    wp_walk using wpAny_loadPart' hl
    have hi : items[((i : Nat) : Int).toNat]? = some items[i] := by simp [hj]
    rw [hi]
    refine wpAny_bind (he _ (Array.getElem_mem hj) prog w _ _ ?_)
    rw [hit]
    have hz' : (items.eraseIdxIfInBounds i).size ≤ sizeLine + 1 := Nat.le_trans (szErased items i) (Nat.le_succ_of_le hs1)
    wp_walk using (wpAny_updateSeq hl rfl (hz := hs1) (_hz' := hz')), wpAny_loadPart' hl
    simpa using h
  | succ k ih =>
    intro i hk hij hno prog w A R s h
    obtain ⟨hp, g, d, tk, os⟩ := s; obtain ⟨hl, he, h⟩ := h
    have hlt : i < items.size := by omega
    wp_walk using wpAny_loadPart' hl
    have hi : items[((i : Nat) : Int).toNat]? = some items[i] := by simp [hlt]
    have hc : ((i : Int) + 1) = ((i + 1 : Nat) : Int) := by push_cast; rfl
    rw [hi]
    refine wpAny_bind (he _ (Array.getElem_mem hlt) prog w _ _ ?_)
    rw [hno i hlt (Nat.le_refl _) (by omega)]
    wp_walk
    rw [hc]
    exact ⟨plainId_quiet plain_remove_loop _, codeAny_builtin entry_remove_loop (by
      rw [Around.under_plainId plain_remove_loop _]
      exact ih (i + 1) (by omega) (by omega) (fun m hm h1 h2 => hno m hm (by omega) h2) prog w A R _ ⟨hl, he, h⟩)⟩
theorem list_removeAt (l : Addr) (items : Array Value) (n : Nat) (x : Value) (e : Value → Bool) (j : Nat) (hj : j < items.size)
    (hit : e items[j] = true) (hno : ∀ m (hm : m < items.size), m < j → e items[m] = false) (hs1 : items.size ≤ sizeLine) :
    Meets (Builtin.«list.remove» ⟨[.ref l, x], []⟩)
      (fun A R s => s.heap.get? l = some { cls := .type "list", dict := none, data := .seq items n, slots := #[] } ∧ (∀ y, y ∈ items → EqAt A.in1 s y x (e y)) ∧ R (.ok (.ret .none)) { s with heap := s.heap.update l (Obj.mapSeq fun xs => xs.eraseIdxIfInBounds j) }) := by
  intro prog w A R s h
  obtain ⟨hp, g, d, tk, os⟩ := s; obtain ⟨hl, he, h⟩ := h
  wp_walk using wpAny_loadPart' hl
  exact ⟨plainId_quiet plain_remove_loop _, codeAny_builtin entry_remove_loop (by
    rw [Around.under_plainId plain_remove_loop _]
    exact remove_loopAt l items n x e j hj hit _ hs1 0 rfl (Nat.zero_le _) (fun m hm _ h2 => hno m hm h2) prog w A R _ ⟨hl, he, h⟩)⟩
end PySem.SeqAt
namespace L2
open PySem PySem.Spec PyProof.Rows PySem.SeqAt
section
variable {X : Cx}
/-- l.remove(x): the first place of an equal one -/
def rRemD (K : PySem.W.Frag) : V → List V → Hp → VK → Prop := fun x vs H Q => ∃ (a : Addr) (y : V) (d : PyData) (xs : List V) (ds : List PyData) (j : Nat) (z : PyData), x = V.ref a ∧ vs = [y] ∧ H a = some (.lst xs) ∧ DpAll K H xs ds ∧ Dp K H y d ∧
  SeqAt.shaped (.list ds) = true ∧ SeqAt.shaped d = true ∧ ds[j]? = some z ∧ PyData.eqv z d = true ∧ (∀ (m : Nat) (z' : PyData), m < j → ds[m]? = some z' → PyData.eqv z' d = false) ∧ Q .non (upd H a (.lst (xs.eraseIdx j)))
theorem mt_removeD (hu : X.A.units + 65 < cLine) : MtR X "list.remove" (rRemD X.K) := by
  intro pins s σ H x vs v us Q I rx rxs h
  obtain ⟨a, y, d, xs, ds, j, z, rfl, rfl, hH, hl, hy, sl, sd, hz, hzj, hno, q⟩ := h
  cases rx
  cases rxs with
  | cons ry rt =>
    rename_i uy ut
    cases rt
    obtain ⟨bs, r1⟩ := Dp.reads I d y uy hy ry
    have hxs : PyData.canLayAll0 ds = true := SeqAt.canLay_of_shaped sl
    have hroom : X.A.units + 1 + min (PyData.depthAll ds) d.depth < cLine := room_in_shaped sd hu
    obtain ⟨zz, its, n, rv, hlen, e0⟩ := I.lstM hH
    obtain ⟨as, h4⟩ := Dp.readsAll I ds _ its hl rv
    have hn : its.length = ds.length := SeqAt.ReadsAll.length ds its as h4
    have hmap : its.map (SeqAt.readOf s.heap) = ds := SeqAt.readsAll_map ds its as hxs h4
    obtain ⟨hjd, _⟩ := List.getElem?_eq_some_iff.mp hz
    have hjl : j < its.length := by omega
    have hj : j < its.toArray.size := by simpa using hjl
    have hsz : its.toArray.size ≤ sizeLine := by rw [List.size_toArray, ← hlen]; exact zz
    have at_ : ∀ (m : Nat) (hm : m < its.toArray.size) (z' : PyData), ds[m]? = some z' → SeqAt.readOf s.heap its.toArray[m] = z' := by
      intro m hm z' hz'
      have hml : m < its.length := by simpa using hm
      rw [← hmap, List.getElem?_map, List.getElem?_eq_getElem hml] at hz'
      have e1 : SeqAt.readOf s.heap its[m] = z' := Option.some.inj (show some (SeqAt.readOf s.heap its[m]) = some z' from hz')
      simpa using e1
    have r2 : Vals (xs.eraseIdx j) (its.eraseIdx j) := rv.eraseIdx j
    refine call_meets PySem.F.slot_list_remove ⟨_, e0, rfl⟩ PySem.F.entry_list_remove (PySem.F.args_list_remove_2 _ _)
      (SeqAt.list_removeAt a its.toArray n uy (fun u => PyData.eqv (SeqAt.readOf s.heap u) d) j hj ?_ ?_ hsz) ⟨e0, SeqAt.items_eqAt (vs := its.toArray) (show ReadsAll s.heap its.toArray.toList ds as from h4) r1 hxs (SeqAt.canLay_of_shaped sd) hroom, ?_⟩
    · show PyData.eqv (SeqAt.readOf s.heap its.toArray[j]) d = true
      rw [at_ j hj z hz]
      exact hzj
    · intro m hm hmj
      have hmd : m < ds.length := by omega
      have hz' : ds[m]? = some ds[m] := List.getElem?_eq_getElem hmd
      show PyData.eqv (SeqAt.readOf s.heap its.toArray[m]) d = false
      rw [at_ m hm _ hz']
      exact hno m _ hmj hz'
    · refine ⟨.non, _, I.lset (its' := its.eraseIdx j) hH e0 ?_ r2 ?_, rfl, q⟩
      · show its.toArray.eraseIdxIfInBounds j = (its.eraseIdx j).toArray
        rw [List.eraseIdxIfInBounds_toArray]
      · have := List.length_eraseIdx_le (l := xs) (i := j)
        omega
theorem kRemD (K : PySem.W.Frag) (hu : X.A.units + 65 < cLine) (eK : X.K = K := by rfl) : MtR X "list.remove" (rRemD K) := eK ▸ mt_removeD hu
end
end L2
set_option Elab.async false
set_option linter.all false
set_option maxRecDepth 100000
set_option maxHeartbeats 1000000
/-! U16: all(x in A for x in e), starred items, enumerate over a list in a for. -/
namespace U
open PySem PySem.Spec PyProof.Rows L2 GxR StX
section
variable {X : Cx}
theorem elt_in1 {P : Addr} {scope : Scope} {x n1 : Str} {z1 : Str} {p1 p2 p3 : Pos} (h1 : ∃ t, X.mg n1 = some (.str z1 t)) (gP : mainGlobals ≠ P)
    (hk : scope.kind = .function) (hl : scope.names.lookup x = some .local) (g1 : scope.names.lookup n1 = some .globalImplicit)
    (d0 : (x == ("__debug__" : Str)) = false := by decide) (d1 : (n1 == ("__debug__" : Str)) = false := by decide) (s1 : Shared) (a : Str) (G : s1.heap.Ns mainGlobals X.mg) :
    EltQ X scope x (.Compare (.Name x p1) [.In] [.Name n1 p2] p3) P s1 (SignAt a) fun i y => ∃ cc, a.cps[i]? = some cc ∧ y = .bool (decide (cc ∈ z1.cps.toList)) := by
  intro cenv A' E' i v s₂ m₂ hA hsc hgl hPf hn hm hkp
  obtain ⟨cc, u, hcc, rfl⟩ := hPf
  obtain ⟨t1, h1⟩ := h1
  have G2 : s₂.heap.Ns cenv.globals X.mg := by rw [hgl]; exact G.extBut hkp gP
  have kx : cenv.kindOf x = some .local := by show cenv.scope.names.lookup x = _; rw [hsc]; exact hl
  have kf : cenv.scope.kind = .function := by rw [hsc]; exact hk
  refine wpAny_Compare1 (wpAny_Name (wpAny_loadName_local kf kx hn hm ?_) d0)
  refine Calls.Name_function_global kf (by show cenv.scope.names.lookup n1 = _; rw [hsc]; exact g1) (Calls.loadGlobal_global G2 h1 ?_) d1
  refine PyProof.Rows.in_str ?_
  rw [PySem.StrLaws.found_one]
  exact ⟨⟨cc, hcc, rfl⟩, keeps_refl _⟩
/-- all(x in A for x in e) -/
theorem ue_allIn1 {c P : Addr} {iter : Expr} {x n1 z1 : Str} {px p pos gpos p1 p2 p3 : Pos} {scope : Scope} {te : TE} {k : Nat} (hr : Room k X.A) (hm : X.mg "all" = none) (TB : TabB X.base X.mg c P) (hi : PE X iter te) (h1 : ∃ t, X.mg n1 = some (.str z1 t))
    (hcode : X.env.code = .ref c := by rfl) (S : GenS X.env scope x := by exact genS) (g1 : scope.names.lookup n1 = some .globalImplicit := by rfl)
    (hg : Gl X "all" := by rfl) (d0 : (x == ("__debug__" : Str)) = false := by decide) (d1 : (n1 == ("__debug__" : Str)) = false := by decide)
    (hs : ∀ v, genFold iter X.env v = pure v := by intro _; rfl)
    (he : starEach [.GeneratorExp (.Compare (.Name x p1) [.In] [.Name n1 p2] p3) [⟨.Name x px, iter, [], 0⟩] scope gpos] X.env = (false, eval (.GeneratorExp (.Compare (.Name x p1) [.In] [.Name n1 p2] p3) [⟨.Name x px, iter, [], 0⟩] scope gpos) X.env) :: starEach [] X.env := by rfl) :
    PE X (.Call (.Name "all" p) [.GeneratorExp (.Compare (.Name x p1) [.In] [.Name n1 p2] p3) [⟨.Name x px, iter, [], 0⟩] scope gpos] [] pos)
      (uAllG P (fun cc => decide (cc ∈ z1.cps.toList)) te) :=
  ue_allG hr hg hm (by decide +kernel) TB hcode S hi (fun s1 a G => elt_in1 h1 TB.gP S.kind S.loc g1 d0 d1 s1 a G) hs he
theorem kStar (K : PySem.W.Frag) {e : Expr} {es : List Expr} {te : TE} {t : TA} {p : Pos} (he : PE X e te) (hr : PA X es t) (hs : starEach (.Starred e p :: es) X.env = (true, eval e X.env) :: starEach es X.env := by rfl) (eK : X.K = K := by rfl) : PA X (.Starred e p :: es) (tStar K te t) := eK ▸ pa_star he hr hs
theorem kiEnum (K : PySem.W.Frag) {e : Expr} {ta : TA} {p pos tpos : Pos} {elts : List Expr} {kk : Nat} (hm : X.mg "enumerate" = none) (ha : PA X [e] ta) (hg : Gl X "enumerate" := by rfl) (hs : starEach [e] X.env = [(false, eval e X.env)] := by rfl) (eK : X.K = K := by rfl) :
    PI X (.Tuple elts kk tpos) (.Call (.Name "enumerate" p) [e] [] pos) (iEnum K ta) := eK ▸ pi_enum hg hm ha hs
end
theorem Room.units65 {k : Nat} {A : Around} (r : Room k A) : A.units + 65 < cLine := by have := r.un; omega
end U
set_option Elab.async false
set_option linter.all false
set_option maxRecDepth 100000
set_option maxHeartbeats 1000000
namespace LW
open PySem PySem.Spec PyProof.Rows L2 U
def top (i : Nat) : Stmt := PySem.Challenge.pw_manyrides_k03_text_and_town_are_each_oth.main.body.getD i (.Pass ⟨0, 0, 0, 0⟩)
section
variable {P : Program} {w : World} {K : PySem.W.Frag} {mg : Str → Option Value} {base : Heap}
/-! the law's helpers: cells, pools, draws -/
/-- a pool of draws stands at p -/
def Pool (H : Hp) (p : Addr) : Prop := ∃ x b c : Int, H p = some (.lst [.int x, .int b, .int c]) ∧ 0 ≤ x ∧ 0 ≤ b ∧ b < 2147483647 ∧ 0 ≤ c
theorem Pool.keep {H H' : Hp} {p : Addr} {S : List Addr} (h : Pool H p) (f : Kp S H H') (n : p ∉ S) : Pool H' p := by
  obtain ⟨x, b, c, e, r⟩ := h
  exact ⟨x, b, c, f _ _ e n, r⟩
abbrev s__law_cell : Stmt := top 37
abbrev N__law_cell : List Str := ["script", "k"]
theorem sc__law_cell : FnScope N__law_cell ["script", "k"] (defScope s__law_cell) := ⟨rfl, rfl, rfl, by decide +kernel, rfl, by decide +kernel, by decide +kernel⟩
def sp__law_cell (K : PySem.W.Frag) : Sp := fun vs H Q _ => ∃ (a : Addr) (ns : List Int) (k : Nat), vs = [.ref a, .int k] ∧ SqL K H a (ns.map V.int) ∧ ∀ v : Int, Q (.int v) H
theorem ok__law_cell {f : Addr} {fd : FuncData} (F : FunD K "_law_cell" "_law_cell" (defArgs s__law_cell) (defBody s__law_cell) (defScope s__law_cell) [] [] f fd)
    (mN_len : mg "len" = none) : FnOk P w K mg base CX0 1 f fd ["script", "k"] (sp__law_cell K) := by
  refine F.ok sc__law_cell (fun vs H Q E h => ?_) (fun cdv A outer s H vs Q E hr h => ⟨_, PSs.nox ((pss_cons (us_if (ut_cmp o_lt (pu 1) (pe_callB (kLen K) (by rfl) mN_len boot_len (pa_cons (pu 0) pa_nil)) (nomark _)) (pss_one (ps_ret (pe_ix (kIx K) (pu 0) (pu 1) (fun _ _ => rfl)))) pss_nil)
    (pss_one (ps_ret pe_int)))), ?_⟩)
  · obtain ⟨a, ns, k, rfl, _⟩ := h
    rfl
  · obtain ⟨a, ns, k, rfl, h⟩ := h
    obtain ⟨hS, hk⟩ := h
    refine ⟨_, .inl ⟨_, hS, rfl⟩, fun c => ?_, fun _ => hk 0⟩
    have c' : (k : Int) < ((ns.map V.int).length : Nat) := of_decide_eq_true c
    have c2 : k < ns.length := by rw [List.length_map] at c'; omega
    refine ⟨_, .int ns[k], .inl hS, atI_nat ?_, hk _⟩
    rw [List.getElem?_map, List.getElem?_eq_getElem c2]
    rfl
abbrev s__law_pool : Stmt := top 38
abbrev N__law_pool : List Str := ["cell", "size"]
theorem sc__law_pool : FnScope N__law_pool ["cell"] (defScope s__law_pool) := ⟨rfl, rfl, rfl, by decide +kernel, rfl, by decide +kernel, by decide +kernel⟩
def sp__law_pool (K : PySem.W.Frag) : Sp := fun vs H Q _ => ∃ v : Int, vs = [.int v] ∧ ∀ (H' : Hp) p, H p = none → Pool H' p → Kp [] H H' → Q (.ref p) H'
theorem ok__law_pool {f : Addr} {fd : FuncData} (F : FunD K "_law_pool" "_law_pool" (defArgs s__law_pool) (defBody s__law_pool) (defScope s__law_pool) [] [] f fd)
    (mN_abs : mg "abs" = none)
    (mN_int : mg "int" = none) : FnOk P w K mg base CX0 1 f fd ["cell"] (sp__law_pool K) := by
  refine F.ok sc__law_pool (fun vs H Q E h => ?_) (fun cdv A outer s H vs Q E hr h => ⟨_, PSs.nox ((pss_cons (ps_set (i := 1) sc__law_pool.nd rfl (.inl rfl) (pe_callB c_abs (by rfl) mN_abs (by decide +kernel) (pa_cons (pe_callTy c_int (by rfl) mN_int boot_int (pa_cons (pu 0) pa_nil)) pa_nil)))
    (pss_cons (us_if (ut_cmp o_ge (pu 1) (pe_op o_pow pe_int pe_int) (nomark _)) (pss_one (ps_ret (pe_lst (pa_cons (pe_op o_sub (pu 1) (pe_op o_pow pe_int pe_int)) (pa_cons (pe_op o_mod (pu 1) pe_int) (pa_cons pe_int pa_nil)))))) pss_nil)
    (pss_one (ps_ret (pe_lst (pa_cons pe_int (pa_cons (pe_op o_mod (pu 1) pe_int) (pa_cons pe_int pa_nil))))))))), ?_⟩)
  · obtain ⟨v, rfl, _⟩ := h
    rfl
  · obtain ⟨v, rfl, h⟩ := h
    have hz : 0 ≤ (if v < 0 then -v else v) := by split <;> omega
    refine ⟨⟨by decide, by decide, by decide⟩, fun c => ?_, fun c => ?_⟩
    · have c' : (10 : Int) ^ (18 : Int).toNat ≤ (if v < 0 then -v else v) := of_decide_eq_true c
      refine ⟨⟨by decide, by decide, by decide⟩, by decide, sl rfl, fun p hp => ?_⟩
      exact h _ p hp ⟨_, _, _, upd_same, by omega, by omega, by omega, by omega⟩ (Kp.new hp)
    · refine ⟨by decide, sl rfl, fun p hp => ?_⟩
      exact h _ p hp ⟨_, _, _, upd_same, by omega, by omega, by omega, by omega⟩ (Kp.new hp)
abbrev s__law_take : Stmt := top 39
abbrev N__law_take : List Str := ["pool", "limit", "digit", "first", "second", "third"]
theorem sc__law_take : FnScope N__law_take ["pool", "limit"] (defScope s__law_take) := ⟨rfl, rfl, rfl, by decide +kernel, rfl, by decide +kernel, by decide +kernel⟩
def sp__law_take (K : PySem.W.Frag) : Sp := fun vs H Q _ => ∃ (p : Addr) (n : Int), vs = [.ref p, .int n] ∧ Pool H p ∧ (0 < n ∧ n < 1073741824) ∧ ∀ (H' : Hp) (d : Int), 0 ≤ d → d < n → Pool H' p → Kp [p] H H' → Q (.int d) H'
theorem ok__law_take {f : Addr} {fd : FuncData} (F : FunD K "_law_take" "_law_take" (defArgs s__law_take) (defBody s__law_take) (defScope s__law_take) [] [] f fd)
    (mN_int : mg "int" = none) : FnOk P w K mg base CX0 1 f fd ["pool", "limit"] (sp__law_take K) := by
  refine F.ok sc__law_take (fun vs H Q E h => ?_) (fun cdv A outer s H vs Q E hr h => ⟨_, PSs.nox ((pss_cons (ps_asg (pe_op (kAdd K) (pe_ix (kIx K) (pu 0) pe_int (fun _ _ => rfl)) pe_int) (pg_sub (pu 0) pe_int st_list))
    (pss_cons (us_if (ut_cmp o_gt (pe_ix (kIx K) (pu 0) pe_int (fun _ _ => rfl)) pe_int (nomark _)) (pss_cons (ps_set (i := 2) sc__law_take.nd rfl (.inl rfl) (pe_op o_mod (pe_callTy c_int (by rfl) mN_int boot_int (pa_cons (pe_ix (kIx K) (pu 0) pe_int (fun _ _ => rfl)) pa_nil)) (pu 1)))
    (pss_cons (ps_asg (pe_op o_div (pe_callTy c_int (by rfl) mN_int boot_int (pa_cons (pe_ix (kIx K) (pu 0) pe_int (fun _ _ => rfl)) pa_nil)) (pu 1)) (pg_sub (pu 0) pe_int st_list))
    (pss_one (ps_ret (pu 2))))) pss_nil)
    (pss_cons (ps_set (i := 3) sc__law_take.nd rfl (.inl rfl) (pe_op o_mod (pe_callTy c_int (by rfl) mN_int boot_int (pa_cons (pe_op (kAdd K) (pe_op (kAdd K) (pe_op o_mulS (pe_ix (kIx K) (pu 0) pe_int (fun _ _ => rfl)) pe_int) (pe_op o_mulS (pe_ix (kIx K) (pu 0) pe_int (fun _ _ => rfl)) pe_int)) pe_int) pa_nil)) pe_int))
    (pss_cons (ps_set (i := 4) sc__law_take.nd rfl (.inl rfl) (pe_op o_mod (pe_callTy c_int (by rfl) mN_int boot_int (pa_cons (pe_op (kAdd K) (pe_op o_mulS (pu 3) (pu 3)) (pe_op o_div (pu 3) pe_int)) pa_nil)) pe_int))
    (pss_cons (ps_set (i := 5) sc__law_take.nd rfl (.inl rfl) (pe_op o_mod (pe_callTy c_int (by rfl) mN_int boot_int (pa_cons (pe_op o_mulS (pu 4) (pe_op (kAdd K) (pe_op (kAdd K) (pe_op o_div (pu 4) pe_int) (pe_ix (kIx K) (pu 0) pe_int (fun _ _ => rfl))) pe_int)) pa_nil)) pe_int))
    (pss_one (ps_ret (pe_op o_mod (pe_op o_div (pu 5) pe_int) (pu 1)))))))))), ?_⟩)
  · obtain ⟨p, n, rfl, _⟩ := h
    rfl
  · obtain ⟨p, n, rfl, h⟩ := h
    obtain ⟨⟨x, b, c, hp, hx, hb, hb2, hc⟩, ⟨n1, n2⟩, hk⟩ := h
    refine ⟨_, _, .inl (SqL.of hp), rfl, _, _, hp, rfl, ?_⟩
    have h1 : upd H p (.lst [.int x, .int b, .int (c + 1)]) p = some (.lst [.int x, .int b, .int (c + 1)]) := upd_same
    refine ⟨_, _, .inl (SqL.of h1), rfl, fun c1 => ?_, fun c1 => ?_⟩
    · have c2 : (0 : Int) < x := of_decide_eq_true c1
      refine ⟨_, _, .inl (SqL.of h1), rfl, n1, _, _, .inl (SqL.of h1), rfl, ⟨n1, n2⟩, _, _, h1, rfl, ?_⟩
      refine hk _ _ (Int.emod_nonneg _ (by omega)) (Int.emod_lt_of_pos _ n1) ⟨_, _, _, upd_same, Int.ediv_nonneg (by omega) (by omega), hb, hb2, by omega⟩ ?_
      exact (Kp.set (by simp)).put (by simp)
    · refine ⟨_, _, .inl (SqL.of h1), rfl, .inr ⟨by decide, by decide⟩, _, _, .inl (SqL.of h1), rfl, .inr ⟨by decide, by decide⟩, by decide, ?_⟩
      generalize e1 : (b * 48271 + (c + 1) * 69621 + 11) % 2147483647 = first
      have f1 : 0 ≤ first := by rw [← e1]; exact Int.emod_nonneg _ (by decide)
      have f2 : first < 2147483647 := by rw [← e1]; exact Int.emod_lt_of_pos _ (by decide)
      refine ⟨.inl ⟨by omega, by omega⟩, ⟨by decide, by decide⟩, by decide, ?_⟩
      generalize e2 : (first * first + first / 4099) % 2147483629 = second
      have g1 : 0 ≤ second := by rw [← e2]; exact Int.emod_nonneg _ (by decide)
      have g2 : second < 2147483629 := by rw [← e2]; exact Int.emod_lt_of_pos _ (by decide)
      refine ⟨⟨by decide, by decide⟩, _, _, .inl (SqL.of h1), rfl, .inl ⟨by omega, by omega⟩, by decide, ⟨by decide, by decide⟩, n1, ?_⟩
      exact hk _ _ (Int.emod_nonneg _ (by omega)) (Int.emod_lt_of_pos _ n1) ⟨_, _, _, h1, hx, hb, hb2, by omega⟩ (Kp.set (by simp))
/-! the law's comparison -/
def sp_same (K : PySem.W.Frag) : Nat → Sp
  | 0 => fun _ _ _ _ => False
  | n + 1 => fun vs H Q _ => ∃ (v u : V) (d e : Dt), vs = [v, u] ∧ (Rp H v d ∧ Rp H u e ∧ e.depth ≤ n ∧ e.wide ∧ ∀ b H', (b = true ↔ d = e) → Kp [] H H' → Q (.bl b) H')
open Classical in
noncomputable def dq (ds es : List Dt) (k : Nat) : Bool := decide (ds[k]? = es[k]?)
theorem dq_iff {ds es : List Dt} {k : Nat} : dq ds es k = true ↔ ds[k]? = es[k]? := by
  classical
  exact decide_eq_true_iff
theorem dq_all {ds es : List Dt} (h : ds.length = es.length) : ((List.range es.length).map (dq ds es)).all id = true ↔ ds = es := by
  constructor
  · intro a
    apply List.ext_getElem? 
    intro i
    by_cases hi : i < es.length
    · have := (List.all_eq_true.mp a) (dq ds es i) (List.mem_map_of_mem (List.mem_range.mpr hi))
      exact dq_iff.mp this
    · rw [List.getElem?_eq_none (by omega), List.getElem?_eq_none (by omega)]
  · intro e
    subst e
    apply List.all_eq_true.mpr
    intro b hb
    obtain ⟨i, _, rfl⟩ := List.mem_map.mp hb
    exact dq_iff.mpr rfl
theorem same_comp {n : Nat} {H : Hp} {Q : VK} {a c : Addr} {xs ys : List V} {ds es : List Dt} (ha : ∀ H', Kp [] H H' → SqL K H' a xs ∨ SqT K H' a xs) (hc : (∃ zs, SqL K H c zs ∧ ys.length = zs.length) ∨ (∃ zs, SqT K H c zs ∧ ys.length = zs.length))
    (hc' : ∀ H', Kp [] H H' → SqL K H' c ys ∨ SqT K H' c ys) (hd : RpL H xs ds) (he : RpL H ys es) (hl : ds.length = es.length) (hz : es.length ≤ 100000) (hn : ∀ d ∈ es, ∃ m, n = m + 1 ∧ d.depth ≤ m) (hw : ∀ d ∈ es, d.wide)
    (h : ∀ b H', (b = true ↔ ds = es) → Kp [] H H' → Q (.bl b) H') :
    tCB (uAll K) (tCons (tLc (iRng1 (tCons (tCB (uLen K) (tCons (uV 1) tNil)) tNil)) (gName 2) tYes
            (uCall (sp_same K n) E0 (tCons (tOp (uIx K) (uV 0) (uV 2)) (tCons (tOp (uIx K) (uV 1) (uV 2)) tNil)))
            [2]) tNil) [some (.ref a), some (.ref c), none, none] H Q := by
  refine ⟨ys.length, ?_, ?_⟩
  · rcases hc with ⟨zs, e1, e2⟩ | ⟨zs, e1, e2⟩
    · exact .inl ⟨zs, e1, e2⟩
    · exact .inr (.inl ⟨zs, e1, e2⟩)
  have el : ys.length = es.length := he.length
  have dl : xs.length = ds.length := hd.length
  refine ⟨_, rfl, by omega, by omega, ?_⟩
  rw [Int.toNat_natCast]
  have FL : ∀ i, (((List.range i).map (dq ds es)).map V.bl).length = i := fun i => by simp
  refine fun D hD => lc_range (LcP [] H D fun i => ((List.range i).map (dq ds es)).map V.bl) (LcP.start hD rfl) (fun i H1 hi p => ?_) fun H1 p => ?_
  · have hi2 : i < es.length := by omega
    have hi3 : i < ds.length := by omega
    have k1 : Kp [] H H1 := p.2
    obtain ⟨x, x1, x2⟩ := hd.get (List.getElem?_eq_getElem hi3)
    obtain ⟨y, y1, y2⟩ := he.get (List.getElem?_eq_getElem hi2)
    obtain ⟨m, rfl, hm⟩ := hn _ (List.getElem_mem hi2)
    have ei : (0 + (i : Int)) = i := by omega
    rw [ei]
    refine ⟨rfl, xs, x, ha _ k1, atI_nat x1, ys, y, hc' _ k1, atI_nat y1, x, y, ds[i], es[i], rfl, x2.keep k1, y2.keep k1, hm, hw _ (List.getElem_mem hi2), fun b H' hb k' => ?_⟩
    have eb : b = dq ds es i := by
      rw [Bool.eq_iff_iff, hb, dq_iff, List.getElem?_eq_getElem hi3, List.getElem?_eq_getElem hi2, Option.some_inj]
    refine p.step hD k' (by simp) ?_ ?_
    · rw [eb]; simp [List.range_succ]
    · rw [FL]; exact Nat.lt_of_lt_of_le (show i < 100001 by omega) (sl rfl)
  · refine ⟨(List.range es.length).map (dq ds es), SqL.of (by rw [← el]; exact p.1), ?_⟩
    exact h _ _ (dq_all hl) p.2
theorem strsRp {H : Hp} : ∀ ks : List Str, RpL H (ks.map V.str) (ks.map Dt.str)
  | [] => .nil
  | k :: ks => .cons (.str k) (strsRp ks)
theorem strs_inj {js ks : List Str} : js.map Dt.str = ks.map Dt.str ↔ js = ks := by
  constructor
  · intro h
    exact List.map_inj_right (fun a b e => Dt.str.inj e) |>.mp h
  · intro h; rw [h]
theorem strs_depth : ∀ ks : List Str, depthL (ks.map Dt.str) = 0
  | [] => rfl
  | k :: ks => by simp [depthL, Dt.depth, strs_depth ks]
theorem strs_wide (ks : List Str) : wideL (ks.map Dt.str) := wideL_of fun d hd => by
  obtain ⟨k, _, rfl⟩ := List.mem_map.mp hd
  trivial
abbrev s__law_same : Stmt := top 45
abbrev N__law_same : List Str := ["actual", "expected", "k", "key"]
theorem sc__law_same : FnScope N__law_same ["actual", "expected"] (defScope s__law_same) := ⟨rfl, rfl, rfl, by decide +kernel, rfl, by decide +kernel, by decide +kernel⟩

theorem ok__law_same {n : Nat} {f : Addr} {fd : FuncData} (F : FunD K "_law_same" "_law_same" (defArgs s__law_same) (defBody s__law_same) (defScope s__law_same) [] [] f fd)
    (mN_isinstance : mg "isinstance" = none)
    (mN_tuple : mg "tuple" = none)
    (mN_len : mg "len" = none)
    (mN_all : mg "all" = none)
    (mN_range : mg "range" = none)
    (C__law_same : Cal P w K mg base CX0 n "_law_same" ["actual", "expected"] (sp_same K n))
    (mN_list : mg "list" = none)
    (mN_dict : mg "dict" = none)
    (mN_int : mg "int" = none)
    (mN_bool : mg "bool" = none)
    (mN_str : mg "str" = none) : FnOk P w K mg base CX0 (n + 1) f fd ["actual", "expected"] (sp_same K (n + 1)) := by
  refine F.ok sc__law_same (fun vs H Q E h => ?_) (fun cdv A outer s H vs Q E hr h => ⟨_, PSs.nox ((pss_cons (us_if (ut_val (pe_callB (kIsi K) (by rfl) mN_isinstance (by decide +kernel) (pa_cons (pu 1) (pa_cons (pe_bltn (v := .ty "tuple") (by rfl) mN_tuple (by decide +kernel) rfl) pa_nil)))) (pss_cons (us_if (PW.pt (uw_or (pt_not (ut_val (pe_callB (kIsi K) (by rfl) mN_isinstance (by decide +kernel) (pa_cons (pu 0) (pa_cons (pe_bltn (v := .ty "tuple") (by rfl) mN_tuple (by decide +kernel) rfl) pa_nil))))) (pw_or1 (ut_cmp (kNe K hr.units) (pe_callB (kLen K) (by rfl) mN_len boot_len (pa_cons (pu 0) pa_nil)) (pe_callB (kLen K) (by rfl) mN_len boot_len (pa_cons (pu 1) pa_nil)) (nomark _))))) (pss_one (ps_ret pe_bl)) pss_nil)
    (pss_one (ps_ret (pe_callB (kAll K rfl) (by rfl) mN_all (by decide +kernel) (pa_cons (pe_lc (own := [("k", 2)]) rfl sc__law_same.nd (pi_range1 (by rfl) mN_range (pa_cons (pe_callB (kLen K) (by rfl) mN_len boot_len (pa_cons (pu 1) pa_nil)) pa_nil)) (blkOk_by (N := N__law_same) (sc := defScope s__law_same) (by decide +kernel)) (fun _ _ _ _ _ => (pg_name (i := 2) sc__law_same.nd rfl (.inl rfl))) (fun _ _ _ _ _ => pts_nil) (fun _ _ _ _ _ => (ue_call (E := E0) C__law_same hr rfl pass0 (pa_cons (pe_ix (kIx K) (pu 0) (pu 2) (fun _ _ => rfl)) (pa_cons (pe_ix (kIx K) (pu 1) (pu 2) (fun _ _ => rfl)) pa_nil))))) pa_nil))))) pss_nil)
    (pss_cons (us_if (ut_val (pe_callB (kIsi K) (by rfl) mN_isinstance (by decide +kernel) (pa_cons (pu 1) (pa_cons (pe_bltn (v := .ty "list") (by rfl) mN_list (by decide +kernel) rfl) pa_nil)))) (pss_cons (us_if (PW.pt (uw_or (pt_not (ut_val (pe_callB (kIsi K) (by rfl) mN_isinstance (by decide +kernel) (pa_cons (pu 0) (pa_cons (pe_bltn (v := .ty "list") (by rfl) mN_list (by decide +kernel) rfl) pa_nil))))) (pw_or1 (ut_cmp (kNe K hr.units) (pe_callB (kLen K) (by rfl) mN_len boot_len (pa_cons (pu 0) pa_nil)) (pe_callB (kLen K) (by rfl) mN_len boot_len (pa_cons (pu 1) pa_nil)) (nomark _))))) (pss_one (ps_ret pe_bl)) pss_nil)
    (pss_one (ps_ret (pe_callB (kAll K rfl) (by rfl) mN_all (by decide +kernel) (pa_cons (pe_lc (own := [("k", 2)]) rfl sc__law_same.nd (pi_range1 (by rfl) mN_range (pa_cons (pe_callB (kLen K) (by rfl) mN_len boot_len (pa_cons (pu 1) pa_nil)) pa_nil)) (blkOk_by (N := N__law_same) (sc := defScope s__law_same) (by decide +kernel)) (fun _ _ _ _ _ => (pg_name (i := 2) sc__law_same.nd rfl (.inl rfl))) (fun _ _ _ _ _ => pts_nil) (fun _ _ _ _ _ => (ue_call (E := E0) C__law_same hr rfl pass0 (pa_cons (pe_ix (kIx K) (pu 0) (pu 2) (fun _ _ => rfl)) (pa_cons (pe_ix (kIx K) (pu 1) (pu 2) (fun _ _ => rfl)) pa_nil))))) pa_nil))))) pss_nil)
    (pss_cons (us_if (ut_val (pe_callB (kIsi K) (by rfl) mN_isinstance (by decide +kernel) (pa_cons (pu 1) (pa_cons (pe_bltn (v := .ty "dict") (by rfl) mN_dict (by decide +kernel) rfl) pa_nil)))) (pss_cons (us_if (PW.pt (uw_or (pt_not (ut_val (pe_callB (kIsi K) (by rfl) mN_isinstance (by decide +kernel) (pa_cons (pu 0) (pa_cons (pe_bltn (v := .ty "dict") (by rfl) mN_dict (by decide +kernel) rfl) pa_nil))))) (pw_or1 (pt_not (ut_val (ue_call (E := E0) C__law_same hr rfl pass0 (pa_cons (pe_callTy (kList K rfl) (by rfl) mN_list (by decide +kernel) (pa_cons (pu 0) pa_nil)) (pa_cons (pe_callTy (kList K rfl) (by rfl) mN_list (by decide +kernel) (pa_cons (pu 1) pa_nil)) pa_nil)))))))) (pss_one (ps_ret pe_bl)) pss_nil)
    (pss_one (ps_ret (pe_callB (kAll K rfl) (by rfl) mN_all (by decide +kernel) (pa_cons (pe_lc (own := [("key", 3)]) rfl sc__law_same.nd (kiList K (pe_callTy (kList K rfl) (by rfl) mN_list (by decide +kernel) (pa_cons (pu 1) pa_nil))) (blkOk_by (N := N__law_same) (sc := defScope s__law_same) (by decide +kernel)) (fun _ _ _ _ _ => (pg_name (i := 3) sc__law_same.nd rfl (.inl rfl))) (fun _ _ _ _ _ => pts_nil) (fun _ _ _ _ _ => (ue_call (E := E0) C__law_same hr rfl pass0 (pa_cons (pe_dget (hu_of hr) (pu 0) (pu 3) (fun _ _ => rfl)) (pa_cons (pe_dget (hu_of hr) (pu 1) (pu 3) (fun _ _ => rfl)) pa_nil))))) pa_nil))))) pss_nil)
    (pss_cons (us_if (ut_cmp o_isN (pu 1) pe_non (nomark _)) (pss_one (ps_ret (pe_cmpR o_isN (pu 0) pe_non (nomark _)))) pss_nil)
    (pss_cons (us_if (ut_cmp o_isB (pu 1) pe_bl (nomark _)) (pss_one (ps_ret (pe_cmpR o_isB (pu 0) pe_bl (nomark _)))) pss_nil)
    (pss_cons (us_if (ut_cmp o_isB (pu 1) pe_bl (nomark _)) (pss_one (ps_ret (pe_cmpR o_isB (pu 0) pe_bl (nomark _)))) pss_nil)
    (pss_cons (us_if (ut_val (pe_callB (kIsi K) (by rfl) mN_isinstance (by decide +kernel) (pa_cons (pu 1) (pa_cons (pe_bltn (v := .ty "int") (by rfl) mN_int (by decide +kernel) rfl) pa_nil)))) (pss_one (ps_ret (ue_and (pe_callB (kIsi K) (by rfl) mN_isinstance (by decide +kernel) (pa_cons (pu 0) (pa_cons (pe_bltn (v := .ty "int") (by rfl) mN_int (by decide +kernel) rfl) pa_nil))) (ue_and (ue_not (pe_callB (kIsi K) (by rfl) mN_isinstance (by decide +kernel) (pa_cons (pu 0) (pa_cons (pe_bltn (v := .ty "bool") (by rfl) mN_bool (by decide +kernel) rfl) pa_nil)))) (pe_one (pe_cmpR (kEq K hr.units) (pu 0) (pu 1) (nomark _))))))) pss_nil)
    (pss_one (ps_ret (ue_and (pe_callB (kIsi K) (by rfl) mN_isinstance (by decide +kernel) (pa_cons (pu 0) (pa_cons (pe_bltn (v := .ty "str") (by rfl) mN_str (by decide +kernel) rfl) pa_nil))) (pe_one (pe_cmpR (kEq K hr.units) (pu 0) (pu 1) (nomark _)))))))))))))), ?_⟩)
  · obtain ⟨v, u, d, e, rfl, _⟩ := h
    rfl
  · obtain ⟨v, u, d, e, rfl, h⟩ := h
    obtain ⟨hd, he, hn, hw, hk⟩ := h
    refine ⟨_, _, he.ty, e.kit _ (by simp), fun c => ?_, fun c0 => ?_⟩
    · cases he <;> simp [Dt.isK, Dt.kind] at c
      rename_i y0 ys es hy he
      refine ⟨_, _, hd.ty, d.kit _ (by simp), fun c1 => brT (hk _ _ ?_ Kp.refl), fun c1 => ?_⟩
      · simp; intro e; subst e; simp [Dt.isK, Dt.kind] at c1
      cases hd <;> simp [Dt.isK, Dt.kind] at c1
      rename_i x0 xs ds hx hd
      refine ⟨_, .inr (.inl ⟨_, SqT.of hx, rfl⟩), _, .inr (.inl ⟨_, SqT.of hy, rfl⟩), rfl, fun c1 => ?_, fun c1 => ?_⟩
      · refine hk _ _ ?_ Kp.refl
        simp [eqB_dec, hd.length, he.length] at c1
        simp; intro e; subst e; exact c1 rfl
      · simp [eqB_dec, hd.length, he.length] at c1
        refine same_comp (fun H' k => .inr (SqT.of (k.get0 hx))) (.inr ⟨_, SqT.of hy, rfl⟩) (fun H' k => .inr (SqT.of (k.get0 hy))) hd he (by omega) hw.1 (fun x hx => ?_) (fun x hx => wide_mem hx hw.2) fun b H' hb k => hk b H' (by rw [hb]; simp) k
        have := depth_mem hx
        simp [Dt.depth] at hn
        exact ⟨n - 1, by omega, by omega⟩
    · refine ⟨_, _, he.ty, e.kit _ (by simp), fun c => ?_, fun c' => ?_⟩
      · cases he <;> simp [Dt.isK, Dt.kind] at c
        rename_i ys es hy he
        refine ⟨_, _, hd.ty, d.kit _ (by simp), fun c1 => brT (hk _ _ ?_ Kp.refl), fun c1 => ?_⟩
        · simp; intro e; subst e; simp [Dt.isK, Dt.kind] at c1
        cases hd <;> simp [Dt.isK, Dt.kind] at c1
        rename_i xs ds hx hd
        refine ⟨_, .inl ⟨_, SqL.of hx, rfl⟩, _, .inl ⟨_, SqL.of hy, rfl⟩, rfl, fun c1 => ?_, fun c1 => ?_⟩
        · refine hk _ _ ?_ Kp.refl
          simp [eqB_dec, hd.length, he.length] at c1
          simp; intro e; subst e; exact c1 rfl
        · simp [eqB_dec, hd.length, he.length] at c1
          refine same_comp (fun H' k => .inl (SqL.of (k.get0 hx))) (.inl ⟨_, SqL.of hy, rfl⟩) (fun H' k => .inl (SqL.of (k.get0 hy))) hd he (by omega) hw.1 (fun x hx => ?_) (fun x hx => wide_mem hx hw.2) fun b H' hb k => hk b H' (by rw [hb]; simp) k
          have := depth_mem hx
          simp [Dt.depth] at hn
          exact ⟨n - 1, by omega, by omega⟩
      · refine ⟨_, _, he.ty, e.kit _ (by simp), fun c => ?_, fun cD => ?_⟩
        · cases he <;> simp [Dt.isK, Dt.kind] at c
          rename_i b0 ks ys es hy nds hls he
          refine ⟨_, _, hd.ty, d.kit _ (by simp), fun c1 => brT (hk _ _ ?_ Kp.refl), fun c1 => ?_⟩
          · simp; intro e; subst e; simp [Dt.isK, Dt.kind] at c1
          cases hd <;> simp [Dt.isK, Dt.kind] at c1
          rename_i a0 js xs ds hx ndj hlj hd
          have hn2 : 2 + depthL es ≤ n := hn
          obtain ⟨m, rfl⟩ : ∃ m, n = m + 1 := ⟨n - 1, by omega⟩
          have ll : ks.length = es.length := by rw [hls, he.length]
          have lj : js.length = ds.length := by rw [hlj, hd.length]
          have hy1 : ∀ {p o}, H p = none → upd H p o b0 = some (.dK (kvL ks ys)) := fun h => get_new hy h
          refine ⟨_, .inr (.inr ⟨_, hx, rfl⟩), fun l1 hl1 => ⟨_, .inr (.inr ⟨_, hy1 hl1, rfl⟩), fun l2 hl2 => ?_⟩⟩
          rw [kv_keys hlj, kv_keys hls] at *
          have k2 : Kp [] H (upd (upd H l1 (.lst (js.map V.str))) l2 (.lst (ks.map V.str))) := (Kp.new hl1).trans (Kp.new hl2)
          refine ⟨.ref l1, .ref l2, .lst (js.map .str), .lst (ks.map .str), rfl, .lst (get_new upd_same hl2) (strsRp js), .lst upd_same (strsRp ks), ?_, ⟨?_, strs_wide ks⟩, fun b H' hb k' => ?_⟩
          · simp only [Dt.depth, strs_depth]; omega
          · rw [List.length_map, ll]; exact hw.1
          cases b with
          | false =>
            refine brT (hk _ _ ?_ (k2.trans k'))
            refine ⟨fun z => (nomatch z), fun z => ?_⟩
            exfalso
            injection z with z1 z2
            exact absurd (hb.mpr (by rw [z1])) (by decide)
          | true =>
            have e1 := hb.mp rfl
            injection e1 with e1
            have e2 := strs_inj.mp e1
            subst e2
            have k3 := k2.trans k'
            refine brF ⟨_, .inr (.inr ⟨_, k3.get0 hy, (kv_keys hls).symm⟩), fun l3 hl3 => ⟨l3, rfl, ⟨_, SqL.of upd_same⟩, fun D hD => lc_list (xs := js.map V.str) (LcP [] _ D fun i => ((List.range i).map (dq ds es)).map V.bl) (LcP.start hD rfl) (fun i H4 _ q => SqL.of (q.2.get0 upd_same)) (fun i x H4 hx4 q => ?_) fun H4 q => ?_⟩⟩
            · rw [List.getElem?_map] at hx4
              cases ek : js[i]? with
              | none => rw [ek] at hx4; cases hx4
              | some w =>
                rw [ek] at hx4
                cases hx4
                have hi : i < js.length := (List.getElem?_eq_some_iff.mp ek).1
                have hi2 : i < es.length := by omega
                have hi3 : i < ds.length := by omega
                have k4 := (k3.trans (Kp.new hl3)).trans q.2
                obtain ⟨x, x1, x2⟩ := hd.get (List.getElem?_eq_getElem hi3)
                obtain ⟨y, y1, y2⟩ := he.get (List.getElem?_eq_getElem hi2)
                have g1 : DGet H4 a0 (.str w) (some x) := by
                  have g := DGet.k (k := .inr w) (k4.get0 hx)
                  rw [kv_get ndj hlj ek, x1] at g
                  exact g
                have g2 : DGet H4 b0 (.str w) (some y) := by
                  have g := DGet.k (k := .inr w) (k4.get0 hy)
                  rw [kv_get nds hls ek, y1] at g
                  exact g
                have hdm := depth_mem (List.getElem_mem hi2)
                refine ⟨rfl, a0, x, rfl, g1, b0, y, rfl, g2, x, y, ds[i], es[i], rfl, x2.keep k4, y2.keep k4, by omega, wide_mem (List.getElem_mem hi2) hw.2, fun b H' hb k' => ?_⟩
                have eb : b = dq ds es i := by
                  rw [Bool.eq_iff_iff, hb, dq_iff, List.getElem?_eq_getElem hi3, List.getElem?_eq_getElem hi2, Option.some_inj]
                refine q.step hD k' (by simp) ?_ ?_
                · rw [eb]; simp [List.range_succ]
                · have := hw.1
                  rw [List.length_map, List.length_map, List.length_range]
                  exact Nat.lt_of_lt_of_le (show i < 100001 by omega) (sl rfl)
            · have q1 := q.1
              rw [List.length_map] at q1
              refine ⟨(List.range js.length).map (dq ds es), SqL.of q1, hk _ _ ?_ ((k3.trans (Kp.new hl3)).trans q.2)⟩
              rw [ll, dq_all (by omega)]
              simp
        cases he with
        | non => 
          refine ⟨rfl, brT ⟨rfl, hk _ _ ?_ Kp.refl⟩⟩
          cases hd <;> simp [isNonV]
        | bl b =>
          cases b with
          | true =>
            refine ⟨rfl, brF (brT (hk _ _ ?_ Kp.refl))⟩
            cases hd <;> simp [isBl]
          | false =>
            refine ⟨rfl, brF (brF (brT (hk _ _ ?_ Kp.refl)))⟩
            cases hd <;> simp [isBl]
        | int i =>
          refine ⟨rfl, brF (brF (brF ⟨_, _, .base (.int i), rfl, brT ⟨_, _, hd.ty, d.kit _ (by simp), fun c => ?_, fun c => hk _ _ ?_ Kp.refl⟩⟩))⟩
          · refine ⟨_, _, hd.ty, d.kit _ (by simp), fun c => ?_, fun c => hk _ _ ?_ Kp.refl⟩
            · clear hn hw
              cases hd <;> simp [Dt.isK, Dt.kind] at c <;> simp_all [Dt.isK, Dt.kind]
              refine ⟨rfl, ?_⟩
              cases e : eqB _ _ with
              | true => exact hk.2 _ (by simpa [eqB_dec] using e) Kp.refl
              | false => exact hk.1 _ (by simpa [eqB_dec] using e) Kp.refl
            · cases hd <;> simp [Dt.isK, Dt.kind] at *
          · cases hd <;> simp [Dt.isK, Dt.kind] at *
        | str i =>
          refine ⟨rfl, brF (brF (brF ⟨_, _, .base (.str i), rfl, brF ⟨_, _, hd.ty, d.kit _ (by simp), fun c => ?_, fun c => hk _ _ ?_ Kp.refl⟩⟩))⟩
          · cases hd <;> simp [Dt.isK, Dt.kind] at *
            refine ⟨rfl, ?_⟩
            cases e : eqB _ _ with
            | true => exact hk.2 _ (by simpa [eqB_dec] using e) Kp.refl
            | false => exact hk.1 _ (by simpa [eqB_dec] using e) Kp.refl
          · cases hd <;> simp [Dt.isK, Dt.kind] at *
        | tup hy he => simp_all [Dt.isK, Dt.kind]
        | lst hy he => simp_all [Dt.isK, Dt.kind]
        | dct h1 h2 h3 h4 => simp_all [Dt.isK, Dt.kind]
/-! names -/
def LA : Str := "abcdefghijklmnopqrstuvwxyz"
def DI : Str := "0123456789"
def AN : Str := "abcdefghijklmnopqrstuvwxyz0123456789"
def inS (s : Str) (c : Nat) : Bool := decide (c ∈ s.cps.toList)
def nameB (z : Str) : Bool := !decide (z = ("street" : Str)) && (decide (1 ≤ z.length) && (decide (z.length ≤ 8) && (z.cps.toList.head?.any (inS LA) && z.cps.toList.all fun c => inS LA c || inS DI c)))
theorem head_at {z : Str} (h : 1 ≤ z.length) : ∃ c, z.cps.toList.head? = some c ∧ z.cps.toList[0]? = some c := by
  rw [len_cps] at h
  cases e : z.cps.toList with
  | nil => rw [e] at h; simp at h
  | cons c l => exact ⟨c, rfl, rfl⟩
abbrev s_is_name : Stmt := top 18
abbrev N_is_name : List Str := ["text"]
theorem sc_is_name : FnScope N_is_name ["text"] (defScope s_is_name) := ⟨rfl, rfl, rfl, by decide +kernel, rfl, by decide +kernel, by decide +kernel⟩
def sp_is_name (K : PySem.W.Frag) (tb : List Addr) : Sp := fun vs H Q _ => ∃ z : Str, vs = [.str z] ∧ (z.length ≤ 2000000 ∧ TbG tb H ∧ ∀ H', Kp [] H H' → Q (.bl (nameB z)) H')
theorem ok_is_name {tb : List Addr} {f : Addr} {fd : FuncData} (F : FunD K "is_name" "is_name" (defArgs s_is_name) (defBody s_is_name) (defScope s_is_name) [] [] f fd)
    {cc PP : Addr} (hcode : fd.code = .ref cc) (TB : GxR.TabB base mg cc PP) (hPP : PP ∈ tb)
    (mc_STREET : ∃ t, mg "STREET" = some (.str "street" t))
    (mN_len : mg "len" = none)
    (mc_MOST_SIGNS : ∃ t, mg "MOST_SIGNS" = some (.int 8 t))
    (mN_all : mg "all" = none)
    (mc_LETTERS : ∃ t, mg "LETTERS" = some (.str "abcdefghijklmnopqrstuvwxyz" t))
    (mc_DIGITS : ∃ t, mg "DIGITS" = some (.str "0123456789" t)) : FnOk P w K mg base CX0 1 f fd ["text"] (sp_is_name K tb) := by
  refine okC F hcode sc_is_name (fun vs H Q E h => ?_) (fun A outer s H vs Q E hr h => ⟨_, PSs.nox ((pss_cons (us_if (PW.pt (uw_or (pt_not (ut_chainU o_le o_le pe_int (pe_callB (kLen K) (by rfl) mN_len boot_len (pa_cons (pu 0) pa_nil)) (pg_c (v := .int 8) (cI mc_MOST_SIGNS)))) (pw_or1 (ut_cmp (kEq K hr.units) (pu 0) (pg_c (v := .str "street") (cS mc_STREET)) (nomark _))))) (pss_one (ps_ret pe_bl)) pss_nil)
    (pss_one (ps_ret (ue_and (pe_cmpR (kIn K) (pe_ix (kIx K) (pu 0) pe_int (fun _ _ => rfl)) (pg_c (v := .str "abcdefghijklmnopqrstuvwxyz") (cS mc_LETTERS)) (by rfl)) (pe_one (ue_allIn2 hr mN_all TB (pu 0) mc_LETTERS mc_DIGITS))))))), ?_⟩)
  · obtain ⟨z, rfl, _⟩ := h
    rfl
  · obtain ⟨z, rfl, h⟩ := h
    obtain ⟨hz, htb, hk0⟩ := h
    have hk : ∀ b H', nameB z = b → Kp [] H H' → Q (.bl b) H' := fun b H' e k => e ▸ hk0 H' k
    have zs : z.length ≤ sizeLine := Nat.le_trans hz (sl (by decide))
    have no1 : ¬ (1 : Int) ≤ z.length → nameB z = false := fun h => by
      have h : ¬ 1 ≤ z.length := by omega
      simp [nameB, h]
    have no8 : ¬ (z.length : Int) ≤ 8 → nameB z = false := fun h => by
      have h : ¬ z.length ≤ 8 := by omega
      simp [nameB, h]
    refine ⟨zs, fun c2 => ⟨fun c3 => brT (hk _ _ (no8 (by simpa using c3)) Kp.refl), fun c3 => ⟨rfl, fun c1 => hk _ _ ?_ Kp.refl, fun c1 => ?_⟩⟩, fun c2 => brT (brT (hk _ _ (no1 (by simpa using c2)) Kp.refl))⟩
    · simp [eqB] at c1; simp [nameB, c1]
    have c1 : z ≠ ("street" : Str) := by simpa [eqB] using c1
    have c2 : (1 : Int) ≤ z.length := of_decide_eq_true c2
    have c3 : (z.length : Int) ≤ 8 := by simpa using c3
    have c2' : 1 ≤ z.length := by omega
    have c3' : z.length ≤ 8 := by omega
    obtain ⟨d, hd1, hd2⟩ := head_at (z := z) (by omega)
    have rest : nameB z = (inS LA d && z.cps.toList.all fun c => inS LA c || inS DI c) := by simp [nameB, c1, c2', c3', hd1]
    refine ⟨d, zs, atI_nat (j := 0) hd2, d, rfl, fun c4 => ⟨htb PP hPP, fun H2 hT => hk _ _ ?_ (Kp.tabbed (htb PP hPP) hT)⟩, fun c4 => hk _ _ ?_ Kp.refl⟩
    · rw [rest, show inS LA d = true from c4]; rfl
    · rw [rest, show inS LA d = false from c4]; rfl
/-! towns -/
abbrev St : Type := Str × Int × Int
abbrev Rd : Type := Str × Str × Str × Bool
def stD (s : St) : Dt := .tup [.str s.1, .int s.2.1, .int s.2.2]
def rdD (r : Rd) : Dt := .tup [.str r.1, .str r.2.1, .str r.2.2.1, .bl r.2.2.2]
/-- a list of rows stands at a -/
def LstAt (H : Hp) (a : Addr) (ds : List Dt) : Prop := ∃ xs, H a = some (.lst xs) ∧ RpL H xs ds
structure GoodSt (ss : List St) : Prop where
  len : ss.length ≤ 12
  nd : (ss.map (·.1)).Nodup
  nm : ∀ s ∈ ss, nameB s.1 = true
  dk : ∀ s ∈ ss, 1 ≤ s.2.1 ∧ s.2.1 ≤ 999999
  bk : ∀ s ∈ ss, 0 ≤ s.2.2 ∧ s.2.2 ≤ s.2.1
structure GoodRd (pl : List Str) (rs : List Rd) : Prop where
  len : rs.length ≤ 24
  nd : (rs.map (·.1)).Nodup
  nm : ∀ r ∈ rs, nameB r.1 = true
  st : ∀ r ∈ rs, r.2.1 = ("street" : Str) ∨ r.2.1 ∈ pl
  go : ∀ r ∈ rs, r.2.2.1 = ("street" : Str) ∨ r.2.2.1 ∈ pl
  ne : ∀ r ∈ rs, r.2.1 ≠ r.2.2.1
  kp : ∀ r ∈ rs, r.2.2.2 = false → r.2.1 ≠ ("street" : Str) ∧ r.2.2.1 ≠ ("street" : Str)
theorem nameB_len {z : Str} (h : nameB z = true) : z.length ≤ 8 := by
  simp [nameB] at h; exact h.2.2.1
theorem RpL.at {H : Hp} : ∀ {vs : List V} {ds : List Dt} {i : Nat} {v : V}, RpL H vs ds → vs[i]? = some v → ∃ d, ds[i]? = some d ∧ Rp H v d
  | _, _, _, _, .nil, e => by simp at e
  | _, _, 0, _, .cons r _, e => by simp at e; subst e; exact ⟨_, rfl, r⟩
  | _, _, i + 1, v, .cons _ t, e => by
    obtain ⟨d, h1, h2⟩ := RpL.at (i := i) (v := v) t (by simpa using e)
    exact ⟨d, by simpa using h1, h2⟩
theorem stD_still (s : St) : (stD s).still = true := rfl
theorem rdD_still (s : Rd) : (rdD s).still = true := rfl
theorem map_still {α : Type} (f : α → Dt) (h : ∀ a, (f a).still = true) : ∀ l : List α, stillL (l.map f) = true
  | [] => rfl
  | a :: l => by simp only [List.map_cons, stillL, h, map_still f h l, Bool.and_self]
/-- a row of a list of rows -/
theorem row_at {α : Type} {f : α → Dt} {H : Hp} {xs : List V} {l : List α} {i : Nat} {x : V} (h : RpL H xs (l.map f)) (e : xs[i]? = some x) : ∃ a, l[i]? = some a ∧ Rp H x (f a) := by
  obtain ⟨d, h1, h2⟩ := RpL.at h e
  rw [List.getElem?_map] at h1
  cases q : l[i]? with
  | none => rw [q] at h1; cases h1
  | some a => rw [q] at h1; cases h1; exact ⟨a, rfl, h2⟩
theorem rp_st {H : Hp} {x : V} {s : St} (h : Rp H x (stD s)) : ∃ a, x = .ref a ∧ H a = some (.tup [.str s.1, .int s.2.1, .int s.2.2]) := by
  cases h with
  | tup h r =>
    cases r with
    | cons r1 r =>
      cases r with
      | cons r2 r =>
        cases r with
        | cons r3 r => cases r; cases r1; cases r2; cases r3; exact ⟨_, rfl, h⟩
theorem rp_rd {H : Hp} {x : V} {r : Rd} (h : Rp H x (rdD r)) : ∃ a, x = .ref a ∧ H a = some (.tup [.str r.1, .str r.2.1, .str r.2.2.1, .bl r.2.2.2]) := by
  cases h with
  | tup h r =>
    cases r with
    | cons r1 r =>
      cases r with
      | cons r2 r =>
        cases r with
        | cons r3 r =>
          cases r with
          | cons r4 r => cases r; cases r1; cases r2; cases r3; cases r4; exact ⟨_, rfl, h⟩
theorem nd_new {α β : Type} [DecidableEq β] {f : α → β} {l : List α} {i : Nat} {a : α} (h : (l.map f).Nodup) (e : l[i]? = some a) : f a ∉ (l.take i).map f := by
  intro hm
  obtain ⟨hi, hia⟩ := List.getElem?_eq_some_iff.mp e
  obtain ⟨b, hb, hf⟩ := List.mem_map.mp hm
  obtain ⟨j, hj, hjb⟩ := List.mem_take_iff_getElem.mp hb
  have hjl : j < l.length := by omega
  have hji : j < i := by omega
  have h1 := List.pairwise_iff_getElem.mp h j i (by simpa using hjl) (by simpa using hi) hji
  apply h1
  simp [hjb, hia, hf]
theorem flat_strs (l : List Str) : (l.map V.str).all flatV = true := by
  rw [List.all_eq_true]
  intro x hx
  obtain ⟨y, _, rfl⟩ := List.mem_map.mp hx
  rfl
abbrev s_check_stations : Stmt := top 24
abbrev N_check_stations : List Str := ["stations", "names", "name", "docks", "bikes"]
theorem sc_check_stations : FnScope N_check_stations ["stations"] (defScope s_check_stations) := ⟨rfl, rfl, rfl, by decide +kernel, rfl, by decide +kernel, by decide +kernel⟩
def sp_check_stations (K : PySem.W.Frag) (tb : List Addr) : Sp := fun vs H Q _ => ∃ (a : Addr) (ss : List St), vs = [.ref a] ∧ (LstAt H a (ss.map stD) ∧ GoodSt ss ∧ TbG tb H ∧ ∀ H', Kp [] H H' → Q .non H')
theorem ok_check_stations {tb : List Addr} {f : Addr} {fd : FuncData} (F : FunD K "check_stations" "check_stations" (defArgs s_check_stations) (defBody s_check_stations) (defScope s_check_stations) [] [] f fd)
    (C_is_name : Cal P w K mg base CX0 1 "is_name" ["text"] (sp_is_name K tb))
    (mr_Town : mg "Town" = some (.ref (He.ga K "Town")))
    (cc_Town_MOST_DOCKS : CCon K "Town" "MOST_DOCKS" (.int 999999)) : FnOk P w K mg base CX0 2 f fd ["stations"] (sp_check_stations K tb) := by
  refine F.ok sc_check_stations (fun vs H Q E h => ?_) (fun cdv A outer s H vs Q E hr h => ⟨_, PSs.nox ((pss_cons (ps_set (i := 1) sc_check_stations.nd rfl (.inl rfl) (pe_lst pa_nil))
    (pss_one (ps_for PassesOwn.never rfl (kiList K (pu 0)) (kgTup K (n := 3) rfl (pgs_cons (pg_name (i := 2) sc_check_stations.nd rfl (.inl rfl)) (pgs_cons (pg_name (i := 3) sc_check_stations.nd rfl (.inl rfl)) (pgs_cons (pg_name (i := 4) sc_check_stations.nd rfl (.inl rfl)) pgs_nil)))) (pss_cons (us_if (pt_not (ut_val (ue_call (E := E0) C_is_name (hr.mono (by decide)) rfl pass0 (pa_cons (pu 2) pa_nil)))) (pss_one ps_never) pss_nil)
    (pss_cons (us_if (ut_cmp (kIn K) (pu 2) (pu 1) (by rfl)) (pss_one ps_never) pss_nil)
    (pss_cons (us_if (pt_not (ut_chainU o_le o_le pe_int (pu 3) (kCv (v := .int 999999) mr_Town cc_Town_MOST_DOCKS))) (pss_one ps_never) pss_nil)
    (pss_cons (us_if (pt_not (ut_chainU o_le o_le pe_int (pu 4) (pu 3))) (pss_one ps_never) pss_nil)
    (pss_one (ps_expr (ue_append (pu 1) (pa_cons (pu 2) pa_nil)))))))))))), ?_⟩)
  · obtain ⟨a, ss, rfl, _⟩ := h
    rfl
  · obtain ⟨a, ss, rfl, h⟩ := h
    obtain ⟨⟨xs, ha, hr⟩, g, htb, hk⟩ := h
    have hst := map_still stD stD_still ss
    have hxl : xs.length = ss.length := by rw [hr.length]; simp
    refine ⟨sl rfl, fun N hN => ⟨a, rfl, ⟨_, SqL.of (get_new ha hN)⟩, for_list (xs := xs) (fun i σ H1 => ∃ (o2 o3 o4 : Option V), σ = [some (.ref a), some (.ref N), o2, o3, o4] ∧ H1 N = some (.lst (((ss.take i).map (·.1)).map V.str)) ∧ Kp [] H H1) ⟨none, none, none, rfl, upd_same, Kp.new hN⟩ ?_ ?_ ?_⟩⟩
    · rintro i σ H1 _ ⟨o2, o3, o4, _, _, k1⟩
      exact SqL.of (k1.get0 ha)
    · rintro i x σ H1 hx ⟨o2, o3, o4, rfl, hn, k1⟩
      obtain ⟨s, hs, rx⟩ := row_at (hr.still k1.tk0 hst) hx
      obtain ⟨b, rfl, hb⟩ := rp_st rx
      have hm := List.mem_of_getElem? hs
      have hnm := g.nm s hm
      refine ⟨b, _, rfl, SqT.of hb, rfl, _, _, rfl, _, _, rfl, _, _, rfl, rfl, s.1, rfl, Nat.le_trans (nameB_len hnm) (by decide), htb.keep0 k1, fun H2 k2 => ?_⟩
      have hn2 := k2.get0 hn
      rw [hnm]
      refine brF ⟨_, .inl (SqL.of hn2), rfl, flat_strs _, ?_⟩
      rw [inV_str]
      have nn := nd_new g.nd hs
      refine brK (fun c => absurd (of_decide_eq_true c) nn) fun _ => ?_
      have hd := g.dk s hm
      have hbk := g.bk s hm
      refine brK (fun c1 => ?_) fun c1 => absurd hd.1 (of_decide_eq_false c1)
      refine brK (fun c2 => absurd hd.2 (by simpa using c2)) fun _ => ?_
      refine brK (fun c1 => ?_) fun c1 => absurd hbk.1 (of_decide_eq_false c1)
      refine brK (fun c2 => absurd hbk.2 (by simpa using c2)) fun _ => ?_
      refine ⟨⟨_, hn2⟩, _, hn2, ?_, _, _, _, rfl, ?_, (k1.trans k2).loc hN⟩
      · have := g.len
        simp; exact Nat.lt_of_le_of_lt (Nat.min_le_right _ _) (Nat.lt_of_lt_of_le (show ss.length < 100 by omega) (sl rfl))
      · rw [upd_same, List.take_add_one, hs]; simp
    · rintro σ H1 ⟨o2, o3, o4, rfl, hn, k1⟩
      exact hk H1 k1
abbrev s_check_rides : Stmt := top 25
abbrev N_check_rides : List Str := ["rides", "stations", "names", "name", "start", "goal", "kept", "place"]
theorem sc_check_rides : FnScope N_check_rides ["rides", "stations"] (defScope s_check_rides) := ⟨rfl, rfl, rfl, by decide +kernel, rfl, by decide +kernel, by decide +kernel⟩
def sp_check_rides (K : PySem.W.Frag) (tb : List Addr) : Sp := fun vs H Q _ => ∃ (a b : Addr) (pl : List Str) (rs : List Rd), vs = [.ref a, .ref b] ∧ (LstAt H a (rs.map rdD) ∧ H b = some (.lst (pl.map V.str)) ∧ GoodRd pl rs ∧ TbG tb H ∧ ∀ H', Kp [] H H' → Q .non H')
theorem ok_check_rides {tb : List Addr} {f : Addr} {fd : FuncData} (F : FunD K "check_rides" "check_rides" (defArgs s_check_rides) (defBody s_check_rides) (defScope s_check_rides) [] [] f fd)
    (C_is_name : Cal P w K mg base CX0 1 "is_name" ["text"] (sp_is_name K tb))
    (mc_STREET : ∃ t, mg "STREET" = some (.str "street" t)) : FnOk P w K mg base CX0 2 f fd ["rides", "stations"] (sp_check_rides K tb) := by
  refine F.ok sc_check_rides (fun vs H Q E h => ?_) (fun cdv A outer s H vs Q E hr h => ⟨_, PSs.nox ((pss_cons (ps_set (i := 2) sc_check_rides.nd rfl (.inl rfl) (pe_lst pa_nil))
    (pss_one (ps_for PassesOwn.never rfl (kiList K (pu 0)) (kgTup K (n := 4) rfl (pgs_cons (pg_name (i := 3) sc_check_rides.nd rfl (.inl rfl)) (pgs_cons (pg_name (i := 4) sc_check_rides.nd rfl (.inl rfl)) (pgs_cons (pg_name (i := 5) sc_check_rides.nd rfl (.inl rfl)) (pgs_cons (pg_name (i := 6) sc_check_rides.nd rfl (.inl rfl)) pgs_nil))))) (pss_cons (us_if (pt_not (ut_val (ue_call (E := E0) C_is_name (hr.mono (by decide)) rfl pass0 (pa_cons (pu 3) pa_nil)))) (pss_one ps_never) pss_nil)
    (pss_cons (us_if (ut_cmp (kIn K) (pu 3) (pu 2) (by rfl)) (pss_one ps_never) pss_nil)
    (C8.pss_cut (ps_for PassesOwn.never rfl (kiTup K (pe_tup (pa_cons (pu 4) (pa_cons (pu 5) pa_nil)))) (pg_name (i := 7) sc_check_rides.nd rfl (.inl rfl)) (pss_one (us_if (PW.pt (uw_and (ut_cmp (kNe K hr.units) (pu 7) (pg_c (v := .str "street") (cS mc_STREET)) (nomark _)) (pw_and1 (ut_cmp (kNotIn K) (pu 7) (pu 1) (by rfl))))) (pss_one ps_never) pss_nil)))
    (pss_cons (us_if (ut_cmp (kEq K hr.units) (pu 4) (pu 5) (nomark _)) (pss_one ps_never) pss_nil)
    (pss_cons (us_if (PW.pt (uw_and (pt_not (ut_val (pu 6))) (pw_and1 (ut_cmp (kIn K) (pg_c (v := .str "street") (cS mc_STREET)) (pe_tup (pa_cons (pu 4) (pa_cons (pu 5) pa_nil))) (by rfl))))) (pss_one ps_never) pss_nil)
    (pss_one (ps_expr (ue_append (pu 2) (pa_cons (pu 3) pa_nil))))))))))))), ?_⟩)
  · obtain ⟨a, b, pl, rs, rfl, _⟩ := h
    rfl
  · obtain ⟨a, b, pl, rs, rfl, h⟩ := h
    obtain ⟨⟨xs, ha, hr⟩, hb, g, htb, hk⟩ := h
    have hst := map_still rdD rdD_still rs
    have hxl : xs.length = rs.length := by rw [hr.length]; simp
    refine ⟨sl rfl, fun N hN => ⟨a, rfl, ⟨_, SqL.of (get_new ha hN)⟩, for_list (xs := xs) (fun i σ H1 => ∃ (o3 o4 o5 o6 o7 : Option V), σ = [some (.ref a), some (.ref b), some (.ref N), o3, o4, o5, o6, o7] ∧ H1 N = some (.lst (((rs.take i).map (·.1)).map V.str)) ∧ Kp [] H H1) ⟨none, none, none, none, none, rfl, upd_same, Kp.new hN⟩ ?_ ?_ ?_⟩⟩
    · rintro i σ H1 _ ⟨o3, o4, o5, o6, o7, _, _, k1⟩
      exact SqL.of (k1.get0 ha)
    · rintro i x σ H1 hx ⟨o3, o4, o5, o6, o7, rfl, hn, k1⟩
      obtain ⟨s, hs, rx⟩ := row_at (hr.still k1.tk0 hst) hx
      obtain ⟨c, rfl, hc⟩ := rp_rd rx
      have hm := List.mem_of_getElem? hs
      have hnm := g.nm s hm
      refine ⟨c, _, rfl, SqT.of hc, rfl, _, _, rfl, _, _, rfl, _, _, rfl, _, _, rfl, rfl, s.1, rfl, Nat.le_trans (nameB_len hnm) (by decide), htb.keep0 k1, fun H2 k2 => ?_⟩
      have hn2 := k2.get0 hn
      rw [hnm]
      refine brF ⟨_, .inl (SqL.of hn2), rfl, flat_strs _, ?_⟩
      rw [inV_str]
      have nn := nd_new g.nd hs
      refine brK (fun c => absurd (of_decide_eq_true c) nn) fun _ => ?_
      have k12 := k1.trans k2
      refine ⟨fun σ H3 => ∃ o7, σ = [some (.ref a), some (.ref b), some (.ref N), some (.str s.1), some (.str s.2.1), some (.str s.2.2.1), some (.bl s.2.2.2), o7] ∧ Kp [] H2 H3, ?_, ?_⟩
      · refine ⟨sl rfl, fun t ht => ⟨t, rfl, ⟨_, SqT.of upd_same⟩, for_tup (xs := [.str s.2.1, .str s.2.2.1]) (fun j σ H3 => ∃ o7, σ = [some (.ref a), some (.ref b), some (.ref N), some (.str s.1), some (.str s.2.1), some (.str s.2.2.1), some (.bl s.2.2.2), o7] ∧ H3 = upd H2 t (.tup [.str s.2.1, .str s.2.2.1])) ⟨_, rfl, rfl⟩ ?_ ?_ ?_⟩⟩
        · rintro j σ H3 _ ⟨o7, _, rfl⟩
          exact SqT.of upd_same
        · rintro j x σ H3 hx ⟨o7, rfl, rfl⟩
          have hb2 : upd H2 t (.tup [.str s.2.1, .str s.2.2.1]) b = some (.lst (pl.map V.str)) := get_new (k12.get0 hb) ht
          obtain ⟨y, rfl, hy⟩ : ∃ y : Str, x = .str y ∧ (y = ("street" : Str) ∨ y ∈ pl) := by
            match j, hx with
            | 0, hx => cases hx; exact ⟨_, rfl, g.st s hm⟩
            | 1, hx => cases hx; exact ⟨_, rfl, g.go s hm⟩
            | _ + 2, hx => simp at hx
          refine ⟨rfl, fun c1 => ⟨_, .inl (SqL.of hb2), rfl, flat_strs _, ?_⟩, fun _ => brF ⟨_, rfl, rfl⟩⟩
          rw [inV_str]
          have c1 : ¬ y = ("street" : Str) := by simpa [eqB] using c1
          refine brK (fun c2 => absurd (hy.resolve_left c1) (by simpa using c2)) fun _ => ⟨_, rfl, rfl⟩
        · rintro σ H3 ⟨o7, rfl, rfl⟩
          exact ⟨o7, rfl, Kp.new ht⟩
      rintro σ H3 ⟨o7, rfl, k3⟩
      have hn3 := k3.get0 hn2
      have k13 := k12.trans k3
      have fin : ∀ H4, Kp [] H3 H4 → ∃ (o3 o4 o5 o6 o7' : Option V), ([some (.ref a), some (.ref b), some (.ref N), some (.str s.1), some (.str s.2.1), some (.str s.2.2.1), some (.bl s.2.2.2), o7] : L2.St) = [some (.ref a), some (.ref b), some (.ref N), o3, o4, o5, o6, o7'] ∧ upd H4 N (.lst ((((rs.take i).map (·.1)).map V.str) ++ [.str s.1])) N = some (.lst (((rs.take (i + 1)).map (·.1)).map V.str)) ∧ Kp [] H (upd H4 N (.lst ((((rs.take i).map (·.1)).map V.str) ++ [.str s.1]))) := fun H4 k4 =>
        ⟨some (.str s.1), some (.str s.2.1), some (.str s.2.2.1), some (.bl s.2.2.2), o7, rfl, by rw [upd_same, List.take_add_one, hs]; simp, (k13.trans k4).loc hN⟩
      have hlen : (((rs.take i).map (·.1)).map V.str).length < sizeLine := by
        have := g.len
        simp; exact Nat.lt_of_le_of_lt (Nat.min_le_right _ _) (Nat.lt_of_lt_of_le (show rs.length < 100 by omega) (sl rfl))
      refine ⟨rfl, brK (fun c1 => absurd (by simpa [eqB] using c1) (g.ne s hm)) fun _ => ?_⟩
      refine brK (fun c1 => ?_) fun c1 => brF ⟨⟨_, hn3⟩, _, hn3, hlen, fin H3 Kp.refl⟩
      have c1 : s.2.2.2 = false := by simpa using c1
      obtain ⟨n1, n2⟩ := g.kp s hm c1
      refine ⟨sl rfl, fun t ht => ⟨_, .inr (SqT.of upd_same), rfl, rfl, ?_⟩⟩
      have e : inV (V.str ("street" : Str)) [V.str s.2.1, V.str s.2.2.1] = false := by
        have q := inV_str ("street" : Str) [s.2.1, s.2.2.1]
        rw [show inV (V.str ("street" : Str)) [V.str s.2.1, V.str s.2.2.1] = inV (V.str ("street" : Str)) ([s.2.1, s.2.2.1].map V.str) from rfl, q]
        simp; exact ⟨fun z => n1 z.symm, fun z => n2 z.symm⟩
      rw [e]
      exact brF ⟨⟨_, get_new hn3 ht⟩, _, get_new hn3 ht, hlen, fin _ (Kp.new ht)⟩
    · rintro σ H1 ⟨o3, o4, o5, o6, o7, rfl, hn, k1⟩
      exact hk H1 k1
def townF (s r : Addr) : List (Str × V) := [(("stations" : Str), .ref s), (("rides" : Str), .ref r)]
/-- a town stands at a -/
def TownAt (K : PySem.W.Frag) (H : Hp) (a : Addr) (ss : List St) (rs : List Rd) : Prop := ∃ dx s r xs ys, H a = some (.ins (He.ga K "Town") dx (townF s r)) ∧ H s = some (.tup xs) ∧ RpL H xs (ss.map stD) ∧ H r = some (.tup ys) ∧ RpL H ys (rs.map rdD)
theorem TownAt.keep {K : PySem.W.Frag} {H H' : Hp} {a : Addr} {ss : List St} {rs : List Rd} (h : TownAt K H a ss rs) (k : Kp [] H H') : TownAt K H' a ss rs := by
  obtain ⟨dx, s, r, xs, ys, h1, h2, h3, h4, h5⟩ := h
  exact ⟨dx, s, r, xs, ys, k.get0 h1, k.get0 h2, h3.keep k, k.get0 h4, h5.keep k⟩
theorem LstAt.keep {H H' : Hp} {a : Addr} {ds : List Dt} (h : LstAt H a ds) (k : Kp [] H H') : LstAt H' a ds := by
  obtain ⟨xs, h1, h2⟩ := h
  exact ⟨xs, k.get0 h1, h2.keep k⟩
theorem take_map {α β : Type} {f : α → β} {l : List α} {i : Nat} {a : α} (h : l[i]? = some a) : (l.take (i + 1)).map f = (l.take i).map f ++ [f a] := by
  rw [List.take_add_one, h]; simp
theorem small_lt {n m : Nat} (h : n ≤ m) (hm : m < 16777216) : n < sizeLine := Nat.lt_of_le_of_lt h hm
abbrev s_Town___init__ : Stmt := inClass (top 21) 3
abbrev N_Town___init__ : List Str := ["self", "stations", "rides", "row", "name", "docks", "bikes", "start", "goal", "kept"]
theorem sc_Town___init__ : FnScope N_Town___init__ ["self", "stations", "rides"] (defScope s_Town___init__) := ⟨rfl, rfl, rfl, by decide +kernel, rfl, by decide +kernel, by decide +kernel⟩
def sp_Town___init__ (K : PySem.W.Frag) (tb : List Addr) : Sp := fun vs H Q _ => ∃ (a dx s r : Addr) (ss : List St) (rs : List Rd), vs = [.ref a, .ref s, .ref r] ∧ (H a = some (.ins (He.ga K "Town") dx []) ∧ LstAt H s (ss.map stD) ∧ LstAt H r (rs.map rdD) ∧ GoodSt ss ∧ GoodRd (ss.map (·.1)) rs ∧ TbG tb H ∧ ∀ H', TownAt K H' a ss rs → Kp [a] H H' → Q .non H')
theorem ok_Town___init__ {tb : List Addr} {f : Addr} {fd : FuncData} (F : FunD K "__init__" "Town.__init__" (defArgs s_Town___init__) (defBody s_Town___init__) (defScope s_Town___init__) [] [] f fd)
    (mN_len : mg "len" = none)
    (mr_Town : mg "Town" = some (.ref (He.ga K "Town")))
    (cc_Town_MOST_STATIONS : CCon K "Town" "MOST_STATIONS" (.int 12))
    (cc_Town_MOST_RIDES : CCon K "Town" "MOST_RIDES" (.int 24))
    (C_check_stations : Cal P w K mg base CX0 2 "check_stations" ["stations"] (sp_check_stations K tb))
    (C_check_rides : Cal P w K mg base CX0 2 "check_rides" ["rides", "stations"] (sp_check_rides K tb))
    (cl_Town : Cls K (He.ga K "Town"))
    (na_Town_stations : NoAttr K (He.ga K "Town") "stations")
    (mN_tuple : mg "tuple" = none)
    (na_Town_rides : NoAttr K (He.ga K "Town") "rides") : FnOk P w K mg base CX0 3 f fd ["self", "stations", "rides"] (sp_Town___init__ K tb) := by
  refine F.ok sc_Town___init__ (fun vs H Q E h => ?_) (fun cdv A outer s H vs Q E hr h => ⟨_, PSs.nox ((pss_cons (us_if (ut_cmp o_gt (pe_callB (kLen K) (by rfl) mN_len boot_len (pa_cons (pu 1) pa_nil)) (kCv (v := .int 12) mr_Town cc_Town_MOST_STATIONS) (nomark _)) (pss_one ps_never) pss_nil)
    (pss_cons (us_if (ut_cmp o_gt (pe_callB (kLen K) (by rfl) mN_len boot_len (pa_cons (pu 2) pa_nil)) (kCv (v := .int 24) mr_Town cc_Town_MOST_RIDES) (nomark _)) (pss_one ps_never) pss_nil)
    (pss_cons (ps_expr (ue_call (E := E0) C_check_stations (hr.mono (by decide)) rfl pass0 (pa_cons (pu 1) pa_nil)))
    (C8.pss_cut (ps_expr (ue_call (E := E0) C_check_rides (hr.mono (by decide)) rfl pass0 (pa_cons (pu 2) (pa_cons (pe_lc (own := [("row", 3)]) rfl sc_Town___init__.nd (kiList K (pu 1)) (blkOk_by (N := N_Town___init__) (sc := defScope s_Town___init__) (by decide +kernel)) (fun _ _ _ _ _ => (pg_name (i := 3) sc_Town___init__.nd rfl (.inl rfl))) (fun _ _ _ _ _ => pts_nil) (fun _ _ _ _ _ => (pe_ix (kIx K) (pu 3) pe_int (fun _ _ => rfl)))) pa_nil))))
    (pss_cons (kSetF K (pu 0) (pe_callTy (kTuple K) (by rfl) mN_tuple (by decide +kernel) (pa_cons (pe_lc (own := [("name", 4), ("docks", 5), ("bikes", 6)]) rfl sc_Town___init__.nd (kiList K (pu 1)) (blkOk_by (N := N_Town___init__) (sc := defScope s_Town___init__) (by decide +kernel)) (fun _ _ _ _ _ => (kgTup K (n := 3) rfl (pgs_cons (pg_name (i := 4) sc_Town___init__.nd rfl (.inl rfl)) (pgs_cons (pg_name (i := 5) sc_Town___init__.nd rfl (.inl rfl)) (pgs_cons (pg_name (i := 6) sc_Town___init__.nd rfl (.inl rfl)) pgs_nil))))) (fun _ _ _ _ _ => pts_nil) (fun _ _ _ _ _ => (pe_tup (pa_cons (pu 4) (pa_cons (pu 5) (pa_cons (pu 6) pa_nil)))))) pa_nil)) rfl)
    (pss_one (kSetF K (pu 0) (pe_callTy (kTuple K) (by rfl) mN_tuple (by decide +kernel) (pa_cons (pe_lc (own := [("name", 4), ("start", 7), ("goal", 8), ("kept", 9)]) rfl sc_Town___init__.nd (kiList K (pu 2)) (blkOk_by (N := N_Town___init__) (sc := defScope s_Town___init__) (by decide +kernel)) (fun _ _ _ _ _ => (kgTup K (n := 4) rfl (pgs_cons (pg_name (i := 4) sc_Town___init__.nd rfl (.inl rfl)) (pgs_cons (pg_name (i := 7) sc_Town___init__.nd rfl (.inl rfl)) (pgs_cons (pg_name (i := 8) sc_Town___init__.nd rfl (.inl rfl)) (pgs_cons (pg_name (i := 9) sc_Town___init__.nd rfl (.inl rfl)) pgs_nil)))))) (fun _ _ _ _ _ => pts_nil) (fun _ _ _ _ _ => (pe_tup (pa_cons (pu 4) (pa_cons (pu 7) (pa_cons (pu 8) (pa_cons (pu 9) pa_nil))))))) pa_nil)) rfl)))))))), ?_⟩)
  · obtain ⟨a, dx, s, r, ss, rs, rfl, _⟩ := h
    rfl
  · obtain ⟨a, dx, s, r, ss, rs, rfl, h⟩ := h
    obtain ⟨ha, ⟨xs, hs, hxr⟩, ⟨ys, hr, hyr⟩, g, gr, htb, hk⟩ := h
    have hss := map_still stD stD_still ss
    have hrs := map_still rdD rdD_still rs
    have hxl : xs.length = ss.length := by rw [hxr.length]; simp
    have hyl : ys.length = rs.length := by rw [hyr.length]; simp
    have g12 := g.len
    have g24 := gr.len
    have n12 : ¬ (12 : Int) < xs.length := by omega
    have n24 : ¬ (24 : Int) < ys.length := by omega
    refine ⟨_, .inl ⟨_, SqL.of hs, rfl⟩, fun c => absurd (of_decide_eq_true c) n12, fun _ => ⟨_, .inl ⟨_, SqL.of hr, rfl⟩, fun c => absurd (of_decide_eq_true c) n24, fun _ => ⟨s, ss, rfl, ⟨xs, hs, hxr⟩, g, htb, fun H1 k1 => ?_⟩⟩⟩
    have hs1 := k1.get0 hs
    have hr1 := k1.get0 hr
    have ha1 := k1.get0 ha
    have tb1 := htb.keep0 k1
    refine ⟨fun σ H2 => σ = L2.start N_Town___init__ [.ref a, .ref s, .ref r] ∧ Kp [] H H2, ⟨s, rfl, ⟨_, SqL.of hs1⟩, fun D hD => lc_list (xs := xs) (LcP [] H1 D fun i => ((ss.take i).map (·.1)).map V.str) (LcP.start hD rfl) (fun i H3 _ p3 => SqL.of (p3.2.get0 hs1)) (fun i x H3 hx p3 => ?_) fun H3 p3 => ?_⟩, ?_⟩
    · obtain ⟨t, ht, rx⟩ := row_at (hxr.still (k1.trans p3.2).tk0 hss) hx
      obtain ⟨b, rfl, hb⟩ := rp_st rx
      refine ⟨rfl, _, _, .inr (SqT.of hb), atI_nat (j := 0) rfl, p3.step hD Kp.refl (by simp) ?_ ?_⟩
      · rw [take_map ht]; simp
      · simp; exact small_lt (Nat.le_trans (Nat.min_le_right _ _) g12) (by decide)
    · have hD3 := p3.1
      simp only [hxl, List.take_length] at hD3
      exact ⟨r, D, _, rs, rfl, ⟨ys, p3.2.get0 hr1, hyr.keep (k1.trans p3.2)⟩, hD3, gr, htb.keep0 (k1.trans p3.2), fun H4 k4 => ⟨rfl, (k1.trans p3.2).trans k4⟩⟩
    rintro σ H2 ⟨rfl, k2⟩
    have hs2 := k2.get0 hs
    have ha2 := k2.get0 ha
    refine ⟨s, rfl, ⟨_, SqL.of hs2⟩, fun D hD => lc_list (xs := xs) (LcR H2 D fun i => (ss.take i).map stD) (LcR.start hD rfl) (fun i H3 _ p3 => ?_) (fun i x H3 hx p3 => ?_) fun H3 p3 => ?_⟩
    · obtain ⟨_, _, _, _, k3⟩ := p3
      exact SqL.of (k3.get0 hs2)
    · obtain ⟨_, _, _, _, k3⟩ := id p3
      obtain ⟨t, ht, rx⟩ := row_at (hxr.still (k2.trans k3).tk0 hss) hx
      obtain ⟨b, rfl, hb⟩ := rp_st rx
      refine ⟨b, _, rfl, SqT.of hb, rfl, _, _, rfl, _, _, rfl, _, _, rfl, rfl, rfl, sl rfl, fun q hq => p3.step hD (Kp.new hq) (d := stD t) (.tup upd_same (.cons (.str _) (.cons (.int _) (.cons (.int _) .nil)))) rfl (take_map ht) ?_⟩
      simp; exact small_lt (Nat.le_trans (Nat.min_le_right _ _) g12) (by decide)
    obtain ⟨zs, hz, rz, sz, k3⟩ := p3
    simp only [hxl, List.take_length] at rz sz
    have k03 := k2.trans k3
    have ha3 := k03.get0 ha
    refine ⟨zs, .inl ⟨SqL.of hz, fun l hl => ⟨a, _, _, _, rfl, get_new ha3 hl, cl_Town, na_Town_stations, Nat.le_of_ble_eq_true rfl, ?_⟩⟩⟩
    have k34 : Kp [a] H3 (upd (upd H3 l (.tup zs)) a (.ins (He.ga K "Town") dx (putF "stations" (.ref l) []))) := (Kp.new hl).put (by simp)
    have hla : l ≠ a := fun z => by subst z; rw [ha3] at hl; cases hl
    have hl4 : upd (upd H3 l (.tup zs)) a (.ins (He.ga K "Town") dx (putF "stations" (.ref l) [])) l = some (.tup zs) := get_ne upd_same hla
    have ha4 : upd (upd H3 l (.tup zs)) a (.ins (He.ga K "Town") dx (putF "stations" (.ref l) [])) a = some (.ins (He.ga K "Town") dx (putF "stations" (.ref l) [])) := upd_same
    have tk4 : TK H3 (upd (upd H3 l (.tup zs)) a (.ins (He.ga K "Town") dx (putF "stations" (.ref l) []))) := k34.tk fun b hb xs e => by simp at hb; subst hb; rw [ha3] at e; cases e
    generalize upd (upd H3 l (.tup zs)) a (.ins (He.ga K "Town") dx (putF "stations" (.ref l) [])) = H4 at k34 hl4 ha4 tk4 ⊢
    have hra : r ≠ a := fun z => by subst z; rw [ha] at hr; cases hr
    have hr4 := k34.get1 (k03.get0 hr) hra
    have yr4 : RpL H4 ys (rs.map rdD) := hyr.still (k03.tk0.trans tk4) hrs
    refine ⟨r, rfl, ⟨_, SqL.of hr4⟩, fun D2 hD2 => lc_list (xs := ys) (LcR H4 D2 fun i => (rs.take i).map rdD) (LcR.start hD2 rfl) (fun i H5 _ p5 => ?_) (fun i x H5 hx p5 => ?_) fun H5 p5 => ?_⟩
    · obtain ⟨_, _, _, _, k5⟩ := p5
      exact SqL.of (k5.get0 hr4)
    · obtain ⟨_, _, _, _, k5⟩ := id p5
      obtain ⟨t, ht, rx⟩ := row_at (yr4.still k5.tk0 hrs) hx
      obtain ⟨b, rfl, hb⟩ := rp_rd rx
      refine ⟨b, _, rfl, SqT.of hb, rfl, _, _, rfl, _, _, rfl, _, _, rfl, _, _, rfl, rfl, rfl, sl rfl, fun q hq => p5.step hD2 (Kp.new hq) (d := rdD t) (.tup upd_same (.cons (.str _) (.cons (.str _) (.cons (.str _) (.cons (.bl _) .nil))))) rfl (take_map ht) ?_⟩
      simp; exact small_lt (Nat.le_trans (Nat.min_le_right _ _) g24) (by decide)
    obtain ⟨ws, hw, rw_, sw, k5⟩ := p5
    simp only [hyl, List.take_length] at rw_ sw
    have ha5 := k5.get0 ha4
    refine ⟨ws, .inl ⟨SqL.of hw, fun m hm => ⟨a, _, _, _, rfl, get_new ha5 hm, cl_Town, na_Town_rides, Nat.le_of_ble_eq_true rfl, hk _ ?_ ?_⟩⟩⟩
    · have hma : m ≠ a := fun z => by subst z; rw [ha5] at hm; cases hm
      have k56 : Kp [a] H5 (upd (upd H5 m (.tup ws)) a (.ins (He.ga K "Town") dx (townF l m))) := (Kp.new hm).put (by simp)
      have tk6 : TK H5 (upd (upd H5 m (.tup ws)) a (.ins (He.ga K "Town") dx (townF l m))) := k56.tk fun b hb xs e => by simp at hb; subst hb; rw [ha5] at e; cases e
      exact ⟨dx, l, m, zs, ws, upd_same, tk6 _ _ (k5.get0 hl4), rz.still (tk4.trans (k5.tk0.trans tk6)) sz, get_ne upd_same hma, rw_.still tk6 sw⟩
    · exact (k03.to.trans (k34.trans k5.to)).trans ((Kp.new hm).put (by simp))
end
end LW
set_option Elab.async false
set_option linter.all false
set_option maxRecDepth 100000
set_option maxHeartbeats 1000000
namespace LW
open PySem PySem.Spec PyProof.Rows L2 U
--  : Nat) : Stmt := PySem.Challenge.pw_manyrides_k03_text_and_town_are_each_oth.main.body.getD i (.Pass ⟨0, 0, 0, 0⟩)
section
variable {P : Program} {w : World} {K : PySem.W.Frag} {mg : Str → Option Value} {base : Heap}
/-! drawn names -/
theorem atI_in {α : Type} {l : List α} {d : Int} (h0 : 0 ≤ d) (h1 : d < l.length) : ∃ c, atI l d = some c ∧ c ∈ l := by
  obtain ⟨n, rfl⟩ := Int.eq_ofNat_of_zero_le h0
  have hn : n < l.length := by omega
  exact ⟨l[n], atI_nat (List.getElem?_eq_getElem hn), List.getElem_mem hn⟩
theorem atI_at {α : Type} {l : List α} {d : Int} (h0 : 0 ≤ d) (h1 : d < l.length) : ∃ c, atI l d = some c ∧ l[d.toNat]? = some c := by
  obtain ⟨n, rfl⟩ := Int.eq_ofNat_of_zero_le h0
  have hn : n < l.length := by omega
  exact ⟨l[n], atI_nat (List.getElem?_eq_getElem hn), by rw [Int.toNat_natCast, List.getElem?_eq_getElem hn]⟩
theorem small_lt' {n : Nat} (h : n ≤ 24) : n < sizeLine := Nat.lt_of_le_of_lt h (Nat.lt_of_lt_of_le (show 24 < 25 by omega) (sl rfl))
theorem one_len (c : Nat) : (⟨#[c]⟩ : Str).length = 1 := rfl
theorem app_len (a b : Str) : (a ++ b).length = a.length + b.length := by rw [len_cps, len_cps, len_cps, ← List.length_append]; exact congrArg List.length (TL.tl_append a b)
theorem app_cps (a b : Str) : (a ++ b).cps.toList = a.cps.toList ++ b.cps.toList := TL.tl_append a b
theorem Pool.ne {H : Hp} {p q : Addr} {o : HO} (h : Pool H p) (n : H q = none) : q ≠ p := fun z => by
  obtain ⟨_, _, _, e, _⟩ := h
  subst z; rw [e] at n; cases n
theorem Pool.nel {H : Hp} {p q : Addr} {o : HO} (h : Pool H p) (n : H q = some o) (t : ∀ x b c : Int, o ≠ .lst [.int x, .int b, .int c]) : q ≠ p := fun z => by
  obtain ⟨_, _, _, e, _⟩ := h
  subst z; rw [e] at n; cases n; exact t _ _ _ rfl
theorem Pool.new {H : Hp} {p q : Addr} {o : HO} (h : Pool H p) (n : H q = none) : Pool (upd H q o) p := by
  obtain ⟨x, b, c, e, r⟩ := h
  exact ⟨x, b, c, get_new e n, r⟩
/-- an item of a list of texts -/
theorem strIx (n : Nat) (l : List Str) {d : Int} (h0 : 0 ≤ d) (h1 : d < l.length) (h : ∀ w ∈ l, w.length ≤ n) : ∃ w : Str, atI (l.map V.str) d = some (.str w) ∧ w.length ≤ n := by
  obtain ⟨k, rfl⟩ := Int.eq_ofNat_of_zero_le h0
  have hk : k < l.length := by omega
  exact ⟨l[k], atI_nat (by rw [List.getElem?_map, List.getElem?_eq_getElem hk]; rfl), h _ (List.getElem_mem hk)⟩
def stems : List Str := (["a", "north", "b2", "m", "kay9", "zz", "p10", "p9", "quay7", "b", "a1", "x", "lot", "w", "r12345", "c3", "y", "r1", "hill", "s", "d", "longname", "e5", "g"] : List String).map Str.ofString
def SG : Str := "0123456789abcdefghijklmnopqrstuvwxyz"
theorem SG_at {i c : Nat} (h : SG.cps.toList[i]? = some c) : c = if i < 10 then 48 + i else 87 + i := by
  have e : SG.cps.toList = [48,49,50,51,52,53,54,55,56,57,97,98,99,100,101,102,103,104,105,106,107,108,109,110,111,112,113,114,115,116,117,118,119,120,121,122] := by decide +kernel
  rw [e] at h
  have hi : i < 36 := by have := (List.getElem?_eq_some_iff.mp h).1; simpa using this
  have go : ∀ j, j < 36 → ([48,49,50,51,52,53,54,55,56,57,97,98,99,100,101,102,103,104,105,106,107,108,109,110,111,112,113,114,115,116,117,118,119,120,121,122] : List Nat)[j]? = some (if j < 10 then 48 + j else 87 + j) := by decide
  rw [go i hi] at h
  exact (Option.some.inj h).symm
theorem SG_len : SG.cps.toList.length = 36 := by decide +kernel
/-- where the name stands in the row of its kind -/
def key (way place : Int) (x : Str) : Nat :=
  if way = 1 then x.cps.toList.getD place.toNat 0
  else if way = 2 then (if x = ("streetxx" : Str) then 116 else x.cps.toList.getLast?.getD 0)
  else stems.idxOf x
def keyAt (way seed : Int) (k : Nat) : Nat :=
  if way = 1 then 97 + ((seed + 5 * k) % 24).toNat
  else if way = 2 then (let j := ((seed + k) % 36).toNat; if j < 10 then 48 + j else 87 + j)
  else ((seed + 7 * k) % 24).toNat
theorem keyAt_inj {way seed : Int} {i j : Nat} (hi : i < 24) (hj : j < 24) (h : keyAt way seed i = keyAt way seed j) : i = j := by
  unfold keyAt at h
  split at h
  · omega
  · split at h
    · simp only at h
      split at h <;> split at h <;> omega
    · omega
structure GoodNames (ns : List Str) : Prop where
  nd : ns.Nodup
  nm : ∀ s ∈ ns, nameB s = true
theorem nodup_key {way place seed : Int} {ns : List Str} (hl : ns.length ≤ 24) (h : ∀ i x, ns[i]? = some x → key way place x = keyAt way seed i) : ns.Nodup := by
  apply List.pairwise_iff_getElem.mpr
  intro i j hi hj hij e
  have h1 := h i _ (List.getElem?_eq_getElem hi)
  have h2 := h j _ (List.getElem?_eq_getElem hj)
  rw [e, h2] at h1
  have := keyAt_inj (by omega) (by omega) h1
  omega
def placeOf (seed : Int) : Int := seed / 7 % (2 + seed % 7)
theorem LA_in {c : Nat} (h1 : 97 ≤ c) (h2 : c ≤ 122) : inS LA c = true := by
  have e : LA.cps.toList = (List.range 26).map (97 + ·) := by decide +kernel
  have : c ∈ LA.cps.toList := by
    rw [e]
    exact List.mem_map.mpr ⟨c - 97, List.mem_range.mpr (by omega), by omega⟩
  simpa [inS, ← Array.mem_toList_iff] using this
theorem DI_in {c : Nat} (h1 : 48 ≤ c) (h2 : c ≤ 57) : inS DI c = true := by
  have e : DI.cps.toList = (List.range 10).map (48 + ·) := by decide +kernel
  have : c ∈ DI.cps.toList := by
    rw [e]
    exact List.mem_map.mpr ⟨c - 48, List.mem_range.mpr (by omega), by omega⟩
  simpa [inS, ← Array.mem_toList_iff] using this
theorem SG_good {i c : Nat} (h : SG.cps.toList[i]? = some c) : (inS LA c || inS DI c) = true := by
  have e := SG_at h
  have hi : i < 36 := by have := (List.getElem?_eq_some_iff.mp h).1; rw [SG_len] at this; exact this
  split at e
  · rw [DI_in (c := c) (by omega) (by omega)]; simp
  · rw [LA_in (c := c) (by omega) (by omega)]; rfl
theorem stems_all : ((List.range 24).all fun i => match stems[i]? with | some x => nameB x && decide (stems.idxOf x = i) | none => false) = true := by decide +kernel
theorem stems_at {i : Nat} {x : Str} (h : stems[i]? = some x) : nameB x = true ∧ stems.idxOf x = i := by
  have hi : i < 24 := by have := (List.getElem?_eq_some_iff.mp h).1; simpa [stems] using this
  have := List.all_eq_true.mp stems_all i (List.mem_range.mpr hi)
  rw [h] at this
  simp at this
  exact this
structure Good2 (x : Str) : Prop where
  l1 : 1 ≤ x.length
  hd : x.cps.toList.head?.any (inS LA) = true
  al : (x.cps.toList.all fun c => inS LA c || inS DI c) = true
theorem Good2.name {x : Str} (h : Good2 x) (h8 : x.length ≤ 8) (hs : x ≠ ("street" : Str)) : nameB x = true := by
  simp only [nameB, h.hd, h.al, Bool.and_true]
  simp [hs, h.l1, h8]
def sgc (j : Nat) : Nat := if j < 10 then 48 + j else 87 + j
structure NmPre (way seed : Int) (k : Nat) (x : Str) : Prop where
  other : way ≠ 2 → nameB x = true ∧ key way (placeOf seed) x = keyAt way seed k
  two : way = 2 → Good2 x ∧ x.length ≤ 7 ∧ x.cps.toList.getLast? = some (sgc ((seed + k) % 36).toNat)
theorem street_last : (("street" : Str)).cps.toList.getLast? = some 116 := by decide +kernel
theorem NmPre.done {way seed : Int} {k : Nat} {x : Str} (h : NmPre way seed k x) (hs : x ≠ ("street" : Str)) : nameB x = true ∧ key way (placeOf seed) x = keyAt way seed k := by
  by_cases hw : way = 2
  · obtain ⟨g, h7, hl⟩ := h.two hw
    refine ⟨g.name (by omega) hs, ?_⟩
    have hx : x ≠ ("streetxx" : Str) := fun z => by
      subst z
      exact absurd h7 (by decide)
    subst hw
    have w1 : ¬ ((2 : Int) = 1) := by decide
    simp only [key, keyAt, if_neg w1, if_true, if_neg hx, hl, Option.getD_some]
    rfl
  · exact h.other hw
theorem NmPre.xx {way seed : Int} {k : Nat} (h : NmPre way seed k ("street" : Str)) : nameB ("streetxx" : Str) = true ∧ key way (placeOf seed) ("streetxx" : Str) = keyAt way seed k := by
  by_cases hw : way = 2
  · obtain ⟨g, h7, hl⟩ := h.two hw
    refine ⟨by decide +kernel, ?_⟩
    rw [street_last] at hl
    subst hw
    have w1 : ¬ ((2 : Int) = 1) := by decide
    simp only [key, keyAt, if_neg w1, if_true]
    exact Option.some.inj hl
  · exact absurd (h.other hw).1 (by decide +kernel)
theorem way1_good {seed : Int} {k : Nat} {c : Nat} {x : Str} (s0 : 0 ≤ seed) (hc : SG.cps.toList[(10 + (seed + 5 * k) % 24).toNat]? = some c)
    (hx : x.cps.toList = List.replicate (placeOf seed).toNat 107 ++ [c] ++ List.replicate (2 + seed % 7 - placeOf seed - 1).toNat 107) : nameB x = true ∧ key 1 (placeOf seed) x = keyAt 1 seed k := by
  have p0 : 0 ≤ placeOf seed := Int.emod_nonneg _ (by omega)
  have p1 : placeOf seed < 2 + seed % 7 := Int.emod_lt_of_pos _ (by omega)
  have hc2 := SG_at hc
  have hm : 0 ≤ (seed + 5 * (k : Int)) % 24 ∧ (seed + 5 * (k : Int)) % 24 < 24 := by omega
  rw [if_neg (by omega)] at hc2
  have hcl : inS LA c = true := LA_in (by omega) (by omega)
  have hk : inS LA 107 = true := LA_in (by decide) (by decide)
  have hlen : x.length = (2 + seed % 7).toNat := by
    rw [len_cps, hx]; simp; omega
  have hal : ∀ d ∈ x.cps.toList, inS LA d = true := by
    rw [hx]
    intro d hd
    rcases List.mem_append.mp hd with hd | hd
    · rcases List.mem_append.mp hd with hd | hd
      · rw [(List.mem_replicate.mp hd).2]; exact hk
      · rw [List.mem_singleton.mp hd]; exact hcl
    · rw [(List.mem_replicate.mp hd).2]; exact hk
  have g : Good2 x := ⟨by omega, by
    cases e : x.cps.toList with
    | nil => rw [len_cps, e] at hlen; simp at hlen; omega
    | cons a l => simpa using hal a (by rw [e]; simp), by
    rw [List.all_eq_true]
    intro d hd
    rw [hal d hd]; rfl⟩
  have ne : x ≠ ("street" : Str) := fun z => by
    have h107 : 107 ∈ x.cps.toList := by
      rw [hx]
      by_cases h : placeOf seed = 0
      · have : (2 + seed % 7 - placeOf seed - 1).toNat ≠ 0 := by omega
        exact List.mem_append_right _ (List.mem_replicate.mpr ⟨this, rfl⟩)
      · have : (placeOf seed).toNat ≠ 0 := by omega
        exact List.mem_append_left _ (List.mem_append_left _ (List.mem_replicate.mpr ⟨this, rfl⟩))
    rw [z] at h107
    exact absurd h107 (by decide +kernel)
  refine ⟨g.name (by omega) ne, ?_⟩
  simp only [key, keyAt, if_true]
  rw [hx]
  simp [List.getD]
  omega
abbrev s__law_names : Stmt := top 40
abbrev N__law_names : List Str := ["pool", "count", "way", "seed", "stems", "signs", "names", "k", "name", "size", "place", "j"]
theorem sc__law_names : FnScope N__law_names ["pool", "count"] (defScope s__law_names) := ⟨rfl, rfl, rfl, by decide +kernel, rfl, by decide +kernel, by decide +kernel⟩
def sp__law_names (K : PySem.W.Frag) : Sp := fun vs H Q _ => ∃ (p : Addr) (n : Nat), vs = [.ref p, .int n] ∧ (Pool H p ∧ n ≤ 24 ∧ ∀ H' a ns, H' a = some (.lst (ns.map V.str)) → ns.length = n → GoodNames ns → H a = none → Pool H' p → Kp [p] H H' → Q (.ref a) H')
theorem ok__law_names {f : Addr} {fd : FuncData} (F : FunD K "_law_names" "_law_names" (defArgs s__law_names) (defBody s__law_names) (defScope s__law_names) [] [] f fd)
    (C__law_take : Cal P w K mg base CX0 1 "_law_take" ["pool", "limit"] (sp__law_take K))
    (mN_range : mg "range" = none) : FnOk P w K mg base CX0 2 f fd ["pool", "count"] (sp__law_names K) := by
  refine F.ok sc__law_names (fun vs H Q E h => ?_) (fun cdv A outer s H vs Q E hr h => ⟨_, PSs.nox ((pss_cons (ps_set (i := 2) sc__law_names.nd rfl (.inl rfl) (ue_call (E := E0) C__law_take (hr.mono (by decide)) rfl pass0 (pa_cons (pu 0) (pa_cons pe_int pa_nil))))
    (pss_cons (ps_set (i := 3) sc__law_names.nd rfl (.inl rfl) (ue_call (E := E0) C__law_take (hr.mono (by decide)) rfl pass0 (pa_cons (pu 0) (pa_cons pe_int pa_nil))))
    (pss_cons (ps_set (i := 4) sc__law_names.nd rfl (.inl rfl) (pe_lst (pa_cons pe_str (pa_cons pe_str (pa_cons pe_str (pa_cons pe_str (pa_cons pe_str (pa_cons pe_str (pa_cons pe_str (pa_cons pe_str (pa_cons pe_str (pa_cons pe_str (pa_cons pe_str (pa_cons pe_str pa_nil))))))))))))))
    (pss_cons (ps_set (i := 4) sc__law_names.nd rfl (.inl rfl) (pe_op (kAdd K) (pu 4) (pe_lst (pa_cons pe_str (pa_cons pe_str (pa_cons pe_str (pa_cons pe_str (pa_cons pe_str (pa_cons pe_str (pa_cons pe_str (pa_cons pe_str (pa_cons pe_str (pa_cons pe_str (pa_cons pe_str (pa_cons pe_str pa_nil)))))))))))))))
    (pss_cons (ps_set (i := 5) sc__law_names.nd rfl (.inl rfl) pe_str)
    (pss_cons (ps_set (i := 6) sc__law_names.nd rfl (.inl rfl) (pe_lst pa_nil))
    (pss_cons (ps_for PassesOwn.never rfl (pi_range1 (by rfl) mN_range (pa_cons (pu 1) pa_nil)) (pg_name (i := 7) sc__law_names.nd rfl (.inl rfl)) (C8.pss_cut (ps_set (i := 8) sc__law_names.nd rfl (.inl rfl) (pe_ix (kIx K) (pu 4) (pe_op o_mod (pe_op (kAdd K) (pu 3) (pe_op o_mulS pe_int (pu 7))) pe_int) (fun _ _ => rfl)))
    (C8.pss_cut (us_if (ut_cmp (kEq K hr.units) (pu 2) pe_int (nomark _)) (pss_cons (ps_set (i := 9) sc__law_names.nd rfl (.inl rfl) (pe_op (kAdd K) pe_int (pe_op o_mod (pu 3) pe_int)))
    (pss_cons (ps_set (i := 10) sc__law_names.nd rfl (.inl rfl) (pe_op o_mod (pe_op o_div (pu 3) pe_int) (pu 9)))
    (pss_one (ps_set (i := 8) sc__law_names.nd rfl (.inl rfl) (pe_op (kAdd K) (pe_op (kAdd K) (pe_op o_mulS pe_str (pu 10)) (pe_ix (kIx K) (pu 5) (pe_op (kAdd K) pe_int (pe_op o_mod (pe_op (kAdd K) (pu 3) (pe_op o_mulS pe_int (pu 7))) pe_int)) (fun _ _ => rfl))) (pe_op o_mulS pe_str (pe_op o_sub (pe_op o_sub (pu 9) (pu 10)) pe_int))))))) pss_nil)
    (C8.pss_cut (us_if (ut_cmp (kEq K hr.units) (pu 2) pe_int (nomark _)) (pss_cons (ps_set (i := 8) sc__law_names.nd rfl (.inl rfl) (pe_ix (kIx K) (pu 5) (pe_op (kAdd K) pe_int (ue_call (E := E0) C__law_take (hr.mono (by decide)) rfl pass0 (pa_cons (pu 0) (pa_cons pe_int pa_nil)))) (fun _ _ => rfl)))
    (pss_cons (ps_for PassesOwn.never rfl (pi_range1 (by rfl) mN_range (pa_cons (ue_call (E := E0) C__law_take (hr.mono (by decide)) rfl pass0 (pa_cons (pu 0) (pa_cons pe_int pa_nil))) pa_nil)) (pg_name (i := 11) sc__law_names.nd rfl (.inl rfl)) (pss_one (ps_set (i := 8) sc__law_names.nd rfl (.inl rfl) (pe_op (kAdd K) (pu 8) (pe_ix (kIx K) (pu 5) (ue_call (E := E0) C__law_take (hr.mono (by decide)) rfl pass0 (pa_cons (pu 0) (pa_cons pe_int pa_nil))) (fun _ _ => rfl))))))
    (pss_one (ps_set (i := 8) sc__law_names.nd rfl (.inl rfl) (pe_op (kAdd K) (pu 8) (pe_ix (kIx K) (pu 5) (pe_op o_mod (pe_op (kAdd K) (pu 3) (pu 7)) pe_int) (fun _ _ => rfl))))))) pss_nil)
    (C8.pss_cut (us_if (ut_cmp (kEq K hr.units) (pu 8) pe_str (nomark _)) (pss_one (ps_set (i := 8) sc__law_names.nd rfl (.inl rfl) pe_str)) pss_nil)
    (pss_one (ps_expr (ue_append (pu 6) (pa_cons (pu 8) pa_nil)))))))))
    (pss_one (ps_ret (pu 6))))))))))), ?_⟩)
  · obtain ⟨p, n, rfl, _⟩ := h
    rfl
  · obtain ⟨p, n, rfl, h⟩ := h
    obtain ⟨hp, hn, hk⟩ := h
    refine ⟨p, 3, rfl, hp, by decide, fun H1 way w0 w1 p1 k1 => ⟨p, 168, rfl, p1, by decide, fun H2 seed s0 s1 p2 k2 => ?_⟩⟩
    have k12 := k1.trans k2
    refine ⟨sl rfl, fun t1 e1 => ⟨sl rfl, fun t2 e2 => .inl ⟨_, _, get_new upd_same e2, upd_same, sl rfl, fun T e3 => ⟨sl rfl, fun N e4 => ?_⟩⟩⟩⟩
    have hTp : T ≠ p := Pool.ne (o := .lst []) ((p2.new e1).new e2) e3
    have hNp : N ≠ p := Pool.ne (o := .lst []) (((p2.new e1).new e2).new e3) e4
    have P4 := (((p2.new e1).new e2).new e3).new e4 (o := .lst [])
    have K4 : Kp [p] H _ := (((k12.trans (Kp.new e1)).trans (Kp.new e2)).trans (Kp.new e3)).trans (Kp.new e4 (o := .lst []))
    have hNH : H N = none := Kp.free (((k12.trans (Kp.new e1)).trans (Kp.new e2)).trans (Kp.new e3)) e4 (by simpa using hNp)
    refine ⟨n, rfl, by omega, by omega, ?_⟩
    rw [Int.toNat_natCast]
    refine for_range (fun i σ H4 => ∃ (ns : List Str) (o7 o8 o9 o10 o11 : Option V), σ = [some (.ref p), some (.int n), some (.int way), some (.int seed), some (.ref T), some (.str SG), some (.ref N), o7, o8, o9, o10, o11] ∧ H4 T = some (.lst (stems.map V.str)) ∧ H4 N = some (.lst (ns.map V.str)) ∧ ns.length = i ∧
      (∀ j x, ns[j]? = some x → nameB x = true ∧ key way (placeOf seed) x = keyAt way seed j) ∧ Pool H4 p ∧ Kp [p] H H4) ⟨[], none, none, none, none, none, rfl, get_new upd_same e4, upd_same, rfl, by simp, P4, K4⟩ ?_ ?_
    · rintro i σ H4 hi ⟨ns, o7, o8, o9, o10, o11, rfl, hT, hN, hl, hok, p4, k4⟩
      have hTN : T ≠ N := fun z => by subst z; rw [hT] at hN; have := congrArg (fun o : Option HO => match o with | some (.lst l) => l.length | _ => 0) hN; simp [stems, hl] at this; omega
      have hi24 : i < 24 := by omega
      have m0 : 0 ≤ (seed + 7 * (0 + (i : Int))) % 24 ∧ (seed + 7 * (0 + (i : Int))) % 24 < 24 := by omega
      obtain ⟨x, hx, hxs⟩ := atI_at (l := stems.map V.str) m0.1 (by simp [stems]; omega)
      rw [List.getElem?_map] at hxs
      cases es : stems[((seed + 7 * (0 + (i : Int))) % 24).toNat]? with
      | none => rw [es] at hxs; cases hxs
      | some y =>
      rw [es] at hxs
      cases hxs
      obtain ⟨hy1, hy2⟩ := stems_at es
      refine ⟨fun σ H5 => σ = [some (.ref p), some (.int n), some (.int way), some (.int seed), some (.ref T), some (.str SG), some (.ref N), some (.int (0 + (i : Int))), some (.str y), o9, o10, o11] ∧ H5 = H4, ⟨.inl ⟨by omega, by omega⟩, by decide, _, _, .inl (SqL.of hT), hx, rfl, rfl⟩, ?_⟩
      rintro σ H5 ⟨rfl, rfl⟩
      refine ⟨fun σ H6 => ∃ (z : Str) (o9 o10 o11 : Option V), σ = [some (.ref p), some (.int n), some (.int way), some (.int seed), some (.ref T), some (.str SG), some (.ref N), some (.int (0 + (i : Int))), some (.str z), o9, o10, o11] ∧ H6 = H5 ∧ (way ≠ 2 → nameB z = true ∧ key way (placeOf seed) z = keyAt way seed i), ?_, ?_⟩
      · refine ⟨rfl, fun c => ?_, fun c => ?_⟩
        · have c : way = 1 := by simpa [eqB] using c
          subst c
          have q0 : 0 ≤ placeOf seed := Int.emod_nonneg _ (by omega)
          have q1 : placeOf seed < 2 + seed % 7 := Int.emod_lt_of_pos _ (by omega)
          have q2 : seed % 7 < 7 ∧ 0 ≤ seed % 7 := by omega
          have c0 : 0 ≤ 10 + (seed + 5 * (0 + (i : Int))) % 24 ∧ 10 + (seed + 5 * (0 + (i : Int))) % 24 < 36 := by omega
          obtain ⟨c, hc, hcs⟩ := atI_at (l := SG.cps.toList) c0.1 (by rw [SG_len]; exact c0.2)
          have kl : (("k" : Str)).length ≤ 1000 := by decide
          have mk := fun m : Int => mul_one 107 m
          have kk : ("k" : Str) = ⟨#[107]⟩ := by apply TL.ext_tl; decide +kernel
          have lm : ∀ m : Int, m ≤ 10 → (Txt.mul ("k" : Str) m).length ≤ 10 := fun m hm => by
            rw [len_cps, kk, mk]; simp; omega
          refine ⟨by decide, ⟨by decide, by decide⟩, by omega, kl, by show -10000 ≤ placeOf seed; omega, by show placeOf seed ≤ 10000; omega, .inl ⟨by omega, by omega⟩, by decide, c, sl rfl, hc, ?_, kl, by show -10000 ≤ 2 + seed % 7 - placeOf seed - 1; omega, by show 2 + seed % 7 - placeOf seed - 1 ≤ 10000; omega, ?_, _, _, _, _, rfl, rfl, fun _ => ?_⟩
          · have := lm (placeOf seed) (by omega)
            exact Nat.le_trans (Nat.add_le_add_right this 1) (sl rfl)
          · have h1 := lm (placeOf seed) (by omega)
            have h2 := lm (2 + seed % 7 - placeOf seed - 1) (by omega)
            refine Nat.le_trans (Nat.add_le_add (b := 11) (d := 10) ?_ h2) (sl rfl)
            rw [app_len, one_len]; exact Nat.add_le_add_right h1 1
          · refine way1_good (c := c) s0 (by rw [show (seed + 5 * (i : Int)) = seed + 5 * (0 + (i : Int)) by omega]; exact hcs) ?_
            rw [app_cps, app_cps, kk]
            show (Txt.mul ⟨#[107]⟩ (placeOf seed)).cps.toList ++ [c] ++ (Txt.mul ⟨#[107]⟩ (2 + seed % 7 - placeOf seed - 1)).cps.toList = _
            rw [mk, mk]
        · have c : way ≠ 1 := by simpa [eqB] using c
          refine ⟨y, _, _, _, rfl, rfl, fun h2 => ⟨hy1, ?_⟩⟩
          simp only [key, keyAt, if_neg c, if_neg h2, hy2]
          congr 2; omega
      rintro σ H6 ⟨z, o9, o10, o11, rfl, rfl, hz⟩
      refine ⟨fun σ H7 => ∃ (z : Str) (o11 : Option V), σ = [some (.ref p), some (.int n), some (.int way), some (.int seed), some (.ref T), some (.str SG), some (.ref N), some (.int (0 + (i : Int))), some (.str z), o9, o10, o11] ∧ NmPre way seed i z ∧ Pool H7 p ∧ Kp [p] H6 H7, ?_, ?_⟩
      · refine ⟨rfl, fun c => ?_, fun c => ⟨z, _, rfl, ⟨hz, fun h => absurd (show way = 2 from h) (by simpa [eqB] using c)⟩, p4, Kp.refl⟩⟩
        have c : way = 2 := by simpa [eqB] using c
        refine ⟨p, 26, rfl, p4, by decide, fun H7 d d0 d1 p7 k7 => ?_⟩
        obtain ⟨a, ha, has⟩ := atI_at (l := SG.cps.toList) (d := 10 + d) (by omega) (by rw [SG_len]; omega)
        refine ⟨a, sl rfl, ha, p, 6, rfl, p7, by decide, fun H8 m m0 m1 p8 k8 => ⟨m, rfl, by omega, by omega, ?_⟩⟩
        refine for_range (fun j σ H9 => ∃ (x : Str) (o11 : Option V), σ = [some (.ref p), some (.int n), some (.int way), some (.int seed), some (.ref T), some (.str SG), some (.ref N), some (.int (0 + (i : Int))), some (.str x), o9, o10, o11] ∧ Good2 x ∧ x.length = 1 + j ∧ Pool H9 p ∧ Kp [p] H6 H9) ?_ ?_ ?_
        · refine ⟨_, _, rfl, ⟨Nat.le_refl 1, ?_, ?_⟩, rfl, p8, k7.trans k8⟩
          · have := SG_at has
            have ha2 : inS LA a = true := LA_in (by split at this <;> omega) (by split at this <;> omega)
            simpa using ha2
          · simp; simpa using SG_good has
        · rintro j σ H9 hj ⟨x, o11, rfl, gx, lx, p9, k9⟩
          refine ⟨p, 36, rfl, p9, by decide, fun H10 e e0 e1 p10 k10 => ?_⟩
          obtain ⟨b, hb, hbs⟩ := atI_at (l := SG.cps.toList) (d := e) e0 (by rw [SG_len]; omega)
          refine ⟨b, sl rfl, hb, ?_, _, _, rfl, ⟨?_, ?_, ?_⟩, ?_, p10, k9.trans k10⟩
          · rw [lx]; exact Nat.le_trans (show 1 + j + 1 ≤ 100 by omega) (sl rfl)
          · rw [app_len]; omega
          · rw [app_cps]
            cases e : x.cps.toList with
            | nil => have := gx.l1; rw [len_cps, e] at this; simp at this
            | cons f l => have := gx.hd; rw [e] at this; simpa using this
          · rw [app_cps, List.all_append, gx.al]
            simp; simpa using SG_good hbs
          · rw [app_len, lx, one_len]; omega
        · rintro σ H9 ⟨x, o11, rfl, gx, lx, p9, k9⟩
          have c0 : 0 ≤ (seed + (0 + (i : Int))) % 36 ∧ (seed + (0 + (i : Int))) % 36 < 36 := by omega
          obtain ⟨b, hb, hbs⟩ := atI_at (l := SG.cps.toList) c0.1 (by rw [SG_len]; exact c0.2)
          refine ⟨by decide, b, sl rfl, hb, ?_, _, _, rfl, ⟨fun h => absurd c h, fun _ => ⟨⟨?_, ?_, ?_⟩, ?_, ?_⟩⟩, p9, k9⟩
          · rw [lx]; exact Nat.le_trans (show 1 + m.toNat + 1 ≤ 100 by omega) (sl rfl)
          · rw [app_len]; omega
          · rw [app_cps]
            cases e : x.cps.toList with
            | nil => have := gx.l1; rw [len_cps, e] at this; simp at this
            | cons f l => have := gx.hd; rw [e] at this; simpa using this
          · rw [app_cps, List.all_append, gx.al]
            simp; simpa using SG_good hbs
          · rw [app_len, lx, one_len]; omega
          · rw [app_cps]
            have e := SG_at hbs
            simp
            rw [e]
            simp [sgc]
      rintro σ H7 ⟨z, o11, rfl, hz, p7, k7⟩
      refine ⟨fun σ H8 => ∃ (z : Str), σ = [some (.ref p), some (.int n), some (.int way), some (.int seed), some (.ref T), some (.str SG), some (.ref N), some (.int (0 + (i : Int))), some (.str z), o9, o10, o11] ∧ H8 = H7 ∧ nameB z = true ∧ key way (placeOf seed) z = keyAt way seed i, ⟨rfl, fun c => ?_, fun c => ?_⟩, ?_⟩
      · have c : z = ("street" : Str) := by simpa [eqB] using c
        subst c
        exact ⟨_, rfl, rfl, hz.xx⟩
      · have c : z ≠ ("street" : Str) := by simpa [eqB] using c
        exact ⟨_, rfl, rfl, hz.done c⟩
      rintro σ H8 ⟨z, rfl, rfl, hz⟩
      have hN7 := k7.get1 hN hNp
      refine ⟨⟨_, hN7⟩, _, hN7, ?_, ns ++ [z], _, _, _, _, _, rfl, get_ne (k7.get1 hT hTp) hTN, by rw [upd_same]; simp, by simp [hl], ?_, ?_, ?_⟩
      · simp; exact small_lt' (show ns.length ≤ 24 by omega)
      · intro j x hj
        by_cases h : j < ns.length
        · exact hok j x (by rw [List.getElem?_append_left h] at hj; exact hj)
        · have : j = i := by
            have := (List.getElem?_eq_some_iff.mp hj).1
            simp at this; omega
          subst this
          rw [List.getElem?_append_right (by omega), hl] at hj
          simp at hj
          subst hj
          exact hz
      · exact p7.keep (Kp.set (S := [N]) (by simp)) (by simpa using hNp.symm)
      · exact (k4.trans k7).loc hNH
    · rintro σ H4 ⟨ns, o7, o8, o9, o10, o11, rfl, hT, hN, hl, hok, p4, k4⟩
      exact hk H4 N ns hN hl ⟨nodup_key (by omega) fun j x h => (hok j x h).2, fun x hx => by
        obtain ⟨j, hj⟩ := List.mem_iff_getElem?.mp hx
        exact (hok j x hj).1⟩ hNH p4 k4
end
end LW
set_option Elab.async false
set_option linter.all false
set_option maxRecDepth 100000
set_option maxHeartbeats 1000000
namespace LW
open PySem PySem.Spec PyProof.Rows L2 U
--  : Nat) : Stmt := PySem.Challenge.pw_manyrides_k03_text_and_town_are_each_oth.main.body.getD i (.Pass ⟨0, 0, 0, 0⟩)
section
variable {P : Program} {w : World} {K : PySem.W.Frag} {mg : Str → Option Value} {base : Heap}
/-! rounds, rides -/
def prD (q : Str × Str) : Dt := .tup [.str q.1, .str q.2]
theorem prD_still (q : Str × Str) : (prD q).still = true := rfl
theorem rp_pr {H : Hp} {x : V} {q : Str × Str} (h : Rp H x (prD q)) : ∃ a, x = .ref a ∧ H a = some (.tup [.str q.1, .str q.2]) := by
  cases h with
  | tup h r =>
    cases r with
    | cons r1 r =>
      cases r with
      | cons r2 r => cases r; cases r1; cases r2; exact ⟨_, rfl, h⟩
def Pairs (pl : List Str) (ps : List (Str × Str)) : Prop := ∀ q ∈ ps, q.1 ∈ pl ∧ q.2 ∈ pl ∧ q.1 ≠ q.2
theorem nodup_inj {l : List Str} (h : l.Nodup) {i j : Nat} {x : Str} (hi : l[i]? = some x) (hj : l[j]? = some x) : i = j := by
  obtain ⟨h1, e1⟩ := List.getElem?_eq_some_iff.mp hi
  obtain ⟨h2, e2⟩ := List.getElem?_eq_some_iff.mp hj
  rcases Nat.lt_trichotomy i j with c | c | c
  · exact absurd (e1.trans e2.symm) (List.pairwise_iff_getElem.mp h i j h1 h2 c)
  · exact c
  · exact absurd (e2.trans e1.symm) (List.pairwise_iff_getElem.mp h j i h2 h1 c)
theorem hop_inj {L b h : Int} (hh : h = 1 ∨ h = -1) {i j : Nat} (hi : (i : Int) < L) (hj : (j : Int) < L) (e : (b + h * (i : Int)) % L = (b + h * (j : Int)) % L) : i = j := by
  have a1 := Int.emod_add_mul_ediv (b + h * (i : Int)) L
  have a2 := Int.emod_add_mul_ediv (b + h * (j : Int)) L
  have key : ∀ q : Int, L * q < L → -L < L * q → q = 0 := fun q h1 h2 => by
    by_cases h : q = 0
    · exact h
    · exfalso
      rcases Int.lt_or_gt_of_ne h with h | h
      · have : L * q ≤ L * (-1) := Int.mul_le_mul_of_nonneg_left (by omega) (by omega)
        omega
      · have : L * 1 ≤ L * q := Int.mul_le_mul_of_nonneg_left (by omega) (by omega)
        omega
  have a3 : L * ((b + h * (i : Int)) / L - (b + h * (j : Int)) / L) = h * i - h * j := by rw [Int.mul_sub]; omega
  have q0 := key ((b + h * (i : Int)) / L - (b + h * (j : Int)) / L)
  rcases hh with z | z <;> subst z
  · have := q0 (by omega) (by omega)
    rw [this] at a3
    omega
  · have := q0 (by omega) (by omega)
    rw [this] at a3
    omega
abbrev s__law_round : Stmt := top 41
abbrev N__law_round : List Str := ["pool", "places", "most", "size", "begin", "hop", "row", "j"]
theorem sc__law_round : FnScope N__law_round ["pool", "places", "most"] (defScope s__law_round) := ⟨rfl, rfl, rfl, by decide +kernel, rfl, by decide +kernel, by decide +kernel⟩
def sp__law_round (K : PySem.W.Frag) : Sp := fun vs H Q _ => ∃ (p P : Addr) (m : Int) (pl : List Str), vs = [.ref p, .ref P, .int m] ∧ (Pool H p ∧ H P = some (.lst (pl.map V.str)) ∧ pl.Nodup ∧ 2 ≤ pl.length ∧ pl.length ≤ 1000 ∧ 2 ≤ m ∧
  ∀ H' a ps, LstAt H' a (ps.map prD) → 2 ≤ ps.length → (ps.length : Int) ≤ m → ps.length ≤ pl.length → Pairs pl ps → H a = none → Pool H' p → Kp [p] H H' → Q (.ref a) H')
theorem ok__law_round {f : Addr} {fd : FuncData} (F : FunD K "_law_round" "_law_round" (defArgs s__law_round) (defBody s__law_round) (defScope s__law_round) [] [] f fd)
    (C__law_take : Cal P w K mg base CX0 1 "_law_take" ["pool", "limit"] (sp__law_take K))
    (mN_min : mg "min" = none)
    (mN_len : mg "len" = none)
    (mN_range : mg "range" = none) : FnOk P w K mg base CX0 2 f fd ["pool", "places", "most"] (sp__law_round K) := by
  refine F.ok sc__law_round (fun vs H Q E h => ?_) (fun cdv A outer s H vs Q E hr h => ⟨_, PSs.nox ((pss_cons (ps_set (i := 3) sc__law_round.nd rfl (.inr rfl) (pe_op (kAdd K) pe_int (ue_call (E := E0) C__law_take (hr.mono (by decide)) rfl pass0 (pa_cons (pu 0) (pa_cons (pe_op o_sub (pe_callB (kMin K rfl) (by rfl) mN_min (by decide +kernel) (pa_cons (pe_callB (kLen K) (by rfl) mN_len boot_len (pa_cons (pu 1) pa_nil)) (pa_cons (pu 2) pa_nil))) pe_int) pa_nil)))))
    (pss_cons (ps_set (i := 4) sc__law_round.nd rfl (.inr rfl) (ue_call (E := E0) C__law_take (hr.mono (by decide)) rfl pass0 (pa_cons (pu 0) (pa_cons (pe_callB (kLen K) (by rfl) mN_len boot_len (pa_cons (pu 1) pa_nil)) pa_nil))))
    (pss_cons (ps_set (i := 5) sc__law_round.nd rfl (.inr rfl) (pe_op o_sub pe_int (pe_op o_mulS pe_int (ue_call (E := E0) C__law_take (hr.mono (by decide)) rfl pass0 (pa_cons (pu 0) (pa_cons pe_int pa_nil))))))
    (C8.pss_cut (ps_set (i := 6) sc__law_round.nd rfl (.inr rfl) (pe_lc (own := [("j", 7)]) rfl sc__law_round.nd (pi_range1 (by rfl) mN_range (pa_cons (pu 3) pa_nil)) (blkOk_by (N := N__law_round) (sc := defScope s__law_round) (by decide +kernel)) (fun _ _ _ _ _ => (pg_name (i := 7) sc__law_round.nd rfl (.inl rfl))) (fun _ _ _ _ _ => pts_nil) (fun _ _ _ _ _ => (pe_ix (kIx K) (pu 1) (pe_op o_mod (pe_op (kAdd K) (pu 4) (pe_op o_mulS (pu 5) (pu 7))) (pe_callB (kLen K) (by rfl) mN_len boot_len (pa_cons (pu 1) pa_nil))) (fun _ _ => rfl)))))
    (pss_one (ps_ret (pe_lc (own := [("j", 7)]) rfl sc__law_round.nd (pi_range1 (by rfl) mN_range (pa_cons (pu 3) pa_nil)) (blkOk_by (N := N__law_round) (sc := defScope s__law_round) (by decide +kernel)) (fun _ _ _ _ _ => (pg_name (i := 7) sc__law_round.nd rfl (.inl rfl))) (fun _ _ _ _ _ => pts_nil) (fun _ _ _ _ _ => (pe_tup (pa_cons (pe_ix (kIx K) (pu 6) (pu 7) (fun _ _ => rfl)) (pa_cons (pe_ix (kIx K) (pu 6) (pe_op o_mod (pe_op (kAdd K) (pu 7) pe_int) (pu 3)) (fun _ _ => rfl)) pa_nil)))))))))))), ?_⟩)
  · obtain ⟨p, P, m, pl, rfl, _⟩ := h
    rfl
  · obtain ⟨p, P, m, pl, rfl, h⟩ := h
    obtain ⟨hp, hP, nd, h2, h1000, hm, hk⟩ := h
    have hPp : P ≠ p := fun z => by subst z; obtain ⟨_, _, _, e, _⟩ := hp; rw [hP] at e; have := congrArg (fun o : Option HO => match o with | some (.lst (.str _ :: _)) => 1 | _ => 0) e; cases pl <;> simp at this h2
    have L := SqL.of (K := K) hP
    have lm : ((pl.map V.str).length : Int) = pl.length := by simp
    refine ⟨_, .inl ⟨_, L, rfl⟩, p, _, rfl, hp, ?_, fun H1 d d0 d1 p1 k1 => ?_⟩
    · rw [lm]; split <;> constructor <;> omega
    have hP1 := k1.get1 hP hPp
    refine ⟨_, .inl ⟨_, SqL.of hP1, rfl⟩, p, _, rfl, p1, ⟨by omega, by omega⟩, fun H2 b b0 b1 p2 k2 => ⟨p, 2, rfl, p2, by decide, fun H3 g g0 g1 p3 k3 => ⟨.inl ⟨by decide, by decide⟩, ?_⟩⟩⟩
    have k03 := (k1.trans k2).trans k3
    have hP3 := k03.get1 hP hPp
    rw [lm] at d1 b1
    have dsz : 2 + d ≤ pl.length ∧ 2 + d ≤ m := by split at d1 <;> omega
    obtain ⟨n, hn⟩ := Int.eq_ofNat_of_zero_le (show 0 ≤ 2 + d by omega)
    have hn2 : 2 ≤ n ∧ n ≤ pl.length := by omega
    have hho : 1 - 2 * g = 1 ∨ 1 - 2 * g = -1 := by omega
    have pos : (0 : Int) < pl.length := by omega
    have at0 : ∀ j : Nat, 0 ≤ (b + (1 - 2 * g) * (0 + (j : Int))) % (pl.length : Int) ∧ (b + (1 - 2 * g) * (0 + (j : Int))) % (pl.length : Int) < pl.length := fun j => ⟨Int.emod_nonneg _ (by omega), Int.emod_lt_of_pos _ pos⟩
    obtain ⟨row, hrl, hrow⟩ : ∃ row : List Str, row.length = n ∧ ∀ j : Nat, j < n → row[j]? = pl[((b + (1 - 2 * g) * (0 + (j : Int))) % (pl.length : Int)).toNat]? :=
      ⟨(List.range n).map fun (j : Nat) => pl.getD ((b + (1 - 2 * g) * (0 + (j : Int))) % (pl.length : Int)).toNat "", by simp, fun j hj => by
        have := at0 j
        have h1 : ((b + (1 - 2 * g) * (0 + (j : Int))) % (pl.length : Int)).toNat < pl.length := by omega
        rw [List.getElem?_map, List.getElem?_range hj]
        show some (pl.getD _ _) = _
        rw [List.getElem?_eq_getElem h1, List.getD, List.getElem?_eq_getElem h1]; rfl⟩
    have rin : ∀ j x, row[j]? = some x → x ∈ pl := fun j x hx => by
      have hj : j < n := by rw [← hrl]; exact (List.getElem?_eq_some_iff.mp hx).1
      rw [hrow j hj] at hx
      exact List.mem_of_getElem? hx
    have rinj : ∀ i j x, row[i]? = some x → row[j]? = some x → i = j := fun i j x hi hj => by
      have hil : i < n := by rw [← hrl]; exact (List.getElem?_eq_some_iff.mp hi).1
      have hjl : j < n := by rw [← hrl]; exact (List.getElem?_eq_some_iff.mp hj).1
      rw [hrow i hil] at hi
      rw [hrow j hjl] at hj
      have e := nodup_inj nd hi hj
      have a1 := at0 i
      have a2 := at0 j
      refine hop_inj (L := pl.length) (b := b) hho (by omega) (by omega) ?_
      rw [show (i : Int) = 0 + (i : Int) by omega, show (j : Int) = 0 + (j : Int) by omega]
      omega
    rw [hn]
    refine ⟨fun σ H4 => ∃ R, σ = [some (.ref p), some (.ref P), some (.int m), some (.int n), some (.int b), some (.int (1 - 2 * g)), some (.ref R), none] ∧ H4 R = some (.lst (row.map V.str)) ∧ Kp [] H3 H4, ⟨n, rfl, by omega, by omega, ?_⟩, ?_⟩
    · rw [Int.toNat_natCast]
      refine fun D hD => lc_range (LcP [] H3 D fun i => (row.take i).map V.str) (LcP.start hD rfl) (fun i H4 hi q4 => ?_) fun H4 q4 => ?_
      · obtain ⟨a1, a2⟩ := at0 i
        obtain ⟨x, hx, hxs⟩ := atI_at (l := pl.map V.str) (d := (b + (1 - 2 * g) * (0 + (i : Int))) % (pl.length : Int)) a1 (by simpa using a2)
        rw [List.getElem?_map, ← hrow i hi] at hxs
        have L4 := SqL.of (K := K) (q4.2.get0 hP3)
        cases e : row[i]? with
        | none => rw [e] at hxs; cases hxs
        | some y =>
          rw [e] at hxs
          cases hxs
          refine ⟨rfl, .inl ⟨by omega, by omega⟩, _, .inl ⟨_, L4, rfl⟩, ?_, _, .str y, .inl L4, ?_, q4.step hD Kp.refl (by simp) ?_ ?_⟩
          · rw [lm]; exact pos
          · rw [lm]; exact hx
          · rw [List.take_add_one, e]; simp
          · simp; exact Nat.lt_of_le_of_lt (Nat.min_le_right _ _) (Nat.lt_of_lt_of_le (show row.length < 1001 by omega) (sl rfl))
      · have hD4 := q4.1
        simp only [← hrl, List.take_length] at hD4
        exact ⟨D, rfl, hD4, q4.2⟩
    rintro σ H4 ⟨R, rfl, hR, k4⟩
    have k04 := k03.trans k4.to
    have p4 : Pool H4 p := p3.keep k4 (by simp)
    refine ⟨n, rfl, by omega, by omega, ?_⟩
    rw [Int.toNat_natCast]
    obtain ⟨ps, psl, hps⟩ : ∃ ps : List (Str × Str), ps.length = n ∧ ∀ j : Nat, j < n → ∃ x y, ps[j]? = some (x, y) ∧ row[j]? = some x ∧ row[(j + 1) % n]? = some y :=
      ⟨(List.range n).map fun (j : Nat) => (row.getD j "", row.getD ((j + 1) % n) ""), by simp, fun j hj => by
        have h1 : j < row.length := by omega
        have h2 : (j + 1) % n < row.length := by rw [hrl]; exact Nat.mod_lt _ (by omega)
        exact ⟨row[j], row[(j + 1) % n], by simp [hj, List.getD, List.getElem?_eq_getElem h1, List.getElem?_eq_getElem h2], List.getElem?_eq_getElem h1, List.getElem?_eq_getElem h2⟩⟩
    refine fun D hD => lc_range (LcR H4 D fun i => (ps.take i).map prD) (LcR.start hD rfl) (fun i H5 hi q5 => ?_) fun H5 q5 => ?_
    · obtain ⟨_, _, _, _, k5⟩ := id q5
      obtain ⟨x, y, h1, h2, h3⟩ := hps i hi
      have hR5 := SqL.of (K := K) (k5.get0 hR)
      have em : (0 + (i : Int) + 1) % (n : Int) = (((i + 1) % n : Nat) : Int) := by rw [Int.natCast_emod]; congr 1; omega
      refine ⟨rfl, _, .str x, .inl hR5, ?_, by omega, _, .str y, .inl hR5, ?_, sl rfl, fun t ht => q5.step hD (Kp.new ht) (d := prD (x, y)) (.tup upd_same (.cons (.str x) (.cons (.str y) .nil))) rfl (take_map h1) ?_⟩
      · rw [show 0 + (i : Int) = (i : Nat) by omega]; exact atI_nat (by rw [List.getElem?_map, h2]; rfl)
      · rw [em]; exact atI_nat (by rw [List.getElem?_map, h3]; rfl)
      · simp; exact Nat.lt_of_le_of_lt (Nat.min_le_right _ _) (Nat.lt_of_lt_of_le (show ps.length < 1001 by omega) (sl rfl))
    · obtain ⟨xs, hx, rx, sx, k5⟩ := q5
      simp only [← psl, List.take_length] at rx sx
      refine hk H5 D ps ⟨xs, hx, rx⟩ (by omega) (by omega) (by omega) (fun q hq => ?_) ?_ (p4.keep k5 (by simp)) (k04.trans k5.to)
      · obtain ⟨j, hj⟩ := List.mem_iff_getElem?.mp hq
        have hjn : j < n := by rw [← psl]; exact (List.getElem?_eq_some_iff.mp hj).1
        obtain ⟨x, y, h1, h2, h3⟩ := hps j hjn
        rw [hj] at h1
        cases h1
        refine ⟨rin _ _ h2, rin _ _ h3, fun z => ?_⟩
        simp only at z
        subst z
        have := rinj _ _ _ h2 h3
        have : (j + 1) % n ≠ j := by
          by_cases h : j + 1 = n
          · rw [h, Nat.mod_self]; omega
          · rw [Nat.mod_eq_of_lt (by omega)]; omega
        omega
      · refine k04.free hD ?_
        have : D ≠ p := Pool.ne (o := .lst []) p4 hD
        simpa using this
structure Near (pl nr : List Str) : Prop where
  ne : 0 < nr.length
  nd : nr.Nodup
  sub : ∀ x ∈ nr, x ∈ pl
  len : nr.length ≤ pl.length
theorem Pool.tk {H H' : Hp} {p : Addr} (P : Pool H p) (k : Kp [p] H H') : TK H H' := k.tk fun b hb xs e => by
  obtain ⟨_, _, _, e2, _⟩ := P
  simp at hb; subst hb; rw [e2] at e; cases e
theorem LstAt.kpP {H H' : Hp} {a p : Addr} {ds : List Dt} (h : LstAt H a ds) (st : stillL ds = true) (P : Pool H p) (k : Kp [p] H H') (n : a ≠ p) : LstAt H' a ds := by
  obtain ⟨xs, h1, h2⟩ := h
  exact ⟨xs, k.get1 h1 n, h2.still (P.tk k) st⟩
def RideOk (pl : List Str) (r : Rd) : Prop := (r.2.1 = ("street" : Str) ∨ r.2.1 ∈ pl) ∧ (r.2.2.1 = ("street" : Str) ∨ r.2.2.1 ∈ pl) ∧ r.2.1 ≠ r.2.2.1 ∧ (r.2.2.2 = false → r.2.1 ≠ ("street" : Str) ∧ r.2.2.1 ≠ ("street" : Str))
theorem nameB_ns {z : Str} (h : nameB z = true) : z ≠ ("street" : Str) := by
  intro e; subst e; exact absurd h (by decide +kernel)
theorem len_half (n : Nat) : ((n : Int) / 2) = ((n / 2 : Nat) : Int) := by omega
theorem two_ne {l : List Str} (h : l.Nodup) (h2 : 2 ≤ l.length) (x : Str) : ∃ y ∈ l, y ≠ x := by
  by_cases e : l[0] = x
  · refine ⟨l[1], List.getElem_mem _, fun z => ?_⟩
    exact List.pairwise_iff_getElem.mp h 0 1 (by omega) (by omega) (by omega) (e.trans z.symm)
  · exact ⟨l[0], List.getElem_mem _, e⟩
theorem take_filter {f : Str → Bool} {l : List Str} {i : Nat} {a : Str} (h : l[i]? = some a) : (l.take (i + 1)).filter f = (l.take i).filter f ++ (if f a = true then [a] else []) := by
  rw [List.take_add_one, h, List.filter_append]
  by_cases e : f a = true <;> simp [e]
abbrev s__law_rides : Stmt := top 42
abbrev N__law_rides : List Str := ["pool", "names", "places", "street", "spare", "rides", "last", "todo", "parted", "chain", "tail", "k", "near", "tips", "start", "others", "goal", "holds", "place"]
theorem sc__law_rides : FnScope N__law_rides ["pool", "names", "places", "street", "spare"] (defScope s__law_rides) := ⟨rfl, rfl, rfl, by decide +kernel, rfl, by decide +kernel, by decide +kernel⟩
def sp__law_rides (K : PySem.W.Frag) : Sp := fun vs H Q _ => ∃ (p A B : Addr) (ns pl : List Str) (street spare : Int), vs = [.ref p, .ref A, .ref B, .int street, .int spare] ∧ (Pool H p ∧ H A = some (.lst (ns.map V.str)) ∧ H B = some (.lst (pl.map V.str)) ∧ ns.length ≤ 24 ∧ GoodNames ns ∧ GoodNames pl ∧ 1 ≤ pl.length ∧ pl.length ≤ 24 ∧
  ∀ H' a rs, LstAt H' a (rs.map rdD) → rs.map (·.1) = ns → GoodRd pl rs → H a = none → Pool H' p → Kp [p] H H' → Q (.ref a) H')
theorem ok__law_rides {f : Addr} {fd : FuncData} (F : FunD K "_law_rides" "_law_rides" (defArgs s__law_rides) (defBody s__law_rides) (defScope s__law_rides) [] [] f fd)
    (C__law_take : Cal P w K mg base CX0 1 "_law_take" ["pool", "limit"] (sp__law_take K))
    (mN_len : mg "len" = none)
    (mN_range : mg "range" = none)
    (mN_list : mg "list" = none)
    (C__law_round : Cal P w K mg base CX0 2 "_law_round" ["pool", "places", "most"] (sp__law_round K)) : FnOk P w K mg base CX0 3 f fd ["pool", "names", "places", "street", "spare"] (sp__law_rides K) := by
  refine F.ok sc__law_rides (fun vs H Q E h => ?_) (fun cdv A outer s H vs Q E hr h => ⟨_, PSs.nox ((pss_cons (ps_set (i := 5) sc__law_rides.nd rfl (.inl rfl) (pe_lst pa_nil))
    (pss_cons (ps_set (i := 6) sc__law_rides.nd rfl (.inl rfl) pe_str)
    (pss_cons (ps_set (i := 7) sc__law_rides.nd rfl (.inl rfl) (pe_lst pa_nil))
    (C8.pss_cut (ps_set (i := 8) sc__law_rides.nd rfl (.inl rfl) (ue_and (pe_cmpR o_gt (pe_callB (kLen K) (by rfl) mN_len boot_len (pa_cons (pu 2) pa_nil)) pe_int (nomark _)) (pe_one (pe_cmpR (kEq K hr.units) (ue_call (E := E0) C__law_take (hr.mono (by decide)) rfl pass0 (pa_cons (pu 0) (pa_cons pe_int pa_nil))) pe_int (nomark _)))))
    (pss_cons (ps_set (i := 9) sc__law_rides.nd rfl (.inl rfl) (ue_call (E := E0) C__law_take (hr.mono (by decide)) rfl pass0 (pa_cons (pu 0) (pa_cons pe_int pa_nil))))
    (pss_cons (ps_set (i := 10) sc__law_rides.nd rfl (.inl rfl) (pe_ix (kIx K) (pe_lst (pa_cons pe_int (pa_cons pe_int (pa_cons pe_int (pa_cons pe_int (pa_cons pe_int (pa_cons pe_int pa_nil))))))) (ue_call (E := E0) C__law_take (hr.mono (by decide)) rfl pass0 (pa_cons (pu 0) (pa_cons pe_int pa_nil))) (fun _ _ => rfl)))
    (pss_cons (ps_for PassesOwn.never rfl (pi_range1 (by rfl) mN_range (pa_cons (pe_callB (kLen K) (by rfl) mN_len boot_len (pa_cons (pu 1) pa_nil)) pa_nil)) (pg_name (i := 11) sc__law_rides.nd rfl (.inl rfl)) (pss_cons (ps_set (i := 12) sc__law_rides.nd rfl (.inl rfl) (pe_callTy (kList K rfl) (by rfl) mN_list (by decide +kernel) (pa_cons (pu 2) pa_nil)))
    (C8.pss_cut (us_if (ut_val (pu 8)) (pss_cons (ps_set (i := 12) sc__law_rides.nd rfl (.inl rfl) (pe_slice (kSl K) (pu 2) po_none (po_u (pe_op o_div (pe_callB (kLen K) (by rfl) mN_len boot_len (pa_cons (pu 2) pa_nil)) pe_int))))
    (pss_one (us_if (ut_cmp o_ge (pe_op o_mulS pe_int (pu 11)) (pe_callB (kLen K) (by rfl) mN_len boot_len (pa_cons (pu 1) pa_nil)) (nomark _)) (pss_one (ps_set (i := 12) sc__law_rides.nd rfl (.inl rfl) (pe_slice (kSl K) (pu 2) (po_u (pe_op o_div (pe_callB (kLen K) (by rfl) mN_len boot_len (pa_cons (pu 2) pa_nil)) pe_int)) po_none))) pss_nil))) pss_nil)
    (C8.pss_cut (us_if (PW.pt (uw_and (ut_cmp (kEq K hr.units) (pe_callB (kLen K) (by rfl) mN_len boot_len (pa_cons (pu 7) pa_nil)) pe_int (nomark _)) (uw_and (ut_cmp o_gt (pe_callB (kLen K) (by rfl) mN_len boot_len (pa_cons (pu 12) pa_nil)) pe_int (nomark _)) (pw_and1 (ut_cmp o_gt (pe_op o_sub (pe_op o_sub (pe_callB (kLen K) (by rfl) mN_len boot_len (pa_cons (pu 1) pa_nil)) (pu 11)) (pu 10)) pe_int (nomark _)))))) (pss_one (ps_set (i := 7) sc__law_rides.nd rfl (.inl rfl) (ue_call (E := E0) C__law_round (hr.mono (by decide)) rfl pass0 (pa_cons (pu 0) (pa_cons (pu 12) (pa_cons (pe_op o_sub (pe_op o_sub (pe_callB (kLen K) (by rfl) mN_len boot_len (pa_cons (pu 1) pa_nil)) (pu 11)) (pu 10)) pa_nil)))))) pss_nil)
    (pss_cons (ps_set (i := 13) sc__law_rides.nd rfl (.inl rfl) (pe_callTy (kList K rfl) (by rfl) mN_list (by decide +kernel) (pa_cons (pu 12) pa_nil)))
    (C8.pss_cut (us_if (PW.pt (uw_or (ut_cmp o_lt (pe_callB (kLen K) (by rfl) mN_len boot_len (pa_cons (pu 13) pa_nil)) pe_int (nomark _)) (pw_or1 (PW.pt (uw_and (ut_cmp (kEq K hr.units) (pu 3) pe_int (nomark _)) (pw_and1 (ut_cmp (kEq K hr.units) (ue_call (E := E0) C__law_take (hr.mono (by decide)) rfl pass0 (pa_cons (pu 0) (pa_cons pe_int pa_nil))) pe_int (nomark _)))))))) (pss_one (ps_expr (ue_append (pu 13) (pa_cons pe_str pa_nil)))) pss_nil)
    (pss_cons (ps_set (i := 14) sc__law_rides.nd rfl (.inr rfl) (pe_ix (kIx K) (pu 13) (ue_call (E := E0) C__law_take (hr.mono (by decide)) rfl pass0 (pa_cons (pu 0) (pa_cons (pe_callB (kLen K) (by rfl) mN_len boot_len (pa_cons (pu 13) pa_nil)) pa_nil))) (fun _ _ => rfl)))
    (C8.pss_cut (us_if (PW.pt (uw_and (ut_cmp (kEq K hr.units) (pu 9) pe_int (nomark _)) (uw_and (ut_cmp (kIn K) (pu 6) (pu 13) (by rfl)) (pw_and1 (ut_cmp o_gt (ue_call (E := E0) C__law_take (hr.mono (by decide)) rfl pass0 (pa_cons (pu 0) (pa_cons pe_int pa_nil))) pe_int (nomark _)))))) (pss_one (ps_set (i := 14) sc__law_rides.nd rfl (.inr rfl) (pu 6))) pss_nil)
    (pss_cons (ps_setLc (i := 15) (own := [("place", 18)]) rfl sc__law_rides.nd rfl rfl (sw_true rfl rfl rfl (by decide +kernel)) (kiList K (pu 13)) (blkOk_by (N := N__law_rides) (sc := defScope s__law_rides) (by decide +kernel)) (fun _ _ _ _ _ => (pg_name (i := 18) sc__law_rides.nd rfl (.inl rfl))) (fun _ _ _ _ _ => (pts_one (ut_cmp (kNe K hr.units) (pu 18) (pu 14) (nomark _)))) (fun _ _ _ _ _ => (pu 18)))
    (pss_cons (ps_set (i := 16) sc__law_rides.nd rfl (.inl rfl) (pe_ix (kIx K) (pu 15) (ue_call (E := E0) C__law_take (hr.mono (by decide)) rfl pass0 (pa_cons (pu 0) (pa_cons (pe_callB (kLen K) (by rfl) mN_len boot_len (pa_cons (pu 15) pa_nil)) pa_nil))) (fun _ _ => rfl)))
    (C8.pss_cut (us_if (ut_cmp o_gt (pe_callB (kLen K) (by rfl) mN_len boot_len (pa_cons (pu 7) pa_nil)) pe_int (nomark _)) (pss_cons (ps_set (i := 14) sc__law_rides.nd rfl (.inr rfl) (pe_ix (kIx K) (pe_ix (kIx K) (pu 7) pe_int (fun _ _ => rfl)) pe_int (fun _ _ => rfl)))
    (pss_cons (ps_set (i := 16) sc__law_rides.nd rfl (.inl rfl) (pe_ix (kIx K) (pe_ix (kIx K) (pu 7) pe_int (fun _ _ => rfl)) pe_int (fun _ _ => rfl)))
    (pss_one (ps_set (i := 7) sc__law_rides.nd rfl (.inl rfl) (pe_slice (kSl K) (pu 7) (po_u pe_int) po_none))))) pss_nil)
    (pss_cons (ps_set (i := 17) sc__law_rides.nd rfl (.inl rfl) pe_bl)
    (C8.pss_cut (us_if (PW.pt (uw_and (ut_cmp o_gt (pu 4) pe_int (nomark _)) (uw_and (ut_cmp (kNe K hr.units) (pu 14) pe_str (nomark _)) (uw_and (ut_cmp (kNe K hr.units) (pu 16) pe_str (nomark _)) (pw_and1 (ut_cmp (kEq K hr.units) (ue_call (E := E0) C__law_take (hr.mono (by decide)) rfl pass0 (pa_cons (pu 0) (pa_cons pe_int pa_nil))) pe_int (nomark _))))))) (pss_cons (ps_set (i := 17) sc__law_rides.nd rfl (.inl rfl) pe_bl)
    (pss_one (ps_set (i := 4) sc__law_rides.nd rfl (.inl rfl) (pe_op o_sub (pu 4) pe_int)))) pss_nil)
    (pss_cons (ps_expr (ue_append (pu 5) (pa_cons (pe_tup (pa_cons (pe_ix (kIx K) (pu 1) (pu 11) (fun _ _ => rfl)) (pa_cons (pu 14) (pa_cons (pu 16) (pa_cons (pu 17) pa_nil))))) pa_nil)))
    (pss_one (ps_set (i := 6) sc__law_rides.nd rfl (.inl rfl) (pu 16)))))))))))))))))
    (pss_one (ps_ret (pu 5))))))))))), ?_⟩)
  · obtain ⟨p, A, B, ns, pl, street, spare, rfl, _⟩ := h
    rfl
  · obtain ⟨p, A, B, ns, pl, street, spare, rfl, h⟩ := h
    obtain ⟨hp, hA, hB, hn24, gn, gp, hpl1, hpl24, hk⟩ := h
    have strP : ∀ {a : Addr} {H' : Hp} {l : List Str}, Pool H' p → H' a = some (.lst (l.map V.str)) → a ≠ p := fun {a H' l} P h z => by
      obtain ⟨_, _, _, e, _⟩ := P
      subst z
      rw [h] at e
      have e2 := HO.lst.inj (Option.some.inj e)
      cases l with
      | nil => cases e2
      | cons x l => simp at e2
    have hAp := strP hp hA
    have hBp := strP hp hB
    refine ⟨sl rfl, fun R hR => ⟨sl rfl, fun T0 hT0 => ?_⟩⟩
    have hRp : R ≠ p := Pool.ne (o := .lst []) hp hR
    have P1 : Pool (upd (upd H R (.lst [])) T0 (.lst [])) p := (hp.new hR).new hT0
    have K1 : Kp [p] H (upd (upd H R (.lst [])) T0 (.lst [])) := (Kp.new hR).trans (Kp.new hT0)
    have hR1 : upd (upd H R (.lst [])) T0 (.lst []) R = some (.lst []) := get_new upd_same hT0
    have hT1 : upd (upd H R (.lst [])) T0 (.lst []) T0 = some (.lst []) := upd_same
    generalize upd (upd H R (.lst [])) T0 (.lst []) = H1 at P1 K1 hR1 hT1 ⊢
    have lpl : ((pl.map V.str).length : Int) = pl.length := by simp
    have lns : ((ns.map V.str).length : Int) = ns.length := by simp
    have hA1 := K1.get1 hA hAp
    have hB1 := K1.get1 hB hBp
    refine ⟨fun σ H2 => ∃ parted : Bool, σ = [some (.ref p), some (.ref A), some (.ref B), some (.int street), some (.int spare), some (.ref R), some (.str ""), some (.ref T0), some (.bl parted), none, none, none, none, none, none, none, none, none, none] ∧ (parted = true → 3 < pl.length) ∧ Pool H2 p ∧ Kp [p] H1 H2, ⟨_, .inl ⟨_, SqL.of hB1, rfl⟩, fun c => ⟨p, 2, rfl, P1, by decide, fun H2 d _ _ p2 k2 => ⟨rfl, _, rfl, fun _ => ?_, p2, k2⟩⟩, fun c => ⟨false, rfl, fun z => (nomatch z), P1, Kp.refl⟩⟩, ?_⟩
    · have c : (3 : Int) < ((pl.map V.str).length : Nat) := of_decide_eq_true c
      rw [lpl] at c; omega
    rintro σ H2 ⟨parted, rfl, hpart, p2, k2⟩
    refine ⟨p, 2, rfl, p2, by decide, fun H3 chain _ _ p3 k3 => ⟨sl rfl, fun t ht => ⟨p, 6, rfl, p3.new ht, by decide, fun H4 d d0 d1 p4 k4 => ?_⟩⟩⟩
    have k14 := (k2.trans k3).trans (((Kp.new ht).to).trans k4)
    have ht4 := k4.get1 (b := t) upd_same (Pool.ne (o := .lst []) p3 ht)
    obtain ⟨tail, htail⟩ : ∃ tail : Int, atI [V.int 99, .int 0, .int 0, .int 0, .int 1, .int 2] d = some (.int tail) := by
      obtain ⟨v, hv, hm⟩ := atI_in (l := [V.int 99, .int 0, .int 0, .int 0, .int 1, .int 2]) d0 d1
      simp at hm
      rcases hm with rfl | rfl | rfl | rfl | rfl <;> exact ⟨_, hv⟩
    refine ⟨_, _, .inl (SqL.of ht4), htail, _, .inl ⟨_, SqL.of (k14.get1 hA1 hAp), rfl⟩, _, rfl, by omega, by omega, ?_⟩
    rw [Int.toNat_natCast, List.length_map]
    have K4 := K1.trans k14
    refine for_range (fun i σ H5 => ∃ (rs : List Rd) (last : Str) (T : Addr) (ps : List (Str × Str)) (spare : Int) (o11 o12 o13 o14 o15 o16 o17 o18 : Option V), σ = [some (.ref p), some (.ref A), some (.ref B), some (.int street), some (.int spare), some (.ref R), some (.str last), some (.ref T), some (.bl parted), some (.int chain), some (.int tail), o11, o12, o13, o14, o15, o16, o17, o18] ∧
      LstAt H5 R (rs.map rdD) ∧ LstAt H5 T (ps.map prD) ∧ T ≠ p ∧ T ≠ R ∧ Pairs pl ps ∧ rs.length = i ∧ rs.map (·.1) = ns.take i ∧ (∀ r ∈ rs, RideOk pl r) ∧ Pool H5 p ∧ Kp [p] H H5) ?_ ?_ ?_
    · refine ⟨[], "", T0, [], spare, none, none, none, none, none, none, none, none, rfl, ⟨[], k14.get1 hR1 hRp, .nil⟩, ⟨[], k14.get1 hT1 ?_, .nil⟩, ?_, ?_, fun q hq => by simp at hq, rfl, by simp, fun r hr => by simp at hr, p4, K4⟩
      · exact Pool.ne (o := .lst []) (hp.new hR) hT0
      · exact Pool.ne (o := .lst []) (hp.new hR) hT0
      · exact fun z => by subst z; rw [upd_same] at hT0; cases hT0
    · rintro i σ H5 hi ⟨rs, last, T, ps, spare, o11, o12, o13, o14, o15, o16, o17, o18, rfl, hRs, hTs, hTp, hTR, hps, hrl, hrn, hro, p5, k5⟩
      have hA5 := k5.get1 hA hAp
      have hB5 := k5.get1 hB hBp
      have rst := map_still rdD rdD_still rs
      have tst := map_still prD prD_still ps
      refine ⟨_, .inl (SqL.of hB5), fun l hl => ?_⟩
      have hl6 : upd H5 l (.lst (pl.map V.str)) l = some (.lst (pl.map V.str)) := upd_same
      have k56 : Kp [p] H5 (upd H5 l (.lst (pl.map V.str))) := Kp.new hl
      have p6 : Pool (upd H5 l (.lst (pl.map V.str))) p := p5.new hl
      generalize upd H5 l (.lst (pl.map V.str)) = H6 at hl6 k56 p6 ⊢
      have hA6 := k56.get1 hA5 hAp
      have hB6 := k56.get1 hB5 hBp
      have wh : Near pl pl := ⟨hpl1, gp.nd, fun _ h => h, Nat.le_refl _⟩
      have lenA : ∀ {H' : Hp}, H' A = some (.lst (ns.map V.str)) → SqL K H' A (ns.map V.str) := fun h => SqL.of h
      refine ⟨fun σ H7 => ∃ (N : Addr) (nr : List Str), σ = [some (.ref p), some (.ref A), some (.ref B), some (.int street), some (.int spare), some (.ref R), some (.str last), some (.ref T), some (.bl parted), some (.int chain), some (.int tail), some (.int (0 + (i : Int))), some (.ref N), o13, o14, o15, o16, o17, o18] ∧ H7 N = some (.lst (nr.map V.str)) ∧ Near pl nr ∧ Pool H7 p ∧ Kp [p] H5 H7, ⟨fun hpt => ?_, fun _ => ⟨l, pl, rfl, hl6, wh, p6, k56⟩⟩, ?_⟩
      · have h3 := hpart hpt
        refine ⟨_, .inl ⟨_, SqL.of hB6, rfl⟩, ⟨by decide, by decide⟩, _, SqL.of hB6, fun l2 hl2 => ?_⟩
        have hB7 := get_new (u := .lst (cutV (pl.map V.str) none (some (((pl.map V.str).length : Int) / 2)))) hB6 hl2
        have hA7 := get_new (u := .lst (cutV (pl.map V.str) none (some (((pl.map V.str).length : Int) / 2)))) hA6 hl2
        refine ⟨.inl ⟨by omega, by omega⟩, _, .inl ⟨_, SqL.of hA7, rfl⟩, fun _ => ⟨_, .inl ⟨_, SqL.of hB7, rfl⟩, ⟨by decide, by decide⟩, _, SqL.of hB7, fun l3 hl3 => ⟨l3, pl.drop (pl.length / 2), rfl, ?_, ⟨?_, ?_, ?_, by simp⟩, (p6.new hl2).new hl3, (k56.trans (Kp.new hl2)).trans (Kp.new hl3)⟩⟩, fun _ => ⟨l2, pl.take (pl.length / 2), rfl, ?_, ⟨?_, ?_, ?_, by simp; omega⟩, p6.new hl2, k56.trans (Kp.new hl2)⟩⟩
        · rw [upd_same, List.length_map, len_half, cut_from, List.map_drop]
        · simp; omega
        · exact (List.drop_sublist _ _).nodup gp.nd
        · exact fun x h => List.mem_of_mem_drop h
        · rw [upd_same, List.length_map, len_half, cut_to, List.map_take]
        · simp; omega
        · exact (List.take_sublist _ _).nodup gp.nd
        · exact fun x h => List.mem_of_mem_take h
      rintro σ H7 ⟨N, nr, rfl, hN7, near, p7, k57⟩
      have hNp := strP p7 hN7
      have hA7 := k57.get1 hA5 hAp
      have hT7 := hTs.kpP tst p5 k57 hTp
      have hR7 := hRs.kpP rst p5 k57 hRp
      have hnr24 : nr.length ≤ 24 := by
        have := near.len
        omega
      refine ⟨fun σ H8 => ∃ (T : Addr) (ps : List (Str × Str)), σ = [some (.ref p), some (.ref A), some (.ref B), some (.int street), some (.int spare), some (.ref R), some (.str last), some (.ref T), some (.bl parted), some (.int chain), some (.int tail), some (.int (0 + (i : Int))), some (.ref N), o13, o14, o15, o16, o17, o18] ∧ LstAt H8 T (ps.map prD) ∧ Pairs pl ps ∧ T ≠ p ∧ T ≠ R ∧ Pool H8 p ∧ Kp [p] H7 H8, ?_, ?_⟩
      · obtain ⟨zs, hz, rz⟩ := hT7
        have same : ∀ (b : Bool) (A' B' : Prop), B' → br false A' B' := fun _ _ _ h => brF h
        refine ⟨_, .inl ⟨_, SqL.of hz, rfl⟩, rfl, fun _ => ⟨_, .inl ⟨_, SqL.of hN7, rfl⟩, fun c2 => ⟨_, .inl ⟨_, SqL.of hA7, rfl⟩, fun c3 => ⟨_, .inl ⟨_, SqL.of hA7, rfl⟩, p, N, _, nr, rfl, p7, hN7, near.nd, ?_, by omega, ?_, fun H8 T' qs hq q2 _ q3 q4 q5 q6 q7 => ⟨T', qs, rfl, hq, fun q h => ⟨near.sub _ (q4 q h).1, near.sub _ (q4 q h).2.1, (q4 q h).2.2⟩, ?_, ?_, q6, q7⟩⟩, fun _ => ⟨T, ps, rfl, ⟨zs, hz, rz⟩, hps, hTp, hTR, p7, Kp.refl⟩⟩, fun _ => brF ⟨T, ps, rfl, ⟨zs, hz, rz⟩, hps, hTp, hTR, p7, Kp.refl⟩⟩, fun _ => brF ⟨T, ps, rfl, ⟨zs, hz, rz⟩, hps, hTp, hTR, p7, Kp.refl⟩⟩
        · have c2 : (1 : Int) < ((nr.map V.str).length : Nat) := of_decide_eq_true c2
          rw [List.length_map] at c2; omega
        · have c3 : (1 : Int) < ((ns.map V.str).length : Nat) - (0 + (i : Int)) - tail := of_decide_eq_true c3
          omega
        · exact fun z => by subst z; obtain ⟨_, _, _, e, _⟩ := p7; rw [e] at q5; cases q5
        · exact fun z => by subst z; obtain ⟨ws, hw, _⟩ := hR7; rw [hw] at q5; cases q5
      rintro σ H8 ⟨T, ps, rfl, hT8, hps, hTp, hTR, p8, k78⟩
      have tst := map_still prD prD_still ps
      have hN8 := k78.get1 hN7 hNp
      refine ⟨_, .inl (SqL.of hN8), fun U hU => ?_⟩
      have hUp := Pool.ne (o := .lst []) p8 hU
      have hU9 : upd H8 U (.lst (nr.map V.str)) U = some (.lst (nr.map V.str)) := upd_same
      have p9 : Pool (upd H8 U (.lst (nr.map V.str))) p := p8.new hU
      have k89 : Kp [p] H8 (upd H8 U (.lst (nr.map V.str))) := Kp.new hU
      have k8U : ∀ {H' : Hp}, Kp [p, U] H8 H' → Kp [p] H8 H' := fun {H'} k b o e n => k b o e (by simp at n ⊢; exact ⟨n, ne_of_none e hU⟩)
      generalize upd H8 U (.lst (nr.map V.str)) = H9 at hU9 p9 k89 ⊢
      refine ⟨fun σ H10 => ∃ (tips : List Str), σ = [some (.ref p), some (.ref A), some (.ref B), some (.int street), some (.int spare), some (.ref R), some (.str last), some (.ref T), some (.bl parted), some (.int chain), some (.int tail), some (.int (0 + (i : Int))), some (.ref N), some (.ref U), o14, o15, o16, o17, o18] ∧ H10 U = some (.lst (tips.map V.str)) ∧ tips.Nodup ∧ 2 ≤ tips.length ∧ tips.length ≤ 25 ∧ (∀ x ∈ tips, x = ("street" : Str) ∨ x ∈ pl) ∧ Pool H10 p ∧ Kp [p] H8 H10, ?_, ?_⟩
      · have stn : ("street" : Str) ∉ nr := fun h => nameB_ns (gp.nm _ (near.sub _ h)) rfl
        have add : ∀ H10, H10 U = some (.lst (nr.map V.str)) → Pool H10 p → Kp [p] H8 H10 → ∃ (tips : List Str), ([some (.ref p), some (.ref A), some (.ref B), some (.int street), some (.int spare), some (.ref R), some (.str last), some (.ref T), some (.bl parted), some (.int chain), some (.int tail), some (.int (0 + (i : Int))), some (.ref N), some (.ref U), o14, o15, o16, o17, o18] : L2.St) = [some (.ref p), some (.ref A), some (.ref B), some (.int street), some (.int spare), some (.ref R), some (.str last), some (.ref T), some (.bl parted), some (.int chain), some (.int tail), some (.int (0 + (i : Int))), some (.ref N), some (.ref U), o14, o15, o16, o17, o18] ∧ upd H10 U (.lst (nr.map V.str ++ [.str "street"])) U = some (.lst (tips.map V.str)) ∧ tips.Nodup ∧ 2 ≤ tips.length ∧ tips.length ≤ 25 ∧ (∀ x ∈ tips, x = ("street" : Str) ∨ x ∈ pl) ∧ Pool (upd H10 U (.lst (nr.map V.str ++ [.str "street"]))) p ∧ Kp [p] H8 (upd H10 U (.lst (nr.map V.str ++ [.str "street"]))) := fun H10 hU10 p10 k10 =>
          ⟨nr ++ [("street" : Str)], rfl, by rw [upd_same]; simp, List.nodup_append.mpr ⟨near.nd, by simp, fun a ha b hb => by simp at hb; subst hb; exact fun z => stn (z ▸ ha)⟩, by have := near.ne; simp; omega, by simp; omega, fun x hx => by
            rcases List.mem_append.mp hx with h | h
            · exact .inr (near.sub x h)
            · simp at h; exact .inl h, p10.keep (Kp.set (S := [U]) (by simp)) (by simpa using hUp.symm), k10.loc hU⟩
        have lnr : ((nr.map V.str).length : Int) = nr.length := by simp
        have lt : (nr.map V.str).length < sizeLine := by rw [List.length_map]; exact small_lt' hnr24
        refine ⟨_, .inl ⟨_, SqL.of hU9, rfl⟩, fun _ => brT ⟨⟨_, hU9⟩, _, hU9, lt, add H9 hU9 p9 k89⟩, fun c => ⟨rfl, fun _ => ⟨p, 4, rfl, p9, by decide, fun H10 _ _ _ p10 k10 => ⟨rfl, fun _ => ⟨⟨_, k10.get1 hU9 hUp⟩, _, k10.get1 hU9 hUp, lt, add H10 (k10.get1 hU9 hUp) p10 (k89.trans k10)⟩, fun _ => ⟨nr, rfl, k10.get1 hU9 hUp, near.nd, ?_, by omega, fun x h => .inr (near.sub x h), p10, k89.trans k10⟩⟩⟩, fun _ => brF ⟨nr, rfl, hU9, near.nd, ?_, by omega, fun x h => .inr (near.sub x h), p9, k89⟩⟩⟩
        · have c : ¬ ((nr.map V.str).length : Int) < 2 := of_decide_eq_false c
          rw [lnr] at c; omega
        · have c : ¬ ((nr.map V.str).length : Int) < 2 := of_decide_eq_false c
          rw [lnr] at c; omega
      rintro σ H10 ⟨tips, rfl, hU10, tnd, t2, t25, tin, p10, k810⟩
      have ltip : ((tips.map V.str).length : Int) = tips.length := by simp
      refine ⟨_, .inl ⟨_, SqL.of hU10, rfl⟩, p, _, rfl, p10, ⟨by rw [ltip]; omega, by rw [ltip]; omega⟩, fun H11 a a0 a1 p11 k11 => ?_⟩
      have hU11 := k11.get1 hU10 hUp
      obtain ⟨start, hs1, hs2⟩ : ∃ x : Str, atI (tips.map V.str) a = some (.str x) ∧ x ∈ tips := by
        obtain ⟨v, hv, hm⟩ := atI_in a0 a1
        obtain ⟨x, hx, rfl⟩ := List.mem_map.mp hm
        exact ⟨x, hv, hx⟩
      have k811 := k810.trans k11
      refine ⟨_, _, .inl (SqL.of hU11), hs1, ?_⟩
      refine ⟨fun σ H12 => ∃ (start : Str), σ = [some (.ref p), some (.ref A), some (.ref B), some (.int street), some (.int spare), some (.ref R), some (.str last), some (.ref T), some (.bl parted), some (.int chain), some (.int tail), some (.int (0 + (i : Int))), some (.ref N), some (.ref U), some (.str start), o15, o16, o17, o18] ∧ start ∈ tips ∧ H12 U = some (.lst (tips.map V.str)) ∧ Pool H12 p ∧ Kp [p] H8 H12, ?_, ?_⟩
      · refine ⟨rfl, fun _ => ⟨_, .inl (SqL.of hU11), rfl, flat_strs _, fun c => ⟨p, 4, rfl, p11, by decide, fun H12 _ _ _ p12 k12 => ⟨fun _ => ⟨last, rfl, ?_, k12.get1 hU11 hUp, p12, k811.trans k12⟩, fun _ => ⟨start, rfl, hs2, k12.get1 hU11 hUp, p12, k811.trans k12⟩⟩⟩, fun _ => brF ⟨start, rfl, hs2, hU11, p11, k811⟩⟩, fun _ => brF ⟨start, rfl, hs2, hU11, p11, k811⟩⟩
        rw [inV_str] at c
        exact of_decide_eq_true c
      rintro σ H12 ⟨start, rfl, hst, hU12, p12, k812⟩
      have hf : ∀ m, ((tips.take m).filter fun x => !decide (x = start)).length ≤ 25 := fun m => Nat.le_trans (List.length_filter_le _ _) (Nat.le_trans (by simp; omega) t25)
      refine ⟨U, rfl, ⟨_, SqL.of hU12⟩, fun D hD => lc_list (xs := tips.map V.str) (LcP [] H12 D fun m => ((tips.take m).filter fun x => !decide (x = start)).map V.str) (LcP.start hD rfl) (fun m H13 _ q => SqL.of (q.2.get0 hU12)) (fun m x H13 hx q => ?_) fun H13 q => ?_⟩
      · rw [List.getElem?_map] at hx
        cases e : tips[m]? with
        | none => rw [e] at hx; cases hx
        | some w =>
          rw [e] at hx
          cases hx
          refine ⟨rfl, rfl, ?_⟩
          rw [eqB_dec]
          have tf := take_filter (f := fun x => !decide (x = start)) e
          by_cases hw : w = start
          · have e1 : (!decide (V.str w = V.str start)) = false := by simp [hw]
            rw [e1]
            refine q.skip Kp.refl (by simp) ?_
            simp only [tf, hw, decide_true, Bool.not_true, Bool.false_eq_true, if_false, List.append_nil]
          · have e1 : (!decide (V.str w = V.str start)) = true := by simp [hw]
            rw [e1]
            refine q.step hD Kp.refl (by simp) ?_ ?_
            · simp [tf, hw]
            · rw [List.length_map]; exact Nat.lt_of_le_of_lt (hf m) (Nat.lt_of_lt_of_le (show 25 < 26 by omega) (sl rfl))
      have hD13 := q.1
      simp only [List.length_map, List.take_length] at hD13
      obtain ⟨y, hy1, hy2⟩ := two_ne tnd t2 start
      have hol : 0 < (tips.filter fun x => !decide (x = start)).length := List.length_pos_iff.mpr fun z => by
        have : y ∈ tips.filter fun x => !decide (x = start) := List.mem_filter.mpr ⟨hy1, by simp [hy2]⟩
        rw [z] at this; simp at this
      have hol2 : (tips.filter fun x => !decide (x = start)).length ≤ 25 := Nat.le_trans (List.length_filter_le _ _) t25
      have p13 : Pool H13 p := p12.keep q.2 (by simp)
      have k813 := k812.trans q.2.to
      have lo : ((((tips.filter fun x => !decide (x = start)).map V.str).length : Nat) : Int) = (tips.filter fun x => !decide (x = start)).length := by simp
      refine ⟨_, .inl ⟨_, SqL.of hD13, rfl⟩, p, _, rfl, p13, ⟨by rw [lo]; omega, by rw [lo]; omega⟩, fun H14 b b0 b1 p14 k14 => ?_⟩
      have hDp : D ≠ p := Pool.ne (o := .lst []) p12 hD
      have hD14 := k14.get1 hD13 hDp
      obtain ⟨goal, hg1, hg2⟩ : ∃ x : Str, atI ((tips.filter fun x => !decide (x = start)).map V.str) b = some (.str x) ∧ x ∈ tips.filter fun x => !decide (x = start) := by
        obtain ⟨v, hv, hm⟩ := atI_in b0 b1
        obtain ⟨x, hx, rfl⟩ := List.mem_map.mp hm
        exact ⟨x, hv, hx⟩
      obtain ⟨hg3, hg4⟩ := List.mem_filter.mp hg2
      have hg4 : goal ≠ start := by simpa using hg4
      have k814 := k813.trans k14
      refine ⟨_, _, .inl (SqL.of hD14), hg1, ?_⟩
      have hT14 := hT8.kpP tst p8 k814 hTp
      refine ⟨fun σ H15 => ∃ (start goal : Str) (T : Addr) (ps : List (Str × Str)), σ = [some (.ref p), some (.ref A), some (.ref B), some (.int street), some (.int spare), some (.ref R), some (.str last), some (.ref T), some (.bl parted), some (.int chain), some (.int tail), some (.int (0 + (i : Int))), some (.ref N), some (.ref U), some (.str start), some (.ref D), some (.str goal), o17, o18] ∧ (start = ("street" : Str) ∨ start ∈ pl) ∧ (goal = ("street" : Str) ∨ goal ∈ pl) ∧ start ≠ goal ∧ LstAt H15 T (ps.map prD) ∧ T ≠ p ∧ T ≠ R ∧ Pairs pl ps ∧ Pool H15 p ∧ Kp [p] H8 H15, ?_, ?_⟩
      · obtain ⟨zs, hz, rz⟩ := hT14
        have hzl : zs.length = ps.length := by rw [rz.length]; simp
        refine ⟨_, .inl ⟨_, SqL.of hz, rfl⟩, fun c0 => ?_, fun _ => ⟨start, goal, T, ps, rfl, tin _ hst, tin _ hg3, fun z => hg4 z.symm, ⟨zs, hz, rz⟩, hTp, hTR, hps, p14, k814⟩⟩
        have c : (0 : Int) < zs.length := of_decide_eq_true c0
        clear c0
        cases ps with
        | nil => cases rz; simp at c
        | cons pr ps =>
          cases rz with
          | cons r1 rz =>
            rename_i v0 zs
            obtain ⟨b, rfl, hb⟩ := rp_pr r1
            have hpr := hps pr (by simp)
            refine ⟨_, _, .inl (SqL.of hz), atI_nat (j := 0) rfl, _, _, .inr (SqT.of hb), atI_nat (j := 0) rfl, _, _, .inl (SqL.of hz), atI_nat (j := 0) rfl, _, _, .inr (SqT.of hb), atI_nat (j := 1) rfl, _, SqL.of hz, fun T2 hT2 => ⟨pr.1, pr.2, T2, ps, rfl, .inr hpr.1, .inr hpr.2.1, hpr.2.2, ⟨zs, ?_, rz.keep (Kp.new hT2)⟩, Pool.ne (o := .lst []) p14 hT2, ?_, fun q hq => hps q (by simp [hq]), p14.new hT2, k814.trans (Kp.new hT2)⟩⟩
            · have q := cut_from (.ref b :: zs) 1
              rw [upd_same]
              exact congrArg (fun z => some (HO.lst z)) q
            · obtain ⟨ws, hw, _⟩ := hR7
              intro z
              subst z
              rw [k814.get1 (k78.get1 hw hRp) hRp] at hT2
              cases hT2
      rintro σ H15 ⟨start, goal, T, ps, rfl, hsp, hgp, hne, hT15, hTp, hTR, hps, p15, k815⟩
      have tst := map_still prD prD_still ps
      refine ⟨fun σ H16 => ∃ (spare : Int) (holds : Bool), σ = [some (.ref p), some (.ref A), some (.ref B), some (.int street), some (.int spare), some (.ref R), some (.str last), some (.ref T), some (.bl parted), some (.int chain), some (.int tail), some (.int (0 + (i : Int))), some (.ref N), some (.ref U), some (.str start), some (.ref D), some (.str goal), some (.bl holds), o18] ∧ (holds = false → start ≠ ("street" : Str) ∧ goal ≠ ("street" : Str)) ∧ Pool H16 p ∧ Kp [p] H15 H16, ?_, ?_⟩
      · have stay : ∀ H16, Pool H16 p → Kp [p] H15 H16 → ∃ (spare' : Int) (holds : Bool), ([some (.ref p), some (.ref A), some (.ref B), some (.int street), some (.int spare), some (.ref R), some (.str last), some (.ref T), some (.bl parted), some (.int chain), some (.int tail), some (.int (0 + (i : Int))), some (.ref N), some (.ref U), some (.str start), some (.ref D), some (.str goal), some (.bl true), o18] : L2.St) = [some (.ref p), some (.ref A), some (.ref B), some (.int street), some (.int spare'), some (.ref R), some (.str last), some (.ref T), some (.bl parted), some (.int chain), some (.int tail), some (.int (0 + (i : Int))), some (.ref N), some (.ref U), some (.str start), some (.ref D), some (.str goal), some (.bl holds), o18] ∧ (holds = false → start ≠ ("street" : Str) ∧ goal ≠ ("street" : Str)) ∧ Pool H16 p ∧ Kp [p] H15 H16 := fun H16 p16 k16 => ⟨spare, true, rfl, fun z => (nomatch z), p16, k16⟩
        refine ⟨fun _ => ⟨rfl, fun c1 => ⟨rfl, fun c2 => ⟨p, 4, rfl, p15, by decide, fun H16 _ _ _ p16 k16 => ⟨rfl, fun _ => ⟨spare - 1, false, rfl, fun _ => ⟨?_, ?_⟩, p16, k16⟩, fun _ => stay H16 p16 k16⟩⟩, fun _ => brF (stay H15 p15 Kp.refl)⟩, fun _ => brF (stay H15 p15 Kp.refl)⟩, fun _ => brF (stay H15 p15 Kp.refl)⟩
        · simpa [eqB] using c1
        · simpa [eqB] using c2
      rintro σ H16 ⟨spare, holds, rfl, hho, p16, k1516⟩
      have k816 := k815.trans k1516
      have k516 := (k57.trans k78).trans k816
      have hA16 := k516.get1 hA5 hAp
      obtain ⟨ws, hw, rws⟩ := hRs.kpP rst p5 k516 hRp
      have hni : i < ns.length := hi
      have hT16 := hT15.kpP tst p15 k1516 hTp
      refine ⟨⟨ws, hw⟩, _, .str ns[i], .inl (SqL.of hA16), ?_, sl rfl, fun t ht => ⟨ws, get_new hw ht, ?_, rs ++ [(ns[i], start, goal, holds)], goal, T, ps, spare, _, _, _, _, _, _, _, _, rfl, ⟨ws ++ [.ref t], upd_same, ?_⟩, ?_, hTp, hTR, hps, by simp [hrl], ?_, ?_, ?_, ?_⟩⟩
      · rw [show 0 + (i : Int) = (i : Nat) by omega]; exact atI_nat (by rw [List.getElem?_map, List.getElem?_eq_getElem hni]; rfl)
      · rw [rws.length]; simp; exact small_lt' (by omega)
      · have tk : TK H16 (upd (upd H16 t (.tup [.str ns[i], .str start, .str goal, .bl holds])) R (.lst (ws ++ [.ref t]))) := (TK.new ht).trans (TK.put (get_new hw ht))
        rw [List.map_append]
        refine (rws.still tk rst).snoc (.tup (get_ne upd_same (ne_none_of hw ht)) (.cons (.str _) (.cons (.str _) (.cons (.str _) (.cons (.bl _) .nil)))))
      · obtain ⟨zs, hz, rz⟩ := hT16
        have tk : TK H16 (upd (upd H16 t (.tup [.str ns[i], .str start, .str goal, .bl holds])) R (.lst (ws ++ [.ref t]))) := (TK.new ht).trans (TK.put (get_new hw ht))
        exact ⟨zs, get_ne (get_new hz ht) hTR, rz.still tk tst⟩
      · rw [List.map_append, hrn, List.take_add_one, List.getElem?_eq_getElem hni]; rfl
      · intro r hr
        rcases List.mem_append.mp hr with h | h
        · exact hro r h
        · simp at h
          subst h
          exact ⟨hsp, hgp, hne, hho⟩
      · exact (p16.new ht).keep (Kp.set (S := [R]) (by simp)) (by simpa using hRp.symm)
      · exact ((k5.trans k516).trans (Kp.new ht)).loc hR
    · rintro σ H5 ⟨rs, last, T, ps, spare, o11, o12, o13, o14, o15, o16, o17, o18, rfl, hRs, hTs, hTp, hTR, hps, hrl, hrn, hro, p5, k5⟩
      rw [List.take_length] at hrn
      refine hk H5 R rs hRs hrn ⟨by omega, by rw [hrn]; exact gn.nd, fun r hr => gn.nm _ (by rw [← hrn]; exact List.mem_map_of_mem hr), fun r hr => (hro r hr).1, fun r hr => (hro r hr).2.1, fun r hr => (hro r hr).2.2.1, fun r hr => (hro r hr).2.2.2⟩ hR p5 k5
end
end LW
set_option Elab.async false
set_option linter.all false
set_option maxRecDepth 100000
set_option maxHeartbeats 1000000
namespace LW
open PySem PySem.Spec PyProof.Rows L2 U
--  : Nat) : Stmt := PySem.Challenge.pw_manyrides_k03_text_and_town_are_each_oth.main.body.getD i (.Pass ⟨0, 0, 0, 0⟩)
section
variable {P : Program} {w : World} {K : PySem.W.Frag} {mg : Str → Option Value} {base : Heap}
/-! stations -/
def netD (rs : List Rd) (x : Str) : Int := (rs.map fun r => (if r.2.2.1 = x then (1 : Int) else 0) - (if r.2.1 = x then 1 else 0)).sum
theorem netD_snoc (rs : List Rd) (r : Rd) (x : Str) : netD (rs ++ [r]) x = netD rs x + ((if r.2.2.1 = x then (1 : Int) else 0) - (if r.2.1 = x then 1 else 0)) := by
  simp [netD]
theorem netD_bound (x : Str) : ∀ rs : List Rd, -(rs.length : Int) ≤ netD rs x ∧ netD rs x ≤ rs.length
  | [] => by simp [netD]
  | r :: rs => by
    have := netD_bound x rs
    have e : netD (r :: rs) x = ((if r.2.2.1 = x then (1 : Int) else 0) - (if r.2.1 = x then 1 else 0)) + netD rs x := by simp [netD]
    rw [e, List.length_cons]
    split <;> split <;> constructor <;> omega
abbrev s__law_net : Stmt := top 52
abbrev N__law_net : List Str := ["rides", "place", "net", "ride"]
theorem sc__law_net : FnScope N__law_net ["rides", "place"] (defScope s__law_net) := ⟨rfl, rfl, rfl, by decide +kernel, rfl, by decide +kernel, by decide +kernel⟩
def sp__law_net (K : PySem.W.Frag) : Sp := fun vs H Q _ => ∃ (a : Addr) (rs : List Rd) (x : Str), vs = [.ref a, .str x] ∧ (LstAt H a (rs.map rdD) ∧ Q (.int (netD rs x)) H)
theorem ok__law_net {f : Addr} {fd : FuncData} (F : FunD K "_law_net" "_law_net" (defArgs s__law_net) (defBody s__law_net) (defScope s__law_net) [] [] f fd) : FnOk P w K mg base CX0 1 f fd ["rides", "place"] (sp__law_net K) := by
  refine F.ok sc__law_net (fun vs H Q E h => ?_) (fun cdv A outer s H vs Q E hr h => ⟨_, PSs.nox ((pss_cons (ps_set (i := 2) sc__law_net.nd rfl (.inl rfl) pe_int)
    (pss_cons (ps_for PassesOwn.never rfl (kiList K (pu 0)) (pg_name (i := 3) sc__law_net.nd rfl (.inl rfl)) (C8.pss_cut (us_if (ut_cmp (kEq K hr.units) (pe_ix (kIx K) (pu 3) pe_int (fun _ _ => rfl)) (pu 1) (nomark _)) (pss_one (ps_set (i := 2) sc__law_net.nd rfl (.inl rfl) (pe_op (kAdd K) (pu 2) pe_int))) pss_nil)
    (pss_one (us_if (ut_cmp (kEq K hr.units) (pe_ix (kIx K) (pu 3) pe_int (fun _ _ => rfl)) (pu 1) (nomark _)) (pss_one (ps_set (i := 2) sc__law_net.nd rfl (.inl rfl) (pe_op o_sub (pu 2) pe_int))) pss_nil))))
    (pss_one (ps_ret (pu 2)))))), ?_⟩)
  · obtain ⟨a, rs, x, rfl, _⟩ := h
    rfl
  · obtain ⟨a, rs, x, rfl, h⟩ := h
    obtain ⟨⟨xs, ha, hr⟩, hk⟩ := h
    have hxl : xs.length = rs.length := by rw [hr.length]; simp
    refine ⟨a, rfl, ⟨_, SqL.of ha⟩, for_list (xs := xs) (fun i σ H1 => ∃ o3 : Option V, σ = [some (.ref a), some (.str x), some (.int (netD (rs.take i) x)), o3] ∧ H1 = H) ⟨none, rfl, rfl⟩ ?_ ?_ ?_⟩
    · rintro i σ H1 _ ⟨o3, _, rfl⟩
      exact SqL.of ha
    · rintro i y σ H1 hy ⟨o3, rfl, rfl⟩
      obtain ⟨r, h1, h2⟩ := row_at hr hy
      obtain ⟨b, rfl, hb⟩ := rp_rd h2
      have T := SqT.of (K := K) hb
      have e : netD (rs.take (i + 1)) x = netD (rs.take i) x + ((if r.2.2.1 = x then (1 : Int) else 0) - (if r.2.1 = x then 1 else 0)) := by
        rw [List.take_add_one, h1]; exact netD_snoc _ _ _
      refine ⟨fun σ H2 => σ = [some (.ref a), some (.str x), some (.int (netD (rs.take i) x + (if r.2.2.1 = x then (1 : Int) else 0))), some (.ref b)] ∧ H2 = H1, ⟨_, _, .inr T, atI_nat (j := 2) rfl, rfl, fun c => ⟨?_, rfl⟩, fun c => ⟨?_, rfl⟩⟩, ?_⟩
      · have c : r.2.2.1 = x := by simpa [eqB] using c
        rw [if_pos c]; rfl
      · have c : ¬ r.2.2.1 = x := by simpa [eqB] using c
        rw [if_neg c, Int.add_zero]; rfl
      rintro σ H2 ⟨rfl, rfl⟩
      refine ⟨_, _, .inr T, atI_nat (j := 1) rfl, rfl, fun c => ⟨some (.ref b), ?_, rfl⟩, fun c => ⟨some (.ref b), ?_, rfl⟩⟩
      · have c : r.2.1 = x := by simpa [eqB] using c
        rw [e, if_pos c, Int.add_sub_assoc]; rfl
      · have c : ¬ r.2.1 = x := by simpa [eqB] using c
        rw [e, if_neg c, Int.sub_zero]
    · rintro σ H1 ⟨o3, rfl, rfl⟩
      rw [hxl, List.take_length]
      exact hk
def FairAt (rs : List Rd) (s : St) : Prop := 0 ≤ s.2.2 + netD rs s.1 ∧ s.2.2 + netD rs s.1 ≤ s.2.1
def StOk (s : St) : Prop := 1 ≤ s.2.1 ∧ s.2.1 ≤ 999999 ∧ 0 ≤ s.2.2 ∧ s.2.2 ≤ s.2.1
theorem stations_good {ss : List St} {ns : List Str} (g : GoodNames ns) (h : ss.map (·.1) = ns) (hl : ns.length ≤ 12) (ok : ∀ s ∈ ss, StOk s) : GoodSt ss :=
  ⟨by rw [← h] at hl; simpa using hl, by rw [h]; exact g.nd, fun s hs => g.nm _ (by rw [← h]; exact List.mem_map_of_mem hs), fun s hs => ⟨(ok s hs).1, (ok s hs).2.1⟩, fun s hs => (ok s hs).2.2⟩
theorem strP {p : Addr} {a : Addr} {H' : Hp} {l : List Str} (P : Pool H' p) (h : H' a = some (.lst (l.map V.str))) : a ≠ p := fun z => by
  obtain ⟨_, _, _, e, _⟩ := P
  subst z
  rw [h] at e
  have e2 := HO.lst.inj (Option.some.inj e)
  cases l with
  | nil => cases e2
  | cons x l => simp at e2
theorem LstAt.neP {p a : Addr} {H : Hp} {ds : List Dt} (h : LstAt H a ds) (P : Pool H p) (n : ∀ d ∈ ds, ∀ i, d ≠ .int i) : a ≠ p := fun z => by
  obtain ⟨_, _, _, e, _⟩ := P
  obtain ⟨xs, h1, h2⟩ := h
  subst z
  rw [h1] at e
  have e2 := HO.lst.inj (Option.some.inj e)
  subst e2
  cases h2 with
  | cons r _ => cases r; exact n _ List.mem_cons_self _ rfl
theorem intIx (l : List Int) {d : Int} (h0 : 0 ≤ d) (h1 : d < l.length) : ∃ w ∈ l, atI (l.map V.int) d = some (.int w) := by
  obtain ⟨k, rfl⟩ := Int.eq_ofNat_of_zero_le h0
  have hk : k < l.length := by omega
  exact ⟨l[k], List.getElem_mem hk, atI_nat (by rw [List.getElem?_map, List.getElem?_eq_getElem hk]; rfl)⟩
abbrev s__law_free : Stmt := top 43
abbrev N__law_free : List Str := ["pool", "names", "big", "stations", "name", "docks", "way", "bikes"]
theorem sc__law_free : FnScope N__law_free ["pool", "names", "big"] (defScope s__law_free) := ⟨rfl, rfl, rfl, by decide +kernel, rfl, by decide +kernel, by decide +kernel⟩
def sp__law_free (K : PySem.W.Frag) : Sp := fun vs H Q _ => ∃ (p A : Addr) (ns : List Str) (big : Int), vs = [.ref p, .ref A, .int big] ∧ (Pool H p ∧ H A = some (.lst (ns.map V.str)) ∧ ns.length ≤ 12 ∧ GoodNames ns ∧
  ∀ H' a ss, LstAt H' a (ss.map stD) → ss.map (·.1) = ns → GoodSt ss → H a = none → Pool H' p → Kp [p] H H' → Q (.ref a) H')
theorem ok__law_free {f : Addr} {fd : FuncData} (F : FunD K "_law_free" "_law_free" (defArgs s__law_free) (defBody s__law_free) (defScope s__law_free) [] [] f fd)
    (C__law_take : Cal P w K mg base CX0 1 "_law_take" ["pool", "limit"] (sp__law_take K)) : FnOk P w K mg base CX0 2 f fd ["pool", "names", "big"] (sp__law_free K) := by
  refine F.ok sc__law_free (fun vs H Q E h => ?_) (fun cdv A outer s H vs Q E hr h => ⟨_, PSs.nox ((pss_cons (ps_set (i := 3) sc__law_free.nd rfl (.inl rfl) (pe_lst pa_nil))
    (pss_cons (ps_for PassesOwn.never rfl (kiList K (pu 1)) (pg_name (i := 4) sc__law_free.nd rfl (.inl rfl)) (pss_cons (ps_set (i := 5) sc__law_free.nd rfl (.inl rfl) (pe_op (kAdd K) pe_int (ue_call (E := E0) C__law_take (hr.mono (by decide)) rfl pass0 (pa_cons (pu 0) (pa_cons pe_int pa_nil)))))
    (C8.pss_cut (us_if (PW.pt (uw_and (ut_cmp (kEq K hr.units) (pu 2) pe_int (nomark _)) (pw_and1 (ut_cmp (kEq K hr.units) (ue_call (E := E0) C__law_take (hr.mono (by decide)) rfl pass0 (pa_cons (pu 0) (pa_cons pe_int pa_nil))) pe_int (nomark _))))) (pss_one (ps_set (i := 5) sc__law_free.nd rfl (.inl rfl) (pe_op (kAdd K) pe_int (ue_call (E := E0) C__law_take (hr.mono (by decide)) rfl pass0 (pa_cons (pu 0) (pa_cons pe_int pa_nil)))))) pss_nil)
    (pss_cons (ps_set (i := 6) sc__law_free.nd rfl (.inl rfl) (ue_call (E := E0) C__law_take (hr.mono (by decide)) rfl pass0 (pa_cons (pu 0) (pa_cons pe_int pa_nil))))
    (pss_cons (ps_set (i := 7) sc__law_free.nd rfl (.inl rfl) pe_int)
    (C8.pss_cut (us_if (ut_cmp (kEq K hr.units) (pu 6) pe_int (nomark _)) (pss_one (ps_set (i := 7) sc__law_free.nd rfl (.inl rfl) (pu 5))) pss_nil)
    (C8.pss_cut (us_if (ut_cmp o_ge (pu 6) pe_int (nomark _)) (pss_one (ps_set (i := 7) sc__law_free.nd rfl (.inl rfl) (ue_call (E := E0) C__law_take (hr.mono (by decide)) rfl pass0 (pa_cons (pu 0) (pa_cons (pe_op (kAdd K) (pu 5) pe_int) pa_nil))))) pss_nil)
    (pss_one (ps_expr (ue_append (pu 3) (pa_cons (pe_tup (pa_cons (pu 4) (pa_cons (pu 5) (pa_cons (pu 7) pa_nil)))) pa_nil)))))))))))
    (pss_one (ps_ret (pu 3)))))), ?_⟩)
  · obtain ⟨p, A, ns, big, rfl, _⟩ := h
    rfl
  · obtain ⟨p, A, ns, big, rfl, h⟩ := h
    obtain ⟨hp, hA, hn12, gn, hk⟩ := h
    have hAp := strP hp hA
    refine ⟨sl rfl, fun R hR => ?_⟩
    have hRp := Pool.ne (o := .lst []) hp hR
    refine ⟨A, rfl, ⟨_, SqL.of (get_new hA hR)⟩, for_list (xs := ns.map V.str) (fun i σ H1 => ∃ (ss : List St) (o4 o5 o6 o7 : Option V), σ = [some (.ref p), some (.ref A), some (.int big), some (.ref R), o4, o5, o6, o7] ∧ LstAt H1 R (ss.map stD) ∧ ss.map (·.1) = ns.take i ∧ (∀ s ∈ ss, StOk s) ∧ Pool H1 p ∧ Kp [p] H H1) ⟨[], none, none, none, none, rfl, ⟨[], upd_same, .nil⟩, by simp, by simp, hp.new hR, Kp.new hR⟩ ?_ ?_ ?_⟩
    · rintro i σ H1 _ ⟨ss, o4, o5, o6, o7, _, _, _, _, _, k1⟩
      exact SqL.of (k1.get1 hA hAp)
    · rintro i x σ H1 hx ⟨ss, o4, o5, o6, o7, rfl, hRs, hss, hok, p1, k1⟩
      rw [List.getElem?_map] at hx
      cases e : ns[i]? with
      | none => rw [e] at hx; cases hx
      | some w =>
        rw [e] at hx
        cases hx
        have sst := map_still stD stD_still ss
        have hil : i < 12 := by have := (List.getElem?_eq_some_iff.mp e).1; omega
        refine ⟨p, 4, rfl, p1, by decide, fun H2 d d0 d1 p2 k2 => ⟨fun σ H3 => ∃ docks : Int, σ = [some (.ref p), some (.ref A), some (.int big), some (.ref R), some (.str w), some (.int docks), o6, o7] ∧ 1 ≤ docks ∧ docks ≤ 999999 ∧ Pool H3 p ∧ Kp [p] H1 H3, ⟨rfl, fun _ => ⟨p, 8, rfl, p2, by decide, fun H3 _ _ _ p3 k3 => ⟨rfl, fun _ => ⟨p, 999999, rfl, p3, by decide, fun H4 e e0 e1 p4 k4 => ⟨_, rfl, by omega, by omega, p4, (k2.trans k3).trans k4⟩⟩, fun _ => ⟨_, rfl, by omega, by omega, p3, k2.trans k3⟩⟩⟩, fun _ => brF ⟨_, rfl, by omega, by omega, p2, k2⟩⟩, ?_⟩⟩
        rintro σ H3 ⟨docks, rfl, dk1, dk2, p3, k3⟩
        refine ⟨p, 4, rfl, p3, by decide, fun H4 way _ _ p4 k4 => ⟨fun σ H5 => ∃ bikes : Int, σ = [some (.ref p), some (.ref A), some (.int big), some (.ref R), some (.str w), some (.int docks), some (.int way), some (.int bikes)] ∧ 0 ≤ bikes ∧ bikes ≤ docks ∧ H5 = H4, ⟨rfl, fun _ => ⟨docks, rfl, by omega, by omega, rfl⟩, fun _ => ⟨0, rfl, by omega, by omega, rfl⟩⟩, ?_⟩⟩
        rintro σ H5 ⟨bikes, rfl, b0, b1, rfl⟩
        refine ⟨fun σ H6 => ∃ bikes : Int, σ = [some (.ref p), some (.ref A), some (.int big), some (.ref R), some (.str w), some (.int docks), some (.int way), some (.int bikes)] ∧ 0 ≤ bikes ∧ bikes ≤ docks ∧ Pool H6 p ∧ Kp [p] H5 H6, ⟨fun _ => ⟨p, docks + 1, rfl, p4, ⟨by omega, by omega⟩, fun H6 b c0 c1 p6 k6 => ⟨b, rfl, c0, by omega, p6, k6⟩⟩, fun _ => ⟨bikes, rfl, b0, b1, p4, Kp.refl⟩⟩, ?_⟩
        rintro σ H6 ⟨bikes, rfl, b0, b1, p6, k6⟩
        have k16 := (k3.trans k4).trans k6
        obtain ⟨ws, hw, rws⟩ := hRs.kpP sst p1 k16 hRp
        refine ⟨⟨ws, hw⟩, sl rfl, fun t ht => ⟨ws, get_new hw ht, ?_, ss ++ [(w, docks, bikes)], _, _, _, _, rfl, ⟨ws ++ [.ref t], upd_same, ?_⟩, ?_, ?_, ?_, ?_⟩⟩
        · rw [rws.length]; simp
          have : ss.length = (ns.take i).length := by rw [← hss]; simp
          exact small_lt' (by rw [this]; simp; omega)
        · have tk : TK H6 (upd (upd H6 t (.tup [.str w, .int docks, .int bikes])) R (.lst (ws ++ [.ref t]))) := (TK.new ht).trans (TK.put (get_new hw ht))
          rw [List.map_append]
          exact (rws.still tk sst).snoc (.tup (get_ne upd_same (ne_none_of hw ht)) (.cons (.str _) (.cons (.int _) (.cons (.int _) .nil))))
        · rw [List.map_append, hss, List.take_add_one, e]; rfl
        · intro s hs
          rcases List.mem_append.mp hs with h | h
          · exact hok s h
          · simp at h; subst h; exact ⟨dk1, dk2, b0, b1⟩
        · exact (p6.new ht).keep (Kp.set (S := [R]) (by simp)) (by simpa using hRp.symm)
        · exact ((k1.trans k16).trans (Kp.new ht)).loc hR
    · rintro σ H1 ⟨ss, o4, o5, o6, o7, rfl, hRs, hss, hok, p1, k1⟩
      rw [List.length_map, List.take_length] at hss
      exact hk H1 R ss hRs hss (stations_good gn hss hn12 hok) hR p1 k1
end
end LW
set_option Elab.async false
set_option linter.all false
set_option maxRecDepth 100000
set_option maxHeartbeats 1000000
namespace LW
open PySem PySem.Spec PyProof.Rows L2 U
--  : Nat) : Stmt := PySem.Challenge.pw_manyrides_k03_text_and_town_are_each_oth.main.body.getD i (.Pass ⟨0, 0, 0, 0⟩)
section
variable {P : Program} {w : World} {K : PySem.W.Frag} {mg : Str → Option Value} {base : Heap}
/-- a list of two lists: the stations and the rides -/
def WorldAt (H : Hp) (L : Addr) (ss : List St) (rs : List Rd) : Prop := ∃ a b, H L = some (.lst [.ref a, .ref b]) ∧ LstAt H a (ss.map stD) ∧ LstAt H b (rs.map rdD)
theorem rdNe {rs : List Rd} : ∀ d ∈ rs.map rdD, ∀ i : Int, d ≠ .int i := fun d hd i => by obtain ⟨r, _, rfl⟩ := List.mem_map.mp hd; exact fun z => nomatch z
theorem stNe {ss : List St} : ∀ d ∈ ss.map stD, ∀ i : Int, d ≠ .int i := fun d hd i => by obtain ⟨r, _, rfl⟩ := List.mem_map.mp hd; exact fun z => nomatch z
theorem prNe {ps : List (Str × Str)} : ∀ d ∈ ps.map prD, ∀ i : Int, d ≠ .int i := fun d hd i => by obtain ⟨r, _, rfl⟩ := List.mem_map.mp hd; exact fun z => nomatch z
theorem RpL.take {H : Hp} : ∀ {vs : List V} {ds : List Dt} (n : Nat), RpL H vs ds → RpL H (vs.take n) (ds.take n)
  | _, _, 0, _ => .nil
  | _, _, _ + 1, .nil => .nil
  | _, _, n + 1, .cons r t => .cons r (RpL.take n t)
theorem RpL.drop {H : Hp} : ∀ {vs : List V} {ds : List Dt} (n : Nat), RpL H vs ds → RpL H (vs.drop n) (ds.drop n)
  | _, _, 0, h => h
  | _, _, _ + 1, .nil => .nil
  | _, _, n + 1, .cons _ t => RpL.drop n t
theorem RpL.to {H H' : Hp} {p : Addr} {vs : List V} {ds : List Dt} (h : RpL H vs ds) (st : stillL ds = true) (k : TK H H') : RpL H' vs ds := h.still k st
end
end LW
set_option Elab.async false
set_option linter.all false
set_option maxRecDepth 100000
set_option maxHeartbeats 1000000
namespace LW
open PySem PySem.Spec PyProof.Rows L2 U
--  : Nat) : Stmt := PySem.Challenge.pw_manyrides_k03_text_and_town_are_each_oth.main.body.getD i (.Pass ⟨0, 0, 0, 0⟩)
section
variable {P : Program} {w : World} {K : PySem.W.Frag} {mg : Str → Option Value} {base : Heap}
/-! dicts by the stations' names -/
def dkN (ns : List Str) (b : Str → Int) : List (Key × V) := ns.map fun n => (.inr n, .int (b n))
theorem dkN_congr {ns : List Str} {b c : Str → Int} (h : ∀ n ∈ ns, b n = c n) : dkN ns b = dkN ns c := by
  unfold dkN
  exact List.map_congr_left fun n hn => by rw [h n hn]
theorem dkN_get {b : Str → Int} {n : Str} : ∀ {ns : List Str}, n ∈ ns → valV (dkN ns b) (.inr n) = some (.int (b n))
  | m :: ns, h => by
    by_cases e : m = n
    · subst e; exact valV_pos rfl
    · refine (valV_neg (r := dkN ns b) (fun z => e (Sum.inr.inj z))).trans (dkN_get ?_)
      rcases List.mem_cons.mp h with h | h
      · exact absurd h.symm e
      · exact h
theorem dkN_any (b : Str → Int) (n : Str) (ns : List Str) : ((dkN ns b).any fun kv => decide (kv.1 = (.inr n : Key))) = decide (n ∈ ns) := by
  unfold dkN
  rw [List.any_map]
  induction ns with
  | nil => rfl
  | cons m ns ih =>
    rw [List.any_cons, ih]
    by_cases e : m = n
    · subst e; simp
    · have : ¬ n = m := fun z => e z.symm
      simp [e, this]
theorem dkN_put {ns : List Str} {b : Str → Int} {n : Str} {v : Int} (h : n ∈ ns) : putK (dkN ns b) (.inr n) (.int v) = dkN ns fun m => if m = n then v else b m := by
  unfold putK
  rw [dkN_any, if_pos (by simpa using h)]
  unfold dkN
  rw [List.map_map]
  refine List.map_congr_left fun m _ => ?_
  by_cases e : m = n
  · subst e; simp
  · simp [e]
theorem dkN_new {ns : List Str} {b : Str → Int} {n : Str} (h : n ∉ ns) : putK (dkN ns b) (.inr n) (.int (b n)) = dkN (ns ++ [n]) b := by
  unfold putK
  rw [dkN_any, if_neg (by simpa using h)]
  simp [dkN]
def lk (f : St → Int) (ss : List St) (n : Str) : Int := ((ss.find? fun s => decide (s.1 = n)).map f).getD 0
theorem lk_at {f : St → Int} {s : St} : ∀ {ss : List St}, (ss.map (·.1)).Nodup → s ∈ ss → lk f ss s.1 = f s
  | t :: ss, nd, h => by
    have nd' := List.nodup_cons.mp nd
    rcases List.mem_cons.mp h with h | h
    · subst h; simp [lk]
    · have e : ¬ t.1 = s.1 := fun z => nd'.1 (by show t.1 ∈ _; rw [z]; exact List.mem_map_of_mem h)
      have := lk_at (f := f) nd'.2 h
      simpa [lk, List.find?_cons, e] using this
abbrev dkd (s : St) : Int := s.2.1
abbrev bkd (s : St) : Int := s.2.2
theorem small12 {n : Nat} (h : n ≤ 12) : n < sizeLine := small_lt' (by omega)
abbrev s__law_docks : Stmt := top 53
abbrev N__law_docks : List Str := ["stations", "docks", "row"]
theorem sc__law_docks : FnScope N__law_docks ["stations"] (defScope s__law_docks) := ⟨rfl, rfl, rfl, by decide +kernel, rfl, by decide +kernel, by decide +kernel⟩
def sp__law_docks (K : PySem.W.Frag) : Sp := fun vs H Q _ => ∃ (a : Addr) (ss : List St), vs = [.ref a] ∧ (LstAt H a (ss.map stD) ∧ (ss.map (·.1)).Nodup ∧ ss.length ≤ 12 ∧ ∀ H' p, H' p = some (.dK (dkN (ss.map (·.1)) (lk dkd ss))) → H p = none → Kp [] H H' → Q (.ref p) H')
theorem ok__law_docks {f : Addr} {fd : FuncData} (F : FunD K "_law_docks" "_law_docks" (defArgs s__law_docks) (defBody s__law_docks) (defScope s__law_docks) [] [] f fd) : FnOk P w K mg base CX0 1 f fd ["stations"] (sp__law_docks K) := by
  refine F.ok sc__law_docks (fun vs H Q E h => ?_) (fun cdv A outer s H vs Q E hr h => ⟨_, PSs.nox ((pss_cons (ps_set (i := 1) sc__law_docks.nd rfl (.inl rfl) pe_dnewK)
    (pss_cons (ps_for PassesOwn.never rfl (kiList K (pu 0)) (pg_name (i := 2) sc__law_docks.nd rfl (.inl rfl)) (pss_one (ps_dput (hu_of hr) (pu 1) (pe_ix (kIx K) (pu 2) pe_int (fun _ _ => rfl)) (pe_ix (kIx K) (pu 2) pe_int (fun _ _ => rfl)) rfl)))
    (pss_one (ps_ret (pu 1)))))), ?_⟩)
  · obtain ⟨a, ss, rfl, _⟩ := h
    rfl
  · obtain ⟨a, ss, rfl, h⟩ := h
    obtain ⟨⟨xs, ha, hr⟩, nd, hl, hk⟩ := h
    have hst := map_still stD stD_still ss
    have hxl : xs.length = ss.length := by rw [hr.length]; simp
    intro D hD
    refine ⟨a, rfl, ⟨_, SqL.of (get_new ha hD)⟩, for_list (xs := xs) (fun i σ H1 => ∃ o2 : Option V, σ = [some (.ref a), some (.ref D), o2] ∧ H1 D = some (.dK (dkN ((ss.take i).map (·.1)) (lk dkd ss))) ∧ Kp [] H H1) ⟨none, rfl, upd_same, Kp.new hD⟩ ?_ ?_ ?_⟩
    · rintro i σ H1 _ ⟨o2, _, _, k1⟩
      exact SqL.of (k1.get0 ha)
    · rintro i x σ H1 hx ⟨o2, rfl, hd, k1⟩
      obtain ⟨s, hs, rx⟩ := row_at (hr.still k1.tk0 hst) hx
      obtain ⟨b, rfl, hb⟩ := rp_st rx
      have hi : i < ss.length := (List.getElem?_eq_some_iff.mp hs).1
      have e : putK (dkN ((ss.take i).map (·.1)) (lk dkd ss)) (.inr s.1) (.int s.2.1) = dkN ((ss.take (i + 1)).map (·.1)) (lk dkd ss) := by
        have := dkN_new (b := lk dkd ss) (nd_new nd hs)
        rw [lk_at nd (List.mem_of_getElem? hs)] at this
        rw [List.take_add_one, hs]
        simpa using this
      refine ⟨_, _, .inr (SqT.of hb), atI_nat (j := 1) rfl, _, _, .inr (SqT.of hb), atI_nat (j := 0) rfl, D, _, rfl, DPut.k (k := .inr s.1) hd ?_, _, rfl, ?_, k1.loc hD⟩
      · simp [dkN]; exact small12 (by omega)
      · rw [e]; exact upd_same
    · rintro σ H1 ⟨o2, rfl, hd, k1⟩
      rw [hxl, List.take_length] at hd
      exact hk H1 D hd hD k1
abbrev s__law_bikes : Stmt := top 54
abbrev N__law_bikes : List Str := ["stations", "bikes", "row"]
theorem sc__law_bikes : FnScope N__law_bikes ["stations"] (defScope s__law_bikes) := ⟨rfl, rfl, rfl, by decide +kernel, rfl, by decide +kernel, by decide +kernel⟩
def sp__law_bikes (K : PySem.W.Frag) : Sp := fun vs H Q _ => ∃ (a : Addr) (ss : List St), vs = [.ref a] ∧ (LstAt H a (ss.map stD) ∧ (ss.map (·.1)).Nodup ∧ ss.length ≤ 12 ∧ ∀ H' p, H' p = some (.dK (dkN (ss.map (·.1)) (lk bkd ss))) → H p = none → Kp [] H H' → Q (.ref p) H')
theorem ok__law_bikes {f : Addr} {fd : FuncData} (F : FunD K "_law_bikes" "_law_bikes" (defArgs s__law_bikes) (defBody s__law_bikes) (defScope s__law_bikes) [] [] f fd) : FnOk P w K mg base CX0 1 f fd ["stations"] (sp__law_bikes K) := by
  refine F.ok sc__law_bikes (fun vs H Q E h => ?_) (fun cdv A outer s H vs Q E hr h => ⟨_, PSs.nox ((pss_cons (ps_set (i := 1) sc__law_bikes.nd rfl (.inl rfl) pe_dnewK)
    (pss_cons (ps_for PassesOwn.never rfl (kiList K (pu 0)) (pg_name (i := 2) sc__law_bikes.nd rfl (.inl rfl)) (pss_one (ps_dput (hu_of hr) (pu 1) (pe_ix (kIx K) (pu 2) pe_int (fun _ _ => rfl)) (pe_ix (kIx K) (pu 2) pe_int (fun _ _ => rfl)) rfl)))
    (pss_one (ps_ret (pu 1)))))), ?_⟩)
  · obtain ⟨a, ss, rfl, _⟩ := h
    rfl
  · obtain ⟨a, ss, rfl, h⟩ := h
    obtain ⟨⟨xs, ha, hr⟩, nd, hl, hk⟩ := h
    have hst := map_still stD stD_still ss
    have hxl : xs.length = ss.length := by rw [hr.length]; simp
    intro D hD
    refine ⟨a, rfl, ⟨_, SqL.of (get_new ha hD)⟩, for_list (xs := xs) (fun i σ H1 => ∃ o2 : Option V, σ = [some (.ref a), some (.ref D), o2] ∧ H1 D = some (.dK (dkN ((ss.take i).map (·.1)) (lk bkd ss))) ∧ Kp [] H H1) ⟨none, rfl, upd_same, Kp.new hD⟩ ?_ ?_ ?_⟩
    · rintro i σ H1 _ ⟨o2, _, _, k1⟩
      exact SqL.of (k1.get0 ha)
    · rintro i x σ H1 hx ⟨o2, rfl, hd, k1⟩
      obtain ⟨s, hs, rx⟩ := row_at (hr.still k1.tk0 hst) hx
      obtain ⟨b, rfl, hb⟩ := rp_st rx
      have hi : i < ss.length := (List.getElem?_eq_some_iff.mp hs).1
      have e : putK (dkN ((ss.take i).map (·.1)) (lk bkd ss)) (.inr s.1) (.int s.2.2) = dkN ((ss.take (i + 1)).map (·.1)) (lk bkd ss) := by
        have := dkN_new (b := lk bkd ss) (nd_new nd hs)
        rw [lk_at nd (List.mem_of_getElem? hs)] at this
        rw [List.take_add_one, hs]
        simpa using this
      refine ⟨_, _, .inr (SqT.of hb), atI_nat (j := 2) rfl, _, _, .inr (SqT.of hb), atI_nat (j := 0) rfl, D, _, rfl, DPut.k (k := .inr s.1) hd ?_, _, rfl, ?_, k1.loc hD⟩
      · simp [dkN]; exact small12 (by omega)
      · rw [e]; exact upd_same
    · rintro σ H1 ⟨o2, rfl, hd, k1⟩
      rw [hxl, List.take_length] at hd
      exact hk H1 D hd hD k1
/-- the end number of a name -/
def endOf (ss : List St) (rs : List Rd) (n : Str) : Int := lk bkd ss n + netD rs n
abbrev s__law_ends : Stmt := top 55
abbrev N__law_ends : List Str := ["stations", "rides", "sums", "row"]
theorem sc__law_ends : FnScope N__law_ends ["stations", "rides"] (defScope s__law_ends) := ⟨rfl, rfl, rfl, by decide +kernel, rfl, by decide +kernel, by decide +kernel⟩
def sp__law_ends (K : PySem.W.Frag) : Sp := fun vs H Q _ => ∃ (a r : Addr) (ss : List St) (rs : List Rd), vs = [.ref a, .ref r] ∧ (LstAt H a (ss.map stD) ∧ LstAt H r (rs.map rdD) ∧ (ss.map (·.1)).Nodup ∧ ss.length ≤ 12 ∧ ∀ H' p, H' p = some (.dK (dkN (ss.map (·.1)) (endOf ss rs))) → H p = none → Kp [] H H' → Q (.ref p) H')
theorem ok__law_ends {f : Addr} {fd : FuncData} (F : FunD K "_law_ends" "_law_ends" (defArgs s__law_ends) (defBody s__law_ends) (defScope s__law_ends) [] [] f fd)
    (C__law_net : Cal P w K mg base CX0 1 "_law_net" ["rides", "place"] (sp__law_net K)) : FnOk P w K mg base CX0 2 f fd ["stations", "rides"] (sp__law_ends K) := by
  refine F.ok sc__law_ends (fun vs H Q E h => ?_) (fun cdv A outer s H vs Q E hr h => ⟨_, PSs.nox ((pss_cons (ps_set (i := 2) sc__law_ends.nd rfl (.inl rfl) pe_dnewK)
    (pss_cons (ps_for PassesOwn.never rfl (kiList K (pu 0)) (pg_name (i := 3) sc__law_ends.nd rfl (.inl rfl)) (pss_one (ps_dput (hu_of hr) (pu 2) (pe_ix (kIx K) (pu 3) pe_int (fun _ _ => rfl)) (pe_op (kAdd K) (pe_ix (kIx K) (pu 3) pe_int (fun _ _ => rfl)) (ue_call (E := E0) C__law_net (hr.mono (by decide)) rfl pass0 (pa_cons (pu 1) (pa_cons (pe_ix (kIx K) (pu 3) pe_int (fun _ _ => rfl)) pa_nil)))) rfl)))
    (pss_one (ps_ret (pu 2)))))), ?_⟩)
  · obtain ⟨a, r, ss, rs, rfl, _⟩ := h
    rfl
  · obtain ⟨a, r, ss, rs, rfl, h⟩ := h
    obtain ⟨⟨xs, ha, hr⟩, hR, nd, hl, hk⟩ := h
    have hst := map_still stD stD_still ss
    have hxl : xs.length = ss.length := by rw [hr.length]; simp
    intro D hD
    refine ⟨a, rfl, ⟨_, SqL.of (get_new ha hD)⟩, for_list (xs := xs) (fun i σ H1 => ∃ o3 : Option V, σ = [some (.ref a), some (.ref r), some (.ref D), o3] ∧ H1 D = some (.dK (dkN ((ss.take i).map (·.1)) (endOf ss rs))) ∧ Kp [] H H1) ⟨none, rfl, upd_same, Kp.new hD⟩ ?_ ?_ ?_⟩
    · rintro i σ H1 _ ⟨o2, _, _, k1⟩
      exact SqL.of (k1.get0 ha)
    · rintro i x σ H1 hx ⟨o3, rfl, hd, k1⟩
      obtain ⟨s, hs, rx⟩ := row_at (hr.still k1.tk0 hst) hx
      obtain ⟨b, rfl, hb⟩ := rp_st rx
      have hi : i < ss.length := (List.getElem?_eq_some_iff.mp hs).1
      have e : putK (dkN ((ss.take i).map (·.1)) (endOf ss rs)) (.inr s.1) (.int (s.2.2 + netD rs s.1)) = dkN ((ss.take (i + 1)).map (·.1)) (endOf ss rs) := by
        have := dkN_new (b := endOf ss rs) (nd_new nd hs)
        unfold endOf at this ⊢
        rw [lk_at nd (List.mem_of_getElem? hs)] at this
        rw [List.take_add_one, hs]
        simpa using this
      refine ⟨_, _, .inr (SqT.of hb), atI_nat (j := 2) rfl, _, _, .inr (SqT.of hb), atI_nat (j := 0) rfl, r, rs, s.1, rfl, hR.keep k1, _, _, .inr (SqT.of hb), atI_nat (j := 0) rfl, D, _, rfl, DPut.k (k := .inr s.1) hd ?_, _, rfl, ?_, k1.loc hD⟩
      · simp [dkN]; exact small12 (by omega)
      · rw [e]; exact upd_same
    · rintro σ H1 ⟨o2, rfl, hd, k1⟩
      rw [hxl, List.take_length] at hd
      exact hk H1 D hd hD k1
/-- may ride r go? -/
def ableB (d b : Str → Int) (r : Rd) : Bool :=
  if r.2.1 ≠ ("street" : Str) ∧ b r.2.1 = 0 then false else if r.2.2.2 = false ∨ r.2.2.1 = ("street" : Str) then true else decide (b r.2.2.1 < d r.2.2.1)
/-- a ride's ends stand among the names -/
def RdIn (ns : List Str) (r : Rd) : Prop := (r.2.1 = ("street" : Str) ∨ r.2.1 ∈ ns) ∧ (r.2.2.1 = ("street" : Str) ∨ r.2.2.1 ∈ ns)
abbrev s__law_is_able : Stmt := top 56
abbrev N__law_is_able : List Str := ["docks", "bikes", "ride"]
theorem sc__law_is_able : FnScope N__law_is_able ["docks", "bikes", "ride"] (defScope s__law_is_able) := ⟨rfl, rfl, rfl, by decide +kernel, rfl, by decide +kernel, by decide +kernel⟩
def sp__law_is_able (K : PySem.W.Frag) : Sp := fun vs H Q _ => ∃ (D B a : Addr) (ns : List Str) (d b : Str → Int) (r : Rd), vs = [.ref D, .ref B, .ref a] ∧ (H D = some (.dK (dkN ns d)) ∧ H B = some (.dK (dkN ns b)) ∧ H a = some (.tup [.str r.1, .str r.2.1, .str r.2.2.1, .bl r.2.2.2]) ∧ RdIn ns r ∧ Q (.bl (ableB d b r)) H)
theorem ok__law_is_able {f : Addr} {fd : FuncData} (F : FunD K "_law_is_able" "_law_is_able" (defArgs s__law_is_able) (defBody s__law_is_able) (defScope s__law_is_able) [] [] f fd) : FnOk P w K mg base CX0 1 f fd ["docks", "bikes", "ride"] (sp__law_is_able K) := by
  refine F.ok sc__law_is_able (fun vs H Q E h => ?_) (fun cdv A outer s H vs Q E hr h => ⟨_, PSs.nox ((C8.pss_cut (us_if (PW.pt (uw_and (ut_cmp (kNe K hr.units) (pe_ix (kIx K) (pu 2) pe_int (fun _ _ => rfl)) pe_str (nomark _)) (pw_and1 (ut_cmp (kEq K hr.units) (pe_dget (hu_of hr) (pu 1) (pe_ix (kIx K) (pu 2) pe_int (fun _ _ => rfl)) (fun _ _ => rfl)) pe_int (nomark _))))) (pss_one (ps_ret pe_bl)) pss_nil)
    (pss_cons (us_if (PW.pt (uw_or (pt_not (ut_val (pe_ix (kIx K) (pu 2) pe_int (fun _ _ => rfl)))) (pw_or1 (ut_cmp (kEq K hr.units) (pe_ix (kIx K) (pu 2) pe_int (fun _ _ => rfl)) pe_str (nomark _))))) (pss_one (ps_ret pe_bl)) pss_nil)
    (pss_one (ps_ret (pe_cmpR o_lt (pe_dget (hu_of hr) (pu 1) (pe_ix (kIx K) (pu 2) pe_int (fun _ _ => rfl)) (fun _ _ => rfl)) (pe_dget (hu_of hr) (pu 0) (pe_ix (kIx K) (pu 2) pe_int (fun _ _ => rfl)) (fun _ _ => rfl)) (nomark _))))))), ?_⟩)
  · obtain ⟨D, B, a, ns, d, b, r, rfl, _⟩ := h
    rfl
  · obtain ⟨D, B, a, ns, d, b, r, rfl, h⟩ := h
    obtain ⟨hD, hB, ha, ⟨i1, i2⟩, hk⟩ := h
    have gB : ∀ {n}, n ∈ ns → DGet H B (.str n) (some (.int (b n))) := fun {n} h => by
      have := DGet.k (k := .inr n) hB
      rw [dkN_get h] at this
      exact this
    have gD : ∀ {n}, n ∈ ns → DGet H D (.str n) (some (.int (d n))) := fun {n} h => by
      have := DGet.k (k := .inr n) hD
      rw [dkN_get h] at this
      exact this
    refine ⟨fun σ H1 => σ = [some (.ref D), some (.ref B), some (.ref a)] ∧ H1 = H ∧ ¬ (r.2.1 ≠ ("street" : Str) ∧ b r.2.1 = 0), ⟨_, _, .inr (SqT.of ha), atI_nat (j := 1) rfl, rfl, fun c1 => ?_, fun c1 => brF ⟨rfl, rfl, ?_⟩⟩, ?_⟩
    · have c1 : r.2.1 ≠ ("street" : Str) := by simpa [eqB] using c1
      refine ⟨_, _, .inr (SqT.of ha), atI_nat (j := 1) rfl, B, _, rfl, gB (i1.resolve_left c1), rfl, fun c2 => ?_, fun c2 => ⟨rfl, rfl, ?_⟩⟩
      · have c2 : b r.2.1 = 0 := by simpa [eqB] using c2
        have e : ableB d b r = false := by unfold ableB; rw [if_pos ⟨c1, c2⟩]
        rw [e] at hk
        exact hk
      · have c2 : ¬ b r.2.1 = 0 := by simpa [eqB] using c2
        exact fun z => c2 z.2
    · have c1 : r.2.1 = ("street" : Str) := by simpa [eqB] using c1
      exact fun z => z.1 c1
    rintro σ H1 ⟨rfl, rfl, no⟩
    have e0 : ableB d b r = if r.2.2.2 = false ∨ r.2.2.1 = ("street" : Str) then true else decide (b r.2.2.1 < d r.2.2.1) := by unfold ableB; rw [if_neg no]
    rw [e0] at hk
    refine ⟨_, _, .inr (SqT.of ha), atI_nat (j := 3) rfl, fun c => ?_, fun c => ⟨_, _, .inr (SqT.of ha), atI_nat (j := 2) rfl, rfl, fun c2 => ?_, fun c2 => ?_⟩⟩
    · have c : r.2.2.2 = false := by simpa using c
      rw [if_pos (.inl c)] at hk
      exact brT hk
    · have c2 : r.2.2.1 = ("street" : Str) := by simpa [eqB] using c2
      rw [if_pos (.inr c2)] at hk
      exact hk
    · have c : ¬ r.2.2.2 = false := by simpa using c
      have c2 : ¬ r.2.2.1 = ("street" : Str) := by simpa [eqB] using c2
      rw [if_neg (fun z => z.elim c c2)] at hk
      exact ⟨_, _, .inr (SqT.of ha), atI_nat (j := 2) rfl, B, _, rfl, gB (i2.resolve_left c2), _, _, .inr (SqT.of ha), atI_nat (j := 2) rfl, D, _, rfl, gD (i2.resolve_left c2), hk⟩
/-- one step: the bikes, the rides -/
def addB (b : Str → Int) (n : Str) (k : Int) : Str → Int := fun m => if m = n then b m + k else b m
def stepB (b : Str → Int) (r : Rd) : Str → Int :=
  let b1 := if r.2.1 ≠ ("street" : Str) then addB b r.2.1 (-1) else b
  if r.2.2.2 = false then b1 else if r.2.2.1 ≠ ("street" : Str) then addB b1 r.2.2.1 1 else b1
def stepR (rs : List Rd) (k : Nat) (r : Rd) : List Rd := rs.take k ++ (if r.2.2.2 = false then [((r.1, ("street" : Str), r.2.2.1, true) : Rd)] else []) ++ rs.drop (k + 1)
theorem dkN_add {ns : List Str} {b : Str → Int} {n : Str} {k : Int} (h : n ∈ ns) : putK (dkN ns b) (.inr n) (.int (b n + k)) = dkN ns (addB b n k) := by
  rw [dkN_put h]
  refine dkN_congr fun m _ => ?_
  unfold addB
  by_cases e : m = n
  · subst e; simp
  · simp [e]
end
end LW
set_option Elab.async false
set_option linter.all false
set_option maxRecDepth 100000
set_option maxHeartbeats 1000000
namespace LW
open PySem PySem.Spec PyProof.Rows L2 U
--  : Nat) : Stmt := PySem.Challenge.pw_manyrides_k03_text_and_town_are_each_oth.main.body.getD i (.Pass ⟨0, 0, 0, 0⟩)
section
variable {P : Program} {w : World} {K : PySem.W.Frag} {mg : Str → Option Value} {base : Heap}
/-! lines -/
theorem spc_mul (n : Nat) : Txt.mul (" " : Str) (n : Int) = spc n := by
  refine Str.ext' ?_
  have h := mul_one 32 n
  have e : (" " : Str) = ⟨#[32]⟩ := by decide +kernel
  rw [e]
  refine Array.ext' ?_
  rw [h]
  simp [spc]
theorem spc_mul' (n : Int) : Txt.mul (" " : Str) n = spc n.toNat := by
  refine Str.ext' ?_
  have h := mul_one 32 n
  have e : (" " : Str) = ⟨#[32]⟩ := by decide +kernel
  rw [e]
  refine Array.ext' ?_
  rw [h]
  simp [spc]
theorem strLen {i : Int} (h : i.natAbs < 1000000000) : (Str.ofString (toString i)).length ≤ 10 := by
  have dl : ∀ n : Nat, n ≤ 1000000000 → (Nat.toDigits 10 n).length ≤ 10 := fun n hn => by
    have e := (Nat.length_repr_le_iff (n := n) (by decide : 0 < 10)).mpr (by omega)
    rwa [← String.length_toList, Nat.toList_repr] at e
  have dl9 : ∀ n : Nat, n < 1000000000 → (Nat.toDigits 10 n).length ≤ 9 := fun n hn => by
    have e := (Nat.length_repr_le_iff (n := n) (by decide : 0 < 9)).mpr (by omega)
    rwa [← String.length_toList, Nat.toList_repr] at e
  cases i with
  | ofNat m =>
    rw [text_ofNat]
    have := dl m (by simp at h; omega)
    simpa [Str.length] using this
  | negSucc m =>
    rw [text_neg]
    have := dl9 (m + 1) (by simpa using h)
    simp [Str.length]; omega
theorem log_small {i : Int} (h : i.natAbs < 1000000000) : i.natAbs.log2 < 1920 := by
  by_cases z : i.natAbs = 0
  · rw [z]; decide
  · exact (Nat.log2_lt z).mpr (Nat.lt_of_lt_of_le h (Nat.le_trans (show 1000000000 ≤ 2 ^ 30 by decide) (Nat.pow_le_pow_right (by decide) (by decide))))
theorem spc_len (n : Nat) : (spc n).length = n := by simp [spc, Str.length]
def colS (i : Int) : Str := spc (8 - (Str.ofString (toString i)).length) ++ Str.ofString (toString i)
def wordS (docks e : Int) : Str := if ¬ (0 ≤ e ∧ e ≤ docks) then "unfair" else if e = 0 then "empty" else if e = docks then "full" else "between"
def lineS (s : St) (e : Int) : Str := ((((s.1 ++ spc (8 - s.1.length) ++ colS s.2.2) ++ colS s.2.1) ++ colS e) ++ "  " ++ wordS s.2.1 e) ++ "\n"
theorem colS_len {i : Int} (h : i.natAbs < 1000000000) : (colS i).length ≤ 20 := by
  have := strLen h
  unfold colS
  rw [app_len, spc_len]
  omega
theorem wordS_len (d e : Int) : (wordS d e).length ≤ 7 := by
  unfold wordS
  split
  · decide +kernel
  · split
    · decide +kernel
    · split
      · decide +kernel
      · decide +kernel
def joinS (ls : List Str) : Str := Str.join "" ls
def showS (ss : List St) (rs : List Rd) : Str := joinS (ss.map fun s => lineS s (endOf ss rs s.1))
theorem lineS_len {s : St} {e : Int} (hl : s.1.length ≤ 8) (ok : StOk s) (he : e.natAbs < 1000000000) : (lineS s e).length ≤ 100 := by
  obtain ⟨d1, d9, b0, bd⟩ := ok
  have l1 := colS_len (i := s.2.2) (by omega)
  have l2 := colS_len (i := s.2.1) (by omega)
  have l3 := colS_len he
  have l4 := wordS_len s.2.1 e
  have l5 : ("  " : Str).length = 2 := by decide +kernel
  have l6 : ("\n" : Str).length = 1 := by decide +kernel
  unfold lineS
  rw [app_len, app_len, app_len, app_len, app_len, app_len, app_len, spc_len]
  omega
theorem end_bound {ss : List St} {rs : List Rd} (nd : (ss.map (·.1)).Nodup) {s : St} (h : s ∈ ss) (ok : StOk s) (hr : rs.length ≤ 24) : (endOf ss rs s.1).natAbs < 1000000000 := by
  obtain ⟨d1, d9, b0, bd⟩ := ok
  have n := netD_bound s.1 rs
  unfold endOf
  rw [lk_at nd h]
  show (s.2.2 + netD rs s.1).natAbs < 1000000000
  omega
theorem sum_len {ls : List Str} (h : ∀ x ∈ ls, x.length ≤ 100) : (ls.map (·.length)).sum ≤ 100 * ls.length := by
  induction ls with
  | nil => simp
  | cons a l ih =>
    have := ih fun x hx => h x (by simp [hx])
    have := h a (by simp)
    simp; omega
def ShowOk (ss : List St) (rs : List Rd) : Prop := (ss.map (·.1)).Nodup ∧ ss.length ≤ 12 ∧ (∀ s ∈ ss, StOk s) ∧ (∀ s ∈ ss, s.1.length ≤ 8) ∧ rs.length ≤ 24
theorem GoodSt.show {ss : List St} {rs : List Rd} (g : GoodSt ss) (gr : GoodRd (ss.map (·.1)) rs) : ShowOk ss rs :=
  ⟨g.nd, g.len, fun s h => ⟨(g.dk s h).1, (g.dk s h).2, (g.bk s h).1, (g.bk s h).2⟩, fun s h => nameB_len (g.nm s h), gr.len⟩
theorem net_step {ns : List Str} (hs : ∀ n ∈ ns, n ≠ ("street" : Str)) (b : Str → Int) (rs : List Rd) (r : Rd) :
    dkN ns (if r.2.2.1 ≠ ("street" : Str) then addB (if r.2.1 ≠ ("street" : Str) then addB (fun n => b n + netD rs n) r.2.1 (-1) else fun n => b n + netD rs n) r.2.2.1 1 else (if r.2.1 ≠ ("street" : Str) then addB (fun n => b n + netD rs n) r.2.1 (-1) else fun n => b n + netD rs n)) = dkN ns fun n => b n + netD (rs ++ [r]) n := by
  refine dkN_congr fun n hn => ?_
  have h0 := hs n hn
  rw [netD_snoc]
  have a1 : (if r.2.1 ≠ ("street" : Str) then addB (fun n => b n + netD rs n) r.2.1 (-1) else fun n => b n + netD rs n) n = b n + netD rs n - (if r.2.1 = n then 1 else 0) := by
    by_cases h1 : r.2.1 = ("street" : Str)
    · have e1 : ¬ r.2.1 = n := fun z => h0 (z.symm.trans h1)
      rw [if_neg (fun z => z h1), if_neg e1]
      omega
    · rw [if_pos h1]
      by_cases e1 : r.2.1 = n
      · subst e1; simp [addB]; omega
      · have e3 : ¬ n = r.2.1 := fun z => e1 z.symm
        simp [addB, e1, e3]
  generalize (if r.2.1 ≠ ("street" : Str) then addB (fun n => b n + netD rs n) r.2.1 (-1) else fun n => b n + netD rs n) = c at a1 ⊢
  by_cases h2 : r.2.2.1 = ("street" : Str)
  · have e2 : ¬ r.2.2.1 = n := fun z => h0 (z.symm.trans h2)
    rw [if_neg (fun z => z h2), if_neg e2, a1]
    omega
  · rw [if_pos h2]
    have a2 : addB c r.2.2.1 1 n = c n + (if r.2.2.1 = n then 1 else 0) := by
      by_cases e2 : r.2.2.1 = n
      · subst e2; simp [addB]
      · have e3 : ¬ n = r.2.2.1 := fun z => e2 z.symm
        simp [addB, e2, e3]
    rw [a2, a1]
    omega
abbrev s_ends : Stmt := top 31
abbrev N_ends : List Str := ["town", "name", "numbers", "start", "goal", "kept", "docks", "bikes"]
theorem sc_ends : FnScope N_ends ["town"] (defScope s_ends) := ⟨rfl, rfl, rfl, by decide +kernel, rfl, by decide +kernel, by decide +kernel⟩
def sp_ends (K : PySem.W.Frag) : Sp := fun vs H Q _ => ∃ (a : Addr) (ss : List St) (rs : List Rd), vs = [.ref a] ∧ (TownAt K H a ss rs ∧ GoodSt ss ∧ GoodRd (ss.map (·.1)) rs ∧ ∀ H' p, H' p = some (.dK (dkN (ss.map (·.1)) (endOf ss rs))) → H p = none → Kp [] H H' → Q (.ref p) H')
theorem ok_ends {f : Addr} {fd : FuncData} (F : FunD K "ends" "ends" (defArgs s_ends) (defBody s_ends) (defScope s_ends) [] [] f fd)
    (cl_Town : Cls K (He.ga K "Town"))
    (na_Town_stations : NoAttr K (He.ga K "Town") "stations")
    (na_Town_rides : NoAttr K (He.ga K "Town") "rides")
    (mc_STREET : ∃ t, mg "STREET" = some (.str "street" t)) : FnOk P w K mg base CX0 1 f fd ["town"] (sp_ends K) := by
  refine F.ok sc_ends (fun vs H Q E h => ?_) (fun cdv A outer s H vs Q E hr h => ⟨_, PSs.nox ((pss_cons (ps_setDc (i := 2) (own := [("name", 1), ("docks", 6), ("bikes", 7)]) rfl sc_ends.nd rfl rfl (sw_dict rfl rfl rfl (by decide +kernel)) (kiTup K (kFld K (pu 0) rfl)) (blkOk_by (N := N_ends) (sc := defScope s_ends) (by decide +kernel)) (fun _ _ _ _ _ => (kgTup K (n := 3) rfl (pgs_cons (pg_name (i := 1) sc_ends.nd rfl (.inl rfl)) (pgs_cons (pg_name (i := 6) sc_ends.nd rfl (.inl rfl)) (pgs_cons (pg_name (i := 7) sc_ends.nd rfl (.inl rfl)) pgs_nil))))) (fun _ _ _ _ _ => pts_nil) (fun _ _ _ _ _ => (pu 1)) (fun _ _ _ _ _ => (pu 7)))
    (pss_cons (ps_for PassesOwn.never rfl (kiTup K (kFld K (pu 0) rfl)) (kgTup K (n := 4) rfl (pgs_cons (pg_name (i := 1) sc_ends.nd rfl (.inl rfl)) (pgs_cons (pg_name (i := 3) sc_ends.nd rfl (.inl rfl)) (pgs_cons (pg_name (i := 4) sc_ends.nd rfl (.inl rfl)) (pgs_cons (pg_name (i := 5) sc_ends.nd rfl (.inl rfl)) pgs_nil))))) (C8.pss_cut (us_if (ut_cmp (kNe K hr.units) (pu 3) (pg_c (v := .str "street") (cS mc_STREET)) (nomark _)) (pss_one (ps_daug (hu_of hr) (pu 2) (pu 3) pe_int in_sub (fun _ _ _ => rfl))) pss_nil)
    (pss_one (us_if (ut_cmp (kNe K hr.units) (pu 4) (pg_c (v := .str "street") (cS mc_STREET)) (nomark _)) (pss_one (ps_daug (hu_of hr) (pu 2) (pu 4) pe_int in_add (fun _ _ _ => rfl))) pss_nil))))
    (pss_one (ps_ret (pu 2)))))), ?_⟩)
  · obtain ⟨a, ss, rs, rfl, _⟩ := h
    rfl
  · obtain ⟨a, ss, rs, rfl, h⟩ := h
    obtain ⟨⟨dx, s, r, xs, ys, ha, hs, hx, hr, hy⟩, g, gr, hk⟩ := h
    have hss := map_still stD stD_still ss
    have hrs := map_still rdD rdD_still rs
    have hxl : xs.length = ss.length := by rw [hx.length]; simp
    have hyl : ys.length = rs.length := by rw [hy.length]; simp
    have nst : ∀ n ∈ ss.map (·.1), n ≠ ("street" : Str) := fun n hn => by
      obtain ⟨t, ht, rfl⟩ := List.mem_map.mp hn
      exact nameB_ns (g.nm t ht)
    refine ⟨a, _, _, _, _, rfl, ha, cl_Town, na_Town_stations, rfl, s, rfl, ⟨_, SqT.of hs⟩, fun D hD => dc_tup (xs := xs) (fun i H1 => H1 D = some (.dK (dkN ((ss.take i).map (·.1)) (lk bkd ss))) ∧ Kp [] H H1) ⟨upd_same, Kp.new hD⟩ ?_ ?_ ?_⟩
    · rintro i H1 _ ⟨_, k1⟩
      exact SqT.of (k1.get0 hs)
    · rintro i x H1 hx1 ⟨hd, k1⟩
      obtain ⟨t, ht, rt⟩ := row_at (hx.still k1.tk0 hss) hx1
      obtain ⟨b, rfl, hb⟩ := rp_st rt
      have e : putK (dkN ((ss.take i).map (·.1)) (lk bkd ss)) (.inr t.1) (.int t.2.2) = dkN ((ss.take (i + 1)).map (·.1)) (lk bkd ss) := by
        have := dkN_new (b := lk bkd ss) (nd_new g.nd ht)
        rw [lk_at g.nd (List.mem_of_getElem? ht)] at this
        rw [List.take_add_one, ht]
        simpa using this
      have hi : i < ss.length := (List.getElem?_eq_some_iff.mp ht).1
      have := g.len
      refine ⟨b, _, rfl, SqT.of hb, rfl, _, _, rfl, _, _, rfl, _, _, rfl, rfl, rfl, _, .inr t.1, rfl, hd, ?_, ?_, k1.loc hD⟩
      · simp [dkN]; exact small12 (by omega)
      · rw [e]; exact upd_same
    rintro H1 ⟨hd, k1⟩
    rw [hxl, List.take_length] at hd
    have ha1 := k1.get0 ha
    have hr1 := k1.get0 hr
    have DGt : ∀ {H' : Hp} {c : Str → Int} {n}, H' D = some (.dK (dkN (ss.map (·.1)) c)) → n ∈ ss.map (·.1) → DGet H' D (.str n) (some (.int (c n))) := fun {H' c n} e h => by
      have := DGet.k (k := .inr n) e
      rw [dkN_get h] at this
      exact this
    have hd12 : ∀ c : Str → Int, (dkN (ss.map (·.1)) c).length < sizeLine := fun c => by simp [dkN]; exact small12 g.len
    refine ⟨a, _, _, _, _, rfl, ha1, cl_Town, na_Town_rides, rfl, r, rfl, ⟨_, SqT.of hr1⟩, for_tup (xs := ys) (fun i σ H2 => ∃ (o1 o3 o4 o5 o6 o7 : Option V), σ = [some (.ref a), o1, some (.ref D), o3, o4, o5, o6, o7] ∧ H2 D = some (.dK (dkN (ss.map (·.1)) fun n => lk bkd ss n + netD (rs.take i) n)) ∧ Kp [] H H2) ⟨none, none, none, none, none, none, rfl, ?_, k1⟩ ?_ ?_ ?_⟩
    · rw [hd]
      exact congrArg (fun z => some (HO.dK z)) (dkN_congr fun n _ => by simp [netD])
    · rintro i σ H2 _ ⟨o1, o3, o4, o5, o6, o7, _, _, k2⟩
      exact SqT.of (k2.get0 hr)
    · rintro i y σ H2 hy2 ⟨o1, o3, o4, o5, o6, o7, rfl, hd2, k2⟩
      obtain ⟨q, hq, rq⟩ := row_at (hy.still k2.tk0 hrs) hy2
      obtain ⟨b, rfl, hb⟩ := rp_rd rq
      have hqm := List.mem_of_getElem? hq
      refine ⟨b, _, rfl, SqT.of hb, rfl, _, _, rfl, _, _, rfl, _, _, rfl, _, _, rfl, rfl, ?_⟩
      refine ⟨fun σ H3 => σ = [some (.ref a), some (.str q.1), some (.ref D), some (.str q.2.1), some (.str q.2.2.1), some (.bl q.2.2.2), o6, o7] ∧ H3 D = some (.dK (dkN (ss.map (·.1)) (if q.2.1 ≠ ("street" : Str) then addB (fun n => lk bkd ss n + netD (rs.take i) n) q.2.1 (-1) else fun n => lk bkd ss n + netD (rs.take i) n))) ∧ Kp [] H H3, ⟨rfl, fun c => ?_, fun c => ?_⟩, ?_⟩
      · have c : q.2.1 ≠ ("street" : Str) := by simpa [eqB] using c
        have hm := (gr.st q hqm).resolve_left c
        refine ⟨D, _, rfl, DGt hd2 hm, _, _, rfl, rfl, _, DPut.k (k := .inr q.2.1) hd2 (hd12 _), rfl, ?_, k2.loc hD⟩
        rw [if_pos c, upd_same]
        exact congrArg (fun z => some (HO.dK z)) (dkN_add hm)
      · have c : ¬ q.2.1 ≠ ("street" : Str) := by simpa [eqB] using c
        rw [if_neg c]
        exact ⟨rfl, hd2, k2⟩
      rintro σ H3 ⟨rfl, hd3, k3⟩
      have et : rs.take (i + 1) = rs.take i ++ [q] := by rw [List.take_add_one, hq]; rfl
      have st := net_step nst (lk bkd ss) (rs.take i) q
      rw [← et] at st
      refine ⟨rfl, fun c => ?_, fun c => ?_⟩
      · have c : q.2.2.1 ≠ ("street" : Str) := by simpa [eqB] using c
        have hm := (gr.go q hqm).resolve_left c
        rw [if_pos c] at st
        refine ⟨D, _, rfl, DGt hd3 hm, _, _, rfl, rfl, _, DPut.k (k := .inr q.2.2.1) hd3 (hd12 _), _, _, _, _, _, _, rfl, ?_, k3.loc hD⟩
        rw [upd_same, ← st]
        exact congrArg (fun z => some (HO.dK z)) (dkN_add hm)
      · have c : ¬ q.2.2.1 ≠ ("street" : Str) := by simpa [eqB] using c
        rw [if_neg c] at st
        refine ⟨_, _, _, _, _, _, rfl, ?_, k3⟩
        rw [← st]; exact hd3
    · rintro σ H2 ⟨o1, o3, o4, o5, o6, o7, rfl, hd2, k2⟩
      rw [hyl, List.take_length] at hd2
      exact hk H2 D hd2 hD k2
end
end LW
set_option Elab.async false
set_option linter.all false
set_option maxRecDepth 100000
set_option maxHeartbeats 1000000
namespace LW
open PySem PySem.Spec PyProof.Rows L2 U
--  : Nat) : Stmt := PySem.Challenge.pw_manyrides_k03_text_and_town_are_each_oth.main.body.getD i (.Pass ⟨0, 0, 0, 0⟩)
section
variable {P : Program} {w : World} {K : PySem.W.Frag} {mg : Str → Option Value} {base : Heap}
theorem GoodSt.names {ss : List St} (g : GoodSt ss) : GoodNames (ss.map (·.1)) := ⟨g.nd, fun n hn => by
  obtain ⟨s, hs, rfl⟩ := List.mem_map.mp hn
  exact g.nm s hs⟩
theorem WorldAt.new {H : Hp} {L q : Addr} {o : HO} {ss : List St} {rs : List Rd} (h : WorldAt H L ss rs) (n : H q = none) : WorldAt (upd H q o) L ss rs := by
  obtain ⟨a, b, h1, h2, h3⟩ := h
  exact ⟨a, b, get_new h1 n, h2.keep (Kp.new n), h3.keep (Kp.new n)⟩
/-! steps of able rides -/
def BkOk (ss : List St) (b : Str → Int) : Prop := ∀ s ∈ ss, 0 ≤ b s.1 ∧ b s.1 ≤ s.2.1
theorem step_bk {ss : List St} {b : Str → Int} {r : Rd} (g : GoodSt ss) (h : BkOk ss b) (a : ableB (lk dkd ss) b r = true) : BkOk ss (stepB b r) := by
  intro s hs
  have e := lk_at (f := dkd) g.nd hs
  have hb := h s hs
  have a1 : r.2.1 ≠ ("street" : Str) → b r.2.1 ≠ 0 := fun h1 h2 => by
    unfold ableB at a
    rw [if_pos ⟨h1, h2⟩] at a
    cases a
  have a2 : r.2.2.2 ≠ false → r.2.2.1 ≠ ("street" : Str) → b r.2.2.1 < lk dkd ss r.2.2.1 := fun h1 h2 => by
    unfold ableB at a
    rw [if_neg (fun z => a1 z.1 z.2), if_neg (fun z => z.elim h1 h2)] at a
    exact of_decide_eq_true a
  have s1 : 0 ≤ (if r.2.1 ≠ ("street" : Str) then addB b r.2.1 (-1) else b) s.1 ∧ (if r.2.1 ≠ ("street" : Str) then addB b r.2.1 (-1) else b) s.1 ≤ b s.1 := by
    by_cases c : r.2.1 ≠ ("street" : Str)
    · rw [if_pos c]
      unfold addB
      by_cases e1 : s.1 = r.2.1
      · have := a1 c
        rw [if_pos e1, e1]
        rw [e1] at hb
        omega
      · rw [if_neg e1]; omega
    · rw [if_neg c]; omega
  unfold stepB
  generalize (if r.2.1 ≠ ("street" : Str) then addB b r.2.1 (-1) else b) = b1 at s1 ⊢
  by_cases c : r.2.2.2 = false
  · rw [if_pos c]; omega
  · rw [if_neg c]
    by_cases c2 : r.2.2.1 ≠ ("street" : Str)
    · rw [if_pos c2]
      unfold addB
      by_cases e1 : s.1 = r.2.2.1
      · have := a2 c c2
        rw [if_pos e1]
        rw [← e1, e] at this
        have : b s.1 < s.2.1 := this
        omega
      · rw [if_neg e1]; omega
    · rw [if_neg c2]; omega
theorem split_at {α : Type} {l : List α} {k : Nat} {a : α} (h : l[k]? = some a) : l = l.take k ++ a :: l.drop (k + 1) := by
  obtain ⟨hk, e⟩ := List.getElem?_eq_some_iff.mp h
  have e2 := List.drop_eq_getElem_cons hk
  rw [e] at e2
  rw [← e2, List.take_append_drop]
theorem stepR_names {rs : List Rd} {k : Nat} {r : Rd} (h : rs[k]? = some r) : ((stepR rs k r).map (·.1)).Sublist (rs.map (·.1)) := by
  have e : rs.map (·.1) = (rs.take k).map (·.1) ++ (r.1 :: (rs.drop (k + 1)).map (·.1)) := by
    have := congrArg (List.map (·.1)) (split_at h)
    simpa using this
  rw [e]
  unfold stepR
  rw [List.map_append, List.map_append, List.append_assoc]
  refine List.Sublist.append (List.Sublist.refl _) ?_
  by_cases c : r.2.2.2 = false
  · rw [if_pos c]; simp
  · rw [if_neg c]; simp
theorem stepR_mem {rs : List Rd} {k : Nat} {r q : Rd} (hq : q ∈ stepR rs k r) : q ∈ rs ∨ (r.2.2.2 = false ∧ q = (r.1, ("street" : Str), r.2.2.1, true)) := by
  unfold stepR at hq
  rcases List.mem_append.mp hq with h | h
  · rcases List.mem_append.mp h with h | h
    · exact .inl (List.mem_of_mem_take h)
    · by_cases c : r.2.2.2 = false
      · rw [if_pos c] at h; exact .inr ⟨c, by simpa using h⟩
      · rw [if_neg c] at h; simp at h
  · exact .inl (List.mem_of_mem_drop h)
theorem stepR_good {pl : List Str} {rs : List Rd} {k : Nat} {r : Rd} (g : GoodRd pl rs) (h : rs[k]? = some r) : GoodRd pl (stepR rs k r) := by
  have hm := List.mem_of_getElem? h
  have sub := stepR_names h
  refine ⟨?_, sub.nodup g.nd, fun q hq => ?_, fun q hq => ?_, fun q hq => ?_, fun q hq => ?_, fun q hq => ?_⟩
  · have := sub.length_le
    simp only [List.length_map] at this
    exact Nat.le_trans this g.len
  all_goals rcases stepR_mem hq with h | ⟨c, rfl⟩
  · exact g.nm q h
  · exact g.nm r hm
  · exact g.st q h
  · exact .inl rfl
  · exact g.go q h
  · exact g.go r hm
  · exact g.ne q h
  · exact fun z => (g.kp r hm c).2 z.symm
  · exact g.kp q h
  · exact fun z => nomatch z
def ableAt (d b : Str → Int) (rs : List Rd) (j : Nat) : Bool := rs[j]?.any (ableB d b)
theorem range_filter (f : Nat → Bool) (i : Nat) : (List.range (i + 1)).filter f = (List.range i).filter f ++ (if f i = true then [i] else []) := by
  rw [List.range_succ, List.filter_append]
  by_cases e : f i = true <;> simp [e]
def nowS (ss : List St) (b : Str → Int) : List St := ss.map fun s => (s.1, s.2.1, b s.1)
theorem nowS_names (ss : List St) (b : Str → Int) : (nowS ss b).map (·.1) = ss.map (·.1) := by simp [nowS, Function.comp_def]
theorem nowS_good {ss : List St} {b : Str → Int} (g : GoodSt ss) (h : BkOk ss b) : GoodSt (nowS ss b) := by
  refine ⟨by simpa [nowS] using g.len, by rw [nowS_names]; exact g.nd, fun t ht => ?_, fun t ht => ?_, fun t ht => ?_⟩
  all_goals obtain ⟨s, hs, rfl⟩ := List.mem_map.mp ht
  · exact g.nm s hs
  · exact g.dk s hs
  · exact h s hs
theorem GoodRd.rdIn {pl : List Str} {rs : List Rd} (g : GoodRd pl rs) {r : Rd} (h : r ∈ rs) : RdIn pl r := ⟨g.st r h, g.go r h⟩
theorem DGt' {H : Hp} {a : Addr} {ns : List Str} {b : Str → Int} {n : Str} (e : H a = some (.dK (dkN ns b))) (h : n ∈ ns) : DGet H a (.str n) (some (.int (b n))) := by
  have := DGet.k (k := .inr n) e
  rw [dkN_get h] at this
  exact this
end
end LW
set_option Elab.async false
set_option linter.all false
set_option maxRecDepth 100000
set_option maxHeartbeats 1000000
namespace LW
open PySem PySem.Spec PyProof.Rows L2 U
--  : Nat) : Stmt := PySem.Challenge.pw_manyrides_k03_text_and_town_are_each_oth.main.body.getD i (.Pass ⟨0, 0, 0, 0⟩)
section
variable {P : Program} {w : World} {K : PySem.W.Frag} {mg : Str → Option Value} {base : Heap}
/-! making towns -/
theorem mk_town {K : PySem.W.Frag} {tb : List Addr} {Hl : Hp} {l m x dx : Addr} {ss : List St} {rs : List Rd} {Q : VK} {E : XK} (hl : LstAt Hl l (ss.map stD)) (hm : LstAt Hl m (rs.map rdD)) (gs : GoodSt ss) (gr : GoodRd (ss.map (·.1)) rs) (htb : TbG tb Hl)
    (hx : Hl x = none) (hdx : Hl dx = none) (hk : ∀ H', TownAt K H' x ss rs → Kp [] Hl H' → Q (.ref x) H') :
    sp_Town___init__ K tb [.ref x, .ref l, .ref m] (upd (upd Hl dx (.own x)) x (.ins (He.ga K "Town") dx [])) (fun v H2 => v = .non ∧ Q (.ref x) H2) E := by
  have k5 : Kp [] Hl (upd (upd Hl dx (.own x)) x (.ins (He.ga K "Town") dx [])) := (Kp.new hdx).loc hx
  exact ⟨x, dx, l, m, ss, rs, rfl, upd_same, hl.keep k5, hm.keep k5, gs, gr, TbG.keep0 htb k5, fun H5 ht5 k5' => ⟨rfl, hk H5 ht5 (Kp.over k5 hx k5')⟩⟩
def raisesS (C : Addr) (f : Str) (v : V) (H : Hp) (E : XK) : Prop := ∀ d H', H' d = some (.xd [(f, v)]) → Kp [] H H' → E (.ref C) (some d) H'
def posOf (rs : List Rd) (n : Str) : Option Nat := rs.findIdx? fun r => decide (r.1 = n)
theorem posOf_some {rs : List Rd} {n : Str} {i : Nat} {q : Rd} (hq : rs[i]? = some q) (hno : ∀ p ∈ rs.take i, p.1 ≠ n) (h : q.1 = n) : posOf rs n = some i := by
  obtain ⟨hi, e⟩ := List.getElem?_eq_some_iff.mp hq
  refine List.findIdx?_eq_some_iff_getElem.mpr ⟨hi, by rw [e]; simpa using h, fun j hj => ?_⟩
  have := hno rs[j] (List.mem_take_iff_getElem.mpr ⟨j, by omega, rfl⟩)
  simpa using this
theorem posOf_none {rs : List Rd} {n : Str} (h : ∀ p ∈ rs, p.1 ≠ n) : posOf rs n = none := by
  refine List.findIdx?_eq_none_iff.mpr fun x hx => ?_
  simpa using h x hx
theorem posOf_is {rs : List Rd} {n : Str} {i : Nat} (h : posOf rs n = some i) : ∃ q, rs[i]? = some q ∧ q.1 = n := by
  obtain ⟨hi, h1, _⟩ := List.findIdx?_eq_some_iff_getElem.mp h
  exact ⟨rs[i], List.getElem?_eq_getElem hi, by simpa using h1⟩
theorem posOf_at {rs : List Rd} {i : Nat} {q : Rd} (nd : (rs.map (·.1)).Nodup) (h : rs[i]? = some q) : posOf rs q.1 = some i := by
  refine posOf_some h (fun p hp e => ?_) rfl
  have := nd_new nd h
  exact this (by rw [← e]; exact List.mem_map_of_mem hp)
abbrev s_Town_position : Stmt := inClass (top 21) 9
abbrev N_Town_position : List Str := ["self", "name", "at", "ride"]
theorem sc_Town_position : FnScope N_Town_position ["self", "name"] (defScope s_Town_position) := ⟨rfl, rfl, rfl, by decide +kernel, rfl, by decide +kernel, by decide +kernel⟩
def sp_Town_position (K : PySem.W.Frag) : Sp := fun vs H Q E => ∃ (a : Addr) (ss : List St) (rs : List Rd) (n : Str), vs = [.ref a, .str n] ∧ (TownAt K H a ss rs ∧ n.length ≤ 1000000 ∧ (∀ i : Nat, posOf rs n = some i → ∀ H', Kp [] H H' → Q (.int i) H') ∧ (posOf rs n = none → raisesS (He.ga K "UnknownRide") "name" (.str n) H E))
theorem ok_Town_position {f : Addr} {fd : FuncData} (F : FunD K "position" "Town.position" (defArgs s_Town_position) (defBody s_Town_position) (defScope s_Town_position) [] [] f fd)
    (mN_enumerate : mg "enumerate" = none)
    (cl_Town : Cls K (He.ga K "Town"))
    (na_Town_rides : NoAttr K (He.ga K "Town") "rides")
    (X_UnknownRide : Exc1 P w K mg "UnknownRide" "name" isStrB) : FnOk P w K mg base (L2.CX P w) 2 f fd ["self", "name"] (sp_Town_position K) := by
  refine F.ok sc_Town_position (fun vs H Q E h => ?_) (fun cdv A outer s H vs Q E hr h => ⟨_, (pss_cons (ps_for (passes_of rfl) rfl (kiEnumT K mN_enumerate (pa_cons (kFld K (pu 0) rfl) pa_nil)) (kgTup K (n := 2) rfl (pgs_cons (pg_name (i := 2) sc_Town_position.nd rfl (.inl rfl)) (pgs_cons (pg_name (i := 3) sc_Town_position.nd rfl (.inl rfl)) pgs_nil))) (pss_one (us_if (ut_cmp (kEq K hr.units) (pe_ix (kIx K) (pu 3) pe_int (fun _ _ => rfl)) (pu 1) (nomark _)) (pss_one (ps_ret (pu 2))) pss_nil)))
    (pss_one (kRaise1 K rfl X_UnknownRide (hr.mono (by decide) : Room 1 _) (takes_of rfl rfl rfl rfl) (pa_cons (pu 1) pa_nil)))), ?_⟩)
  · obtain ⟨a, ss, rs, n, rfl, _⟩ := h
    rfl
  · obtain ⟨a, ss, rs, n, rfl, h⟩ := h
    obtain ⟨⟨dx, s, r, xs, ys, ha, hs, hx, hr, hy⟩, hz, hk, hE⟩ := h
    have hrs := map_still rdD rdD_still rs
    have hyl : ys.length = rs.length := by rw [hy.length]; simp
    refine ⟨a, _, _, _, _, rfl, ha, cl_Town, na_Town_rides, rfl, r, ys, rfl, SqT.of hr, for_enumT (xs := ys) (fun i σ H1 => ∃ (o2 o3 : Option V), σ = [some (.ref a), some (.str n), o2, o3] ∧ (∀ q ∈ rs.take i, q.1 ≠ n) ∧ Kp [] H H1) ⟨none, none, rfl, by simp, Kp.refl⟩ ?_ ?_ ?_⟩
    · rintro i σ H1 _ ⟨o2, o3, _, _, k1⟩
      exact SqT.of (k1.get0 hr)
    · rintro i x σ H1 T hx1 ⟨o2, o3, rfl, hno, k1⟩ hT
      obtain ⟨q, hq, rq⟩ := row_at (hy.still k1.tk0 hrs) hx1
      obtain ⟨b, rfl, hb⟩ := rp_rd rq
      have k2 := k1.trans (Kp.new (o := .tup [.int (i : Nat), .ref b]) hT)
      refine ⟨T, _, rfl, SqT.of upd_same, rfl, _, _, rfl, _, _, rfl, rfl, _, _, .inr (SqT.of (get_new hb hT)), atI_nat (j := 0) rfl, rfl, fun c => ?_, fun c => ⟨_, _, rfl, fun p hp => ?_, k2⟩⟩
      · have c : q.1 = n := by simpa [eqB] using c
        exact hk i (posOf_some hq hno c) _ k2
      · have c : ¬ q.1 = n := by simpa [eqB] using c
        rw [List.take_add_one, hq] at hp
        rcases List.mem_append.mp hp with h | h
        · exact hno p h
        · simp at h; subst h; exact c
    · rintro σ H1 ⟨o2, o3, rfl, hno, k1⟩
      rw [hyl, List.take_length] at hno
      exact ⟨.str n, rfl, ⟨n, rfl, hz⟩, fun d hd => hE (posOf_none hno) d _ upd_same (k1.trans (Kp.new hd))⟩
abbrev s_Town_empty : Stmt := inClass (top 21) 4
abbrev N_Town_empty : List Str := ["cls"]
theorem sc_Town_empty : FnScope N_Town_empty ["cls"] (defScope s_Town_empty) := ⟨rfl, rfl, rfl, by decide +kernel, rfl, by decide +kernel, by decide +kernel⟩
def sp_Town_empty (K : PySem.W.Frag) (tb : List Addr) : Sp := fun vs H Q _ => ∃ _u : Unit, vs = [.ref (He.ga K "Town")] ∧ (TbG tb H ∧ ∀ H' t, H t = none → TownAt K H' t [] [] → Kp [] H H' → Q (.ref t) H')
theorem ok_Town_empty {tb : List Addr} {f : Addr} {fd : FuncData} (F : FunD K "empty" "Town.empty" (defArgs s_Town_empty) (defBody s_Town_empty) (defScope s_Town_empty) [] [] f fd)
    (M_Town : Mkr P w K mg base CX0 3 "Town" ["self", "stations", "rides"] (sp_Town___init__ K tb)) : FnOk P w K mg base CX0 5 f fd ["cls"] (sp_Town_empty K tb) := by
  refine F.ok sc_Town_empty (fun vs H Q E h => ?_) (fun cdv A outer s H vs Q E hr h => ⟨_, PSs.nox ((pss_one (ps_ret (kMakeL K (i := 0) (E := E0) M_Town (hr.mono (by decide)) pass0 rfl (.inl rfl) (pa_cons (pe_lst pa_nil) (pa_cons (pe_lst pa_nil) pa_nil)))))), ?_⟩)
  · obtain ⟨_u, rfl, _⟩ := h
    rfl
  · obtain ⟨_u, rfl, h⟩ := h
    obtain ⟨htb, hk⟩ := h
    refine ⟨rfl, sl rfl, fun l hl => ⟨sl rfl, fun m hm => fun x dx hx hdx _ => ?_⟩⟩
    have k1 : Kp [] H (upd (upd H l (.lst [])) m (.lst [])) := (Kp.new hl).trans (Kp.new hm)
    exact mk_town (ss := []) (rs := []) ⟨[], get_new upd_same hm, .nil⟩ ⟨[], upd_same, .nil⟩ ⟨by simp, by simp, by simp, by simp, by simp⟩ ⟨by simp, by simp, by simp, by simp, by simp, by simp, by simp⟩ (TbG.keep0 htb k1) hx hdx fun H' ht k2 => hk H' x (k1.free0 hx) ht (k1.trans k2)
/-- rows stand at a: a list or a tuple -/
def RowsAt (H : Hp) (a : Addr) (ds : List Dt) : Prop := ∃ xs, (H a = some (.lst xs) ∨ H a = some (.tup xs)) ∧ RpL H xs ds
theorem LstAt.rows {H : Hp} {a : Addr} {ds : List Dt} (h : LstAt H a ds) : RowsAt H a ds := by
  obtain ⟨xs, h1, h2⟩ := h
  exact ⟨xs, .inl h1, h2⟩
theorem RowsAt.keep {H H' : Hp} {a : Addr} {ds : List Dt} (h : RowsAt H a ds) (k : Kp [] H H') : RowsAt H' a ds := by
  obtain ⟨xs, h1, h2⟩ := h
  exact ⟨xs, h1.elim (fun h => .inl (k.get0 h)) (fun h => .inr (k.get0 h)), h2.keep k⟩
abbrev s_town_of : Stmt := top 22
abbrev N_town_of : List Str := ["stations", "rides", "town"]
theorem sc_town_of : FnScope N_town_of ["stations", "rides"] (defScope s_town_of) := ⟨rfl, rfl, rfl, by decide +kernel, rfl, by decide +kernel, by decide +kernel⟩
def sp_town_of (K : PySem.W.Frag) (tb : List Addr) : Sp := fun vs H Q _ => ∃ (s r : Addr) (ss : List St) (rs : List Rd), vs = [.ref s, .ref r] ∧ (RowsAt H s (ss.map stD) ∧ RowsAt H r (rs.map rdD) ∧ TbG tb H ∧ ∀ H' t, H t = none → TownAt K H' t ss rs → Kp [] H H' → Q (.ref t) H')
theorem ok_town_of {tb : List Addr} {f : Addr} {fd : FuncData} (F : FunD K "town_of" "town_of" (defArgs s_town_of) (defBody s_town_of) (defScope s_town_of) [] [] f fd)
    (Cm_Town_empty : Cmt P w K mg base CX0 5 "Town" "empty" (sp_Town_empty K tb))
    (mr_Town : mg "Town" = some (.ref (He.ga K "Town")))
    (cl_Town : Cls K (He.ga K "Town"))
    (na_Town_stations : NoAttr K (He.ga K "Town") "stations")
    (mN_tuple : mg "tuple" = none)
    (na_Town_rides : NoAttr K (He.ga K "Town") "rides") : FnOk P w K mg base CX0 6 f fd ["stations", "rides"] (sp_town_of K tb) := by
  refine F.ok sc_town_of (fun vs H Q E h => ?_) (fun cdv A outer s H vs Q E hr h => ⟨_, PSs.nox ((pss_cons (ps_set (i := 2) sc_town_of.nd rfl (.inl rfl) (kCm0 K (E := E0) Cm_Town_empty mr_Town (hr.mono (by decide)) pass0))
    (pss_cons (kSetF K (pu 2) (pe_callTy (kTuple K) (by rfl) mN_tuple (by decide +kernel) (pa_cons (pu 0) pa_nil)) rfl)
    (pss_cons (kSetF K (pu 2) (pe_callTy (kTuple K) (by rfl) mN_tuple (by decide +kernel) (pa_cons (pu 1) pa_nil)) rfl)
    (pss_one (ps_ret (pu 2))))))), ?_⟩)
  · obtain ⟨s, r, ss, rs, rfl, _⟩ := h
    rfl
  · obtain ⟨s, r, ss, rs, rfl, h⟩ := h
    obtain ⟨hs, hr, htb, hk⟩ := h
    have sst := map_still stD stD_still ss
    have rst := map_still rdD rdD_still rs
    refine ⟨(), rfl, htb, fun H1 t ht ⟨dx, s0, r0, xs0, ys0, ha, _, _, _, _⟩ k1 => ?_⟩
    have base : ∀ l xs H2, H2 l = some (.tup xs) → RpL H2 xs (ss.map stD) → Kp [] H1 H2 → TK H1 H2 → H2 t = some (.ins (He.ga K "Town") dx (townF s0 r0)) ∧ l ≠ t ∧ Kp [] H (upd H2 t (.ins (He.ga K "Town") dx (putF "stations" (.ref l) (townF s0 r0)))) ∧ TK H2 (upd H2 t (.ins (He.ga K "Town") dx (putF "stations" (.ref l) (townF s0 r0)))) := fun l xs H2 hl rl k2 tk2 => by
      have ha2 := k2.get0 ha
      exact ⟨ha2, fun z => (by subst z; rw [ha2] at hl; cases hl), (k1.trans k2).loc ht, fun b zs e => get_ne e fun z => by subst z; rw [ha2] at e; cases e⟩
    obtain ⟨xs, h1, rl1⟩ := hs.keep k1
    have fin : ∀ l H2, H2 l = some (.tup xs) → RpL H2 xs (ss.map stD) → Kp [] H1 H2 → TK H1 H2 → ∀ m ys H4, H4 m = some (.tup ys) → RpL H4 ys (rs.map rdD) → Kp [] (upd H2 t (.ins (He.ga K "Town") dx (putF "stations" (.ref l) (townF s0 r0)))) H4 → TK (upd H2 t (.ins (He.ga K "Town") dx (putF "stations" (.ref l) (townF s0 r0)))) H4 →
        H4 t = some (.ins (He.ga K "Town") dx (townF l r0)) ∧ Q (.ref t) (upd H4 t (.ins (He.ga K "Town") dx (putF "rides" (.ref m) (townF l r0)))) := fun l H2 hl rl k2 tk2 m ys H4 hm rm k4 tk4 => by
      obtain ⟨ha2, hlt, k3, tk3⟩ := base l xs H2 hl rl k2 tk2
      have ha4 : H4 t = some (.ins (He.ga K "Town") dx (townF l r0)) := k4.get0 upd_same
      have hl4 : H4 l = some (.tup xs) := k4.get0 (get_ne hl hlt)
      have hmt : m ≠ t := fun z => by subst z; rw [ha4] at hm; cases hm
      have tk5 : TK H4 (upd H4 t (.ins (He.ga K "Town") dx (putF "rides" (.ref m) (townF l r0)))) := fun b zs e => get_ne e fun z => by subst z; rw [ha4] at e; cases e
      refine ⟨ha4, hk _ t ht ⟨dx, l, m, xs, ys, upd_same, get_ne hl4 hlt, ?_, get_ne hm hmt, rm.still tk5 rst⟩ ((k3.trans k4).loc ht)⟩
      exact rl.still (tk3.trans (tk4.trans tk5)) sst
    rcases h1 with h1 | h1
    · refine ⟨xs, .inl ⟨SqL.of h1, fun l hl => ?_⟩⟩
      have hl2 : upd H1 l (.tup xs) l = some (.tup xs) := upd_same
      have rl2 := rl1.keep (Kp.new (o := .tup xs) hl)
      have k2 : Kp [] H1 (upd H1 l (.tup xs)) := Kp.new hl
      have tk2 : TK H1 (upd H1 l (.tup xs)) := TK.new hl
      generalize upd H1 l (.tup xs) = H2 at hl2 rl2 k2 tk2 ⊢
      obtain ⟨ha2, hlt, k3, tk3⟩ := base l xs H2 hl2 rl2 k2 tk2
      refine ⟨t, _, _, _, rfl, ha2, cl_Town, na_Town_stations, Nat.le_of_ble_eq_true rfl, ?_⟩
      obtain ⟨ys, h3, rl3⟩ := hr.keep k3
      rcases h3 with h3 | h3
      · refine ⟨ys, .inl ⟨SqL.of h3, fun m hm => ?_⟩⟩
        obtain ⟨ha4, q⟩ := fin l H2 hl2 rl2 k2 tk2 m ys _ upd_same (rl3.keep (Kp.new hm)) (Kp.new hm) (TK.new hm)
        exact ⟨t, _, _, _, rfl, ha4, cl_Town, na_Town_rides, Nat.le_of_ble_eq_true rfl, q⟩
      · refine ⟨ys, .inr ⟨SqT.of h3, ?_⟩⟩
        obtain ⟨ha4, q⟩ := fin l H2 hl2 rl2 k2 tk2 r ys _ h3 rl3 Kp.refl TK.refl
        exact ⟨t, _, _, _, rfl, ha4, cl_Town, na_Town_rides, Nat.le_of_ble_eq_true rfl, q⟩
    · refine ⟨xs, .inr ⟨SqT.of h1, ?_⟩⟩
      obtain ⟨ha2, hlt, k3, tk3⟩ := base s xs H1 h1 rl1 Kp.refl TK.refl
      refine ⟨t, _, _, _, rfl, ha2, cl_Town, na_Town_stations, Nat.le_of_ble_eq_true rfl, ?_⟩
      obtain ⟨ys, h3, rl3⟩ := hr.keep k3
      rcases h3 with h3 | h3
      · refine ⟨ys, .inl ⟨SqL.of h3, fun m hm => ?_⟩⟩
        obtain ⟨ha4, q⟩ := fin s H1 h1 rl1 Kp.refl TK.refl m ys _ upd_same (rl3.keep (Kp.new hm)) (Kp.new hm) (TK.new hm)
        exact ⟨t, _, _, _, rfl, ha4, cl_Town, na_Town_rides, Nat.le_of_ble_eq_true rfl, q⟩
      · refine ⟨ys, .inr ⟨SqT.of h3, ?_⟩⟩
        obtain ⟨ha4, q⟩ := fin s H1 h1 rl1 Kp.refl TK.refl r ys _ h3 rl3 Kp.refl TK.refl
        exact ⟨t, _, _, _, rfl, ha4, cl_Town, na_Town_rides, Nat.le_of_ble_eq_true rfl, q⟩
end
end LW
set_option Elab.async false
set_option linter.all false
set_option maxRecDepth 100000
set_option maxHeartbeats 1000000
namespace LW
open PySem PySem.Spec PyProof.Rows L2 U
--  : Nat) : Stmt := PySem.Challenge.pw_manyrides_k03_text_and_town_are_each_oth.main.body.getD i (.Pass ⟨0, 0, 0, 0⟩)
section
variable {P : Program} {w : World} {K : PySem.W.Frag} {mg : Str → Option Value} {base : Heap}
/-! dicts of rows -/
theorem kvL_none {k : Str} : ∀ {ks : List Str} {xs : List V}, k ∉ ks → valV (kvL ks xs) (.inr k) = none
  | [], _, _ => by simp [kvL, valV]
  | a :: ks, [], _ => by simp [kvL, valV]
  | a :: ks, x :: xs, h => by
    have ne : ¬ (.inr a : Key) = .inr k := fun z => h (by rw [Sum.inr.inj z]; simp)
    exact (valV_neg (r := kvL ks xs) ne).trans (kvL_none fun z => h (List.mem_cons_of_mem _ z))
theorem kvL_new {k : Str} {v : V} {ks : List Str} {xs : List V} (h : k ∉ ks) (hl : ks.length = xs.length) : putK (kvL ks xs) (.inr k) v = kvL (ks ++ [k]) (xs ++ [v]) := by
  rw [putK_new v (kvL_none h)]
  unfold kvL
  rw [List.zipWith_append hl]
  rfl
theorem kvL_len {ks : List Str} {xs : List V} : (kvL ks xs).length ≤ ks.length := by simp [kvL]; omega
theorem row_get {H : Hp} {p : Addr} {xs : List V} {ss : List St} {n : Str} (e : H p = some (.dK (kvL (ss.map (·.1)) xs))) (nd : (ss.map (·.1)).Nodup) (hl : ss.length = xs.length) (hm : n ∈ ss.map (·.1)) (r : RpL H xs (ss.map stD)) :
    ∃ b s, s ∈ ss ∧ s.1 = n ∧ DGet H p (.str n) (some (.ref b)) ∧ H b = some (.tup [.str s.1, .int s.2.1, .int s.2.2]) := by
  obtain ⟨i, hi⟩ := List.mem_iff_getElem?.mp hm
  rw [List.getElem?_map] at hi
  cases es : ss[i]? with
  | none => rw [es] at hi; cases hi
  | some s =>
    rw [es] at hi
    cases hi
    obtain ⟨v, hv, rv⟩ := RpL.get r (i := i) (d := stD s) (by rw [List.getElem?_map, es]; rfl)
    obtain ⟨b, rfl, hb⟩ := rp_st rv
    refine ⟨b, s, List.mem_of_getElem? es, rfl, ?_, hb⟩
    have g := DGet.k (k := .inr s.1) e
    rw [kv_get nd (by simpa using hl) (by rw [List.getElem?_map, es]; rfl : (ss.map (·.1))[i]? = some s.1), hv] at g
    exact g
abbrev s_station_rows : Stmt := top 33
abbrev N_station_rows : List Str := ["town", "row"]
theorem sc_station_rows : FnScope N_station_rows ["town"] (defScope s_station_rows) := ⟨rfl, rfl, rfl, by decide +kernel, rfl, by decide +kernel, by decide +kernel⟩
def sp_station_rows (K : PySem.W.Frag) : Sp := fun vs H Q _ => ∃ (a : Addr) (ss : List St) (rs : List Rd), vs = [.ref a] ∧ (TownAt K H a ss rs ∧ (ss.map (·.1)).Nodup ∧ ss.length ≤ 12 ∧ ∀ H' p xs, H' p = some (.dK (kvL (ss.map (·.1)) xs)) → RpL H' xs (ss.map stD) → H p = none → Kp [] H H' → Q (.ref p) H')
theorem ok_station_rows {f : Addr} {fd : FuncData} (F : FunD K "station_rows" "station_rows" (defArgs s_station_rows) (defBody s_station_rows) (defScope s_station_rows) [] [] f fd)
    (cl_Town : Cls K (He.ga K "Town"))
    (na_Town_stations : NoAttr K (He.ga K "Town") "stations") : FnOk P w K mg base CX0 1 f fd ["town"] (sp_station_rows K) := by
  refine F.ok sc_station_rows (fun vs H Q E h => ?_) (fun cdv A outer s H vs Q E hr h => ⟨_, PSs.nox ((pss_one (ps_ret (pe_dc (own := [("row", 1)]) rfl sc_station_rows.nd (kiTup K (kFld K (pu 0) rfl)) (blkOk_by (N := N_station_rows) (sc := defScope s_station_rows) (by decide +kernel)) (fun _ _ _ _ _ => (pg_name (i := 1) sc_station_rows.nd rfl (.inl rfl))) (fun _ _ _ _ _ => pts_nil) (fun _ _ _ _ _ => (pe_ix (kIx K) (pu 1) pe_int (fun _ _ => rfl))) (fun _ _ _ _ _ => (pu 1)))))), ?_⟩)
  · obtain ⟨a, ss, rs, rfl, _⟩ := h
    rfl
  · obtain ⟨a, ss, rs, rfl, h⟩ := h
    obtain ⟨⟨dx, s, r, xs, ys, ha, hs, hx, hr, hy⟩, nd, hl, hk⟩ := h
    have hss := map_still stD stD_still ss
    have hxl : xs.length = ss.length := by rw [hx.length]; simp
    refine ⟨a, _, _, _, _, rfl, ha, cl_Town, na_Town_stations, rfl, s, rfl, ⟨_, SqT.of hs⟩, fun D hD => dc_tup (xs := xs) (fun i H1 => H1 D = some (.dK (kvL ((ss.take i).map (·.1)) (xs.take i))) ∧ Kp [] H H1) ⟨upd_same, Kp.new hD⟩ ?_ ?_ ?_⟩
    · rintro i H1 _ ⟨_, k1⟩
      exact SqT.of (k1.get0 hs)
    · rintro i x H1 hx1 ⟨hd, k1⟩
      obtain ⟨t, ht, rt⟩ := row_at (hx.still k1.tk0 hss) hx1
      obtain ⟨b, rfl, hb⟩ := rp_st rt
      have hi : i < ss.length := (List.getElem?_eq_some_iff.mp ht).1
      have e := kvL_new (v := .ref b) (xs := xs.take i) (nd_new nd ht) (by simp; omega)
      refine ⟨rfl, _, _, .inr (SqT.of hb), atI_nat (j := 0) rfl, _, .inr t.1, rfl, hd, Nat.lt_of_le_of_lt kvL_len (small12 (by simp; omega)), ?_, k1.loc hD⟩
      rw [upd_same, e, List.take_add_one, ht, List.take_add_one, hx1]
      simp
    · rintro H1 ⟨hd, k1⟩
      rw [hxl, List.take_length, ← hxl, List.take_length] at hd
      exact hk H1 D xs hd (hx.keep k1) hD k1
abbrev s_can_go : Stmt := top 34
abbrev N_can_go : List Str := ["ride", "rows", "start", "goal", "kept"]
theorem sc_can_go : FnScope N_can_go ["ride", "rows"] (defScope s_can_go) := ⟨rfl, rfl, rfl, by decide +kernel, rfl, by decide +kernel, by decide +kernel⟩
def sp_can_go (K : PySem.W.Frag) : Sp := fun vs H Q _ => ∃ (c p : Addr) (r : Rd) (ss : List St) (xs : List V), vs = [.ref c, .ref p] ∧ (H c = some (.tup [.str r.1, .str r.2.1, .str r.2.2.1, .bl r.2.2.2]) ∧ H p = some (.dK (kvL (ss.map (·.1)) xs)) ∧ RpL H xs (ss.map stD) ∧ (ss.map (·.1)).Nodup ∧ RdIn (ss.map (·.1)) r ∧ ∀ H', Kp [] H H' → Q (.bl (ableB (lk dkd ss) (lk bkd ss) r)) H')
theorem ok_can_go {f : Addr} {fd : FuncData} (F : FunD K "can_go" "can_go" (defArgs s_can_go) (defBody s_can_go) (defScope s_can_go) [] [] f fd)
    (mc_STREET : ∃ t, mg "STREET" = some (.str "street" t)) : FnOk P w K mg base CX0 1 f fd ["ride", "rows"] (sp_can_go K) := by
  refine F.ok sc_can_go (fun vs H Q E h => ?_) (fun cdv A outer s H vs Q E hr h => ⟨_, PSs.nox ((pss_cons (ps_asg (pe_slice (kSlT K) (pu 0) (po_u pe_int) po_none) (kgTup K (n := 3) rfl (pgs_cons (pg_name (i := 2) sc_can_go.nd rfl (.inl rfl)) (pgs_cons (pg_name (i := 3) sc_can_go.nd rfl (.inl rfl)) (pgs_cons (pg_name (i := 4) sc_can_go.nd rfl (.inl rfl)) pgs_nil)))))
    (C8.pss_cut (us_if (PW.pt (uw_and (ut_cmp (kNe K hr.units) (pu 2) (pg_c (v := .str "street") (cS mc_STREET)) (nomark _)) (pw_and1 (ut_cmp (kEq K hr.units) (pe_ix (kIx K) (pe_dget (hu_of hr) (pu 1) (pu 2) (fun _ _ => rfl)) pe_int (fun _ _ => rfl)) pe_int (nomark _))))) (pss_one (ps_ret pe_bl)) pss_nil)
    (pss_cons (us_if (PW.pt (uw_or (ut_cmp (kEq K hr.units) (pu 3) (pg_c (v := .str "street") (cS mc_STREET)) (nomark _)) (pw_or1 (pt_not (ut_val (pu 4)))))) (pss_one (ps_ret pe_bl)) pss_nil)
    (pss_one (ps_ret (pe_cmpR o_lt (pe_ix (kIx K) (pe_dget (hu_of hr) (pu 1) (pu 3) (fun _ _ => rfl)) pe_int (fun _ _ => rfl)) (pe_ix (kIx K) (pe_dget (hu_of hr) (pu 1) (pu 3) (fun _ _ => rfl)) pe_int (fun _ _ => rfl)) (nomark _)))))))), ?_⟩)
  · obtain ⟨c, p, r, ss, xs, rfl, _⟩ := h
    rfl
  · obtain ⟨c, p, r, ss, xs, rfl, h⟩ := h
    obtain ⟨hc, hp, hx, nd, ⟨i1, i2⟩, hk⟩ := h
    have hxl : ss.length = xs.length := by rw [hx.length]; simp
    refine ⟨_, SqT.of hc, fun z => absurd z.1 (by simp [HT.sIx]), fun _ q hq => ?_⟩
    have el : cutV [V.str r.1, .str r.2.1, .str r.2.2.1, .bl r.2.2.2] (some ((1 : Nat) : Int)) none = [.str r.2.1, .str r.2.2.1, .bl r.2.2.2] := cut_from _ 1
    have hq1 : upd H q (.tup (cutV [V.str r.1, .str r.2.1, .str r.2.2.1, .bl r.2.2.2] (some 1) none)) q = some (.tup [.str r.2.1, .str r.2.2.1, .bl r.2.2.2]) := by rw [upd_same]; exact congrArg (fun z => some (HO.tup z)) el
    have k1 : Kp [] H (upd H q (.tup (cutV [V.str r.1, .str r.2.1, .str r.2.2.1, .bl r.2.2.2] (some 1) none))) := Kp.new hq
    generalize upd H q (.tup (cutV [V.str r.1, .str r.2.1, .str r.2.2.1, .bl r.2.2.2] (some 1) none)) = H1 at hq1 k1 ⊢
    have hp1 := k1.get0 hp
    have hx1 := hx.keep k1
    refine ⟨q, _, rfl, SqT.of hq1, rfl, _, _, rfl, _, _, rfl, _, _, rfl, rfl, ?_⟩
    have bk : ∀ {n : Str}, n ∈ ss.map (·.1) → ∃ b s, s ∈ ss ∧ s.1 = n ∧ DGet H1 p (.str n) (some (.ref b)) ∧ H1 b = some (.tup [.str s.1, .int s.2.1, .int s.2.2]) ∧ lk bkd ss n = s.2.2 ∧ lk dkd ss n = s.2.1 := fun {n} hm => by
      obtain ⟨b, s, h1, h2, h3, h4⟩ := row_get hp1 nd hxl hm hx1
      exact ⟨b, s, h1, h2, h3, h4, by rw [← h2]; exact lk_at nd h1, by rw [← h2]; exact lk_at nd h1⟩
    refine ⟨fun σ H2 => σ = [some (.ref c), some (.ref p), some (.str r.2.1), some (.str r.2.2.1), some (.bl r.2.2.2)] ∧ H2 = H1 ∧ ¬ (r.2.1 ≠ ("street" : Str) ∧ lk bkd ss r.2.1 = 0), ⟨rfl, fun c1 => ?_, fun c1 => brF ⟨rfl, rfl, ?_⟩⟩, ?_⟩
    · have c1 : r.2.1 ≠ ("street" : Str) := by simpa [eqB] using c1
      obtain ⟨b, s, h1, h2, h3, h4, h5, h6⟩ := bk (i1.resolve_left c1)
      refine ⟨p, _, rfl, h3, _, _, .inr (SqT.of h4), atI_nat (j := 2) rfl, rfl, fun c2 => ?_, fun c2 => ⟨rfl, rfl, ?_⟩⟩
      · have c2 : s.2.2 = 0 := by simpa [eqB] using c2
        have e : ableB (lk dkd ss) (lk bkd ss) r = false := by unfold ableB; rw [if_pos ⟨c1, by rw [h5]; exact c2⟩]
        rw [e] at hk
        exact hk _ k1
      · have c2 : ¬ s.2.2 = 0 := by simpa [eqB] using c2
        exact fun z => c2 (by rw [← h5]; exact z.2)
    · have c1 : r.2.1 = ("street" : Str) := by simpa [eqB] using c1
      exact fun z => z.1 c1
    rintro σ H2 ⟨rfl, rfl, no⟩
    have e0 : ableB (lk dkd ss) (lk bkd ss) r = if r.2.2.2 = false ∨ r.2.2.1 = ("street" : Str) then true else decide (lk bkd ss r.2.2.1 < lk dkd ss r.2.2.1) := by unfold ableB; rw [if_neg no]
    rw [e0] at hk
    refine ⟨rfl, fun c => ?_, fun c => ?_⟩
    · have c : r.2.2.1 = ("street" : Str) := by simpa [eqB] using c
      rw [if_pos (.inr c)] at hk
      exact brT (hk _ k1)
    · have c : ¬ r.2.2.1 = ("street" : Str) := by simpa [eqB] using c
      refine brK (fun c2 => ?_) fun c2 => ?_
      · have c2 : r.2.2.2 = false := by simpa using c2
        rw [if_pos (.inl c2)] at hk
        exact hk _ k1
      · have c2 : ¬ r.2.2.2 = false := by simpa using c2
        rw [if_neg (fun z => z.elim c2 c)] at hk
        obtain ⟨b, s, h1, h2, h3, h4, h5, h6⟩ := bk (i2.resolve_left c)
        rw [h5, h6] at hk
        exact ⟨p, _, rfl, h3, _, _, .inr (SqT.of h4), atI_nat (j := 2) rfl, p, _, rfl, h3, _, _, .inr (SqT.of h4), atI_nat (j := 1) rfl, hk _ k1⟩
end
end LW
set_option Elab.async false
set_option linter.all false
set_option maxRecDepth 100000
set_option maxHeartbeats 1000000
namespace LW
open PySem PySem.Spec PyProof.Rows L2 U
--  : Nat) : Stmt := PySem.Challenge.pw_manyrides_k03_text_and_town_are_each_oth.main.body.getD i (.Pass ⟨0, 0, 0, 0⟩)
section
variable {P : Program} {w : World} {K : PySem.W.Frag} {mg : Str → Option Value} {base : Heap}
theorem ixN_nat {n j : Nat} (h : j < n) : ixN n (j : Int) = some j := by
  unfold ixN
  rw [if_pos (by omega), if_pos (by omega)]; simp
theorem seqIx_nat {n j : Nat} (h : j < n) : seqIndex? (j : Int) n = some j := (ixN_seq (ixN_nat h)).1
theorem RpL.erase {H : Hp} {vs : List V} {ds : List Dt} (k : Nat) (h : RpL H vs ds) : RpL H (vs.eraseIdx k) (ds.eraseIdx k) := by
  rw [List.eraseIdx_eq_take_drop_succ, List.eraseIdx_eq_take_drop_succ]
  exact (RpL.take k h).app (RpL.drop (k + 1) h)
theorem RpL.put {H : Hp} {v : V} {d : Dt} (r : Rp H v d) : ∀ {vs : List V} {ds : List Dt} (k : Nat), RpL H vs ds → RpL H (vs.set k v) (ds.set k d)
  | _, _, _, .nil => .nil
  | _, _, 0, .cons _ t => .cons r t
  | _, _, k + 1, .cons a t => .cons a (RpL.put r k t)
theorem stepR_kept {rs : List Rd} {k : Nat} {r : Rd} (h : ¬ r.2.2.2 = false) : stepR rs k r = rs.eraseIdx k := by
  unfold stepR
  rw [if_neg h, List.append_nil, List.eraseIdx_eq_take_drop_succ]
theorem stepR_un {rs : List Rd} {k : Nat} {r : Rd} (hk : k < rs.length) (h : r.2.2.2 = false) : stepR rs k r = rs.set k (r.1, ("street" : Str), r.2.2.1, true) := by
  unfold stepR
  rw [if_pos h, List.set_eq_take_append_cons_drop, if_pos hk]
  simp
theorem er_map {α β : Type} (f : α → β) (l : List α) (i : Nat) : (l.map f).eraseIdx i = (l.eraseIdx i).map f := by
  rw [List.eraseIdx_eq_take_drop_succ, List.eraseIdx_eq_take_drop_succ]; simp
theorem stepB_at {ss : List St} {s : St} {r : Rd} (g : GoodSt ss) (hs : s ∈ ss) (ne : r.2.1 ≠ r.2.2.1) : stepB (lk bkd ss) r s.1 = if s.1 = r.2.1 then s.2.2 - 1 else if s.1 = r.2.2.1 ∧ ¬ r.2.2.2 = false then s.2.2 + 1 else s.2.2 := by
  have e := lk_at (f := bkd) g.nd hs
  have e : lk bkd ss s.1 = s.2.2 := e
  have ns := nameB_ns (g.nm s hs)
  have a1 : (if r.2.1 ≠ ("street" : Str) then addB (lk bkd ss) r.2.1 (-1) else lk bkd ss) s.1 = if s.1 = r.2.1 then s.2.2 - 1 else s.2.2 := by
    by_cases c : r.2.1 ≠ ("street" : Str)
    · rw [if_pos c]
      unfold addB
      rw [e]
      by_cases d : s.1 = r.2.1
      · rw [if_pos d, if_pos d]; rfl
      · rw [if_neg d, if_neg d]
    · have d : ¬ s.1 = r.2.1 := fun z => ns (z.trans (by simpa using c))
      rw [if_neg c, e, if_neg d]
  unfold stepB
  generalize (if r.2.1 ≠ ("street" : Str) then addB (lk bkd ss) r.2.1 (-1) else lk bkd ss) = b1 at a1 ⊢
  by_cases c4 : r.2.2.2 = false
  · rw [if_pos c4, a1]
    by_cases d : s.1 = r.2.1
    · rw [if_pos d, if_pos d]
    · rw [if_neg d, if_neg d, if_neg (fun z => z.2 c4)]
  · rw [if_neg c4]
    by_cases c5 : r.2.2.1 ≠ ("street" : Str)
    · rw [if_pos c5]
      unfold addB
      by_cases c3 : s.1 = r.2.2.1
      · have d : ¬ s.1 = r.2.1 := fun z => ne (z.symm.trans c3)
        rw [if_pos c3, a1, if_neg d, if_neg d, if_pos ⟨c3, c4⟩]
      · rw [if_neg c3, a1]
        by_cases d : s.1 = r.2.1
        · rw [if_pos d, if_pos d]
        · rw [if_neg d, if_neg d, if_neg (fun z => c3 z.1)]
    · have c3 : ¬ s.1 = r.2.2.1 := fun z => ns (z.trans (by simpa using c5))
      rw [if_neg c5, a1]
      by_cases d : s.1 = r.2.1
      · rw [if_pos d, if_pos d]
      · rw [if_neg d, if_neg d, if_neg (fun z => c3 z.1)]
end
end LW
set_option Elab.async false
set_option linter.all false
set_option maxRecDepth 100000
set_option maxHeartbeats 1000000
namespace LW
open PySem PySem.Spec PyProof.Rows L2 U
--  : Nat) : Stmt := PySem.Challenge.pw_manyrides_k03_text_and_town_are_each_oth.main.body.getD i (.Pass ⟨0, 0, 0, 0⟩)
section
variable {P : Program} {w : World} {K : PySem.W.Frag} {mg : Str → Option Value} {base : Heap}
def fairB (ss : List St) (rs : List Rd) (s : St) : Bool := decide (0 ≤ endOf ss rs s.1) && decide (endOf ss rs s.1 ≤ s.2.1)
def unfairD (ss : List St) (rs : List Rd) : Dt := match ss.find? fun s => !fairB ss rs s with
  | some s => .tup [.str s.1, .int (endOf ss rs s.1)]
  | none => .non
def dryN (ss : List St) (rs : List Rd) : List Str := (ss.filter fun s => decide (endOf ss rs s.1 = 0)).map (·.1)
def brimN (ss : List St) (rs : List Rd) : List Str := (ss.filter fun s => decide (endOf ss rs s.1 = s.2.1)).map (·.1)
theorem find_none_take {α : Type} {f : α → Bool} {l : List α} (h : ∀ x ∈ l, f x = false) : l.find? f = none := by
  rw [List.find?_eq_none]
  intro x hx
  simp [h x hx]
theorem find_at {α : Type} {f : α → Bool} {l : List α} {i : Nat} {a : α} (hq : l[i]? = some a) (hno : ∀ x ∈ l.take i, f x = false) (h : f a = true) : l.find? f = some a := by
  rw [split_at hq, List.find?_append, find_none_take hno]
  simp [h]
theorem filt_take {α : Type} {f : α → Bool} {l : List α} {i : Nat} {a : α} (h : l[i]? = some a) : (l.take (i + 1)).filter f = (l.take i).filter f ++ (if f a = true then [a] else []) := by
  rw [List.take_add_one, h, List.filter_append]
  by_cases e : f a = true <;> simp [e]
end
end LW
set_option Elab.async false
set_option linter.all false
set_option maxRecDepth 100000
set_option maxHeartbeats 1000000
namespace LW
open PySem PySem.Spec PyProof.Rows L2 U
--  : Nat) : Stmt := PySem.Challenge.pw_manyrides_k03_text_and_town_are_each_oth.main.body.getD i (.Pass ⟨0, 0, 0, 0⟩)
section
variable {P : Program} {w : World} {K : PySem.W.Frag} {mg : Str → Option Value} {base : Heap}
def stOf (ss : List St) (n : Str) : Option St := ss.find? fun s => decide (s.1 = n)
def passesOf (rs : List Rd) : Int := (rs.map fun r => if r.2.2.2 = true then (1 : Int) else 2).sum
abbrev s_Town__row : Stmt := inClass (top 21) 5
abbrev N_Town__row : List Str := ["self", "station", "row"]
theorem sc_Town__row : FnScope N_Town__row ["self", "station"] (defScope s_Town__row) := ⟨rfl, rfl, rfl, by decide +kernel, rfl, by decide +kernel, by decide +kernel⟩
def sp_Town__row (K : PySem.W.Frag) : Sp := fun vs H Q E => ∃ (a : Addr) (ss : List St) (rs : List Rd) (n : Str), vs = [.ref a, .str n] ∧ (TownAt K H a ss rs ∧ n.length ≤ 1000000 ∧ (∀ s b, stOf ss n = some s → H b = some (.tup [.str s.1, .int s.2.1, .int s.2.2]) → Q (.ref b) H) ∧ (stOf ss n = none → raisesS (He.ga K "UnknownStation") "name" (.str n) H E))
theorem ok_Town__row {f : Addr} {fd : FuncData} (F : FunD K "_row" "Town._row" (defArgs s_Town__row) (defBody s_Town__row) (defScope s_Town__row) [] [] f fd)
    (cl_Town : Cls K (He.ga K "Town"))
    (na_Town_stations : NoAttr K (He.ga K "Town") "stations")
    (X_UnknownStation : Exc1 P w K mg "UnknownStation" "name" isStrB) : FnOk P w K mg base (L2.CX P w) 2 f fd ["self", "station"] (sp_Town__row K) := by
  refine F.ok sc_Town__row (fun vs H Q E h => ?_) (fun cdv A outer s H vs Q E hr h => ⟨_, (pss_cons (ps_for (passes_of rfl) rfl (kiTup K (kFld K (pu 0) rfl)) (pg_name (i := 2) sc_Town__row.nd rfl (.inl rfl)) (pss_one (us_if (ut_cmp (kEq K hr.units) (pe_ix (kIx K) (pu 2) pe_int (fun _ _ => rfl)) (pu 1) (nomark _)) (pss_one (ps_ret (pu 2))) pss_nil)))
    (pss_one (kRaise1 K rfl X_UnknownStation (hr.mono (by decide) : Room 1 _) (takes_of rfl rfl rfl rfl) (pa_cons (pu 1) pa_nil)))), ?_⟩)
  · obtain ⟨a, ss, rs, n, rfl, _⟩ := h
    rfl
  · obtain ⟨a, ss, rs, n, rfl, h⟩ := h
    obtain ⟨⟨dx, s, r, xs, ys, ha, hs, hx, hr, hy⟩, hz, hk, hE⟩ := h
    have hxl : xs.length = ss.length := by rw [hx.length]; simp
    refine ⟨a, _, _, _, _, rfl, ha, cl_Town, na_Town_stations, rfl, s, rfl, ⟨_, SqT.of hs⟩, for_tup (xs := xs) (fun i σ H1 => ∃ (o2 : Option V), σ = [some (.ref a), some (.str n), o2] ∧ (∀ q ∈ ss.take i, q.1 ≠ n) ∧ H1 = H) ⟨none, rfl, by simp, rfl⟩ ?_ ?_ ?_⟩
    · rintro i σ H1 _ ⟨o2, _, _, rfl⟩
      exact SqT.of hs
    · rintro i x σ H1 hx1 ⟨o2, rfl, hno, rfl⟩
      obtain ⟨q, hq, rq⟩ := row_at hx hx1
      obtain ⟨b, rfl, hb⟩ := rp_st rq
      refine ⟨_, _, .inr (SqT.of hb), atI_nat (j := 0) rfl, rfl, fun c => ?_, fun c => ⟨_, rfl, fun p hp => ?_, rfl⟩⟩
      · have c : q.1 = n := by simpa [eqB] using c
        exact hk q b (find_at hq (fun x hx => by simpa using hno x hx) (by simpa using c)) hb
      · have c : ¬ q.1 = n := by simpa [eqB] using c
        rw [List.take_add_one, hq] at hp
        rcases List.mem_append.mp hp with h | h
        · exact hno p h
        · simp at h; subst h; exact c
    · rintro σ H1 ⟨o2, rfl, hno, rfl⟩
      rw [hxl, List.take_length] at hno
      exact ⟨.str n, rfl, ⟨n, rfl, hz⟩, fun d hd => hE (find_none_take fun x hx => by simpa using hno x hx) d _ upd_same (Kp.new hd)⟩
abbrev s_Town_docks : Stmt := inClass (top 21) 6
abbrev N_Town_docks : List Str := ["self", "station"]
theorem sc_Town_docks : FnScope N_Town_docks ["self", "station"] (defScope s_Town_docks) := ⟨rfl, rfl, rfl, by decide +kernel, rfl, by decide +kernel, by decide +kernel⟩
def sp_Town_docks (K : PySem.W.Frag) : Sp := fun vs H Q E => ∃ (a : Addr) (ss : List St) (rs : List Rd) (n : Str), vs = [.ref a, .str n] ∧ (TownAt K H a ss rs ∧ n.length ≤ 1000000 ∧ (∀ s, stOf ss n = some s → Q (.int s.2.1) H) ∧ (stOf ss n = none → raisesS (He.ga K "UnknownStation") "name" (.str n) H E))
theorem ok_Town_docks {f : Addr} {fd : FuncData} (F : FunD K "docks" "Town.docks" (defArgs s_Town_docks) (defBody s_Town_docks) (defScope s_Town_docks) [] [] f fd)
    (Me__row : Met P w K mg base (L2.CX P w) 2 "Town" "_row" ["self", "station"] (sp_Town__row K)) : FnOk P w K mg base (L2.CX P w) 3 f fd ["self", "station"] (sp_Town_docks K) := by
  refine F.ok sc_Town_docks (fun vs H Q E h => ?_) (fun cdv A outer s H vs Q E hr h => ⟨_, (pss_one (ps_ret (pe_ix (kIx K) (kMeth K (E := E) Me__row (hr.mono (by decide)) (passes_call (takes_of rfl rfl rfl rfl) (fun _ _ _ _ h => h)) (pu 0) (pa_cons (pu 1) pa_nil)) pe_int (fun _ _ => rfl)))), ?_⟩)
  · obtain ⟨a, ss, rs, n, rfl, _⟩ := h
    rfl
  · obtain ⟨a, ss, rs, n, rfl, h⟩ := h
    obtain ⟨ht, hz, hk, hE⟩ := h
    obtain ⟨dx, s, r, xs, ys, ha, _⟩ := id ht
    exact ⟨a, dx, _, rfl, ha, rfl, a, ss, rs, n, rfl, ht, hz, fun s b hs hb => ⟨_, _, .inr (SqT.of hb), atI_nat (j := 1) rfl, hk s hs⟩, fun hn d H' h1 k => hE hn d H' h1 k⟩
abbrev s_Town_bikes : Stmt := inClass (top 21) 7
abbrev N_Town_bikes : List Str := ["self", "station"]
theorem sc_Town_bikes : FnScope N_Town_bikes ["self", "station"] (defScope s_Town_bikes) := ⟨rfl, rfl, rfl, by decide +kernel, rfl, by decide +kernel, by decide +kernel⟩
def sp_Town_bikes (K : PySem.W.Frag) : Sp := fun vs H Q E => ∃ (a : Addr) (ss : List St) (rs : List Rd) (n : Str), vs = [.ref a, .str n] ∧ (TownAt K H a ss rs ∧ n.length ≤ 1000000 ∧ (∀ s, stOf ss n = some s → Q (.int s.2.2) H) ∧ (stOf ss n = none → raisesS (He.ga K "UnknownStation") "name" (.str n) H E))
theorem ok_Town_bikes {f : Addr} {fd : FuncData} (F : FunD K "bikes" "Town.bikes" (defArgs s_Town_bikes) (defBody s_Town_bikes) (defScope s_Town_bikes) [] [] f fd)
    (Me__row : Met P w K mg base (L2.CX P w) 2 "Town" "_row" ["self", "station"] (sp_Town__row K)) : FnOk P w K mg base (L2.CX P w) 3 f fd ["self", "station"] (sp_Town_bikes K) := by
  refine F.ok sc_Town_bikes (fun vs H Q E h => ?_) (fun cdv A outer s H vs Q E hr h => ⟨_, (pss_one (ps_ret (pe_ix (kIx K) (kMeth K (E := E) Me__row (hr.mono (by decide)) (passes_call (takes_of rfl rfl rfl rfl) (fun _ _ _ _ h => h)) (pu 0) (pa_cons (pu 1) pa_nil)) pe_int (fun _ _ => rfl)))), ?_⟩)
  · obtain ⟨a, ss, rs, n, rfl, _⟩ := h
    rfl
  · obtain ⟨a, ss, rs, n, rfl, h⟩ := h
    obtain ⟨ht, hz, hk, hE⟩ := h
    obtain ⟨dx, s, r, xs, ys, ha, _⟩ := id ht
    exact ⟨a, dx, _, rfl, ha, rfl, a, ss, rs, n, rfl, ht, hz, fun s b hs hb => ⟨_, _, .inr (SqT.of hb), atI_nat (j := 2) rfl, hk s hs⟩, fun hn d H' h1 k => hE hn d H' h1 k⟩
abbrev s_Town_free : Stmt := inClass (top 21) 8
abbrev N_Town_free : List Str := ["self", "station", "row"]
theorem sc_Town_free : FnScope N_Town_free ["self", "station"] (defScope s_Town_free) := ⟨rfl, rfl, rfl, by decide +kernel, rfl, by decide +kernel, by decide +kernel⟩
def sp_Town_free (K : PySem.W.Frag) : Sp := fun vs H Q E => ∃ (a : Addr) (ss : List St) (rs : List Rd) (n : Str), vs = [.ref a, .str n] ∧ (TownAt K H a ss rs ∧ n.length ≤ 1000000 ∧ (∀ s, stOf ss n = some s → Q (.int (s.2.1 - s.2.2)) H) ∧ (stOf ss n = none → raisesS (He.ga K "UnknownStation") "name" (.str n) H E))
theorem ok_Town_free {f : Addr} {fd : FuncData} (F : FunD K "free" "Town.free" (defArgs s_Town_free) (defBody s_Town_free) (defScope s_Town_free) [] [] f fd)
    (Me__row : Met P w K mg base (L2.CX P w) 2 "Town" "_row" ["self", "station"] (sp_Town__row K)) : FnOk P w K mg base (L2.CX P w) 3 f fd ["self", "station"] (sp_Town_free K) := by
  refine F.ok sc_Town_free (fun vs H Q E h => ?_) (fun cdv A outer s H vs Q E hr h => ⟨_, (pss_cons (ps_set (i := 2) sc_Town_free.nd rfl (.inl rfl) (kMeth K (E := E) Me__row (hr.mono (by decide)) (passes_call (takes_of rfl rfl rfl rfl) (fun _ _ _ _ h => h)) (pu 0) (pa_cons (pu 1) pa_nil)))
    (pss_one (ps_ret (pe_op o_sub (pe_ix (kIx K) (pu 2) pe_int (fun _ _ => rfl)) (pe_ix (kIx K) (pu 2) pe_int (fun _ _ => rfl)))))), ?_⟩)
  · obtain ⟨a, ss, rs, n, rfl, _⟩ := h
    rfl
  · obtain ⟨a, ss, rs, n, rfl, h⟩ := h
    obtain ⟨ht, hz, hk, hE⟩ := h
    obtain ⟨dx, s, r, xs, ys, ha, _⟩ := id ht
    exact ⟨a, dx, _, rfl, ha, rfl, a, ss, rs, n, rfl, ht, hz, fun s b hs hb => ⟨_, _, .inr (SqT.of hb), atI_nat (j := 1) rfl, _, _, .inr (SqT.of hb), atI_nat (j := 2) rfl, hk s hs⟩, fun hn d H' h1 k => hE hn d H' h1 k⟩
abbrev s_Town_ride : Stmt := inClass (top 21) 10
abbrev N_Town_ride : List Str := ["self", "name"]
theorem sc_Town_ride : FnScope N_Town_ride ["self", "name"] (defScope s_Town_ride) := ⟨rfl, rfl, rfl, by decide +kernel, rfl, by decide +kernel, by decide +kernel⟩
def sp_Town_ride (K : PySem.W.Frag) : Sp := fun vs H Q E => ∃ (a : Addr) (ss : List St) (rs : List Rd) (n : Str), vs = [.ref a, .str n] ∧ (TownAt K H a ss rs ∧ n.length ≤ 1000000 ∧ (∀ (i : Nat) q H' b, posOf rs n = some i → rs[i]? = some q → H' b = some (.tup [.str q.1, .str q.2.1, .str q.2.2.1, .bl q.2.2.2]) → Kp [] H H' → Q (.ref b) H') ∧ (posOf rs n = none → raisesS (He.ga K "UnknownRide") "name" (.str n) H E))
theorem ok_Town_ride {f : Addr} {fd : FuncData} (F : FunD K "ride" "Town.ride" (defArgs s_Town_ride) (defBody s_Town_ride) (defScope s_Town_ride) [] [] f fd)
    (cl_Town : Cls K (He.ga K "Town"))
    (na_Town_rides : NoAttr K (He.ga K "Town") "rides")
    (Me_position : Met P w K mg base (L2.CX P w) 2 "Town" "position" ["self", "name"] (sp_Town_position K)) : FnOk P w K mg base (L2.CX P w) 3 f fd ["self", "name"] (sp_Town_ride K) := by
  refine F.ok sc_Town_ride (fun vs H Q E h => ?_) (fun cdv A outer s H vs Q E hr h => ⟨_, (pss_one (ps_ret (pe_ix (kIx K) (kFld K (pu 0) rfl) (kMeth K (E := E) Me_position (hr.mono (by decide)) (passes_call (takes_of rfl rfl rfl rfl) (fun _ _ _ _ h => h)) (pu 0) (pa_cons (pu 1) pa_nil)) (fun _ _ => rfl)))), ?_⟩)
  · obtain ⟨a, ss, rs, n, rfl, _⟩ := h
    rfl
  · obtain ⟨a, ss, rs, n, rfl, h⟩ := h
    obtain ⟨ht, hz, hk, hE⟩ := h
    obtain ⟨dx, s, r, xs, ys, ha, hs, hx, hr, hy⟩ := id ht
    refine ⟨a, _, _, _, _, rfl, ha, cl_Town, na_Town_rides, rfl, a, dx, _, rfl, ha, rfl, a, ss, rs, n, rfl, ht, hz, fun i hi H1 k1 => ?_, fun hn d H' h1 k => hE hn d H' h1 k⟩
    obtain ⟨q, hq, _⟩ := posOf_is hi
    obtain ⟨v, hv, rv⟩ := RpL.get hy (i := i) (d := rdD q) (by rw [List.getElem?_map, hq]; rfl)
    obtain ⟨b, rfl, hb⟩ := rp_rd rv
    exact ⟨_, _, .inr (SqT.of (k1.get0 hr)), atI_nat hv, hk i q _ b hi hq (k1.get0 hb) k1⟩
abbrev s_Town_passes : Stmt := inClass (top 21) 11
abbrev N_Town_passes : List Str := ["self"]
theorem sc_Town_passes : FnScope N_Town_passes ["self"] (defScope s_Town_passes) := ⟨rfl, rfl, rfl, by decide +kernel, rfl, by decide +kernel, by decide +kernel⟩
def sp_Town_passes (K : PySem.W.Frag) (tb : List Addr) : Sp := fun vs H Q _ => ∃ (a : Addr) (ss : List St) (rs : List Rd), vs = [.ref a] ∧ (TownAt K H a ss rs ∧ rs.length ≤ 24 ∧ TbG tb H ∧ ∀ H', Kp [] H H' → Q (.int (passesOf rs)) H')
theorem ok_Town_passes {tb : List Addr} {f : Addr} {fd : FuncData} (F : FunD K "passes" "Town.passes" (defArgs s_Town_passes) (defBody s_Town_passes) (defScope s_Town_passes) [] [] f fd)
    {cc PP : Addr} (hcode : fd.code = .ref cc) (TB : GxR.TabB base mg cc PP) (hPP : PP ∈ tb)
    (mN_sum : mg "sum" = none)
    (cl_Town : Cls K (He.ga K "Town"))
    (na_Town_rides : NoAttr K (He.ga K "Town") "rides") : FnOk P w K mg base CX0 1 f fd ["self"] (sp_Town_passes K tb) := by
  refine okC F hcode sc_Town_passes (fun vs H Q E h => ?_) (fun A outer s H vs Q E hr h => ⟨_, PSs.nox ((pss_one (ps_ret (ue_sumKept K (n := 3) hr mN_sum TB (kFld K (pu 0) rfl))))), ?_⟩)
  · obtain ⟨a, ss, rs, rfl, _⟩ := h
    rfl
  · obtain ⟨a, ss, rs, rfl, h⟩ := h
    obtain ⟨⟨dx, s, r, xs, ys, ha, hs, hx, hr, hy⟩, h24, htb, hk⟩ := h
    have hyl : ys.length = rs.length := by rw [hy.length]; simp
    refine ⟨a, _, _, _, _, rfl, ha, cl_Town, na_Town_rides, rfl, ys, rs.map (fun r : Rd => if r.2.2.2 = true then (1 : Int) else 2), SqT.of hr, by simp [hyl], by omega, fun i x hx => ?_, fun m hm => ?_, htb PP hPP, fun H2 hT => hk H2 (Kp.tabbed (htb PP hPP) hT)⟩
    · obtain ⟨q, hq, rq⟩ := row_at hy hx
      obtain ⟨b, rfl, hb⟩ := rp_rd rq
      exact ⟨b, _, q.2.2.2, rfl, hb, rfl, by simp [List.getD, hq]⟩
    · obtain ⟨q, _, rfl⟩ := List.mem_map.mp hm
      split <;> omega
end
end LW
set_option Elab.async false
set_option linter.all false
set_option maxRecDepth 100000
set_option maxHeartbeats 1000000
namespace LW
open PySem PySem.Spec PyProof.Rows L2 U
--  : Nat) : Stmt := PySem.Challenge.pw_manyrides_k03_text_and_town_are_each_oth.main.body.getD i (.Pass ⟨0, 0, 0, 0⟩)
section
variable {P : Program} {w : World} {K : PySem.W.Frag} {mg : Str → Option Value} {base : Heap}
theorem depthL_le {n : Nat} : ∀ {l : List Dt}, (∀ d ∈ l, d.depth ≤ n) → depthL l ≤ n
  | [], _ => by simp [depthL]
  | a :: l, h => by
    simp only [depthL]
    exact Nat.max_le.mpr ⟨h a (by simp), depthL_le fun d hd => h d (by simp [hd])⟩
theorem stD_ok (s : St) : (stD s).depth ≤ 1 ∧ (stD s).wide := ⟨by simp [stD, Dt.depth, depthL], by simp, trivial, trivial, trivial, trivial⟩
theorem rdD_ok (s : Rd) : (rdD s).depth ≤ 1 ∧ (rdD s).wide := ⟨by simp [rdD, Dt.depth, depthL], by simp, trivial, trivial, trivial, trivial, trivial⟩
theorem rows_ok {α : Type} {f : α → Dt} (h : ∀ a, (f a).depth ≤ 1 ∧ (f a).wide) (l : List α) : depthL (l.map f) ≤ 1 ∧ wideL (l.map f) := by
  refine ⟨depthL_le fun d hd => ?_, wideL_of fun d hd => ?_⟩
  all_goals obtain ⟨a, _, rfl⟩ := List.mem_map.mp hd
  · exact (h a).1
  · exact (h a).2
theorem passes_len (rs : List Rd) : passesOf rs = (rs.length : Int) + ((rs.filter fun r => !r.2.2.2).length : Int) := by
  unfold passesOf
  induction rs with
  | nil => rfl
  | cons r rs ih =>
    rw [List.map_cons, List.sum_cons, ih]
    cases e : r.2.2.2
    · simp [List.filter_cons, e]; omega
    · simp [List.filter_cons, e]; omega
theorem LcR.skip {H1 H H3 : Hp} {D : Addr} {ds : Nat → List Dt} {i : Nat} (p : LcR H1 D ds i H) (k : Kp [] H H3) (e : ds (i + 1) = ds i) : LcR H1 D ds (i + 1) H3 := by
  obtain ⟨xs, h1, h2, h3, h4⟩ := p
  exact ⟨xs, k.get0 h1, by rw [e]; exact h2.keep k, by rw [e]; exact h3, h4.trans k⟩
def ableF (ss : List St) : Rd → Bool := ableB (lk dkd ss) (lk bkd ss)
def ableN (ss : List St) (rs : List Rd) : List Str := (rs.filter (ableF ss)).map (·.1)
theorem ableN_len (ss : List St) (rs : List Rd) : (ableN ss rs).length ≤ rs.length := by
  unfold ableN
  rw [List.length_map]
  exact List.length_filter_le _ _
abbrev s_able : Stmt := top 35
abbrev N_able : List Str := ["town", "rows", "ride"]
theorem sc_able : FnScope N_able ["town"] (defScope s_able) := ⟨rfl, rfl, rfl, by decide +kernel, rfl, by decide +kernel, by decide +kernel⟩
def sp_able (K : PySem.W.Frag) : Sp := fun vs H Q _ => ∃ (a : Addr) (ss : List St) (rs : List Rd), vs = [.ref a] ∧ (TownAt K H a ss rs ∧ GoodSt ss ∧ GoodRd (ss.map (·.1)) rs ∧ ∀ H' p, H' p = some (.lst ((ableN ss rs).map V.str)) → H p = none → Kp [] H H' → Q (.ref p) H')
theorem ok_able {f : Addr} {fd : FuncData} (F : FunD K "able" "able" (defArgs s_able) (defBody s_able) (defScope s_able) [] [] f fd)
    (C_station_rows : Cal P w K mg base CX0 1 "station_rows" ["town"] (sp_station_rows K))
    (cl_Town : Cls K (He.ga K "Town"))
    (na_Town_rides : NoAttr K (He.ga K "Town") "rides")
    (C_can_go : Cal P w K mg base CX0 1 "can_go" ["ride", "rows"] (sp_can_go K)) : FnOk P w K mg base CX0 2 f fd ["town"] (sp_able K) := by
  refine F.ok sc_able (fun vs H Q E h => ?_) (fun cdv A outer s H vs Q E hr h => ⟨_, PSs.nox ((pss_cons (ps_set (i := 1) sc_able.nd rfl (.inr rfl) (ue_call (E := E0) C_station_rows (hr.mono (by decide)) rfl pass0 (pa_cons (pu 0) pa_nil)))
    (pss_one (ps_ret (pe_lc (own := [("ride", 2)]) rfl sc_able.nd (kiTup K (kFld K (pu 0) rfl)) (blkOk_by (N := N_able) (sc := defScope s_able) (by decide +kernel)) (fun _ _ _ _ _ => (pg_name (i := 2) sc_able.nd rfl (.inl rfl))) (fun _ _ _ _ _ => (pts_one (ut_val (ue_call (E := E0) C_can_go (hr.mono (by decide)) rfl pass0 (pa_cons (pu 2) (pa_cons (pu 1) pa_nil)))))) (fun _ _ _ _ _ => (pe_ix (kIx K) (pu 2) pe_int (fun _ _ => rfl)))))))), ?_⟩)
  · obtain ⟨a, ss, rs, rfl, _⟩ := h
    rfl
  · obtain ⟨a, ss, rs, rfl, h⟩ := h
    obtain ⟨ht, gs, gr, hk⟩ := h
    refine ⟨a, ss, rs, rfl, ht, gs.nd, gs.len, fun H1 p zs hp hzs hp0 k1 => ?_⟩
    obtain ⟨dx, s, r, xs, ys, ha, hs, hx, hr, hy⟩ := ht.keep k1
    have hyl : ys.length = rs.length := by rw [hy.length]; simp
    have h24 := gr.len
    refine ⟨a, _, _, _, _, rfl, ha, cl_Town, na_Town_rides, rfl, r, rfl, ⟨_, SqT.of hr⟩, fun D hD => lc_tup (xs := ys) (LcP [] H1 D fun i => (((rs.take i).filter (ableF ss)).map (·.1)).map V.str) (LcP.start hD rfl) (fun i H2 _ q => SqT.of (q.2.get0 hr)) (fun i z H2 hz2 q => ?_) fun H2 q => ?_⟩
    · obtain ⟨t, ht2, rt⟩ := row_at (hy.keep q.2) hz2
      obtain ⟨c, rfl, hc⟩ := rp_rd rt
      have tf := filt_take (f := ableF ss) ht2
      have fl : ((rs.take i).filter (ableF ss)).length ≤ 24 := Nat.le_trans (List.length_filter_le _ _) (by simp; omega)
      refine ⟨rfl, c, p, t, ss, zs, rfl, hc, q.2.get0 hp, hzs.keep q.2, gs.nd, gr.rdIn (List.mem_of_getElem? ht2), fun H3 k3 => ?_⟩
      by_cases e : ableB (lk dkd ss) (lk bkd ss) t = true
      · have e' : ableF ss t = true := e
        show if _ = true then _ else _
        rw [if_pos e]
        refine ⟨_, _, .inr (SqT.of (k3.get0 hc)), atI_nat (j := 0) rfl, q.step hD k3 (by simp) ?_ ?_⟩
        · simp only [tf]; simp [e']
        · rw [List.length_map, List.length_map]; exact small_lt' fl
      · have e' : ableF ss t = false := by simpa [ableF] using e
        show if _ = true then _ else _
        rw [if_neg e]
        exact q.skip k3 (by simp) (by simp only [tf]; simp [e'])
    have hD2 : H2 D = some (.lst (((((rs.take ys.length).filter (ableF ss)).map (·.1)).map V.str))) := q.1
    rw [hyl, List.take_length] at hD2
    exact hk _ D hD2 (k1.free0 hD) (k1.trans q.2)
abbrev s__law_passes : Stmt := top 44
abbrev N__law_passes : List Str := ["rides", "ride"]
theorem sc__law_passes : FnScope N__law_passes ["rides"] (defScope s__law_passes) := ⟨rfl, rfl, rfl, by decide +kernel, rfl, by decide +kernel, by decide +kernel⟩
def sp__law_passes (K : PySem.W.Frag) : Sp := fun vs H Q _ => ∃ (r : Addr) (rs : List Rd), vs = [.ref r] ∧ (LstAt H r (rs.map rdD) ∧ rs.length ≤ 24 ∧ ∀ H', Kp [] H H' → Q (.int (passesOf rs)) H')
theorem ok__law_passes {f : Addr} {fd : FuncData} (F : FunD K "_law_passes" "_law_passes" (defArgs s__law_passes) (defBody s__law_passes) (defScope s__law_passes) [] [] f fd)
    (mN_len : mg "len" = none) : FnOk P w K mg base CX0 1 f fd ["rides"] (sp__law_passes K) := by
  refine F.ok sc__law_passes (fun vs H Q E h => ?_) (fun cdv A outer s H vs Q E hr h => ⟨_, PSs.nox ((pss_one (ps_ret (pe_op (kAdd K) (pe_callB (kLen K) (by rfl) mN_len boot_len (pa_cons (pu 0) pa_nil)) (pe_callB (kLen K) (by rfl) mN_len boot_len (pa_cons (pe_lc (own := [("ride", 1)]) rfl sc__law_passes.nd (kiList K (pu 0)) (blkOk_by (N := N__law_passes) (sc := defScope s__law_passes) (by decide +kernel)) (fun _ _ _ _ _ => (pg_name (i := 1) sc__law_passes.nd rfl (.inl rfl))) (fun _ _ _ _ _ => (pts_one (pt_not (ut_val (pe_ix (kIx K) (pu 1) pe_int (fun _ _ => rfl)))))) (fun _ _ _ _ _ => (pu 1))) pa_nil)))))), ?_⟩)
  · obtain ⟨r, rs, rfl, _⟩ := h
    rfl
  · obtain ⟨r, rs, rfl, h⟩ := h
    obtain ⟨⟨ys, hy, ry⟩, h24, hk⟩ := h
    have hyl : ys.length = rs.length := by rw [ry.length]; simp
    have fl : ∀ m, ((rs.take m).filter fun r => !r.2.2.2).length ≤ 24 := fun m => Nat.le_trans (List.length_filter_le _ _) (by simp; omega)
    refine ⟨_, .inl ⟨_, SqL.of hy, rfl⟩, r, rfl, ⟨_, SqL.of hy⟩, fun D hD => lc_list (xs := ys) (LcR H D fun i => ((rs.take i).filter fun r => !r.2.2.2).map rdD) (LcR.start hD rfl) (fun i H4 _ q => ?_) (fun i z H4 hz4 q => ?_) fun H4 q => ?_⟩
    · obtain ⟨_, _, _, _, k⟩ := q
      exact SqL.of (k.get0 hy)
    · obtain ⟨_, _, _, _, k4⟩ := id q
      obtain ⟨t, ht4, rt⟩ := row_at (ry.keep k4) hz4
      obtain ⟨b, rfl, hb⟩ := rp_rd rt
      have tf := filt_take (f := fun r : Rd => !r.2.2.2) ht4
      refine ⟨rfl, _, _, .inr (SqT.of hb), atI_nat (j := 3) rfl, ?_⟩
      cases e : t.2.2.2 with
      | false =>
        refine q.step hD Kp.refl (d := rdD t) rt rfl ?_ ?_
        · simp only [tf]; simp [e]
        · rw [List.length_map]; exact small_lt' (fl i)
      | true => exact LcR.skip q Kp.refl (by simp only [tf]; simp [e])
    obtain ⟨us, hu, ru, _, k4⟩ := q
    dsimp only at ru
    rw [hyl, List.take_length] at ru
    have hul : us.length = (rs.filter fun r => !r.2.2.2).length := by rw [ru.length]; simp
    refine ⟨_, .inl ⟨_, SqL.of hu, rfl⟩, ?_⟩
    have := hk H4 k4
    rw [passes_len] at this
    rw [hul, hyl]
    exact this
theorem rd_keep {H H' : Hp} {a : Addr} {o : HO} (k : Kp [] H H') (h : L2.Rd H a o) (t : isTab o = false := by rfl) : L2.Rd H' a o := by
  rcases h with h | ⟨b, h⟩
  · exact .inl (k.get0 h t)
  · exact .inr ⟨b, k.get0 h⟩
theorem sq_keep {K : PySem.W.Frag} {H H' : Hp} {a : Addr} {xs : List V} (k : Kp [] H H') (h : SqL K H a xs) : SqL K H' a xs := by
  rcases h with h | h
  · exact .inl (rd_keep k h)
  · exact .inr h
theorem mk_pre {K : PySem.W.Frag} {tb : List Addr} {Hl : Hp} {l m x dx : Addr} {ss : List St} {rs : List Rd} (hl : LstAt Hl l (ss.map stD)) (hm : LstAt Hl m (rs.map rdD)) (htb : TbG tb Hl) (hx : Hl x = none) (hdx : Hl dx = none) :
    LstAt (upd (upd Hl dx (.own x)) x (.ins (He.ga K "Town") dx [])) l (ss.map stD) ∧ LstAt (upd (upd Hl dx (.own x)) x (.ins (He.ga K "Town") dx [])) m (rs.map rdD) ∧ TbG tb (upd (upd Hl dx (.own x)) x (.ins (He.ga K "Town") dx [])) ∧
    ∀ H', Kp [x] (upd (upd Hl dx (.own x)) x (.ins (He.ga K "Town") dx [])) H' → Kp [] Hl H' := by
  have k5 : Kp [] Hl (upd (upd Hl dx (.own x)) x (.ins (He.ga K "Town") dx [])) := (Kp.new hdx).loc hx
  exact ⟨hl.keep k5, hm.keep k5, TbG.keep0 htb k5, fun H' k => Kp.over k5 hx k⟩
theorem TbG.kp {tb : List Addr} {H H' : Hp} (h : TbG tb H) (k : Kp [] H H') : TbG tb H' := h.keep0 k
/-- a new town of two lists -/
theorem WorldAt.keep {H H' : Hp} {L : Addr} {ss : List St} {rs : List Rd} (h : WorldAt H L ss rs) (k : Kp [] H H') : WorldAt H' L ss rs := by
  obtain ⟨a, b, h1, h2, h3⟩ := h
  exact ⟨a, b, k.get0 h1, h2.keep k, h3.keep k⟩
end
end LW
set_option Elab.async false
set_option linter.all false
set_option maxRecDepth 100000
set_option maxHeartbeats 1000000
namespace LW
open PySem PySem.Spec PyProof.Rows L2 U
--  : Nat) : Stmt := PySem.Challenge.pw_manyrides_k03_text_and_town_are_each_oth.main.body.getD i (.Pass ⟨0, 0, 0, 0⟩)
section
variable {P : Program} {w : World} {K : PySem.W.Frag} {mg : Str → Option Value} {base : Heap}
/-! numbers, lines -/
def numT (z : Str) : Bool := decide (1 ≤ z.length) && (decide (z.length ≤ 6) && (z.cps.toList.all (inS DI) && (decide (z = ("0" : Str)) || !decide (z.cps.toList.head? = some 48))))
def txt (n : Int) : Str := Str.ofString (toString n)
def stW (s : St) : List Str := ["station", s.1, txt s.2.1, txt s.2.2]
def rdW (r : Rd) : List Str := if r.2.2.2 = true then ["ride", r.1, r.2.1, r.2.2.1] else ["ride", r.1, r.2.1, r.2.2.1, "unkept"]
theorem one_zero (c : Nat) : decide ((⟨#[c]⟩ : Str) = ("0" : Str)) = decide (c = 48) := by
  rw [decide_eq_decide]
  constructor
  · intro h
    have := congrArg (fun z : Str => z.cps.toList) h
    have e : (("0" : Str)).cps.toList = [48] := by decide +kernel
    rw [e] at this
    simpa using this
  · intro h; subst h; decide +kernel
theorem numL_head : ∀ (n : Nat), 1 ≤ n → (TL.numL n).head? ≠ some 48 := by
  intro n
  induction n using Nat.strongRecOn with
  | _ n ih =>
    intro h1
    by_cases h : n < 10
    · rw [TL.numL_lt h]
      simp; omega
    · have h := Nat.not_lt.mp h
      rw [TL.numL_step h]
      have := ih (n / 10) (by omega) (by omega)
      cases e : TL.numL (n / 10) with
      | nil => exact absurd e (TL.numL_ne _)
      | cons c l => rw [e] at this; simpa using this
theorem di_mem {c : Nat} (h1 : 48 ≤ c) (h2 : c ≤ 57) : inS DI c = true := by
  have e : DI.cps.toList = [48, 49, 50, 51, 52, 53, 54, 55, 56, 57] := by decide +kernel
  unfold inS
  rw [e]
  refine decide_eq_true ?_
  simp
  omega
theorem txt_num {n : Int} (h0 : 0 ≤ n) (h1 : n ≤ 999999) : numT (txt n) = true ∧ PySem.intText? (txt n) = some n ∧ (txt n).length ≤ 6 := by
  obtain ⟨k, rfl⟩ := Int.eq_ofNat_of_zero_le h0
  have e : (txt (k : Int)).cps.toList = TL.numL k := TL.tl_num k
  have hl : (TL.numL k).length ≤ 6 := TL.numL_len (by decide) (show k < 10 ^ 6 by omega)
  have hn : 1 ≤ (TL.numL k).length := by
    have := TL.numL_ne k
    cases q : TL.numL k with
    | nil => exact absurd q this
    | cons c l => simp
  refine ⟨?_, TL.int_num (by omega), by rw [len_cps, e]; exact hl⟩
  have ha : (TL.numL k).all (inS DI) = true := List.all_eq_true.mpr fun c hc => by
    have := TL.numL_digits k c hc
    exact di_mem this.1 this.2
  unfold numT
  rw [len_cps, e, decide_eq_true hn, decide_eq_true hl, ha]
  by_cases hz : k = 0
  · subst hz
    have : txt ((0 : Nat) : Int) = ("0" : Str) := by decide +kernel
    rw [decide_eq_true this]; rfl
  · rw [decide_eq_false (numL_head k (by omega))]
    simp
theorem ride_ne : ¬ ("ride" : Str) = ("station" : Str) := by decide +kernel
theorem mrun_hit {ks : List Pk} {tb : TS} {cs : List (List Pk × TS)} {ws : List Str} {bs : List (Nat × V)} {D : Ends} {σ : L2.St} {H : Hp} (hl : ws.length = ks.length) (hm : mEach ks ws = some bs) (h : tb D (setAll σ bs) H) : mRun ((ks, tb) :: cs) ws D σ H := by
  unfold mRun
  rw [if_pos hl, hm]
  exact h
theorem mrun_miss {ks : List Pk} {tb : TS} {cs : List (List Pk × TS)} {ws : List Str} {D : Ends} {σ : L2.St} {H : Hp} (hl : ws.length = ks.length → mEach ks ws = none) (h : mRun cs ws D σ H) : mRun ((ks, tb) :: cs) ws D σ H := by
  unfold mRun
  by_cases c : ws.length = ks.length
  · rw [if_pos c, hl c]; exact h
  · rw [if_neg c]; exact h
abbrev s_is_number : Stmt := top 19
abbrev N_is_number : List Str := ["text"]
theorem sc_is_number : FnScope N_is_number ["text"] (defScope s_is_number) := ⟨rfl, rfl, rfl, by decide +kernel, rfl, by decide +kernel, by decide +kernel⟩
def sp_is_number (K : PySem.W.Frag) (tb : List Addr) : Sp := fun vs H Q _ => ∃ z : Str, vs = [.str z] ∧ (z.length ≤ 2000000 ∧ TbG tb H ∧ ∀ H', Kp [] H H' → Q (.bl (numT z)) H')
theorem ok_is_number {tb : List Addr} {f : Addr} {fd : FuncData} (F : FunD K "is_number" "is_number" (defArgs s_is_number) (defBody s_is_number) (defScope s_is_number) [] [] f fd)
    {cc PP : Addr} (hcode : fd.code = .ref cc) (TB : GxR.TabB base mg cc PP) (hPP : PP ∈ tb)
    (mN_all : mg "all" = none)
    (mc_DIGITS : ∃ t, mg "DIGITS" = some (.str "0123456789" t))
    (mN_len : mg "len" = none)
    (mc_MOST_DIGITS : ∃ t, mg "MOST_DIGITS" = some (.int 6 t)) : FnOk P w K mg base CX0 1 f fd ["text"] (sp_is_number K tb) := by
  refine okC F hcode sc_is_number (fun vs H Q E h => ?_) (fun A outer s H vs Q E hr h => ⟨_, PSs.nox ((pss_cons (us_if (PW.pt (uw_or (pt_not (ut_chainU o_le o_le pe_int (pe_callB (kLen K) (by rfl) mN_len boot_len (pa_cons (pu 0) pa_nil)) (pg_c (v := .int 6) (cI mc_MOST_DIGITS)))) (pw_or1 (pt_not (ut_val (ue_allIn1 hr mN_all TB (pu 0) mc_DIGITS)))))) (pss_one (ps_ret pe_bl)) pss_nil)
    (pss_one (ps_ret (ue_or (pe_cmpR (kEq K hr.units) (pu 0) pe_str (nomark _)) (pe_one (pe_cmpR (kNe K hr.units) (pe_ix (kIx K) (pu 0) pe_int (fun _ _ => rfl)) pe_str (nomark _)))))))), ?_⟩)
  · obtain ⟨z, rfl, _⟩ := h
    rfl
  · obtain ⟨z, rfl, h⟩ := h
    obtain ⟨hz, htb, hk0⟩ := h
    have hk : ∀ b H', numT z = b → Kp [] H H' → Q (.bl b) H' := fun b H' e k => e ▸ hk0 H' k
    have zs : z.length ≤ sizeLine := Nat.le_trans hz (sl (by decide))
    have no1 : ¬ (1 : Int) ≤ z.length → numT z = false := fun h => by
      have h : ¬ 1 ≤ z.length := by omega
      simp [numT, h]
    have no8 : ¬ (z.length : Int) ≤ 6 → numT z = false := fun h => by
      have h : ¬ z.length ≤ 6 := by omega
      simp [numT, h]
    refine ⟨zs, fun c2 => ⟨fun c3 => brT (hk _ _ (no8 (by simpa using c3)) Kp.refl), fun c3 => ⟨htb PP hPP, fun H2 hT => ?_⟩⟩, fun c2 => brT (brT (hk _ _ (no1 (by simpa using c2)) Kp.refl))⟩
    have c2 : (1 : Int) ≤ z.length := of_decide_eq_true c2
    have c3 : (z.length : Int) ≤ 6 := by simpa using c3
    have c2' : 1 ≤ z.length := by omega
    have c3' : z.length ≤ 6 := by omega
    obtain ⟨d, hd1, hd2⟩ := head_at (z := z) (by omega)
    have k2 : Kp [] H H2 := Kp.tabbed (htb PP hPP) hT
    refine brK (fun c => ?_) fun c => ?_
    · have c : z.cps.toList.all (inS DI) = false := (Bool.not_eq_true' _).mp c
      exact hk _ _ (by simp [numT, c]) k2
    have c : z.cps.toList.all (inS DI) = true := (Bool.not_eq_false' _).mp c
    refine ⟨rfl, brK (fun c4 => ?_) fun c4 => ⟨d, zs, atI_nat (j := 0) hd2, rfl, ?_⟩⟩
    · have c4 : z = ("0" : Str) := by simpa [eqB] using c4
      exact hk _ _ (by simp only [numT, c2', c3', c, decide_true, Bool.true_and]; simp [c4]) k2
    · have c4 : ¬ z = ("0" : Str) := by simpa [eqB] using c4
      refine hk _ _ ?_ k2
      have e : eqB (.str (⟨#[d]⟩ : Str)) (.str ("0" : Str)) = decide (d = 48) := one_zero d
      simp only [numT, c2', c3', c, decide_true, Bool.true_and, decide_eq_false c4, Bool.false_or, hd1]
      rw [e]
      simp
abbrev s_Town_with_ride : Stmt := inClass (top 21) 14
abbrev N_Town_with_ride : List Str := ["self", "name", "start", "goal", "kept"]
theorem sc_Town_with_ride : FnScope N_Town_with_ride ["self", "name", "start", "goal", "kept"] (defScope s_Town_with_ride) := ⟨rfl, rfl, rfl, by decide +kernel, rfl, by decide +kernel, by decide +kernel⟩
def sp_Town_with_ride (K : PySem.W.Frag) (tb : List Addr) : Sp := fun vs H Q _ => ∃ (a : Addr) (ss : List St) (rs : List Rd) (r : Rd), vs = [.ref a, .str r.1, .str r.2.1, .str r.2.2.1, .bl r.2.2.2] ∧ (TownAt K H a ss rs ∧ GoodSt ss ∧ GoodRd (ss.map (·.1)) (rs ++ [r]) ∧ TbG tb H ∧ ∀ H' t, H t = none → TownAt K H' t ss (rs ++ [r]) → Kp [] H H' → Q (.ref t) H')
theorem ok_Town_with_ride {tb : List Addr} {f : Addr} {fd : FuncData} (F : FunD K "with_ride" "Town.with_ride" (defArgs s_Town_with_ride) (defBody s_Town_with_ride) (defScope s_Town_with_ride) [] [("kept", .bl true)] f fd)
    (M_Town : Mkr P w K mg base CX0 3 "Town" ["self", "stations", "rides"] (sp_Town___init__ K tb))
    (cl_Town : Cls K (He.ga K "Town"))
    (na_Town_rides : NoAttr K (He.ga K "Town") "rides")
    (mN_list : mg "list" = none)
    (na_Town_stations : NoAttr K (He.ga K "Town") "stations") : FnOk P w K mg base CX0 5 f fd ["self", "name", "start", "goal", "kept"] (sp_Town_with_ride K tb) := by
  refine F.ok sc_Town_with_ride (fun vs H Q E h => ?_) (fun cdv A outer s H vs Q E hr h => ⟨_, PSs.nox ((pss_one (ps_ret (kMake K (E := E0) M_Town (hr.mono (by decide)) (by rfl) pass0 (pa_cons (pe_callTy (kList K rfl) (by rfl) mN_list (by decide +kernel) (pa_cons (kFld K (pu 0) rfl) pa_nil)) (pa_cons (pe_lst (kStar K (kFld K (pu 0) rfl) (pa_cons (pe_tup (pa_cons (pu 1) (pa_cons (pu 2) (pa_cons (pu 3) (pa_cons (pu 4) pa_nil))))) pa_nil))) pa_nil)))))), ?_⟩)
  · obtain ⟨a, ss, rs, r, rfl, _⟩ := h
    rfl
  · obtain ⟨a, ss, rs, r, rfl, h⟩ := h
    obtain ⟨ht, gs, gr, htb, hk⟩ := h
    obtain ⟨dx0, s, r0, xs, ys, ha, hs, hx, hr, hy⟩ := id ht
    have h24 := gr.len
    have hyl : ys.length = rs.length := by rw [hy.length]; simp
    refine ⟨a, _, _, _, _, rfl, ha, cl_Town, na_Town_stations, rfl, xs, .inr (.inl (SqT.of hs)), fun l hl => ?_⟩
    have k1 : Kp [] H (upd H l (.lst xs)) := Kp.new hl
    refine ⟨a, _, _, _, _, rfl, k1.get0 ha, cl_Town, na_Town_rides, rfl, r0, ys, rfl, .inl (SqT.of (k1.get0 hr)), sl rfl, fun T hT => ⟨?_, fun M hM x dx hx0 hdx _ => ?_⟩⟩
    · simp at h24 ⊢; exact Nat.le_trans (show ys.length + 1 ≤ 30 by omega) (sl rfl)
    have k2 : Kp [] (upd H l (.lst xs)) (upd (upd H l (.lst xs)) T (.tup [.str r.1, .str r.2.1, .str r.2.2.1, .bl r.2.2.2])) := Kp.new hT
    have k3 : Kp [] (upd (upd H l (.lst xs)) T (.tup [.str r.1, .str r.2.1, .str r.2.2.1, .bl r.2.2.2])) (upd (upd (upd H l (.lst xs)) T (.tup [.str r.1, .str r.2.1, .str r.2.2.1, .bl r.2.2.2])) M (.lst (ys ++ [.ref T]))) := Kp.new hM
    have k03 := (k1.trans k2).trans k3
    have ll : LstAt (upd (upd (upd H l (.lst xs)) T (.tup [.str r.1, .str r.2.1, .str r.2.2.1, .bl r.2.2.2])) M (.lst (ys ++ [.ref T]))) l (ss.map stD) := ⟨xs, (k2.trans k3).get0 upd_same, hx.keep k03⟩
    have lm : LstAt (upd (upd (upd H l (.lst xs)) T (.tup [.str r.1, .str r.2.1, .str r.2.2.1, .bl r.2.2.2])) M (.lst (ys ++ [.ref T]))) M ((rs ++ [r]).map rdD) := ⟨_, upd_same, by
      rw [List.map_append]
      exact (hy.keep k03).snoc (.tup (k3.get0 upd_same) (.cons (.str _) (.cons (.str _) (.cons (.str _) (.cons (.bl _) .nil)))))⟩
    obtain ⟨q1, q2, q3, q4⟩ := mk_pre (K := K) (ss := ss) (rs := rs ++ [r]) (l := l) (m := M) ll lm (TbG.keep0 htb k03) hx0 hdx
    exact ⟨x, dx, l, M, ss, rs ++ [r], rfl, upd_same, q1, q2, gs, gr, q3, fun H7 ht7 k7 => ⟨rfl, hk _ _ (k03.free0 hx0) ht7 (k03.trans (q4 H7 k7))⟩⟩
abbrev s_with_line : Stmt := top 29
abbrev N_with_line : List Str := ["town", "line", "name", "docks", "bikes", "station", "start", "goal"]
theorem sc_with_line : FnScope N_with_line ["town", "line"] (defScope s_with_line) := ⟨rfl, rfl, rfl, by decide +kernel, rfl, by decide +kernel, by decide +kernel⟩
def sp_with_line (K : PySem.W.Frag) (tb : List Addr) : Sp := fun vs H Q _ => ∃ (a : Addr) (ss : List St) (rs : List Rd) (z : Str) (ss' : List St) (rs' : List Rd), vs = [.ref a, .str z] ∧ (TownAt K H a ss rs ∧ z.length ≤ 1000 ∧
  ((∃ s : St, Txt.split z (" " : Str) = stW s ∧ ss' = ss ++ [s] ∧ rs' = rs) ∨ (∃ r : Rd, Txt.split z (" " : Str) = rdW r ∧ ss' = ss ∧ rs' = rs ++ [r])) ∧ GoodSt ss' ∧ GoodRd (ss'.map (·.1)) rs' ∧ TbG tb H ∧ ∀ H' t, H t = none → TownAt K H' t ss' rs' → Kp [] H H' → Q (.ref t) H')
theorem ok_with_line {tb : List Addr} {f : Addr} {fd : FuncData} (F : FunD K "with_line" "with_line" (defArgs s_with_line) (defBody s_with_line) (defScope s_with_line) [] [] f fd)
    (Mn_with_ride : MetN P w K mg base CX0 5 "Town" "with_ride" 4 ["kept"] ["self", "name", "start", "goal", "kept"] (sp_Town_with_ride K tb))
    (Md_with_ride : MetD P w K mg base CX0 5 "Town" "with_ride" ["self", "name", "start", "goal", "kept"] [.bl true] (sp_Town_with_ride K tb))
    (C_is_number : Cal P w K mg base CX0 1 "is_number" ["text"] (sp_is_number K tb))
    (mN_int : mg "int" = none)
    (M_Town : Mkr P w K mg base CX0 3 "Town" ["self", "stations", "rides"] (sp_Town___init__ K tb))
    (mN_list : mg "list" = none)
    (cl_Town : Cls K (He.ga K "Town"))
    (na_Town_rides : NoAttr K (He.ga K "Town") "rides")
    (na_Town_stations : NoAttr K (He.ga K "Town") "stations") : FnOk P w K mg base CX0 6 f fd ["town", "line"] (sp_with_line K tb) := by
  refine F.ok sc_with_line (fun vs H Q E h => ?_) (fun cdv A outer s H vs Q E hr h => ⟨_, PSs.nox ((pss_cons (kMatch K rfl hr.units sc_with_line.nd (pe_m1 PySem.F.slot_str_split PySem.F.type_str_split m_split (pu 1) pe_str) (CsOk.cons (PksOk.cons (PkOk.lit pe_str) (PksOk.cons (PkOk.cap (i := 2) rfl (.inl rfl) (.inr rfl)) (PksOk.cons (PkOk.cap (i := 3) rfl (.inl rfl) (.inr rfl)) (PksOk.cons (PkOk.cap (i := 4) rfl (.inl rfl) (.inr rfl)) PksOk.nil)))) (pss_one (us_if (PW.pt (uw_and (ut_val (ue_call (E := E0) C_is_number (hr.mono (by decide)) rfl pass0 (pa_cons (pu 3) pa_nil))) (pw_and1 (ut_val (ue_call (E := E0) C_is_number (hr.mono (by decide)) rfl pass0 (pa_cons (pu 4) pa_nil)))))) (pss_cons (ps_set (i := 5) sc_with_line.nd rfl (.inl rfl) (pe_tup (pa_cons (pu 2) (pa_cons (pe_callTy c_int (by rfl) mN_int boot_int (pa_cons (pu 3) pa_nil)) (pa_cons (pe_callTy c_int (by rfl) mN_int boot_int (pa_cons (pu 4) pa_nil)) pa_nil)))))
    (pss_one (ps_ret (kMake K (E := E0) M_Town (hr.mono (by decide)) (by rfl) pass0 (pa_cons (pe_lst (kStar K (kFld K (pu 0) rfl) (pa_cons (pu 5) pa_nil))) (pa_cons (pe_callTy (kList K rfl) (by rfl) mN_list (by decide +kernel) (pa_cons (kFld K (pu 0) rfl) pa_nil)) pa_nil)))))) pss_nil)) (CsOk.cons (PksOk.cons (PkOk.lit pe_str) (PksOk.cons (PkOk.cap (i := 2) rfl (.inl rfl) (.inr rfl)) (PksOk.cons (PkOk.cap (i := 6) rfl (.inl rfl) (.inr rfl)) (PksOk.cons (PkOk.cap (i := 7) rfl (.inl rfl) (.inr rfl)) PksOk.nil)))) (pss_one (ps_ret (kMethD K (E := E0) Md_with_ride (hr.mono (by decide)) pass0 (pu 0) (pa_cons (pu 2) (pa_cons (pu 6) (pa_cons (pu 7) pa_nil)))))) (CsOk.cons (PksOk.cons (PkOk.lit pe_str) (PksOk.cons (PkOk.cap (i := 2) rfl (.inl rfl) (.inr rfl)) (PksOk.cons (PkOk.cap (i := 6) rfl (.inl rfl) (.inr rfl)) (PksOk.cons (PkOk.cap (i := 7) rfl (.inl rfl) (.inr rfl)) (PksOk.cons (PkOk.lit pe_str) PksOk.nil))))) (pss_one (ps_ret (kMethN K (E := E0) Mn_with_ride (hr.mono (by decide)) pass0 (pu 0) (pa_cons (pu 2) (pa_cons (pu 6) (pa_cons (pu 7) pa_nil))) (pk_cons pe_bl pk_nil)))) CsOk.nil))))
    (pss_one (ps_ret pe_non)))), ?_⟩)
  · obtain ⟨a, ss, rs, z, ss', rs', rfl, _⟩ := h
    rfl
  · obtain ⟨a, ss, rs, z, ss', rs', rfl, h⟩ := h
    obtain ⟨ht, hz, hsp, gs, gr, htb, hk⟩ := h
    refine ⟨⟨z, rfl⟩, by decide +kernel, Nat.le_trans (show z.length + 2 ≤ 2000 by omega) (sl rfl), fun p hp => ?_⟩
    have k1 : Kp [] H (upd H p (.lst ((Txt.split z (" " : Str)).map V.str))) := Kp.new hp
    refine ⟨p, Txt.split z (" " : Str), rfl, SqL.of upd_same, ?_⟩
    generalize upd H p (.lst ((Txt.split z (" " : Str)).map V.str)) = H1 at k1 ⊢
    obtain ⟨dx0, s0, r0, xs, ys, ha, hs, hx, hr, hy⟩ := ht.keep k1
    have hyl : ys.length = rs.length := by rw [hy.length]; simp
    have hxl : xs.length = ss.length := by rw [hx.length]; simp
    have htb1 := TbG.keep0 htb k1
    rcases hsp with ⟨⟨sn, sd, sb⟩, e, rfl, rfl⟩ | ⟨⟨rn, rst, rg, rk⟩, e, rfl, rfl⟩
    · have hm : ((sn, sd, sb) : St) ∈ ss ++ [(sn, sd, sb)] := by simp
      have b1 := gs.dk _ hm
      have b2 := gs.bk _ hm
      dsimp only at b1 b2
      obtain ⟨n1, i1, l1⟩ := txt_num (n := sd) (by omega) (by omega)
      obtain ⟨n2, i2, l2⟩ := txt_num (n := sb) (by omega) (by omega)
      have h12 := gs.len
      have h24 := gr.len
      have ew : stW (sn, sd, sb) = (["station", sn, txt sd, txt sb] : List Str) := rfl
      rw [e, ew]
      refine mrun_hit (bs := [(2, .str sn), (3, .str (txt sd)), (4, .str (txt sb))]) rfl (by simp [mEach, Pk.m]) ?_
      refine ⟨txt sd, rfl, by omega, htb1, fun H2 k2 => ?_⟩
      rw [n1]
      refine brT ⟨txt sb, rfl, by omega, TbG.keep0 htb1 k2, fun H3 k3 => ?_⟩
      rw [n2]
      have k23 := k2.trans k3
      refine brT ⟨sd, i1, by omega, sb, i2, by omega, sl rfl, fun T hT => ?_⟩
      have k4 : Kp [] H3 (upd H3 T (.tup [.str sn, .int sd, .int sb])) := Kp.new hT
      have k14 := k23.trans k4
      refine ⟨a, _, _, _, _, rfl, k14.get0 ha, cl_Town, na_Town_stations, rfl, s0, xs, rfl, .inl (SqT.of (k14.get0 hs)), ?_, fun M hM => ?_⟩
      · simp at h12 ⊢; exact Nat.le_trans (show xs.length + 1 ≤ 30 by omega) (sl rfl)
      have k5 : Kp [] (upd H3 T (.tup [.str sn, .int sd, .int sb])) (upd (upd H3 T (.tup [.str sn, .int sd, .int sb])) M (.lst (xs ++ [.ref T]))) := Kp.new hM
      have k15 := k14.trans k5
      refine ⟨a, _, _, _, _, rfl, k15.get0 ha, cl_Town, na_Town_rides, rfl, ys, .inr (.inl (SqT.of (k15.get0 hr))), fun l hl x dx hx0 hdx _ => ?_⟩
      have k6 : Kp [] (upd (upd H3 T (.tup [.str sn, .int sd, .int sb])) M (.lst (xs ++ [.ref T]))) (upd (upd (upd H3 T (.tup [.str sn, .int sd, .int sb])) M (.lst (xs ++ [.ref T]))) l (.lst ys)) := Kp.new hl
      have k16 := k15.trans k6
      have lm : LstAt (upd (upd (upd H3 T (.tup [.str sn, .int sd, .int sb])) M (.lst (xs ++ [.ref T]))) l (.lst ys)) M ((ss ++ [(sn, sd, sb)]).map stD) := ⟨_, get_new upd_same hl, by
        rw [List.map_append]
        exact (hx.keep k16).snoc (.tup ((k5.trans k6).get0 upd_same) (.cons (.str _) (.cons (.int _) (.cons (.int _) .nil))))⟩
      have ll : LstAt (upd (upd (upd H3 T (.tup [.str sn, .int sd, .int sb])) M (.lst (xs ++ [.ref T]))) l (.lst ys)) l (rs'.map rdD) := ⟨ys, upd_same, hy.keep k16⟩
      obtain ⟨q1, q2, q3, q4⟩ := mk_pre (K := K) (ss := ss ++ [(sn, sd, sb)]) (rs := rs') (l := M) (m := l) lm ll (TbG.keep0 htb1 k16) hx0 hdx
      exact ⟨x, dx, M, l, ss ++ [(sn, sd, sb)], rs', rfl, upd_same, q1, q2, gs, gr, q3, fun H7 ht7 k7 => ⟨rfl, hk _ _ ((k1.trans k16).free0 hx0) ht7 ((k1.trans k16).trans (q4 H7 k7))⟩⟩
    · cases rk with
      | true =>
        have ew : rdW (rn, rst, rg, true) = (["ride", rn, rst, rg] : List Str) := rfl
        rw [e, ew]
        refine mrun_miss (fun _ => by simp [mEach, Pk.m, ride_ne]) (mrun_hit (bs := [(2, .str rn), (6, .str rst), (7, .str rg)]) rfl (by simp [mEach, Pk.m]) ?_)
        exact ⟨a, dx0, _, rfl, ha, rfl, a, _, rs, (rn, rst, rg, true), rfl, ht.keep k1, gs, gr, htb1, fun H' t h0 ht' k => hk _ _ (k1.free0 h0) ht' (k1.trans k)⟩
      | false =>
        have ew : rdW (rn, rst, rg, false) = (["ride", rn, rst, rg, "unkept"] : List Str) := rfl
        rw [e, ew]
        refine mrun_miss (fun q => by simp at q) (mrun_miss (fun q => by simp at q) (mrun_hit (bs := [(2, .str rn), (6, .str rst), (7, .str rg)]) rfl (by simp [mEach, Pk.m]) ?_))
        exact ⟨a, dx0, _, rfl, ha, rfl, rfl, rfl, a, _, rs, (rn, rst, rg, false), rfl, ht.keep k1, gs, gr, htb1, fun H' t h0 ht' k => hk _ _ (k1.free0 h0) ht' (k1.trans k)⟩
end
end LW
set_option Elab.async false
set_option linter.all false
set_option maxRecDepth 100000
set_option maxHeartbeats 1000000
namespace LW
open PySem PySem.Spec PyProof.Rows L2 U
--  : Nat) : Stmt := PySem.Challenge.pw_manyrides_k03_text_and_town_are_each_oth.main.body.getD i (.Pass ⟨0, 0, 0, 0⟩)
section
variable {P : Program} {w : World} {K : PySem.W.Frag} {mg : Str → Option Value} {base : Heap}
/-! rows and their texts -/
abbrev Row : Type := St ⊕ Rd
def rowV : Row → List V
  | .inl s => [.str s.1, .int s.2.1, .int s.2.2]
  | .inr r => [.str r.1, .str r.2.1, .str r.2.2.1, .bl r.2.2.2]
def rowD : Row → Dt
  | .inl s => stD s
  | .inr r => rdD r
def rowW : Row → List Str
  | .inl s => stW s
  | .inr r => rdW r
def rowS (w : Row) : Str := Str.join (" " : Str) (rowW w)
def lnS (w : Row) : Str := rowS w ++ ("\n" : Str)
def textS (ws : List Row) : Str := Str.join ("" : Str) (ws.map lnS)
def RowOk : Row → Prop
  | .inl s => nameB s.1 = true ∧ 0 ≤ s.2.1 ∧ s.2.1 ≤ 999999 ∧ 0 ≤ s.2.2 ∧ s.2.2 ≤ 999999
  | .inr r => nameB r.1 = true ∧ (r.2.1 = ("street" : Str) ∨ nameB r.2.1 = true) ∧ (r.2.2.1 = ("street" : Str) ∨ nameB r.2.2.1 = true)
theorem tl_sp : TL.tl (" " : Str) = [32] := by decide +kernel
theorem tl_nl : TL.tl ("\n" : Str) = [10] := by decide +kernel
theorem tl_em : TL.tl ("" : Str) = [] := by decide +kernel
theorem tl_E : TL.tl Str.empty = [] := by decide +kernel
theorem joinL_two (s a b : List Nat) (l : List (List Nat)) : TL.joinL s (a :: b :: l) = a ++ (s ++ TL.joinL s (b :: l)) := by simp [TL.joinL]
theorem st_line (s : St) : (((((("station " : Str) ++ s.1) ++ (" " : Str)) ++ txt s.2.1) ++ (" " : Str)) ++ txt s.2.2) ++ ("\n" : Str) = lnS (.inl s) := by
  apply TL.ext_tl
  have e : TL.tl ("station " : Str) = TL.tl ("station" : Str) ++ [32] := by decide +kernel
  simp only [lnS, rowS, rowW, stW, TL.tl_append, TL.tl_join, List.map_cons, List.map_nil, tl_sp, tl_nl, e, joinL_two]
  simp [TL.joinL]
theorem rd_line (a b c : Str) : (((((("ride " : Str) ++ a) ++ (" " : Str)) ++ b) ++ (" " : Str)) ++ c) ++ ("\n" : Str) = lnS (.inr (a, b, c, true)) := by
  apply TL.ext_tl
  have e : TL.tl ("ride " : Str) = TL.tl ("ride" : Str) ++ [32] := by decide +kernel
  simp only [lnS, rowS, rowW, rdW, if_true, TL.tl_append, TL.tl_join, List.map_cons, List.map_nil, tl_sp, tl_nl, e, joinL_two]
  simp [TL.joinL]
theorem un_line (a b c : Str) : (((((("ride " : Str) ++ a) ++ (" " : Str)) ++ b) ++ (" " : Str)) ++ c) ++ (" unkept\n" : Str) = lnS (.inr (a, b, c, false)) := by
  apply TL.ext_tl
  have e : TL.tl ("ride " : Str) = TL.tl ("ride" : Str) ++ [32] := by decide +kernel
  have e2 : TL.tl (" unkept\n" : Str) = 32 :: (TL.tl ("unkept" : Str) ++ [10]) := by decide +kernel
  simp only [lnS, rowS, rowW, rdW, Bool.false_eq_true, if_false, TL.tl_append, TL.tl_join, List.map_cons, List.map_nil, tl_sp, tl_nl, e, e2, joinL_two]
  simp [TL.joinL]
theorem empty_app (a : Str) : Str.empty ++ a = a := by
  apply TL.ext_tl
  rw [TL.tl_append, tl_E]; rfl
theorem app_empty (a : Str) : a ++ ("" : Str) = a := by
  apply TL.ext_tl
  rw [TL.tl_append, tl_em]; simp
theorem app_assoc' (a b c : Str) : a ++ b ++ c = a ++ (b ++ c) := by
  apply TL.ext_tl
  simp only [TL.tl_append, List.append_assoc]
theorem un_text : (" unkept" : Str) ++ ("\n" : Str) = (" unkept\n" : Str) := by decide +kernel
theorem fitN {n : Nat} (h : n ≤ 1000) : n ≤ sizeLine := Nat.le_trans h (sl (by decide))
theorem lens : ("station " : Str).length = 8 ∧ (" " : Str).length = 1 ∧ ("\n" : Str).length = 1 ∧ ("ride " : Str).length = 5 ∧ (" unkept\n" : Str).length = 8 ∧ (" unkept" : Str).length = 7 ∧ ("" : Str).length = 0 ∧ Str.empty.length = 0 ∧ ("street" : Str).length = 6 := by decide +kernel
theorem place_len {z : Str} (h : z = ("street" : Str) ∨ nameB z = true) : z.length ≤ 8 := by
  rcases h with h | h
  · subst h; decide +kernel
  · exact nameB_len h
theorem textS_split {ws : List Row} (hf : ∀ w ∈ ws, 10 ∉ TL.tl (rowS w)) : Txt.split (textS ws) ("\n" : Str) = ws.map rowS ++ [("" : Str)] := by
  have e : textS ws = Txt.join ("\n" : Str) (ws.map rowS ++ [("" : Str)]) := by
    rw [TL.join_eq]
    apply TL.ext_tl
    unfold textS
    rw [TL.tl_join, TL.tl_join, tl_em, tl_nl]
    clear hf
    induction ws with
    | nil => rfl
    | cons w ws ih =>
      have h1 : ∀ l : List (List Nat), TL.joinL [] l = l.flatten := fun l => by
        induction l with
        | nil => rfl
        | cons a l ih =>
          cases l with
          | nil => simp [TL.joinL]
          | cons b l => rw [joinL_two, ih]; simp
      rw [h1] at ih ⊢
      simp only [List.map_cons, List.cons_append, List.flatten_cons] at ih ⊢
      rw [ih]
      cases q : (ws.map rowS ++ [("" : Str)]).map TL.tl with
      | nil => simp at q
      | cons a l => rw [joinL_two]; simp [lnS, TL.tl_append, tl_nl]
  rw [e]
  refine TL.split_join tl_nl (by decide +kernel) (by simp) fun p hp => ?_
  rcases List.mem_append.mp hp with h | h
  · obtain ⟨w, hw, rfl⟩ := List.mem_map.mp h
    exact hf w hw
  · simp at h
    subst h
    rw [tl_em]; simp
theorem name_free {z : Str} {c : Nat} (h : z = ("street" : Str) ∨ nameB z = true) (hc : c = 10 ∨ c = 32) : c ∉ TL.tl z := by
  rcases h with h | h
  · subst h
    have e : TL.tl ("street" : Str) = [115, 116, 114, 101, 101, 116] := by decide +kernel
    rw [e]
    rcases hc with rfl | rfl <;> simp
  · intro hm
    have ha : z.cps.toList.all (fun c => inS LA c || inS DI c) = true := by
      simp only [nameB, Bool.and_eq_true] at h
      exact h.2.2.2.2
    have := List.all_eq_true.mp ha c hm
    rcases hc with rfl | rfl
    · exact absurd this (by decide +kernel)
    · exact absurd this (by decide +kernel)
theorem txt_free {n : Int} {c : Nat} (h0 : 0 ≤ n) (hc : c = 10 ∨ c = 32) : c ∉ TL.tl (txt n) := by
  obtain ⟨k, rfl⟩ := Int.eq_ofNat_of_zero_le h0
  have e : TL.tl (txt (k : Int)) = TL.numL k := TL.tl_num k
  rw [e]
  exact TL.numL_free (by omega)
theorem lit_free {c : Nat} (hc : c = 10 ∨ c = 32) : c ∉ TL.tl ("station" : Str) ∧ c ∉ TL.tl ("ride" : Str) ∧ c ∉ TL.tl ("unkept" : Str) := by
  have e1 : TL.tl ("station" : Str) = [115, 116, 97, 116, 105, 111, 110] := by decide +kernel
  have e2 : TL.tl ("ride" : Str) = [114, 105, 100, 101] := by decide +kernel
  have e3 : TL.tl ("unkept" : Str) = [117, 110, 107, 101, 112, 116] := by decide +kernel
  rw [e1, e2, e3]
  rcases hc with rfl | rfl <;> simp
theorem row_free {w : Row} {c : Nat} (h : RowOk w) (hc : c = 10 ∨ c = 32) : ∀ p ∈ rowW w, c ∉ TL.tl p := by
  obtain ⟨f1, f2, f3⟩ := lit_free hc
  cases w with
  | inl s =>
    obtain ⟨hn, d0, d1, b0, b1⟩ := h
    intro p hp
    simp only [rowW, stW, List.mem_cons, List.not_mem_nil, or_false] at hp
    rcases hp with rfl | rfl | rfl | rfl
    · exact f1
    · exact name_free (.inr hn) hc
    · exact txt_free d0 hc
    · exact txt_free b0 hc
  | inr r =>
    obtain ⟨rn, rst, rg, rk⟩ := r
    obtain ⟨hn, h1, h2⟩ := h
    intro p hp
    cases rk with
    | true =>
      have hp : p ∈ (["ride", rn, rst, rg] : List Str) := hp
      simp only [List.mem_cons, List.not_mem_nil, or_false] at hp
      rcases hp with rfl | rfl | rfl | rfl
      · exact f2
      · exact name_free (.inr hn) hc
      · exact name_free h1 hc
      · exact name_free h2 hc
    | false =>
      have hp : p ∈ (["ride", rn, rst, rg, "unkept"] : List Str) := hp
      simp only [List.mem_cons, List.not_mem_nil, or_false] at hp
      rcases hp with rfl | rfl | rfl | rfl | rfl
      · exact f2
      · exact name_free (.inr hn) hc
      · exact name_free h1 hc
      · exact name_free h2 hc
      · exact f3
theorem rowW_ne (w : Row) : rowW w ≠ [] := by
  cases w with
  | inl s => simp [rowW, stW]
  | inr r => unfold rowW rdW; dsimp only; split <;> simp
theorem row_split {w : Row} (h : RowOk w) : Txt.split (rowS w) (" " : Str) = rowW w := by
  unfold rowS
  rw [← TL.join_eq]
  exact TL.split_join tl_sp (by decide +kernel) (rowW_ne w) (row_free h (.inr rfl))
theorem joinL_free {c : Nat} {s : List Nat} (hs : c ∉ s) : ∀ {l : List (List Nat)}, (∀ p ∈ l, c ∉ p) → c ∉ TL.joinL s l
  | [], _ => by simp [TL.joinL]
  | [p], h => h p (by simp)
  | p :: q :: r, h => by
    rw [joinL_two]
    have := joinL_free hs (l := q :: r) fun z hz => h z (by simp at hz ⊢; exact .inr hz)
    simp only [List.mem_append, not_or]
    exact ⟨h p (by simp), hs, this⟩
theorem rowS_free {w : Row} (h : RowOk w) : 10 ∉ TL.tl (rowS w) := by
  unfold rowS
  rw [TL.tl_join, tl_sp]
  refine joinL_free (by simp) fun p hp => ?_
  obtain ⟨z, hz, rfl⟩ := List.mem_map.mp hp
  exact row_free h (.inl rfl) z hz
abbrev s__law_line : Stmt := top 48
abbrev N__law_line : List Str := ["row"]
theorem sc__law_line : FnScope N__law_line ["row"] (defScope s__law_line) := ⟨rfl, rfl, rfl, by decide +kernel, rfl, by decide +kernel, by decide +kernel⟩
def sp__law_line (K : PySem.W.Frag) : Sp := fun vs H Q _ => ∃ (c : Addr) (w : Row), vs = [.ref c] ∧ (H c = some (.tup (rowV w)) ∧ RowOk w ∧ Q (.str (lnS w)) H)
theorem ok__law_line {f : Addr} {fd : FuncData} (F : FunD K "_law_line" "_law_line" (defArgs s__law_line) (defBody s__law_line) (defScope s__law_line) [] [] f fd)
    (mN_len : mg "len" = none)
    (mN_str : mg "str" = none) : FnOk P w K mg base CX0 1 f fd ["row"] (sp__law_line K) := by
  refine F.ok sc__law_line (fun vs H Q E h => ?_) (fun cdv A outer s H vs Q E hr h => ⟨_, PSs.nox ((pss_cons (us_if (ut_cmp (kEq K hr.units) (pe_callB (kLen K) (by rfl) mN_len boot_len (pa_cons (pu 0) pa_nil)) pe_int (nomark _)) (pss_one (ps_ret (pe_op (kAdd K) (pe_op (kAdd K) (pe_op (kAdd K) (pe_op (kAdd K) (pe_op (kAdd K) (pe_op (kAdd K) pe_str (pe_ix (kIx K) (pu 0) pe_int (fun _ _ => rfl))) pe_str) (pe_callTy c_str (by rfl) mN_str (by decide +kernel) (pa_cons (pe_ix (kIx K) (pu 0) pe_int (fun _ _ => rfl)) pa_nil))) pe_str) (pe_callTy c_str (by rfl) mN_str (by decide +kernel) (pa_cons (pe_ix (kIx K) (pu 0) pe_int (fun _ _ => rfl)) pa_nil))) pe_str))) pss_nil)
    (pss_cons (us_if (ut_val (pe_ix (kIx K) (pu 0) pe_int (fun _ _ => rfl))) (pss_one (ps_ret (pe_op (kAdd K) (pe_op (kAdd K) (pe_op (kAdd K) (pe_op (kAdd K) (pe_op (kAdd K) (pe_op (kAdd K) pe_str (pe_ix (kIx K) (pu 0) pe_int (fun _ _ => rfl))) pe_str) (pe_ix (kIx K) (pu 0) pe_int (fun _ _ => rfl))) pe_str) (pe_ix (kIx K) (pu 0) pe_int (fun _ _ => rfl))) pe_str))) pss_nil)
    (pss_one (ps_ret (pe_op (kAdd K) (pe_op (kAdd K) (pe_op (kAdd K) (pe_op (kAdd K) (pe_op (kAdd K) (pe_op (kAdd K) pe_str (pe_ix (kIx K) (pu 0) pe_int (fun _ _ => rfl))) pe_str) (pe_ix (kIx K) (pu 0) pe_int (fun _ _ => rfl))) pe_str) (pe_ix (kIx K) (pu 0) pe_int (fun _ _ => rfl))) pe_str)))))), ?_⟩)
  · obtain ⟨c, w, rfl, _⟩ := h
    rfl
  · obtain ⟨c, w, rfl, h⟩ := h
    obtain ⟨hc, hw, hk⟩ := h
    have T0 := SqT.of (K := K) hc
    obtain ⟨e1, e2, e3, e4, e5, e6, e7, e8, e9⟩ := lens
    cases w with
    | inl s =>
      obtain ⟨hn, d0, d1, b0, b1⟩ := hw
      have l0 := nameB_len hn
      have l1 := strLen (i := s.2.1) (by omega)
      have l2 := strLen (i := s.2.2) (by omega)
      refine ⟨_, .inr (.inl ⟨_, T0, rfl⟩), rfl, fun c => ⟨_, _, .inr T0, atI_nat (j := 0) rfl, fitN (by omega), fitN (by simp only [app_len]; omega), _, _, .inr T0, atI_nat (j := 1) rfl, log_small (by omega), fitN (by simp only [app_len]; omega), fitN (by simp only [app_len]; omega), _, _, .inr T0, atI_nat (j := 2) rfl, log_small (by omega), fitN (by simp only [app_len]; omega), fitN (by simp only [app_len]; omega), ?_⟩, fun c => ?_⟩
      · show Q (.str ((((((("station " : Str) ++ s.1) ++ (" " : Str)) ++ txt s.2.1) ++ (" " : Str)) ++ txt s.2.2) ++ ("\n" : Str))) H
        rw [st_line]; exact hk
      · exact nomatch (show (true : Bool) = false from c)
    | inr r =>
      obtain ⟨rn, rst, rg, rk⟩ := r
      obtain ⟨hn, h1, h2⟩ := hw
      have l0 := nameB_len hn
      have l1 := place_len h1
      have l2 := place_len h2
      dsimp only at l0 l1 l2
      refine ⟨_, .inr (.inl ⟨_, T0, rfl⟩), rfl, fun c => ?_, fun c => ⟨_, _, .inr T0, atI_nat (j := 3) rfl, ?_⟩⟩
      · exact nomatch (show (false : Bool) = true from c)
      cases rk with
      | true =>
        refine brT ⟨_, _, .inr T0, atI_nat (j := 0) rfl, fitN (show ("ride " : Str).length + rn.length ≤ 1000 by omega), fitN (by simp only [app_len]; omega), _, _, .inr T0, atI_nat (j := 1) rfl, fitN (by simp only [app_len]; omega), fitN (by simp only [app_len]; omega), _, _, .inr T0, atI_nat (j := 2) rfl, fitN (by simp only [app_len]; omega), fitN (by simp only [app_len]; omega), ?_⟩
        show Q (.str ((((((("ride " : Str) ++ rn) ++ (" " : Str)) ++ rst) ++ (" " : Str)) ++ rg) ++ ("\n" : Str))) H
        rw [rd_line]; exact hk
      | false =>
        refine brF ⟨_, _, .inr T0, atI_nat (j := 0) rfl, fitN (show ("ride " : Str).length + rn.length ≤ 1000 by omega), fitN (by simp only [app_len]; omega), _, _, .inr T0, atI_nat (j := 1) rfl, fitN (by simp only [app_len]; omega), fitN (by simp only [app_len]; omega), _, _, .inr T0, atI_nat (j := 2) rfl, fitN (by simp only [app_len]; omega), fitN (by simp only [app_len]; omega), ?_⟩
        show Q (.str ((((((("ride " : Str) ++ rn) ++ (" " : Str)) ++ rst) ++ (" " : Str)) ++ rg) ++ (" unkept\n" : Str))) H
        rw [un_line]; exact hk
end
end LW
set_option Elab.async false
set_option linter.all false
set_option maxRecDepth 100000
set_option maxHeartbeats 1000000
namespace LW
open PySem PySem.Spec PyProof.Rows L2 U
--  : Nat) : Stmt := PySem.Challenge.pw_manyrides_k03_text_and_town_are_each_oth.main.body.getD i (.Pass ⟨0, 0, 0, 0⟩)
section
variable {P : Program} {w : World} {K : PySem.W.Frag} {mg : Str → Option Value} {base : Heap}
theorem rp_row {H : Hp} {v : V} {w : Row} (h : Rp H v (rowD w)) : ∃ b, v = .ref b ∧ H b = some (.tup (rowV w)) := by
  cases w with
  | inl s => exact rp_st h
  | inr r => exact rp_rd h
theorem lnS_len {w : Row} (h : RowOk w) : (lnS w).length ≤ 100 := by
  obtain ⟨e1, e2, e3, e4, e5, e6, e7, e8, e9⟩ := lens
  cases w with
  | inl s =>
    obtain ⟨hn, d0, d1, b0, b1⟩ := h
    have l0 := nameB_len hn
    have l1 := (txt_num d0 d1).2.2
    have l2 := (txt_num b0 b1).2.2
    rw [← st_line]
    simp only [app_len]; omega
  | inr r =>
    obtain ⟨rn, rst, rg, rk⟩ := r
    obtain ⟨hn, h1, h2⟩ := h
    have l0 := nameB_len hn
    have l1 := place_len h1
    have l2 := place_len h2
    dsimp only at l0 l1 l2
    cases rk with
    | true => rw [← rd_line]; simp only [app_len]; omega
    | false => rw [← un_line]; simp only [app_len]; omega
theorem rowS_len {w : Row} (h : RowOk w) : (rowS w).length ≤ 100 := by
  have := lnS_len h
  unfold lnS at this
  rw [app_len] at this
  omega
theorem lines_fit {ws : List Row} (h : ∀ w ∈ ws, RowOk w) (hl : ws.length ≤ 36) : ((ws.map lnS).map (·.length)).sum + (ws.map lnS).length * ("" : Str).length ≤ 16777216 := by
  have := sum_len (ls := ws.map lnS) fun x hx => by
    obtain ⟨w, hw, rfl⟩ := List.mem_map.mp hx
    exact lnS_len (h w hw)
  have e : ("" : Str).length = 0 := by decide +kernel
  rw [e, List.length_map] at *
  omega
theorem textS_len {ws : List Row} (h : ∀ w ∈ ws, RowOk w) (hl : ws.length ≤ 36) : (textS ws).length ≤ 3600 := by
  have : ∀ us : List Row, (∀ w ∈ us, RowOk w) → (textS us).length ≤ 100 * us.length := by
    intro us hu
    unfold textS
    rw [len_cps]
    show (TL.tl _).length ≤ _
    rw [TL.tl_join, tl_em]
    induction us with
    | nil => simp [TL.joinL]
    | cons w us ih =>
      have h1 : ∀ l : List (List Nat), TL.joinL [] l = l.flatten := fun l => by
        induction l with
        | nil => rfl
        | cons a l ih =>
          cases l with
          | nil => simp [TL.joinL]
          | cons b l => rw [joinL_two, ih]; simp
      rw [h1] at ih ⊢
      have i1 := ih fun w hw => hu w (by simp [hw])
      have i2 := lnS_len (hu w (by simp))
      rw [len_cps] at i2
      simp only [List.map_cons, List.flatten_cons, List.length_append, List.length_cons] at i1 ⊢
      have i2 : (TL.tl (lnS w)).length ≤ 100 := i2
      omega
  exact Nat.le_trans (this ws h) (by omega)
theorem good_row {ss : List St} {rs : List Rd} (g : GoodSt ss) (gr : GoodRd (ss.map (·.1)) rs) : (∀ s ∈ ss, RowOk (.inl s)) ∧ ∀ r ∈ rs, RowOk (.inr r) := by
  have nm : ∀ n, n ∈ ss.map (·.1) → nameB n = true := fun n hn => by
    obtain ⟨t, ht, rfl⟩ := List.mem_map.mp hn
    exact g.nm t ht
  refine ⟨fun s hs => ?_, fun r hr => ⟨gr.nm r hr, (gr.st r hr).imp id (nm _), (gr.go r hr).imp id (nm _)⟩⟩
  have dk := g.dk s hs
  have bk := g.bk s hs
  exact ⟨g.nm s hs, by omega, by omega, by omega, by omega⟩
theorem row_still (w : Row) : (rowD w).still = true := by cases w <;> rfl
abbrev s__law_text : Stmt := top 49
abbrev N__law_text : List Str := ["rows", "row"]
theorem sc__law_text : FnScope N__law_text ["rows"] (defScope s__law_text) := ⟨rfl, rfl, rfl, by decide +kernel, rfl, by decide +kernel, by decide +kernel⟩
def sp__law_text (K : PySem.W.Frag) : Sp := fun vs H Q _ => ∃ (l : Addr) (ws : List Row), vs = [.ref l] ∧ (LstAt H l (ws.map rowD) ∧ (∀ w ∈ ws, RowOk w) ∧ ws.length ≤ 36 ∧ ∀ H', Kp [] H H' → Q (.str (textS ws)) H')
theorem ok__law_text {f : Addr} {fd : FuncData} (F : FunD K "_law_text" "_law_text" (defArgs s__law_text) (defBody s__law_text) (defScope s__law_text) [] [] f fd)
    (C__law_line : Cal P w K mg base CX0 1 "_law_line" ["row"] (sp__law_line K)) : FnOk P w K mg base CX0 2 f fd ["rows"] (sp__law_text K) := by
  refine F.ok sc__law_text (fun vs H Q E h => ?_) (fun cdv A outer s H vs Q E hr h => ⟨_, PSs.nox ((pss_one (ps_ret (pe_m1 PySem.F.slot_str_join PySem.F.type_str_join (kJoin K) pe_str (pe_lc (own := [("row", 1)]) rfl sc__law_text.nd (kiList K (pu 0)) (blkOk_by (N := N__law_text) (sc := defScope s__law_text) (by decide +kernel)) (fun _ _ _ _ _ => (pg_name (i := 1) sc__law_text.nd rfl (.inl rfl))) (fun _ _ _ _ _ => pts_nil) (fun _ _ _ _ _ => (ue_call (E := E0) C__law_line (hr.mono (by decide)) rfl pass0 (pa_cons (pu 1) pa_nil)))))))), ?_⟩)
  · obtain ⟨l, ws, rfl, _⟩ := h
    rfl
  · obtain ⟨l, ws, rfl, h⟩ := h
    obtain ⟨⟨xs, hx, rx⟩, hw, hl, hk⟩ := h
    have hxl : xs.length = ws.length := by rw [rx.length]; simp
    refine ⟨⟨_, rfl⟩, l, rfl, ⟨_, SqL.of hx⟩, fun D hD => lc_list (xs := xs) (LcP [] H D fun i => ((ws.take i).map lnS).map V.str) (LcP.start hD rfl) (fun i H2 _ q => SqL.of (q.2.get0 hx)) (fun i z H2 hz2 q => ?_) fun H2 q => ?_⟩
    · obtain ⟨w, hw2, rw2⟩ := row_at (rx.keep q.2) hz2
      obtain ⟨b, rfl, hb⟩ := rp_row rw2
      refine ⟨rfl, b, w, rfl, hb, hw w (List.mem_of_getElem? hw2), q.step hD Kp.refl (by simp) ?_ ?_⟩
      · rw [take_map hw2]; simp
      · simp; exact Nat.lt_of_lt_of_le (show min i ws.length < 100 by omega) (sl rfl)
    have hD2 : H2 D = some (.lst (((ws.take xs.length).map lnS).map V.str)) := q.1
    rw [hxl, List.take_length] at hD2
    exact ⟨ws.map lnS, .inl (SqL.of hD2), lines_fit hw hl, hk H2 q.2⟩
abbrev s_write_town : Stmt := top 27
abbrev N_write_town : List Str := ["town", "name", "lines", "start", "goal", "kept", "ending", "docks", "bikes"]
theorem sc_write_town : FnScope N_write_town ["town"] (defScope s_write_town) := ⟨rfl, rfl, rfl, by decide +kernel, rfl, by decide +kernel, by decide +kernel⟩
def sp_write_town (K : PySem.W.Frag) : Sp := fun vs H Q _ => ∃ (a : Addr) (ss : List St) (rs : List Rd), vs = [.ref a] ∧ (TownAt K H a ss rs ∧ GoodSt ss ∧ GoodRd (ss.map (·.1)) rs ∧ ∀ H', Kp [] H H' → Q (.str (textS (ss.map .inl ++ rs.map .inr))) H')
theorem ok_write_town {f : Addr} {fd : FuncData} (F : FunD K "write_town" "write_town" (defArgs s_write_town) (defBody s_write_town) (defScope s_write_town) [] [] f fd)
    (cl_Town : Cls K (He.ga K "Town"))
    (na_Town_stations : NoAttr K (He.ga K "Town") "stations")
    (na_Town_rides : NoAttr K (He.ga K "Town") "rides") : FnOk P w K mg base CX0 1 f fd ["town"] (sp_write_town K) := by
  refine F.ok sc_write_town (fun vs H Q E h => ?_) (fun cdv A outer s H vs Q E hr h => ⟨_, PSs.nox ((pss_cons (ps_setLc (i := 2) (own := [("name", 1), ("docks", 7), ("bikes", 8)]) rfl sc_write_town.nd rfl rfl (sw_true rfl rfl rfl (by decide +kernel)) (kiTup K (kFld K (pu 0) rfl)) (blkOk_by (N := N_write_town) (sc := defScope s_write_town) (by decide +kernel)) (fun _ _ _ _ _ => (kgTup K (n := 3) rfl (pgs_cons (pg_name (i := 1) sc_write_town.nd rfl (.inl rfl)) (pgs_cons (pg_name (i := 7) sc_write_town.nd rfl (.inl rfl)) (pgs_cons (pg_name (i := 8) sc_write_town.nd rfl (.inl rfl)) pgs_nil))))) (fun _ _ _ _ _ => pts_nil) (fun _ _ _ _ _ => (pe_joined (PJ.cons pe_str (PJ.cons (pe_fmt (pu 1)) (PJ.cons pe_str (PJ.cons (pe_fmt (pu 7)) (PJ.cons pe_str (PJ.cons (pe_fmt (pu 8)) (PJ.cons pe_str PJ.nil))))))))))
    (pss_cons (ps_for PassesOwn.never rfl (kiTup K (kFld K (pu 0) rfl)) (kgTup K (n := 4) rfl (pgs_cons (pg_name (i := 1) sc_write_town.nd rfl (.inl rfl)) (pgs_cons (pg_name (i := 3) sc_write_town.nd rfl (.inl rfl)) (pgs_cons (pg_name (i := 4) sc_write_town.nd rfl (.inl rfl)) (pgs_cons (pg_name (i := 5) sc_write_town.nd rfl (.inl rfl)) pgs_nil))))) (pss_cons (ps_set (i := 6) sc_write_town.nd rfl (.inl rfl) (ue_if (ut_val (pu 5)) pe_str pe_str))
    (pss_one (ps_expr (ue_append (pu 2) (pa_cons (pe_joined (PJ.cons pe_str (PJ.cons (pe_fmt (pu 1)) (PJ.cons pe_str (PJ.cons (pe_fmt (pu 3)) (PJ.cons pe_str (PJ.cons (pe_fmt (pu 4)) (PJ.cons (pe_fmt (pu 6)) (PJ.cons pe_str PJ.nil))))))))) pa_nil))))))
    (pss_one (ps_ret (pe_m1 PySem.F.slot_str_join PySem.F.type_str_join (kJoin K) pe_str (pu 2))))))), ?_⟩)
  · obtain ⟨a, ss, rs, rfl, _⟩ := h
    rfl
  · obtain ⟨a, ss, rs, rfl, h⟩ := h
    obtain ⟨⟨dx, s, r, xs, ys, ha, hs, hx, hr, hy⟩, g, gr, hk⟩ := h
    have hxl : xs.length = ss.length := by rw [hx.length]; simp
    have hyl : ys.length = rs.length := by rw [hy.length]; simp
    have h12 := g.len
    have h24 := gr.len
    obtain ⟨e1, e2, e3, e4, e5, e6, e7, e8, e9⟩ := lens
    refine ⟨a, _, _, _, _, rfl, ha, cl_Town, na_Town_stations, rfl, s, rfl, ⟨_, SqT.of hs⟩, fun L hL => lc_tup (K := K) (te := fun σ H Q => tJs [tC (.str ("station " : Str)), tFmt (uV 1), tC (.str (" " : Str)), tFmt (uV 7), tC (.str (" " : Str)), tFmt (uV 8), tC (.str ("\n" : Str))] Str.empty σ H fun out H1 => Q (.str out) H1) (vs := [1, 7, 8]) (xs := xs) (LcP [] H L fun i => ((ss.take i).map fun s => lnS (.inl s)).map V.str) (LcP.start hL rfl) (fun i H2 _ q => SqT.of (q.2.get0 hs)) (fun i z H2 hz2 q => ?_) fun H2 q => ?_⟩
    · obtain ⟨t, ht2, rt⟩ := row_at (hx.keep q.2) hz2
      obtain ⟨b, rfl, hb⟩ := rp_st rt
      have hm := List.mem_of_getElem? ht2
      have dk := g.dk t hm
      have bk := g.bk t hm
      have l0 := nameB_len (g.nm t hm)
      have l1 := strLen (i := t.2.1) (by omega)
      have l2 := strLen (i := t.2.2) (by omega)
      refine ⟨b, _, rfl, SqT.of hb, rfl, _, _, rfl, _, _, rfl, _, _, rfl, rfl, rfl, ?_⟩
      have e : ((((((Str.empty ++ ("station " : Str)) ++ t.1) ++ (" " : Str)) ++ txt t.2.1) ++ (" " : Str)) ++ txt t.2.2) ++ ("\n" : Str) = lnS (.inl t) := by rw [empty_app]; exact st_line t
      refine ⟨_, rfl, fitN (by simp only [app_len]; omega), .inl ⟨t.1, rfl, fitN (by omega), _, rfl, fitN (by simp only [app_len]; omega), _, rfl, fitN (by simp only [app_len]; omega), .inr ⟨t.2.1, rfl, log_small (by omega), _, rfl, fitN (by simp only [app_len]; omega), _, rfl, fitN (by simp only [app_len]; omega), .inr ⟨t.2.2, rfl, log_small (by omega), _, rfl, fitN (by simp only [app_len]; omega), _, rfl, fitN (by simp only [app_len]; omega), q.step hL Kp.refl (by simp) ?_ ?_⟩⟩⟩⟩
      · show _ = _ ++ [V.str (((((((Str.empty ++ ("station " : Str)) ++ t.1) ++ (" " : Str)) ++ txt t.2.1) ++ (" " : Str)) ++ txt t.2.2) ++ ("\n" : Str))]
        rw [e, take_map ht2]; simp
      · simp; exact small12 (by omega)
    have hL2 : H2 L = some (.lst (((ss.take xs.length).map fun s => lnS (.inl s)).map V.str)) := q.1
    rw [hxl, List.take_length] at hL2
    have k2 := q.2
    refine ⟨a, _, _, _, _, rfl, k2.get0 ha, cl_Town, na_Town_rides, rfl, r, rfl, ⟨_, SqT.of (k2.get0 hr)⟩, for_tup (xs := ys) (fun i σ H3 => ∃ (o1 o3 o4 o5 o6 : Option V), σ = [some (.ref a), o1, some (.ref L), o3, o4, o5, o6, none, none] ∧ H3 L = some (.lst (((ss.map fun s => lnS (.inl s)) ++ (rs.take i).map fun r => lnS (.inr r)).map V.str)) ∧ Kp [] H H3) ⟨none, none, none, none, none, rfl, by rw [List.take_zero, List.map_nil, List.append_nil]; exact hL2, k2⟩ ?_ ?_ ?_⟩
    · rintro i σ H3 _ ⟨o1, o3, o4, o5, o6, _, _, k3⟩
      exact SqT.of (k3.get0 hr)
    · rintro i x σ H3 hx3 ⟨o1, o3, o4, o5, o6, rfl, hL3, k3⟩
      obtain ⟨t, ht, rt⟩ := row_at (hy.keep k3) hx3
      obtain ⟨b, rfl, hb⟩ := rp_rd rt
      have hm := List.mem_of_getElem? ht
      have ok := (good_row g gr).2 t hm
      obtain ⟨rn, rst, rg, rk⟩ := t
      obtain ⟨n0, n1, n2⟩ := ok
      have l0 := nameB_len n0
      have l1 := place_len n1
      have l2 := place_len n2
      dsimp only at l0 l1 l2
      have sm : (((ss.map fun s => lnS (.inl s)) ++ (rs.take i).map fun r => lnS (.inr r)).map V.str).length < sizeLine := by
        simp; exact Nat.lt_of_lt_of_le (show ss.length + min i rs.length < 100 by omega) (sl rfl)
      have nx : ((ss.map fun s => lnS (.inl s)) ++ (rs.take (i + 1)).map fun r => lnS (.inr r)).map V.str = ((ss.map fun s => lnS (.inl s)) ++ (rs.take i).map fun r => lnS (.inr r)).map V.str ++ [V.str (lnS (.inr (rn, rst, rg, rk)))] := by
        rw [take_map ht]; simp
      refine ⟨b, _, rfl, SqT.of hb, rfl, _, _, rfl, _, _, rfl, _, _, rfl, _, _, rfl, rfl, ?_⟩
      cases rk with
      | true =>
        have e : (((((((Str.empty ++ ("ride " : Str)) ++ rn) ++ (" " : Str)) ++ rst) ++ (" " : Str)) ++ rg) ++ ("" : Str)) ++ ("\n" : Str) = lnS (.inr (rn, rst, rg, true)) := by rw [empty_app, app_empty]; exact rd_line rn rst rg
        refine brT ⟨⟨_, hL3⟩, _, rfl, fitN (by simp only [app_len]; omega), .inl ⟨rn, rfl, fitN (by omega), _, rfl, fitN (by simp only [app_len]; omega), _, rfl, fitN (by simp only [app_len]; omega), .inl ⟨rst, rfl, fitN (by omega), _, rfl, fitN (by simp only [app_len]; omega), _, rfl, fitN (by simp only [app_len]; omega), .inl ⟨rg, rfl, fitN (by omega), _, rfl, fitN (by simp only [app_len]; omega), .inl ⟨_, rfl, fitN (by omega), _, rfl, fitN (by simp only [app_len]; omega), _, rfl, fitN (by simp only [app_len]; omega), _, hL3, sm, _, _, _, _, _, rfl, ?_, k3.loc hL⟩⟩⟩⟩⟩
        rw [upd_same, nx, ← e]
      | false =>
        have e : (((((((Str.empty ++ ("ride " : Str)) ++ rn) ++ (" " : Str)) ++ rst) ++ (" " : Str)) ++ rg) ++ (" unkept" : Str)) ++ ("\n" : Str) = lnS (.inr (rn, rst, rg, false)) := by rw [empty_app, app_assoc' _ (" unkept" : Str), un_text]; exact un_line rn rst rg
        refine brF ⟨⟨_, hL3⟩, _, rfl, fitN (by simp only [app_len]; omega), .inl ⟨rn, rfl, fitN (by omega), _, rfl, fitN (by simp only [app_len]; omega), _, rfl, fitN (by simp only [app_len]; omega), .inl ⟨rst, rfl, fitN (by omega), _, rfl, fitN (by simp only [app_len]; omega), _, rfl, fitN (by simp only [app_len]; omega), .inl ⟨rg, rfl, fitN (by omega), _, rfl, fitN (by simp only [app_len]; omega), .inl ⟨_, rfl, fitN (by omega), _, rfl, fitN (by simp only [app_len]; omega), _, rfl, fitN (by simp only [app_len]; omega), _, hL3, sm, _, _, _, _, _, rfl, ?_, k3.loc hL⟩⟩⟩⟩⟩
        rw [upd_same, nx, ← e]
    · rintro σ H3 ⟨o1, o3, o4, o5, o6, rfl, hL3, k3⟩
      rw [hyl, List.take_length] at hL3
      have ew : (ss.map fun s => lnS (.inl s)) ++ (rs.map fun r => lnS (.inr r)) = (ss.map Sum.inl ++ rs.map Sum.inr : List Row).map lnS := by simp [Function.comp_def]
      rw [ew] at hL3
      have ok : ∀ w ∈ (ss.map Sum.inl ++ rs.map Sum.inr : List Row), RowOk w := fun w hw => by
        rcases List.mem_append.mp hw with h | h
        · obtain ⟨t, ht, rfl⟩ := List.mem_map.mp h
          exact (good_row g gr).1 t ht
        · obtain ⟨t, ht, rfl⟩ := List.mem_map.mp h
          exact (good_row g gr).2 t ht
      exact ⟨⟨_, rfl⟩, _, .inl (SqL.of hL3), lines_fit ok (by simp; omega), hk H3 k3⟩
end
end LW
set_option Elab.async false
set_option linter.all false
set_option maxRecDepth 100000
set_option maxHeartbeats 1000000
namespace LW
open PySem PySem.Spec PyProof.Rows L2 U
--  : Nat) : Stmt := PySem.Challenge.pw_manyrides_k03_text_and_town_are_each_oth.main.body.getD i (.Pass ⟨0, 0, 0, 0⟩)
section
variable {P : Program} {w : World} {K : PySem.W.Frag} {mg : Str → Option Value} {base : Heap}
def stsOf (ws : List Row) : List St := ws.filterMap fun w => match w with
  | .inl s => some s
  | .inr _ => none
def rdsOf (ws : List Row) : List Rd := ws.filterMap fun w => match w with
  | .inl _ => none
  | .inr r => some r
theorem for_enumL {K : PySem.W.Frag} {a : Addr} {xs : List V} {g : TG} {tb : TS} {D : Ends} {σ : L2.St} {H : Hp} (Pv : Nat → L2.St → Hp → Prop) (h0 : Pv 0 σ H) (hG : ∀ i σ H, i ≤ xs.length → Pv i σ H → SqL K H a xs)
    (hs : ∀ i x σ H T, xs[i]? = some x → Pv i σ H → H T = none → g (.ref T) σ (upd H T (.tup [.int (i : Nat), x])) fun σ2 H2 => tb { D with nx := Pv (i + 1), ct := Pv (i + 1), bk := D.nx } σ2 H2) (hd : ∀ σ H, Pv xs.length σ H → D.nx σ H) :
    ∃ W : Nat → Nat → L2.St → Hp → Prop, (∃ m, W 0 m σ H) ∧ ∀ i m σ H, W i m σ H →
      ((Ite K a).stop i H ∧ D.nx σ H) ∨ ((Ite K a).go i H ∧ ∃ N : L2.St → Hp → Prop, (∀ σ' H', N σ' H' → ∃ m', m' < m ∧ W (i + 1) m' σ' H') ∧ ∀ x H', (Ite K a).yld i H x H' → g x σ H' fun σ2 H2 => tb { D with nx := N, ct := N, bk := D.nx } σ2 H2) :=
  for_it walk_enum Pv h0 hG (fun i x σ H H' _ p y => by
    obtain ⟨T, u, v, rfl, hT, rfl, e1, e2⟩ := y
    cases e1
    exact hs i v σ H T e2 p hT) hd
abbrev s_read_town : Stmt := top 28
abbrev N_read_town : List Str := ["text", "lines", "town", "at", "line"]
theorem sc_read_town : FnScope N_read_town ["text"] (defScope s_read_town) := ⟨rfl, rfl, rfl, by decide +kernel, rfl, by decide +kernel, by decide +kernel⟩
def sp_read_town (K : PySem.W.Frag) (tb : List Addr) : Sp := fun vs H Q _ => ∃ (ws : List Row), vs = [.str (textS ws)] ∧ ((∀ w ∈ ws, RowOk w) ∧ ws.length ≤ 36 ∧ (∀ i, i ≤ ws.length → GoodSt (stsOf (ws.take i)) ∧ GoodRd ((stsOf (ws.take i)).map (·.1)) (rdsOf (ws.take i))) ∧ TbG tb H ∧ ∀ H' t, H t = none → TownAt K H' t (stsOf ws) (rdsOf ws) → Kp [] H H' → Q (.ref t) H')
theorem ok_read_town {tb : List Addr} {f : Addr} {fd : FuncData} (F : FunD K "read_town" "read_town" (defArgs s_read_town) (defBody s_read_town) (defScope s_read_town) [] [] f fd)
    (Cm_Town_empty : Cmt P w K mg base CX0 5 "Town" "empty" (sp_Town_empty K tb))
    (mr_Town : mg "Town" = some (.ref (He.ga K "Town")))
    (mN_enumerate : mg "enumerate" = none)
    (C_with_line : Cal P w K mg base CX0 6 "with_line" ["town", "line"] (sp_with_line K tb)) : FnOk P w K mg base CX0 7 f fd ["text"] (sp_read_town K tb) := by
  refine F.ok sc_read_town (fun vs H Q E h => ?_) (fun cdv A outer s H vs Q E hr h => ⟨_, PSs.nox ((pss_cons (ps_set (i := 1) sc_read_town.nd rfl (.inl rfl) (pe_m1 PySem.F.slot_str_split PySem.F.type_str_split m_split (pu 0) pe_str))
    (pss_cons (ps_set (i := 2) sc_read_town.nd rfl (.inl rfl) (kCm0 K (E := E0) Cm_Town_empty mr_Town (hr.mono (by decide)) pass0))
    (pss_cons (ps_for PassesOwn.never rfl (kiEnum K mN_enumerate (pa_cons (pe_slice (kSl K) (pu 1) po_none (po_u (pe_un o_neg pe_int))) pa_nil)) (kgTup K (n := 2) rfl (pgs_cons (pg_name (i := 3) sc_read_town.nd rfl (.inl rfl)) (pgs_cons (pg_name (i := 4) sc_read_town.nd rfl (.inl rfl)) pgs_nil))) (pss_cons (ps_try_thru0 (pss_one (ps_set (i := 2) sc_read_town.nd rfl (.inl rfl) (ue_call (E := E0) C_with_line (hr.mono (by decide)) rfl pass0 (pa_cons (pu 2) (pa_cons (pu 4) pa_nil))))))
    (pss_one (us_if (ut_cmp o_isN (pu 2) pe_non (nomark _)) (pss_one ps_never) pss_nil))))
    (pss_cons (us_if (ut_cmp (kNe K hr.units) (pe_ix (kIx K) (pu 1) (pe_un o_neg pe_int) (fun _ _ => rfl)) pe_str (nomark _)) (pss_one ps_never) pss_nil)
    (pss_one (ps_ret (pu 2)))))))), ?_⟩)
  · obtain ⟨ws, rfl, _⟩ := h
    rfl
  · obtain ⟨ws, rfl, h⟩ := h
    obtain ⟨hw, hl, hg, htb, hk⟩ := h
    have tl := textS_len hw hl
    refine ⟨⟨_, rfl⟩, by decide +kernel, Nat.le_trans (show (textS ws).length + 2 ≤ 5000 by omega) (sl rfl), fun p hp => ?_⟩
    rw [textS_split fun w h => rowS_free (hw w h)]
    have hp1 : upd H p (.lst ((ws.map rowS ++ [("" : Str)]).map V.str)) p = some (.lst ((ws.map rowS ++ [("" : Str)]).map V.str)) := upd_same
    have k1 : Kp [] H (upd H p (.lst ((ws.map rowS ++ [("" : Str)]).map V.str))) := Kp.new hp
    generalize upd H p (.lst ((ws.map rowS ++ [("" : Str)]).map V.str)) = H1 at hp1 k1 ⊢
    refine ⟨(), rfl, TbG.keep0 htb k1, fun H2 t0 ht0 ht2 k2 => ?_⟩
    have k02 := k1.trans k2
    have hp2 := k2.get0 hp1
    have e1 : cutV ((ws.map rowS ++ [("" : Str)]).map V.str) none (some (-1)) = (ws.map rowS).map V.str := by rw [cut_init]; simp
    refine ⟨_, SqL.of hp2, fun q hq => ?_⟩
    rw [e1]
    have hq3 : upd H2 q (.lst ((ws.map rowS).map V.str)) q = some (.lst ((ws.map rowS).map V.str)) := upd_same
    have k23 : Kp [] H2 (upd H2 q (.lst ((ws.map rowS).map V.str))) := Kp.new hq
    generalize upd H2 q (.lst ((ws.map rowS).map V.str)) = H3 at hq3 k23 ⊢
    have k03 := k02.trans k23
    refine ⟨q, (ws.map rowS).map V.str, rfl, SqL.of hq3, for_enumL (xs := (ws.map rowS).map V.str) (fun i σ H' => ∃ (t : Addr) (o3 o4 : Option V), σ = [some (.str (textS ws)), some (.ref p), some (.ref t), o3, o4] ∧ H t = none ∧ TownAt K H' t (stsOf (ws.take i)) (rdsOf (ws.take i)) ∧ Kp [] H3 H') ⟨t0, none, none, rfl, k1.free0 ht0, ht2.keep k23, Kp.refl⟩ ?_ ?_ ?_⟩
    · rintro i σ H4 _ ⟨t, o3, o4, _, _, _, k⟩
      exact SqL.of (k.get0 hq3)
    · rintro i x σ H4 T hx ⟨t, o3, o4, rfl, htn, hta, k4⟩ hT
      rw [List.getElem?_map, List.getElem?_map] at hx
      cases e : ws[i]? with
      | none => rw [e] at hx; cases hx
      | some w =>
      rw [e] at hx
      cases hx
      have hi : i < ws.length := (List.getElem?_eq_some_iff.mp e).1
      have ok := hw w (List.mem_of_getElem? e)
      have gd := hg (i + 1) (by omega)
      have k04 := k03.trans k4
      have kT : Kp [] H4 (upd H4 T (.tup [.int (i : Nat), .str (rowS w)])) := Kp.new hT
      have sp : (∃ s : St, Txt.split (rowS w) (" " : Str) = stW s ∧ stsOf (ws.take (i + 1)) = stsOf (ws.take i) ++ [s] ∧ rdsOf (ws.take (i + 1)) = rdsOf (ws.take i)) ∨ (∃ r : Rd, Txt.split (rowS w) (" " : Str) = rdW r ∧ stsOf (ws.take (i + 1)) = stsOf (ws.take i) ∧ rdsOf (ws.take (i + 1)) = rdsOf (ws.take i) ++ [r]) := by
        have es := row_split ok
        rw [List.take_add_one, e]
        cases w with
        | inl s => exact .inl ⟨s, es, by simp [stsOf], by simp [rdsOf]⟩
        | inr r => exact .inr ⟨r, es, by simp [stsOf], by simp [rdsOf]⟩
      refine ⟨T, _, rfl, SqT.of upd_same, rfl, _, _, rfl, _, _, rfl, rfl, ?_⟩
      refine ⟨t, stsOf (ws.take i), rdsOf (ws.take i), rowS w, stsOf (ws.take (i + 1)), rdsOf (ws.take (i + 1)), rfl, hta.keep kT, Nat.le_trans (rowS_len ok) (by decide), sp, gd.1, gd.2, TbG.keep0 htb (k04.trans kT), fun H5 t' ht' hta' k5 => ?_⟩
      exact ⟨rfl, brF ⟨t', _, _, rfl, (k04.trans kT).free0 ht', hta', (k4.trans kT).trans k5⟩⟩
    · rintro σ H4 ⟨t, o3, o4, rfl, htn, hta, k4⟩
      have aL : atI ((ws.map rowS ++ [("" : Str)]).map V.str) (-1) = some (.str ("" : Str)) := by rw [List.map_append]; exact atI_last _ _
      have e2 : ws.take ((ws.map rowS).map V.str).length = ws := by simp
      rw [e2] at hta
      refine ⟨_, _, .inl (SqL.of ((k23.trans k4).get0 hp2)), aL, rfl, fun c => ?_, fun c => hk _ t htn hta (k03.trans k4)⟩
      have : eqB (.str ("" : Str)) (.str ("" : Str)) = true := by simp [eqB]
      rw [this] at c
      cases c
end
end LW
set_option Elab.async false
set_option linter.all false
set_option maxRecDepth 100000
set_option maxHeartbeats 1000000
namespace LW
open PySem PySem.Spec PyProof.Rows L2 U
--  : Nat) : Stmt := PySem.Challenge.pw_manyrides_k03_text_and_town_are_each_oth.main.body.getD i (.Pass ⟨0, 0, 0, 0⟩)
section
variable {P : Program} {w : World} {K : PySem.W.Frag} {mg : Str → Option Value} {base : Heap}
/-! fresh names -/
def frM (k : Nat) : Str := ⟨(110 :: (Nat.toDigits 10 k).map Char.toNat).toArray⟩
theorem frM_eq (k : Nat) : ("n" : Str) ++ Str.ofString (toString (k : Int)) = frM k := by
  apply TL.ext_tl
  show (("n" : Str) ++ Str.ofString (toString (k : Int))).cps.toList = (frM k).cps.toList
  rw [app_cps]
  have e : Str.ofString (toString (Int.ofNat k)) = _ := text_ofNat k
  have e0 : ("n" : Str).cps.toList = [110] := by decide +kernel
  rw [e0]
  show [110] ++ (Str.ofString (toString (Int.ofNat k))).cps.toList = _
  rw [e]
  simp [frM]
theorem frM_good : ∀ k, k < 60 → nameB (frM k) = true := by
  have h : ((List.range 60).all fun k => nameB (frM k)) = true := by decide +kernel
  intro k hk
  exact List.all_eq_true.mp h k (List.mem_range.mpr hk)
theorem frM_nd : ((List.range 60).map frM).Nodup := by decide +kernel
theorem sub_len : ∀ {l us : List Str}, l.Nodup → (∀ x ∈ l, x ∈ us) → l.length ≤ us.length
  | [], _, _, _ => Nat.zero_le _
  | a :: l, us, nd, h => by
    have nd' := List.nodup_cons.mp nd
    have ha := h a (by simp)
    have := sub_len (l := l) (us := us.erase a) nd'.2 fun x hx => (List.mem_erase_of_ne (fun z => nd'.1 (by subst z; exact hx))).mpr (h x (by simp [hx]))
    have e := List.length_erase_of_mem ha
    have p := List.length_pos_of_mem ha
    simp; omega
theorem fresh_ex {us l : List Str} (nd : l.Nodup) (h : us.length < l.length) : ∃ x ∈ l, x ∉ us := by
  apply Classical.byContradiction
  intro hn
  have := sub_len nd fun x hx => Classical.byContradiction fun hu => hn ⟨x, hx, hu⟩
  omega
theorem notin_take {us : List Str} {l : List Str} {i : Nat} {a : Str} (h : l[i]? = some a) : (l.take (i + 1)).filter (fun x => !decide (x ∈ us)) = (l.take i).filter (fun x => !decide (x ∈ us)) ++ (if (!decide (a ∈ us)) = true then [a] else []) := take_filter (f := fun x => !decide (x ∈ us)) h
theorem AN_cps : AN.cps.toList = LA.cps.toList ++ DI.cps.toList := by decide +kernel
theorem AN_la {i c : Nat} (h : AN.cps.toList[i]? = some c) (hi : i < 26) : inS LA c = true := by
  have e : AN.cps.toList = (List.range 26).map (97 + ·) ++ (List.range 10).map (48 + ·) := by decide +kernel
  rw [e, List.getElem?_append_left (by simpa using hi), List.getElem?_map] at h
  have h2 := List.getElem?_range hi
  rw [h2] at h
  simp at h
  subst h
  exact LA_in (by omega) (by omega)
theorem AN_good {i c : Nat} (h : AN.cps.toList[i]? = some c) : (inS LA c || inS DI c) = true := by
  have hm := List.mem_of_getElem? h
  rw [AN_cps] at hm
  rcases List.mem_append.mp hm with h | h
  · simp [inS, h]
  · simp [inS, h]
theorem AN_len : AN.cps.toList.length = 36 := by decide +kernel
theorem LA_at {i c : Nat} (h : LA.cps.toList[i]? = some c) : inS LA c = true := by
  have := List.mem_of_getElem? h
  simp [inS, this]
theorem LA_len : LA.cps.toList.length = 26 := by decide +kernel
theorem LA_DI : LA ++ ("0123456789" : Str) = AN := by decide +kernel
abbrev s__law_words : Stmt := top 46
abbrev N__law_words : List Str := ["pool", "count", "names", "letters", "signs", "words", "name", "word", "k"]
theorem sc__law_words : FnScope N__law_words ["pool", "count"] (defScope s__law_words) := ⟨rfl, rfl, rfl, by decide +kernel, rfl, by decide +kernel, by decide +kernel⟩
def sp__law_words (K : PySem.W.Frag) : Sp := fun vs H Q _ => ∃ (p : Addr) (n : Nat), vs = [.ref p, .int n] ∧ (Pool H p ∧ n ≤ 24 ∧ ∀ H' a ns, H' a = some (.lst (ns.map V.str)) → ns.length = n → GoodNames ns → H a = none → Pool H' p → Kp [p] H H' → Q (.ref a) H')
theorem ok__law_words {f : Addr} {fd : FuncData} (F : FunD K "_law_words" "_law_words" (defArgs s__law_words) (defBody s__law_words) (defScope s__law_words) [] [] f fd)
    (C__law_names : Cal P w K mg base CX0 2 "_law_names" ["pool", "count"] (sp__law_names K))
    (C__law_take : Cal P w K mg base CX0 1 "_law_take" ["pool", "limit"] (sp__law_take K))
    (mN_range : mg "range" = none) : FnOk P w K mg base CX0 3 f fd ["pool", "count"] (sp__law_words K) := by
  refine F.ok sc__law_words (fun vs H Q E h => ?_) (fun cdv A outer s H vs Q E hr h => ⟨_, PSs.nox ((pss_cons (ps_set (i := 2) sc__law_words.nd rfl (.inl rfl) (ue_call (E := E0) C__law_names (hr.mono (by decide)) rfl pass0 (pa_cons (pu 0) (pa_cons (pu 1) pa_nil))))
    (pss_cons (us_if (ut_cmp (kEq K hr.units) (ue_call (E := E0) C__law_take (hr.mono (by decide)) rfl pass0 (pa_cons (pu 0) (pa_cons pe_int pa_nil))) pe_int (nomark _)) (pss_one (ps_ret (pu 2))) pss_nil)
    (pss_cons (ps_set (i := 3) sc__law_words.nd rfl (.inl rfl) pe_str)
    (pss_cons (ps_set (i := 4) sc__law_words.nd rfl (.inl rfl) (pe_op (kAdd K) (pu 3) pe_str))
    (pss_cons (ps_set (i := 5) sc__law_words.nd rfl (.inl rfl) (pe_lst pa_nil))
    (pss_cons (ps_for PassesOwn.never rfl (kiList K (pu 2)) (pg_name (i := 6) sc__law_words.nd rfl (.inl rfl)) (C8.pss_cut (ps_set (i := 7) sc__law_words.nd rfl (.inl rfl) (pe_ix (kIx K) (pu 3) (ue_call (E := E0) C__law_take (hr.mono (by decide)) rfl pass0 (pa_cons (pu 0) (pa_cons pe_int pa_nil))) (fun _ _ => rfl)))
    (C8.pss_cut (ps_for PassesOwn.never rfl (pi_range1 (by rfl) mN_range (pa_cons (ue_call (E := E0) C__law_take (hr.mono (by decide)) rfl pass0 (pa_cons (pu 0) (pa_cons pe_int pa_nil))) pa_nil)) (pg_name (i := 8) sc__law_words.nd rfl (.inl rfl)) (pss_one (ps_set (i := 7) sc__law_words.nd rfl (.inl rfl) (pe_op (kAdd K) (pu 7) (pe_ix (kIx K) (pu 4) (ue_call (E := E0) C__law_take (hr.mono (by decide)) rfl pass0 (pa_cons (pu 0) (pa_cons pe_int pa_nil))) (fun _ _ => rfl))))))
    (C8.pss_cut (us_if (PW.pt (uw_or (ut_cmp (kEq K hr.units) (pu 7) pe_str (nomark _)) (uw_or (ut_cmp (kIn K) (pu 7) (pu 2) (by rfl)) (pw_or1 (ut_cmp (kIn K) (pu 7) (pu 5) (by rfl)))))) (pss_one (ps_set (i := 7) sc__law_words.nd rfl (.inl rfl) (pu 6))) pss_nil)
    (pss_one (ps_expr (ue_append (pu 5) (pa_cons (pu 7) pa_nil))))))))
    (pss_one (ps_ret (pu 5)))))))))), ?_⟩)
  · obtain ⟨p, n, rfl, _⟩ := h
    rfl
  · obtain ⟨p, n, rfl, h⟩ := h
    obtain ⟨hp, hn, hk⟩ := h
    refine ⟨p, n, rfl, hp, hn, fun H1 A ns hA hnl gn hA0 p1 k1 => ⟨p, 2, rfl, p1, by decide, fun H2 d _ _ p2 k2 => ⟨rfl, fun _ => hk H2 A ns (k2.get1 hA (strP p1 hA)) hnl gn hA0 p2 (k1.trans k2), fun _ => ⟨by decide +kernel, sl rfl, fun W hW => ?_⟩⟩⟩⟩
    have k02 := k1.trans k2
    have hA2 := k2.get1 hA (strP p1 hA)
    have hWp : W ≠ p := Pool.ne (o := .lst []) p2 hW
    have hAp := strP p2 hA2
    show _
    refine ⟨A, rfl, ⟨_, SqL.of (get_new hA2 hW)⟩, for_list (xs := ns.map V.str) (fun i σ H' => ∃ (us : List Str) (o6 o7 o8 : Option V), σ = [some (.ref p), some (.int n), some (.ref A), some (.str LA), some (.str (LA ++ ("0123456789" : Str))), some (.ref W), o6, o7, o8] ∧ H' W = some (.lst (us.map V.str)) ∧ us.length = i ∧ us.Nodup ∧ (∀ u ∈ us, nameB u = true) ∧ (∀ u ∈ us, u ∉ ns.drop i) ∧ Pool H' p ∧ Kp [p] H2 H') ⟨[], none, none, none, rfl, upd_same, rfl, by simp, by simp, by simp, p2.new hW, Kp.new hW⟩ ?_ ?_ ?_⟩
    · rintro i σ H3 _ ⟨us, o6, o7, o8, _, _, _, _, _, _, _, k3⟩
      exact SqL.of (k3.get1 hA2 hAp)
    · rintro i x σ H3 hx ⟨us, o6, o7, o8, rfl, hW3, hul, und, ug, ud, p3, k3⟩
      rw [List.getElem?_map] at hx
      cases e : ns[i]? with
      | none => rw [e] at hx; cases hx
      | some nm =>
      rw [e] at hx
      cases hx
      have hi : i < ns.length := (List.getElem?_eq_some_iff.mp e).1
      refine ⟨fun σ H4 => ∃ z : Str, σ = [some (.ref p), some (.int n), some (.ref A), some (.str LA), some (.str (LA ++ ("0123456789" : Str))), some (.ref W), some (.str nm), some (.str z), o8] ∧ Good2 z ∧ z.length = 1 ∧ Pool H4 p ∧ Kp [p] H3 H4, ⟨p, 26, rfl, p3, by decide, fun H4 d d0 d1 p4 k4 => ?_⟩, ?_⟩
      · obtain ⟨a, ha, has⟩ := atI_at (l := LA.cps.toList) (d := d) d0 (by rw [LA_len]; omega)
        have la := LA_at has
        refine ⟨a, sl rfl, ha, _, rfl, ⟨Nat.le_refl 1, ?_, ?_⟩, rfl, p4, k4⟩
        · simpa using la
        · simp [la]
      rintro σ H4 ⟨z, rfl, gz, lz, p4, k4⟩
      refine ⟨fun σ H5 => ∃ (z : Str) (o8 : Option V), σ = [some (.ref p), some (.int n), some (.ref A), some (.str LA), some (.str (LA ++ ("0123456789" : Str))), some (.ref W), some (.str nm), some (.str z), o8] ∧ Good2 z ∧ z.length ≤ 8 ∧ Pool H5 p ∧ Kp [p] H3 H5, ⟨p, 8, rfl, p4, by decide, fun H5 m m0 m1 p5 k5 => ⟨m, rfl, by omega, by omega, ?_⟩⟩, ?_⟩
      · refine for_range (fun j σ H9 => ∃ (x : Str) (o8 : Option V), σ = [some (.ref p), some (.int n), some (.ref A), some (.str LA), some (.str (LA ++ ("0123456789" : Str))), some (.ref W), some (.str nm), some (.str x), o8] ∧ Good2 x ∧ x.length = 1 + j ∧ Pool H9 p ∧ Kp [p] H3 H9) ⟨z, _, rfl, gz, lz, p5, k4.trans k5⟩ ?_ ?_
        · rintro j σ H9 hj ⟨x, o8, rfl, gx, lx, p9, k9⟩
          refine ⟨p, 36, rfl, p9, by decide, fun H10 e e0 e1 p10 k10 => ?_⟩
          obtain ⟨b, hb, hbs⟩ := atI_at (l := AN.cps.toList) (d := e) e0 (by rw [AN_len]; omega)
          refine ⟨b, sl rfl, by rw [LA_DI]; exact hb, ?_, _, _, rfl, ⟨?_, ?_, ?_⟩, ?_, p10, k9.trans k10⟩
          · rw [lx]; exact Nat.le_trans (show 1 + j + 1 ≤ 100 by omega) (sl rfl)
          · rw [app_len]; omega
          · rw [app_cps]
            cases e : x.cps.toList with
            | nil => have := gx.l1; rw [len_cps, e] at this; simp at this
            | cons f l => have := gx.hd; rw [e] at this; simpa using this
          · rw [app_cps, List.all_append, gx.al]
            simp; simpa using AN_good hbs
          · rw [app_len, lx, one_len]; omega
        · rintro σ H9 ⟨x, o8, rfl, gx, lx, p9, k9⟩
          exact ⟨x, _, rfl, gx, by omega, p9, k9⟩
      rintro σ H5 ⟨z, o8, rfl, gz, lz, p5, k5⟩
      have hA5 := (k3.trans k5).get1 hA2 hAp
      have hW5 := k5.get1 hW3 hWp
      have hmd : nm ∈ ns.drop i := List.mem_of_getElem? (i := 0) (by rw [List.getElem?_drop]; simpa using e)
      have old : nm ∉ us := fun h => ud nm h hmd
      refine ⟨fun σ H6 => ∃ z : Str, σ = [some (.ref p), some (.int n), some (.ref A), some (.str LA), some (.str (LA ++ ("0123456789" : Str))), some (.ref W), some (.str nm), some (.str z), o8] ∧ nameB z = true ∧ z ∉ us ∧ (z = nm ∨ z ∉ ns) ∧ H6 = H5, ⟨rfl, fun c => ?_, fun c => ⟨_, .inl (SqL.of hA5), rfl, flat_strs _, ?_⟩⟩, ?_⟩
      · exact brT ⟨nm, rfl, gn.nm nm (List.mem_of_getElem? e), old, .inl rfl, rfl⟩
      · have c : z ≠ ("street" : Str) := by simpa [eqB] using c
        rw [inV_str]
        refine brK (fun c2 => brT ⟨nm, rfl, gn.nm nm (List.mem_of_getElem? e), old, .inl rfl, rfl⟩) fun c2 => ⟨_, .inl (SqL.of hW5), rfl, flat_strs _, ?_⟩
        rw [inV_str]
        exact brK (fun c3 => ⟨nm, rfl, gn.nm nm (List.mem_of_getElem? e), old, .inl rfl, rfl⟩) fun c3 => ⟨z, rfl, gz.name lz c, of_decide_eq_false c3, .inr (of_decide_eq_false c2), rfl⟩
      rintro σ H6 ⟨z, rfl, hz, hzn, hzo, rfl⟩
      have hn24 : us.length ≤ 24 := by omega
      have hdr : ns.drop i = nm :: ns.drop (i + 1) := by
        rw [List.drop_eq_getElem_cons hi]
        rw [List.getElem?_eq_getElem hi] at e
        rw [Option.some.inj e]
      have nd2 : (ns.drop i).Nodup := (List.drop_sublist i ns).nodup gn.nd
      rw [hdr] at nd2
      have hnm := (List.nodup_cons.mp nd2).1
      refine ⟨⟨_, hW5⟩, _, hW5, ?_, us ++ [z], _, _, _, rfl, by rw [upd_same]; simp, by simp [hul], ?_, ?_, ?_, p5.keep (Kp.set (S := [W]) (by simp)) (by simpa using hWp.symm), (k3.trans k5).loc hW⟩
      · rw [List.length_map]; exact small_lt' hn24
      · exact List.nodup_append.mpr ⟨und, by simp, fun a ha b hb => by simp at hb; subst hb; exact fun e => hzn (e ▸ ha)⟩
      · intro x hx
        rcases List.mem_append.mp hx with h | h
        · exact ug x h
        · simp at h; subst h; exact hz
      · intro x hx
        rcases List.mem_append.mp hx with h | h
        · exact fun q => ud x h (by rw [hdr]; exact List.mem_cons_of_mem _ q)
        · simp at h
          subst h
          rcases hzo with h | h
          · subst h; exact hnm
          · exact fun q => h (List.mem_of_mem_drop q)
    · rintro σ H3 ⟨us, o6, o7, o8, rfl, hW3, hul, und, ug, ud, p3, k3⟩
      rw [List.length_map] at hul
      exact hk H3 W us hW3 (by omega) ⟨und, ug⟩ (k02.free hW (by simpa using hWp)) p3 (k02.trans k3)
abbrev s__law_town_rows : Stmt := top 47
abbrev N__law_town_rows : List Str := ["pool", "places", "titles", "stations"]
theorem sc__law_town_rows : FnScope N__law_town_rows ["pool"] (defScope s__law_town_rows) := ⟨rfl, rfl, rfl, by decide +kernel, rfl, by decide +kernel, by decide +kernel⟩
def sp__law_town_rows (K : PySem.W.Frag) : Sp := fun vs H Q _ => ∃ (p : Addr), vs = [.ref p] ∧ (Pool H p ∧ ∀ H' a ss rs, WorldAt H' a ss rs → GoodSt ss → GoodRd (ss.map (·.1)) rs → H a = none → Pool H' p → Kp [p] H H' → Q (.ref a) H')
theorem ok__law_town_rows {f : Addr} {fd : FuncData} (F : FunD K "_law_town_rows" "_law_town_rows" (defArgs s__law_town_rows) (defBody s__law_town_rows) (defScope s__law_town_rows) [] [] f fd)
    (C__law_take : Cal P w K mg base CX0 1 "_law_take" ["pool", "limit"] (sp__law_take K))
    (C__law_words : Cal P w K mg base CX0 3 "_law_words" ["pool", "count"] (sp__law_words K))
    (mN_min : mg "min" = none)
    (C__law_free : Cal P w K mg base CX0 2 "_law_free" ["pool", "names", "big"] (sp__law_free K))
    (C__law_rides : Cal P w K mg base CX0 3 "_law_rides" ["pool", "names", "places", "street", "spare"] (sp__law_rides K))
    (mN_len : mg "len" = none) : FnOk P w K mg base CX0 4 f fd ["pool"] (sp__law_town_rows K) := by
  refine F.ok sc__law_town_rows (fun vs H Q E h => ?_) (fun cdv A outer s H vs Q E hr h => ⟨_, PSs.nox ((pss_cons (us_if (ut_cmp (kEq K hr.units) (ue_call (E := E0) C__law_take (hr.mono (by decide)) rfl pass0 (pa_cons (pu 0) (pa_cons pe_int pa_nil))) pe_int (nomark _)) (pss_one (ps_ret (pe_lst (pa_cons (pe_lst pa_nil) (pa_cons (pe_lst pa_nil) pa_nil))))) pss_nil)
    (pss_cons (ps_set (i := 1) sc__law_town_rows.nd rfl (.inl rfl) (ue_call (E := E0) C__law_words (hr.mono (by decide)) rfl pass0 (pa_cons (pu 0) (pa_cons (pe_op (kAdd K) pe_int (ue_call (E := E0) C__law_take (hr.mono (by decide)) rfl pass0 (pa_cons (pu 0) (pa_cons pe_int pa_nil)))) pa_nil))))
    (pss_cons (ps_set (i := 2) sc__law_town_rows.nd rfl (.inl rfl) (ue_call (E := E0) C__law_words (hr.mono (by decide)) rfl pass0 (pa_cons (pu 0) (pa_cons (pe_callB (kMin K rfl) (by rfl) mN_min (by decide +kernel) (pa_cons (ue_call (E := E0) C__law_take (hr.mono (by decide)) rfl pass0 (pa_cons (pu 0) (pa_cons pe_int pa_nil))) (pa_cons (pe_op (kAdd K) pe_int (ue_call (E := E0) C__law_take (hr.mono (by decide)) rfl pass0 (pa_cons (pu 0) (pa_cons pe_int pa_nil)))) pa_nil))) pa_nil))))
    (pss_cons (ps_set (i := 3) sc__law_town_rows.nd rfl (.inl rfl) (ue_call (E := E0) C__law_free (hr.mono (by decide)) rfl pass0 (pa_cons (pu 0) (pa_cons (pu 1) (pa_cons pe_int pa_nil)))))
    (pss_one (ps_ret (pe_lst (pa_cons (pu 3) (pa_cons (ue_call (E := E0) C__law_rides (hr.mono (by decide)) rfl pass0 (pa_cons (pu 0) (pa_cons (pu 2) (pa_cons (pu 1) (pa_cons (ue_call (E := E0) C__law_take (hr.mono (by decide)) rfl pass0 (pa_cons (pu 0) (pa_cons pe_int pa_nil))) (pa_cons (pe_callB (kLen K) (by rfl) mN_len boot_len (pa_cons (pu 2) pa_nil)) pa_nil)))))) pa_nil)))))))))), ?_⟩)
  · obtain ⟨p, rfl, _⟩ := h
    rfl
  · obtain ⟨p, rfl, h⟩ := h
    obtain ⟨hp, hk⟩ := h
    refine ⟨p, 9, rfl, hp, by decide, fun H1 d _ _ p1 k1 => ⟨rfl, fun _ => ⟨sl rfl, fun a ha => ⟨sl rfl, fun b hb => ⟨sl rfl, fun L hL => ?_⟩⟩⟩, fun _ => ?_⟩⟩
    · refine hk _ L [] [] ⟨a, b, upd_same, ⟨[], get_new (get_new upd_same hb) hL, .nil⟩, ⟨[], get_new upd_same hL, .nil⟩⟩ ⟨by simp, by simp, by simp, by simp, by simp⟩ ⟨by simp, by simp, by simp, by simp, by simp, by simp, by simp⟩ ?_ (((p1.new ha).new hb).new hL) (((k1.trans (Kp.new ha)).trans (Kp.new hb)).trans (Kp.new hL))
      exact ((k1.trans (Kp.new ha)).trans (Kp.new hb)).free hL (by simpa using Pool.ne (o := .lst []) ((p1.new ha).new hb) hL)
    refine ⟨p, 12, rfl, p1, by decide, fun H2 x x0 x1 p2 k2 => ?_⟩
    obtain ⟨n, rfl⟩ := Int.eq_ofNat_of_zero_le x0
    refine ⟨p, n + 1, by rw [show (1 + (n : Int)) = ((n + 1 : Nat) : Int) by omega], p2, by omega, fun H3 A ns hA hnl gn hA0 p3 k3 => ?_⟩
    refine ⟨p, 25, rfl, p3, by decide, fun H4 y y0 y1 p4 k4 => ⟨p, 21, rfl, p4, by decide, fun H5 z z0 z1 p5 k5 => ?_⟩⟩
    obtain ⟨m, hm, m24⟩ : ∃ m : Nat, (if 4 + z < y then 4 + z else y) = (m : Int) ∧ m ≤ 24 := ⟨(if 4 + z < y then 4 + z else y).toNat, by split <;> omega, by split <;> omega⟩
    have hA5 := (k4.trans k5).get1 hA (strP p3 hA)
    refine ⟨p, m, by rw [← hm], p5, m24, fun H6 B ts hB htl gt hB0 p6 k6 => ?_⟩
    have hA6 := k6.get1 hA5 (strP p5 hA5)
    refine ⟨p, A, ns, 1, rfl, p6, hA6, by omega, gn, fun H7 S ss hS hns gs hS0 p7 k7 => ⟨p, 2, rfl, p7, by decide, fun H8 street _ _ p8 k8 => ?_⟩⟩
    have hA8 := (k7.trans k8).get1 hA6 (strP p6 hA6)
    have hB8 := (k7.trans k8).get1 hB (strP p6 hB)
    refine ⟨_, .inl ⟨_, SqL.of hB8, rfl⟩, p, B, A, ts, ns, street, _, rfl, p8, hB8, hA8, by omega, gt, gn, by omega, by omega, fun H9 R rs hR hrn gr hR0 p9 k9 => ⟨sl rfl, fun L hL => ?_⟩⟩
    have sst := map_still stD stD_still ss
    have hSq := hS.neP p7 stNe
    have hS9 := (hS.kpP sst p7 k8 hSq).kpP sst p8 k9 hSq
    have k09 := ((((((k1.trans k2).trans k3).trans k4).trans k5).trans k6).trans k7).trans (k8.trans k9)
    exact hk _ L ss rs ⟨S, R, upd_same, hS9.keep (Kp.new hL), hR.keep (Kp.new hL)⟩ gs (by rw [hns]; exact gr) (k09.free hL (by simpa using Pool.ne (o := .lst []) p9 hL)) (p9.new hL) (k09.trans (Kp.new hL))
end
end LW
set_option Elab.async false
set_option linter.all false
set_option maxRecDepth 100000
set_option maxHeartbeats 1000000
namespace LW
open PySem PySem.Spec PyProof.Rows L2 U
--  : Nat) : Stmt := PySem.Challenge.pw_manyrides_k03_text_and_town_are_each_oth.main.body.getD i (.Pass ⟨0, 0, 0, 0⟩)
section
variable {P : Program} {w : World} {K : PySem.W.Frag} {mg : Str → Option Value} {base : Heap}
def Mix (ws : List Row) : Prop := (∀ w ∈ ws, RowOk w) ∧ ws.length ≤ 36 ∧ ∀ i, i ≤ ws.length → GoodSt (stsOf (ws.take i)) ∧ GoodRd ((stsOf (ws.take i)).map (·.1)) (rdsOf (ws.take i))
theorem Mix.good {ws : List Row} (h : Mix ws) : GoodSt (stsOf ws) ∧ GoodRd ((stsOf ws).map (·.1)) (rdsOf ws) := by
  have := h.2.2 ws.length (Nat.le_refl _)
  rwa [List.take_length] at this
theorem stOf_at {t : St} : ∀ {ss : List St}, (ss.map (·.1)).Nodup → t ∈ ss → stOf ss t.1 = some t
  | a :: ss, nd, h => by
    have nd' := List.nodup_cons.mp nd
    rcases List.mem_cons.mp h with h | h
    · subst h; simp [stOf]
    · have ne : ¬ a.1 = t.1 := fun z => nd'.1 (by show a.1 ∈ _; rw [z]; exact List.mem_map_of_mem h)
      have ih := stOf_at nd'.2 h
      unfold stOf at ih ⊢
      rw [List.find?_cons, decide_eq_false ne]
      exact ih
theorem str_rp {H : Hp} {p : Addr} {l : List Str} (h : H p = some (.lst (l.map V.str))) : Rp H (.ref p) (.lst (l.map Dt.str)) := .lst h (strsRp l)
theorem dkN_kvL (ns : List Str) (b : Str → Int) : dkN ns b = kvL ns (ns.map fun n => V.int (b n)) := by
  unfold dkN kvL
  induction ns with
  | nil => rfl
  | cons n ns ih => simp [ih]
theorem intsRp {H : Hp} (b : Str → Int) : ∀ ns : List Str, RpL H (ns.map fun n => V.int (b n)) (ns.map fun n => Dt.int (b n))
  | [] => .nil
  | n :: ns => .cons (.int _) (intsRp b ns)
theorem dk_rp {H : Hp} {p : Addr} {ns : List Str} {b : Str → Int} (h : H p = some (.dK (dkN ns b))) (nd : ns.Nodup) : Rp H (.ref p) (.dct ns (ns.map fun n => .int (b n))) := by
  rw [dkN_kvL] at h
  exact .dct h nd (by simp) (intsRp b ns)
theorem ints_depth (b : Str → Int) : ∀ ns : List Str, depthL (ns.map fun n => Dt.int (b n)) = 0
  | [] => rfl
  | k :: ks => by simp [depthL, Dt.depth, ints_depth b ks]
theorem ints_wide (b : Str → Int) (ns : List Str) : wideL (ns.map fun n => Dt.int (b n)) := wideL_of fun d hd => by
  obtain ⟨k, _, rfl⟩ := List.mem_map.mp hd
  trivial
def twoD (ss : List St) (rs : List Rd) : Dt := .lst [.tup (ss.map stD), .tup (rs.map rdD)]
theorem twoD_ok {ss : List St} {rs : List Rd} (h1 : ss.length ≤ 12) (h2 : rs.length ≤ 24) : (twoD ss rs).depth ≤ 11 ∧ (twoD ss rs).wide := by
  have so := rows_ok stD_ok ss
  have ro := rows_ok rdD_ok rs
  refine ⟨?_, by simp, ⟨by simp; omega, so.2⟩, ⟨by simp; omega, ro.2⟩, trivial⟩
  simp only [twoD, Dt.depth, depthL]; omega
def atD (i : Nat) (q : Rd) : Dt := .lst [.int i, rdD q]
theorem atD_ok (i : Nat) (q : Rd) : (atD i q).depth ≤ 11 ∧ (atD i q).wide := by
  have := rdD_ok q
  refine ⟨?_, by simp, trivial, this.2, trivial⟩
  simp only [atD, Dt.depth, depthL]; omega
def aeD (ss : List St) (rs : List Rd) : Dt := .lst [.lst ((ableN ss rs).map Dt.str), .dct (ss.map (·.1)) ((ss.map (·.1)).map fun n => .int (endOf ss rs n))]
theorem aeD_ok {ss : List St} {rs : List Rd} (h1 : ss.length ≤ 12) (h2 : rs.length ≤ 24) : (aeD ss rs).depth ≤ 11 ∧ (aeD ss rs).wide := by
  have an := Nat.le_trans (ableN_len ss rs) h2
  refine ⟨?_, by simp, ⟨by simp; omega, strs_wide _⟩, ⟨by simp; omega, ints_wide _ _⟩, trivial⟩
  simp only [aeD, Dt.depth, depthL, strs_depth, ints_depth]; decide
abbrev s__law_reads : Stmt := top 51
abbrev N__law_reads : List Str := ["text", "stations", "rides", "town", "row", "k", "ready", "ride"]
theorem sc__law_reads : FnScope N__law_reads ["text", "stations", "rides"] (defScope s__law_reads) := ⟨rfl, rfl, rfl, by decide +kernel, rfl, by decide +kernel, by decide +kernel⟩
def sp__law_reads (K : PySem.W.Frag) (tb : List Addr) : Sp := fun vs H Q _ => ∃ (S R : Addr) (ws : List Row), vs = [.str (textS ws), .ref S, .ref R] ∧ (LstAt H S ((stsOf ws).map stD) ∧ LstAt H R ((rdsOf ws).map rdD) ∧ Mix ws ∧ TbG tb H ∧ ∀ H', Kp [] H H' → Q (.bl true) H')
theorem ok__law_reads {tb : List Addr} {f : Addr} {fd : FuncData} (F : FunD K "_law_reads" "_law_reads" (defArgs s__law_reads) (defBody s__law_reads) (defScope s__law_reads) [] [] f fd)
    (C_read_town : Cal P w K mg base CX0 7 "read_town" ["text"] (sp_read_town K tb))
    (C__law_same : Cal P w K mg base CX0 12 "_law_same" ["actual", "expected"] (sp_same K 12))
    (mN_tuple : mg "tuple" = none)
    (cl_Town : Cls K (He.ga K "Town"))
    (na_Town_rides : NoAttr K (He.ga K "Town") "rides")
    (na_Town_stations : NoAttr K (He.ga K "Town") "stations")
    (Me_free : Met P w K mg base (L2.CX P w) 3 "Town" "free" ["self", "station"] (sp_Town_free K))
    (Me_bikes : Met P w K mg base (L2.CX P w) 3 "Town" "bikes" ["self", "station"] (sp_Town_bikes K))
    (Me_docks : Met P w K mg base (L2.CX P w) 3 "Town" "docks" ["self", "station"] (sp_Town_docks K))
    (mN_range : mg "range" = none)
    (mN_len : mg "len" = none)
    (Me_ride : Met P w K mg base (L2.CX P w) 3 "Town" "ride" ["self", "name"] (sp_Town_ride K))
    (Me_position : Met P w K mg base (L2.CX P w) 2 "Town" "position" ["self", "name"] (sp_Town_position K))
    (C__law_is_able : Cal P w K mg base CX0 1 "_law_is_able" ["docks", "bikes", "ride"] (sp__law_is_able K))
    (C__law_bikes : Cal P w K mg base CX0 1 "_law_bikes" ["stations"] (sp__law_bikes K))
    (C__law_docks : Cal P w K mg base CX0 1 "_law_docks" ["stations"] (sp__law_docks K))
    (C__law_ends : Cal P w K mg base CX0 2 "_law_ends" ["stations", "rides"] (sp__law_ends K))
    (C_ends : Cal P w K mg base CX0 1 "ends" ["town"] (sp_ends K))
    (C_able : Cal P w K mg base CX0 2 "able" ["town"] (sp_able K))
    (C__law_passes : Cal P w K mg base CX0 1 "_law_passes" ["rides"] (sp__law_passes K))
    (Me_passes : Met P w K mg base CX0 1 "Town" "passes" ["self"] (sp_Town_passes K tb))
    (C__law_text : Cal P w K mg base CX0 2 "_law_text" ["rows"] (sp__law_text K))
    (C_write_town : Cal P w K mg base CX0 1 "write_town" ["town"] (sp_write_town K)) : FnOk P w K mg base CX0 13 f fd ["text", "stations", "rides"] (sp__law_reads K tb) := by
  refine F.ok sc__law_reads (fun vs H Q E h => ?_) (fun cdv A outer s H vs Q E hr h => ⟨_, PSs.nox ((pss_cons (ps_set (i := 3) sc__law_reads.nd rfl (.inl rfl) (ue_call (E := E0) C_read_town (hr.mono (by decide)) rfl pass0 (pa_cons (pu 0) pa_nil)))
    (pss_cons (us_if (pt_not (ut_val (ue_call (E := E0) C__law_same (hr.mono (by decide)) rfl pass0 (pa_cons (pe_lst (pa_cons (kFld K (pu 3) rfl) (pa_cons (kFld K (pu 3) rfl) pa_nil))) (pa_cons (pe_lst (pa_cons (pe_callTy (kTuple K) (by rfl) mN_tuple (by decide +kernel) (pa_cons (pu 1) pa_nil)) (pa_cons (pe_callTy (kTuple K) (by rfl) mN_tuple (by decide +kernel) (pa_cons (pu 2) pa_nil)) pa_nil))) pa_nil))))) (pss_one (ps_ret pe_bl)) pss_nil)
    (pss_cons (ps_for PassesOwn.never rfl (kiList K (pu 1)) (pg_name (i := 4) sc__law_reads.nd rfl (.inl rfl)) (pss_one (us_if (pt_not (ut_val (ue_call (E := E0) C__law_same (hr.mono (by decide)) rfl pass0 (pa_cons (pe_lst (pa_cons (kMeth K (E := E0) Me_docks (hr.mono (by decide)) passL (pu 3) (pa_cons (pe_ix (kIx K) (pu 4) pe_int (fun _ _ => rfl)) pa_nil)) (pa_cons (kMeth K (E := E0) Me_bikes (hr.mono (by decide)) passL (pu 3) (pa_cons (pe_ix (kIx K) (pu 4) pe_int (fun _ _ => rfl)) pa_nil)) (pa_cons (kMeth K (E := E0) Me_free (hr.mono (by decide)) passL (pu 3) (pa_cons (pe_ix (kIx K) (pu 4) pe_int (fun _ _ => rfl)) pa_nil)) pa_nil)))) (pa_cons (pe_lst (pa_cons (pe_ix (kIx K) (pu 4) pe_int (fun _ _ => rfl)) (pa_cons (pe_ix (kIx K) (pu 4) pe_int (fun _ _ => rfl)) (pa_cons (pe_op o_sub (pe_ix (kIx K) (pu 4) pe_int (fun _ _ => rfl)) (pe_ix (kIx K) (pu 4) pe_int (fun _ _ => rfl))) pa_nil)))) pa_nil))))) (pss_one (ps_ret pe_bl)) pss_nil)))
    (pss_cons (ps_for PassesOwn.never rfl (pi_range1 (by rfl) mN_range (pa_cons (pe_callB (kLen K) (by rfl) mN_len boot_len (pa_cons (pu 2) pa_nil)) pa_nil)) (pg_name (i := 5) sc__law_reads.nd rfl (.inl rfl)) (pss_one (us_if (pt_not (ut_val (ue_call (E := E0) C__law_same (hr.mono (by decide)) rfl pass0 (pa_cons (pe_lst (pa_cons (kMeth K (E := E0) Me_position (hr.mono (by decide)) passL (pu 3) (pa_cons (pe_ix (kIx K) (pe_ix (kIx K) (pu 2) (pu 5) (fun _ _ => rfl)) pe_int (fun _ _ => rfl)) pa_nil)) (pa_cons (kMeth K (E := E0) Me_ride (hr.mono (by decide)) passL (pu 3) (pa_cons (pe_ix (kIx K) (pe_ix (kIx K) (pu 2) (pu 5) (fun _ _ => rfl)) pe_int (fun _ _ => rfl)) pa_nil)) pa_nil))) (pa_cons (pe_lst (pa_cons (pu 5) (pa_cons (pe_ix (kIx K) (pu 2) (pu 5) (fun _ _ => rfl)) pa_nil))) pa_nil))))) (pss_one (ps_ret pe_bl)) pss_nil)))
    (pss_cons (ps_setLc (i := 6) (own := [("ride", 7)]) rfl sc__law_reads.nd rfl rfl (sw_true rfl rfl rfl (by decide +kernel)) (kiList K (pu 2)) (blkOk_by (N := N__law_reads) (sc := defScope s__law_reads) (by decide +kernel)) (fun _ _ _ _ _ => (pg_name (i := 7) sc__law_reads.nd rfl (.inl rfl))) (fun _ _ _ _ _ => (pts_one (ut_val (ue_call (E := E0) C__law_is_able (hr.mono (by decide)) rfl pass0 (pa_cons (ue_call (E := E0) C__law_docks (hr.mono (by decide)) rfl pass0 (pa_cons (pu 1) pa_nil)) (pa_cons (ue_call (E := E0) C__law_bikes (hr.mono (by decide)) rfl pass0 (pa_cons (pu 1) pa_nil)) (pa_cons (pu 7) pa_nil))))))) (fun _ _ _ _ _ => (pe_ix (kIx K) (pu 7) pe_int (fun _ _ => rfl))))
    (pss_cons (us_if (pt_not (ut_val (ue_call (E := E0) C__law_same (hr.mono (by decide)) rfl pass0 (pa_cons (pe_lst (pa_cons (ue_call (E := E0) C_able (hr.mono (by decide)) rfl pass0 (pa_cons (pu 3) pa_nil)) (pa_cons (ue_call (E := E0) C_ends (hr.mono (by decide)) rfl pass0 (pa_cons (pu 3) pa_nil)) pa_nil))) (pa_cons (pe_lst (pa_cons (pu 6) (pa_cons (ue_call (E := E0) C__law_ends (hr.mono (by decide)) rfl pass0 (pa_cons (pu 1) (pa_cons (pu 2) pa_nil))) pa_nil))) pa_nil))))) (pss_one (ps_ret pe_bl)) pss_nil)
    (pss_cons (us_if (pt_not (ut_val (ue_call (E := E0) C__law_same (hr.mono (by decide)) rfl pass0 (pa_cons (kMeth0 K (E := E0) Me_passes (hr.mono (by decide)) pass0 (pu 3)) (pa_cons (ue_call (E := E0) C__law_passes (hr.mono (by decide)) rfl pass0 (pa_cons (pu 2) pa_nil)) pa_nil))))) (pss_one (ps_ret pe_bl)) pss_nil)
    (pss_one (ps_ret (ue_call (E := E0) C__law_same (hr.mono (by decide)) rfl pass0 (pa_cons (ue_call (E := E0) C_write_town (hr.mono (by decide)) rfl pass0 (pa_cons (pu 3) pa_nil)) (pa_cons (ue_call (E := E0) C__law_text (hr.mono (by decide)) rfl pass0 (pa_cons (pe_op (kAdd K) (pu 1) (pu 2)) pa_nil)) pa_nil))))))))))))), ?_⟩)
  · obtain ⟨S, R, ws, rfl, _⟩ := h
    rfl
  · obtain ⟨S, R, ws, rfl, h⟩ := h
    obtain ⟨hS, hR, hm, htb, hk⟩ := h
    obtain ⟨gs, gr⟩ := hm.good
    refine ⟨ws, rfl, hm.1, hm.2.1, hm.2.2, htb, fun H1 x hx0 ht k1 => ?_⟩
    have htb1 := TbG.keep0 htb k1
    have hS := hS.keep k1
    have hR := hR.keep k1
    replace hk : ∀ H', Kp [] H1 H' → Q (.bl true) H' := fun H' k => hk H' (k1.trans k)
    clear hm htb
    generalize textS ws = zt
    generalize stsOf ws = ss at *
    generalize rdsOf ws = rs at *
    clear k1 hx0
    obtain ⟨xs, hx, rx⟩ := id hS
    obtain ⟨ys, hy, ry⟩ := id hR
    obtain ⟨dx, s0, r0, xs0, ys0, ha, hs0, hx1, hr0, hy0⟩ := id ht
    have h12 := gs.len
    have h24 := gr.len
    have hxl : xs.length = ss.length := by rw [rx.length]; simp
    have hyl : ys.length = rs.length := by rw [ry.length]; simp
    refine ⟨x, _, _, _, _, rfl, ha, cl_Town, na_Town_stations, rfl, x, _, _, _, _, rfl, ha, cl_Town, na_Town_rides, rfl, sl rfl, fun U hU => ?_⟩
    have k2 : Kp [] H1 (upd H1 U (.lst [.ref s0, .ref r0])) := Kp.new hU
    have rU : Rp (upd H1 U (.lst [.ref s0, .ref r0])) (.ref U) (twoD ss rs) := .lst upd_same (.cons (.tup (k2.get0 hs0) (hx1.keep k2)) (.cons (.tup (k2.get0 hr0) (hy0.keep k2)) .nil))
    generalize upd H1 U (.lst [.ref s0, .ref r0]) = H2 at k2 rU ⊢
    refine ⟨xs, .inl ⟨SqL.of (k2.get0 hx), fun m hm => ?_⟩⟩
    have k3 : Kp [] H2 (upd H2 m (.tup xs)) := Kp.new hm
    refine ⟨ys, .inl ⟨SqL.of ((k2.trans k3).get0 hy), fun m2 hm2 => ⟨sl rfl, fun W hW => ?_⟩⟩⟩
    have k4 : Kp [] (upd H2 m (.tup xs)) (upd (upd H2 m (.tup xs)) m2 (.tup ys)) := Kp.new hm2
    have k5 : Kp [] (upd (upd H2 m (.tup xs)) m2 (.tup ys)) (upd (upd (upd H2 m (.tup xs)) m2 (.tup ys)) W (.lst [.ref m, .ref m2])) := Kp.new hW
    have k25 := (k3.trans k4).trans k5
    have po := twoD_ok (ss := ss) (rs := rs) h12 h24
    refine ⟨.ref U, .ref W, twoD ss rs, twoD ss rs, rfl, rU.keep k25, .lst upd_same (.cons (.tup ((k4.trans k5).get0 upd_same) (rx.keep (k2.trans k25))) (.cons (.tup (k5.get0 upd_same) (ry.keep (k2.trans k25))) .nil)), po.1, po.2, fun b H9 hb k9 => ?_⟩
    have eb : b = true := hb.mpr rfl
    subst eb
    have K9 := (k2.trans k25).trans k9
    clear rU k2 k3 k4 k5 k25 k9
    refine brF ⟨S, rfl, ⟨_, SqL.of (K9.get0 hx)⟩, for_list (xs := xs) (fun i σ H' => ∃ (o4 : Option V), σ = [some (.str zt), some (.ref S), some (.ref R), some (.ref x), o4, none, none, none] ∧ Kp [] H1 H') ⟨none, rfl, K9⟩ ?_ ?_ ?_⟩
    · rintro i σ H11 _ ⟨o4, _, k⟩
      exact SqL.of (k.get0 hx)
    · rintro i z σ H11 hz11 ⟨o4, rfl, K11⟩
      obtain ⟨t, ht2, rt⟩ := row_at (rx.keep K11) hz11
      obtain ⟨c, rfl, hc⟩ := rp_st rt
      have hm := List.mem_of_getElem? ht2
      have T0 := SqT.of (K := K) hc
      have ta := ht.keep K11
      have la := Nat.le_trans (nameB_len (gs.nm t hm)) (show 8 ≤ 1000000 by decide)
      have hst := stOf_at gs.nd hm
      refine ⟨x, dx, _, rfl, K11.get0 ha, rfl, _, _, .inr T0, atI_nat (j := 0) rfl, x, ss, rs, t.1, rfl, ta, la, fun s hs => ?_, fun hn => by rw [hst] at hn; cases hn⟩
      obtain rfl : t = s := Option.some.inj (hst.symm.trans hs)
      refine ⟨x, dx, _, rfl, K11.get0 ha, rfl, _, _, .inr T0, atI_nat (j := 0) rfl, x, ss, rs, t.1, rfl, ta, la, fun s hs => ?_, fun hn => by rw [hst] at hn; cases hn⟩
      obtain rfl : t = s := Option.some.inj (hst.symm.trans hs)
      refine ⟨x, dx, _, rfl, K11.get0 ha, rfl, _, _, .inr T0, atI_nat (j := 0) rfl, x, ss, rs, t.1, rfl, ta, la, fun s hs => ?_, fun hn => by rw [hst] at hn; cases hn⟩
      obtain rfl : t = s := Option.some.inj (hst.symm.trans hs)
      refine ⟨sl rfl, fun C hC => ?_⟩
      have k12 : Kp [] H11 (upd H11 C (.lst [.int t.2.1, .int t.2.2, .int (t.2.1 - t.2.2)])) := Kp.new hC
      have T1 := SqT.of (K := K) (k12.get0 hc)
      refine ⟨_, _, .inr T1, atI_nat (j := 1) rfl, _, _, .inr T1, atI_nat (j := 2) rfl, _, _, .inr T1, atI_nat (j := 1) rfl, _, _, .inr T1, atI_nat (j := 2) rfl, sl rfl, fun W hW => ⟨.ref C, .ref W, .lst [.int t.2.1, .int t.2.2, .int (t.2.1 - t.2.2)], .lst [.int t.2.1, .int t.2.2, .int (t.2.1 - t.2.2)], rfl, .lst (get_new upd_same hW) (.cons (.int _) (.cons (.int _) (.cons (.int _) .nil))), .lst upd_same (.cons (.int _) (.cons (.int _) (.cons (.int _) .nil))), by simp [Dt.depth, depthL], ⟨by simp, trivial, trivial, trivial, trivial⟩, fun b H13 hb k13 => ?_⟩⟩
      have eb : b = true := hb.mpr rfl
      subst eb
      exact brF ⟨_, rfl, ((K11.trans k12).trans (Kp.new hW)).trans k13⟩
    rintro σ H11 ⟨o4, rfl, K11⟩
    refine ⟨_, .inl ⟨_, SqL.of (K11.get0 hy), rfl⟩, _, rfl, by omega, by omega, ?_⟩
    rw [Int.toNat_natCast, hyl]
    refine for_range (fun i σ H' => ∃ (o5 : Option V), σ = [some (.str zt), some (.ref S), some (.ref R), some (.ref x), o4, o5, none, none] ∧ Kp [] H1 H') ⟨none, rfl, K11⟩ ?_ ?_
    · rintro i σ H12 hi ⟨o5, rfl, K12⟩
      obtain ⟨v, hv, rv⟩ := RpL.get (ry.keep K12) (i := i) (d := rdD rs[i]) (by rw [List.getElem?_map, List.getElem?_eq_getElem hi]; rfl)
      obtain ⟨c, rfl, hc⟩ := rp_rd rv
      have hm : rs[i] ∈ rs := List.getElem_mem hi
      have e0 : (0 + (i : Int)) = (i : Nat) := by omega
      have ta := ht.keep K12
      have la := Nat.le_trans (nameB_len (gr.nm _ hm)) (show 8 ≤ 1000000 by decide)
      have hpo := posOf_at gr.nd (List.getElem?_eq_getElem hi)
      rw [e0]
      refine ⟨x, dx, _, rfl, K12.get0 ha, rfl, _, .ref c, .inl (SqL.of (K12.get0 hy)), atI_nat hv, _, _, .inr (SqT.of hc), atI_nat (j := 0) rfl, x, ss, rs, rs[i].1, rfl, ta, la, fun j hj H13 k13 => ?_, fun hn => by rw [hpo] at hn; cases hn⟩
      obtain rfl : i = j := Option.some.inj (hpo.symm.trans hj)
      have K13 := K12.trans k13
      refine ⟨x, dx, _, rfl, K13.get0 ha, rfl, _, .ref c, .inl (SqL.of (K13.get0 hy)), atI_nat hv, _, _, .inr (SqT.of (k13.get0 hc)), atI_nat (j := 0) rfl, x, ss, rs, rs[i].1, rfl, ht.keep K13, la, fun j q H14 bb hj hq hbb k14 => ?_, fun hn => by rw [hpo] at hn; cases hn⟩
      obtain rfl : i = j := Option.some.inj (hpo.symm.trans hj)
      obtain rfl : rs[i] = q := Option.some.inj ((List.getElem?_eq_getElem hi).symm.trans hq)
      have K14 := K13.trans k14
      refine ⟨sl rfl, fun C hC => ⟨_, .ref c, .inl (SqL.of ((K14.trans (Kp.new hC)).get0 hy)), atI_nat hv, sl rfl, fun W hW => ?_⟩⟩
      have ao := atD_ok i rs[i]
      have kCW : Kp [] H14 (upd (upd H14 C (.lst [.int i, .ref bb])) W (.lst [.int i, .ref c])) := (Kp.new hC).trans (Kp.new hW)
      refine ⟨.ref C, .ref W, atD i rs[i], atD i rs[i], rfl, .lst (get_new upd_same hW) (.cons (.int _) (.cons (.tup (kCW.get0 hbb) (.cons (.str _) (.cons (.str _) (.cons (.str _) (.cons (.bl _) .nil))))) .nil)), .lst upd_same (.cons (.int _) (.cons (rv.keep ((k13.trans k14).trans kCW)) .nil)), ao.1, ao.2, fun b H15 hb k15 => ?_⟩
      have eb : b = true := hb.mpr rfl
      subst eb
      exact brF ⟨_, rfl, (K14.trans kCW).trans k15⟩
    rintro σ H12 ⟨o5, rfl, K12⟩
    refine ⟨R, rfl, ⟨_, SqL.of (K12.get0 hy)⟩, fun G hG => lc_list (xs := ys) (LcP [] H12 G fun i => (((rs.take i).filter (ableF ss)).map (·.1)).map V.str) (LcP.start hG rfl) (fun i H13 _ q => SqL.of ((K12.trans q.2).get0 hy)) (fun i z H13 hz13 q => ?_) fun H13 q => ?_⟩
    · have K13 := K12.trans q.2
      obtain ⟨t, ht2, rt⟩ := row_at (ry.keep K13) hz13
      obtain ⟨c, rfl, hc⟩ := rp_rd rt
      have tf := filt_take (f := ableF ss) ht2
      have fl : ((rs.take i).filter (ableF ss)).length ≤ 24 := Nat.le_trans (List.length_filter_le _ _) (by simp; omega)
      refine ⟨rfl, S, ss, rfl, hS.keep K13, gs.nd, gs.len, fun H14 D hD _ k14 => ⟨S, ss, rfl, hS.keep (K13.trans k14), gs.nd, gs.len, fun H15 B hB _ k15 => ⟨D, B, c, ss.map (·.1), lk dkd ss, lk bkd ss, t, rfl, k15.get0 hD, hB, (k14.trans k15).get0 hc, gr.rdIn (List.mem_of_getElem? ht2), ?_⟩⟩⟩
      by_cases e : ableB (lk dkd ss) (lk bkd ss) t = true
      · have e' : ableF ss t = true := e
        show if _ = true then _ else _
        rw [if_pos e]
        refine ⟨_, _, .inr (SqT.of ((k14.trans k15).get0 hc)), atI_nat (j := 0) rfl, q.step hG (k14.trans k15) (by simp) ?_ ?_⟩
        · simp only [tf]; simp [e']
        · rw [List.length_map, List.length_map]; exact small_lt' fl
      · have e' : ableF ss t = false := by simpa [ableF] using e
        show if _ = true then _ else _
        rw [if_neg e]
        exact q.skip (k14.trans k15) (by simp) (by simp only [tf]; simp [e'])
    have hG13 : H13 G = some (.lst (((((rs.take ys.length).filter (ableF ss)).map (·.1)).map V.str))) := q.1
    rw [hyl, List.take_length] at hG13
    have hG13 : H13 G = some (.lst ((ableN ss rs).map V.str)) := hG13
    have K13 := K12.trans q.2
    refine ⟨x, ss, rs, rfl, ht.keep K13, gs, gr, fun H14 p hp _ k14 => ⟨x, ss, rs, rfl, ht.keep (K13.trans k14), gs, gr, fun H15 E hE _ k15 => ⟨sl rfl, fun U hU => ?_⟩⟩⟩
    have kU : Kp [] H15 (upd H15 U (.lst [.ref p, .ref E])) := Kp.new hU
    have K16 := ((K13.trans k14).trans k15).trans kU
    refine ⟨S, R, ss, rs, rfl, hS.keep K16, hR.keep K16, gs.nd, gs.len, fun H17 E2 hE2 _ k17 => ⟨sl rfl, fun W hW => ?_⟩⟩
    have kW : Kp [] H17 (upd H17 W (.lst [.ref G, .ref E2])) := Kp.new hW
    have ae := aeD_ok (ss := ss) (rs := rs) h12 h24
    refine ⟨.ref U, .ref W, aeD ss rs, aeD ss rs, rfl, .lst ((k17.trans kW).get0 upd_same) (.cons (str_rp ((((k15.trans kU).trans k17).trans kW).get0 hp)) (.cons (dk_rp (((kU.trans k17).trans kW).get0 hE) gs.nd) .nil)), .lst upd_same (.cons (str_rp (((((k14.trans k15).trans kU).trans k17).trans kW).get0 hG13)) (.cons (dk_rp (kW.get0 hE2) gs.nd) .nil)), ae.1, ae.2, fun b H18 hb k18 => ?_⟩
    have eb : b = true := hb.mpr rfl
    subst eb
    have K18 := ((K16.trans k17).trans kW).trans k18
    refine brF ⟨x, dx, _, rfl, K18.get0 ha, rfl, x, ss, rs, rfl, ht.keep K18, h24, TbG.keep0 htb1 K18, fun H19 k19 => ⟨R, rs, rfl, hR.keep (K18.trans k19), h24, fun H20 k20 => ⟨_, _, .int (passesOf rs), .int (passesOf rs), rfl, .int _, .int _, Nat.zero_le _, trivial, fun b H21 hb k21 => ?_⟩⟩⟩
    have eb : b = true := hb.mpr rfl
    subst eb
    have K21 := ((K18.trans k19).trans k20).trans k21
    refine brF ⟨x, ss, rs, rfl, ht.keep K21, gs, gr, fun H22 k22 => ?_⟩
    have K22 := K21.trans k22
    refine .inl ⟨_, _, K22.get0 hx, K22.get0 hy, ?_, fun M hM => ?_⟩
    · exact Nat.le_trans (show xs.length + ys.length ≤ 100 by omega) (sl rfl)
    have ok : ∀ w ∈ (ss.map Sum.inl ++ rs.map Sum.inr : List Row), RowOk w := fun w hw => by
      rcases List.mem_append.mp hw with h | h
      · obtain ⟨t, ht, rfl⟩ := List.mem_map.mp h
        exact (good_row gs gr).1 t ht
      · obtain ⟨t, ht, rfl⟩ := List.mem_map.mp h
        exact (good_row gs gr).2 t ht
    have K23 := K22.trans (Kp.new (o := .lst (xs ++ ys)) hM)
    have lM : LstAt (upd H22 M (.lst (xs ++ ys))) M ((ss.map Sum.inl ++ rs.map Sum.inr : List Row).map rowD) := ⟨xs ++ ys, upd_same, by
      have e : (ss.map Sum.inl ++ rs.map Sum.inr : List Row).map rowD = ss.map stD ++ rs.map rdD := by simp [rowD, Function.comp_def]
      rw [e]
      exact (rx.keep K23).app (ry.keep K23)⟩
    refine ⟨M, _, rfl, lM, ok, by simp; omega, fun H24 k24 => ⟨_, _, .str _, .str _, rfl, .str _, .str _, Nat.zero_le _, trivial, fun b H25 hb k25 => ?_⟩⟩
    have eb : b = true := hb.mpr rfl
    subst eb
    exact hk _ ((K23.trans k24).trans k25)
end
end LW
set_option Elab.async false
set_option linter.all false
set_option maxRecDepth 100000
set_option maxHeartbeats 1000000
namespace LW
open PySem PySem.Spec PyProof.Rows L2 U
--  : Nat) : Stmt := PySem.Challenge.pw_manyrides_k03_text_and_town_are_each_oth.main.body.getD i (.Pass ⟨0, 0, 0, 0⟩)
section
variable {P : Program} {w : World} {K : PySem.W.Frag} {mg : Str → Option Value} {base : Heap}
def rowP : Row → PyData
  | .inl s => .tuple [.str s.1, .int s.2.1, .int s.2.2]
  | .inr r => .tuple [.str r.1, .str r.2.1, .str r.2.2.1, .bool r.2.2.2]
theorem name_ok {z : Str} (h : z = ("street" : Str) ∨ nameB z = true) : PyData.strOk z = true := by
  rcases h with h | h
  · subst h; decide +kernel
  · have ha : z.cps.toList.all (fun c => inS LA c || inS DI c) = true := by
      simp only [nameB, Bool.and_eq_true] at h
      exact h.2.2.2.2
    have l1 : ∀ c ∈ LA.cps.toList, c < 0x110000 := by decide +kernel
    have l2 : ∀ c ∈ DI.cps.toList, c < 0x110000 := by decide +kernel
    unfold PyData.strOk
    rw [Array.all_eq_true']
    intro c hc
    have := List.all_eq_true.mp ha c (Array.mem_toList_iff.mpr hc)
    rw [Bool.or_eq_true] at this
    rcases this with h | h
    · exact decide_eq_true (l1 c (of_decide_eq_true h))
    · exact decide_eq_true (l2 c (of_decide_eq_true h))
theorem rowP_lay {w : Row} (h : RowOk w) : (rowP w).canLay0 = true := by
  cases w with
  | inl s => simp [rowP, PyData.canLay0, PyData.canLayAll0, name_ok (.inr h.1)]
  | inr r => simp [rowP, PyData.canLay0, PyData.canLayAll0, name_ok (.inr h.1), name_ok h.2.1, name_ok h.2.2]
theorem rowP_depth (w : Row) : (rowP w).depth = 1 := by cases w <;> simp [rowP, PyData.depth, PyData.depthAll]
theorem rowsP_lay : ∀ {ws : List Row}, (∀ w ∈ ws, RowOk w) → PyData.canLayAll0 (ws.map rowP) = true
  | [], _ => by simp [PyData.canLayAll0]
  | w :: ws, h => by
    have h1 := rowP_lay (h w (by simp))
    have h2 := rowsP_lay (ws := ws) fun u hu => h u (by simp [hu])
    simp only [List.map_cons, PyData.canLayAll0, h1, h2]; rfl
theorem rowsP_depth : ∀ ws : List Row, PyData.depthAll (ws.map rowP) ≤ 1
  | [] => by simp [PyData.depthAll]
  | w :: ws => by
    have h1 := rowsP_depth ws
    have h2 := rowP_depth w
    simp only [List.map_cons, PyData.depthAll]
    omega
theorem rowP_shaped {w : Row} (h : RowOk w) : SeqAt.shaped (rowP w) = true := by
  have h2 := rowP_depth w
  show ((rowP w).canLay0 && decide ((rowP w).depth ≤ 64)) = true
  rw [Bool.and_eq_true]
  exact ⟨rowP_lay h, decide_eq_true (by omega)⟩
theorem rowsP_shaped {ws : List Row} (h : ∀ w ∈ ws, RowOk w) : SeqAt.shaped (.list (ws.map rowP)) = true := by
  have h1 := rowsP_depth ws
  have h2 : PyData.depth (.list (ws.map rowP)) ≤ 64 := by
    simp only [PyData.depth]
    omega
  show (PyData.canLay0 (.list (ws.map rowP)) && decide (PyData.depth (.list (ws.map rowP)) ≤ 64)) = true
  rw [Bool.and_eq_true]
  exact ⟨by simp only [PyData.canLay0]; exact rowsP_lay h, decide_eq_true h2⟩
theorem rowP_eqv (a b : Row) : PyData.eqv (rowP a) (rowP b) = decide (a = b) := by
  cases a with
  | inl s =>
    obtain ⟨a1, a2, a3⟩ := s
    cases b with
    | inl t => obtain ⟨b1, b2, b3⟩ := t; rw [Bool.eq_iff_iff]; simp [rowP, PyData.eqv, PyData.eqvAll]
    | inr t => obtain ⟨b1, b2, b3, b4⟩ := t; rw [Bool.eq_iff_iff]; simp [rowP, PyData.eqv, PyData.eqvAll]
  | inr s =>
    obtain ⟨a1, a2, a3, a4⟩ := s
    cases b with
    | inl t => obtain ⟨b1, b2, b3⟩ := t; rw [Bool.eq_iff_iff]; simp [rowP, PyData.eqv, PyData.eqvAll]
    | inr t => obtain ⟨b1, b2, b3, b4⟩ := t; rw [Bool.eq_iff_iff]; simp [rowP, PyData.eqv, PyData.eqvAll]
theorem row_dp {K : PySem.W.Frag} {H : Hp} {v : V} {w : Row} (h : Rp H v (rowD w)) : Dp K H v (rowP w) := by
  obtain ⟨b, rfl, hb⟩ := rp_row h
  cases w with
  | inl s => exact .tup (SqT.of hb) (.cons (.str _) (.cons (.int _) (.cons (.int _) .nil)))
  | inr r => exact .tup (SqT.of hb) (.cons (.str _) (.cons (.str _) (.cons (.str _) (.cons (.bl _) .nil))))
theorem rows_dp {K : PySem.W.Frag} {H : Hp} : ∀ {ws : List Row} {xs : List V}, RpL H xs (ws.map rowD) → DpAll K H xs (ws.map rowP)
  | [], _, h => by cases h; exact .nil
  | w :: ws, _, h => by
    cases h with
    | cons a r => exact .cons (row_dp a) (rows_dp r)
def knownB (ds : List Row) (r : Rd) : Bool := decide (r.2.1 ∈ ("street" : Str) :: (stsOf ds).map (·.1)) && decide (r.2.2.1 ∈ ("street" : Str) :: (stsOf ds).map (·.1))
def Ord (ds : List Row) : Prop := ∀ i r, ds[i]? = some (.inr r) → knownB (ds.take i) r = true
def readyB (ds : List Row) : Row → Bool
  | .inl _ => true
  | .inr r => knownB ds r
theorem Ord.snoc {ds : List Row} {w : Row} (h : Ord ds) (hw : readyB ds w = true) : Ord (ds ++ [w]) := by
  intro i r hi
  by_cases c : i < ds.length
  · rw [List.getElem?_append_left c] at hi
    rw [List.take_append_of_le_length (by omega)]
    exact h i r hi
  · have hlt : i < (ds ++ [w]).length := (List.getElem?_eq_some_iff.mp hi).1
    have e : i = ds.length := by simp at hlt; omega
    subst e
    rw [List.getElem?_append_right (Nat.le_refl _), Nat.sub_self] at hi
    have hi : w = .inr r := by simpa using hi
    subst hi
    rw [List.take_left]
    exact hw
theorem stsOf_mem {ws : List Row} {s : St} : s ∈ stsOf ws ↔ Sum.inl s ∈ ws := by
  unfold stsOf
  rw [List.mem_filterMap]
  constructor
  · rintro ⟨a, ha, e⟩
    cases a with
    | inl t => cases e; exact ha
    | inr t => cases e
  · intro h
    exact ⟨.inl s, h, rfl⟩
theorem rdsOf_mem {ws : List Row} {r : Rd} : r ∈ rdsOf ws ↔ Sum.inr r ∈ ws := by
  unfold rdsOf
  rw [List.mem_filterMap]
  constructor
  · rintro ⟨a, ha, e⟩
    cases a with
    | inl t => cases e
    | inr t => cases e; exact ha
  · intro h
    exact ⟨.inr r, h, rfl⟩
theorem known_mono {as bs : List Row} (h : ∀ s, Sum.inl s ∈ as → Sum.inl s ∈ bs) {r : Rd} (k : knownB as r = true) : knownB bs r = true := by
  simp only [knownB, Bool.and_eq_true, decide_eq_true_eq, List.mem_cons, List.mem_map, stsOf_mem] at k ⊢
  exact ⟨k.1.imp id fun ⟨s, h1, h2⟩ => ⟨s, h s h1, h2⟩, k.2.imp id fun ⟨s, h1, h2⟩ => ⟨s, h s h1, h2⟩⟩
/-- something is ready as long as something is left -/
theorem ready_ex {ds ls us : List Row} (p : (ds ++ ls).Perm us) (hk : ∀ r, Sum.inr r ∈ us → knownB us r = true) (h : ls ≠ []) : ls.filter (readyB ds) ≠ [] := by
  intro hn
  have hno : ∀ w ∈ ls, readyB ds w = false := fun w hw => by
    cases e : readyB ds w with
    | false => rfl
    | true =>
      have : w ∈ ls.filter (readyB ds) := List.mem_filter.mpr ⟨hw, e⟩
      rw [hn] at this; cases this
  cases ls with
  | nil => exact h rfl
  | cons w ls =>
    have hw := hno w (by simp)
    cases w with
    | inl s => cases hw
    | inr r =>
      have hm : (Sum.inr r : Row) ∈ us := p.mem_iff.mp (by simp)
      have := known_mono (bs := ds) (fun s hs => by
        have := p.mem_iff.mpr hs
        rcases List.mem_append.mp this with h | h
        · exact h
        · have := hno _ h; cases this) (hk r hm)
      have hw : knownB ds r = false := hw
      rw [this] at hw; cases hw
end
end LW
set_option Elab.async false
set_option linter.all false
set_option maxRecDepth 100000
set_option maxHeartbeats 1000000
namespace LW
open PySem PySem.Spec PyProof.Rows L2 U
--  : Nat) : Stmt := PySem.Challenge.pw_manyrides_k03_text_and_town_are_each_oth.main.body.getD i (.Pass ⟨0, 0, 0, 0⟩)
section
variable {P : Program} {w : World} {K : PySem.W.Frag} {mg : Str → Option Value} {base : Heap}
theorem rows_still (ws : List Row) : stillL (ws.map rowD) = true := map_still rowD row_still ws
def stN : Row → List Str
  | .inl s => [s.1]
  | .inr _ => []
theorem st_take {ds : List Row} {i : Nat} {w : Row} (h : ds[i]? = some w) : (stsOf (ds.take (i + 1))).map (·.1) = (stsOf (ds.take i)).map (·.1) ++ stN w := by
  rw [List.take_add_one, h]
  cases w <;> simp [stsOf, stN]
theorem rowNe {ws : List Row} : ∀ d ∈ ws.map rowD, ∀ i : Int, d ≠ .int i := fun d hd i => by
  obtain ⟨r, _, rfl⟩ := List.mem_map.mp hd
  cases r <;> exact fun z => nomatch z
theorem z100 : 100 ≤ sizeLine := sl rfl
theorem sts_len (ds : List Row) : (stsOf ds).length ≤ ds.length := by
  unfold stsOf
  exact List.length_filterMap_le _ _
abbrev s__law_mixed : Stmt := top 50
abbrev N__law_mixed : List Str := ["pool", "rows", "done", "left", "k", "known", "ready", "picked", "row"]
theorem sc__law_mixed : FnScope N__law_mixed ["pool", "rows"] (defScope s__law_mixed) := ⟨rfl, rfl, rfl, by decide +kernel, rfl, by decide +kernel, by decide +kernel⟩
def sp__law_mixed (K : PySem.W.Frag) : Sp := fun vs H Q _ => ∃ (p l : Addr) (us : List Row), vs = [.ref p, .ref l] ∧ (Pool H p ∧ LstAt H l (us.map rowD) ∧ us.Nodup ∧ us.length ≤ 36 ∧ (∀ w ∈ us, RowOk w) ∧ (∀ r, Sum.inr r ∈ us → knownB us r = true) ∧ ∀ H' a ws, LstAt H' a (ws.map rowD) → ws.Perm us → Ord ws → H a = none → Pool H' p → Kp [p] H H' → Q (.ref a) H')
theorem ok__law_mixed {f : Addr} {fd : FuncData} (F : FunD K "_law_mixed" "_law_mixed" (defArgs s__law_mixed) (defBody s__law_mixed) (defScope s__law_mixed) [] [] f fd)
    (mN_list : mg "list" = none)
    (mN_range : mg "range" = none)
    (mN_len : mg "len" = none)
    (C__law_take : Cal P w K mg base CX0 1 "_law_take" ["pool", "limit"] (sp__law_take K)) : FnOk P w K mg base CX0 2 f fd ["pool", "rows"] (sp__law_mixed K) := by
  refine F.ok sc__law_mixed (fun vs H Q E h => ?_) (fun cdv A outer s H vs Q E hr h => ⟨_, PSs.nox ((pss_cons (ps_set (i := 2) sc__law_mixed.nd rfl (.inl rfl) (pe_lst pa_nil))
    (pss_cons (ps_set (i := 3) sc__law_mixed.nd rfl (.inl rfl) (pe_callTy (kList K rfl) (by rfl) mN_list (by decide +kernel) (pa_cons (pu 1) pa_nil)))
    (pss_cons (ps_for PassesOwn.never rfl (pi_range1 (by rfl) mN_range (pa_cons (pe_callB (kLen K) (by rfl) mN_len boot_len (pa_cons (pu 1) pa_nil)) pa_nil)) (pg_name (i := 4) sc__law_mixed.nd rfl (.inl rfl)) (C8.pss_cut (ps_set (i := 5) sc__law_mixed.nd rfl (.inr rfl) (pe_op (kAdd K) (pe_lst (pa_cons pe_str pa_nil)) (pe_lc (own := [("row", 8)]) rfl sc__law_mixed.nd (kiList K (pu 2)) (blkOk_by (N := N__law_mixed) (sc := defScope s__law_mixed) (by decide +kernel)) (fun _ _ _ _ _ => (pg_name (i := 8) sc__law_mixed.nd rfl (.inl rfl))) (fun _ _ _ _ _ => (pts_one (ut_cmp (kEq K hr.units) (pe_callB (kLen K) (by rfl) mN_len boot_len (pa_cons (pu 8) pa_nil)) pe_int (nomark _)))) (fun _ _ _ _ _ => (pe_ix (kIx K) (pu 8) pe_int (fun _ _ => rfl))))))
    (C8.pss_cut (ps_setLc (i := 6) (own := [("row", 8)]) rfl sc__law_mixed.nd rfl rfl (sw_true rfl rfl rfl (by decide +kernel)) (kiList K (pu 3)) (blkOk_by (N := N__law_mixed) (sc := defScope s__law_mixed) (by decide +kernel)) (fun _ _ _ _ _ => (pg_name (i := 8) sc__law_mixed.nd rfl (.inl rfl))) (fun _ _ _ _ _ => (pts_one (PW.pt (uw_or (ut_cmp (kEq K hr.units) (pe_callB (kLen K) (by rfl) mN_len boot_len (pa_cons (pu 8) pa_nil)) pe_int (nomark _)) (pw_or1 (PW.pt (uw_and (ut_cmp (kIn K) (pe_ix (kIx K) (pu 8) pe_int (fun _ _ => rfl)) (pu 5) (by rfl)) (pw_and1 (ut_cmp (kIn K) (pe_ix (kIx K) (pu 8) pe_int (fun _ _ => rfl)) (pu 5) (by rfl)))))))))) (fun _ _ _ _ _ => (pu 8)))
    (C8.pss_cut (ps_set (i := 7) sc__law_mixed.nd rfl (.inl rfl) (pe_ix (kIx K) (pu 6) (ue_call (E := E0) C__law_take (hr.mono (by decide)) rfl pass0 (pa_cons (pu 0) (pa_cons (pe_callB (kLen K) (by rfl) mN_len boot_len (pa_cons (pu 6) pa_nil)) pa_nil))) (fun _ _ => rfl)))
    (pss_cons (ps_expr (ue_append (pu 2) (pa_cons (pu 7) pa_nil)))
    (pss_one (ps_expr (kBm K PySem.F.plainAttrs_list PySem.F.slot_list_remove PySem.F.type_list_remove (kRemD K (U.Room.units65 hr)) (pu 3) (pa_cons (pu 7) pa_nil)))))))))
    (pss_one (ps_ret (pu 2))))))), ?_⟩)
  · obtain ⟨p, l, us, rfl, _⟩ := h
    rfl
  · obtain ⟨p, l, us, rfl, h⟩ := h
    obtain ⟨hp, hl, nd, h36, hok, hkn, hk⟩ := h
    obtain ⟨zs, hz, rz⟩ := hl
    have hzl : zs.length = us.length := by rw [rz.length]; simp
    refine ⟨sl rfl, fun D hD => ⟨zs, .inl (SqL.of (get_new hz hD)), fun L hL => ⟨_, .inl ⟨_, SqL.of (get_new (get_new hz hD) hL), rfl⟩, _, rfl, by omega, by omega, ?_⟩⟩⟩
    rw [Int.toNat_natCast, hzl]
    have hDp : D ≠ p := Pool.ne (o := .lst []) hp hD
    have hLp : L ≠ p := Pool.ne (o := .lst []) (hp.new hD) hL
    have hL0 : H L = none := none_of hL
    have hLD : L ≠ D := fun e => by subst e; rw [upd_same] at hL; cases hL
    have k0 : Kp [p] H (upd (upd H D (.lst [])) L (.lst zs)) := (Kp.new hD).trans (Kp.new hL)
    refine for_range (fun i σ H' => ∃ (ds ls : List Row) (o4 o5 o6 o7 : Option V), σ = [some (.ref p), some (.ref l), some (.ref D), some (.ref L), o4, o5, o6, o7, none] ∧ LstAt H' D (ds.map rowD) ∧ LstAt H' L (ls.map rowD) ∧ (ds ++ ls).Perm us ∧ ds.length = i ∧ Ord ds ∧ Pool H' p ∧ Kp [p] H H') ⟨[], us, none, none, none, none, rfl, ⟨[], get_new upd_same hL, .nil⟩, ⟨zs, upd_same, rz.keep ((Kp.new hD).trans (Kp.new hL))⟩, by simp, rfl, fun i r h => by simp at h, (hp.new hD).new hL, k0⟩ ?_ ?_
    · rintro i σ H1 hi ⟨ds, ls, o4, o5, o6, o7, rfl, ⟨xs, hx, rx⟩, ⟨ys, hy, ry⟩, pm, hdl, od, p1, k1⟩
      have hlen := pm.length_eq
      rw [List.length_append] at hlen
      have hls : ls ≠ [] := fun e => by subst e; simp at hlen; omega
      have hxl : xs.length = ds.length := by rw [rx.length]; simp
      have hyl : ys.length = ls.length := by rw [ry.length]; simp
      have dst := rows_still ds
      have lst := rows_still ls
      have okl : ∀ w ∈ ls, RowOk w := fun w hw => hok w (pm.mem_iff.mp (by simp [hw]))
      refine ⟨fun σ H2 => ∃ M, σ = [some (.ref p), some (.ref l), some (.ref D), some (.ref L), some (.int (0 + (i : Int))), some (.ref M), o6, o7, none] ∧ H2 M = some (.lst ((("street" : Str) :: (stsOf ds).map (·.1)).map V.str)) ∧ Kp [] H1 H2, ⟨sl rfl, fun T hT => ?_⟩, ?_⟩
      · have kT : Kp [] H1 (upd H1 T (.lst [.str "street"])) := Kp.new hT
        refine ⟨D, rfl, ⟨_, SqL.of (kT.get0 hx)⟩, fun N hN => lc_list (xs := xs) (LcP [] (upd H1 T (.lst [.str "street"])) N fun i => ((stsOf (ds.take i)).map (·.1)).map V.str) (LcP.start hN rfl) (fun i H2 _ q => SqL.of ((kT.trans q.2).get0 hx)) (fun j z H2 hz2 q => ?_) fun H2 q => ?_⟩
        · obtain ⟨w, hw2, rw2⟩ := row_at (rx.keep (kT.trans q.2)) hz2
          obtain ⟨b, rfl, hb⟩ := rp_row rw2
          have st := st_take hw2
          refine ⟨rfl, _, .inr (.inl ⟨_, SqT.of hb, rfl⟩), rfl, ?_⟩
          have hsm : ((stsOf (ds.take j)).map (·.1)).length < 100 := by
            rw [List.length_map]
            have := sts_len (ds.take j)
            have h2 : (ds.take j).length ≤ ds.length := by simp; omega
            omega
          cases w with
          | inl s =>
            show if (true : Bool) = true then _ else _
            rw [if_pos rfl]
            refine ⟨_, _, .inr (SqT.of hb), atI_nat (j := 0) rfl, q.step hN Kp.refl (by simp) ?_ ?_⟩
            · simp only [st]; simp [stN]
            · rw [List.length_map]; exact Nat.lt_of_lt_of_le hsm z100
          | inr r =>
            show if (false : Bool) = true then _ else _
            rw [if_neg (by decide)]
            exact q.skip Kp.refl (by simp) (by simp only [st]; simp [stN])
        have hN2 : H2 N = some (.lst (((stsOf (ds.take xs.length)).map (·.1)).map V.str)) := q.1
        rw [hxl, List.take_length] at hN2
        have hs := sts_len ds
        refine .inl ⟨_, _, q.2.get0 upd_same, hN2, ?_, fun M hM => ⟨M, rfl, by rw [upd_same]; simp, (kT.trans q.2).trans (Kp.new hM)⟩⟩
        have := z100
        simp; omega
      rintro σ H2 ⟨M, rfl, hM2, k2⟩
      have hy2 := k2.get0 hy
      have ry2 := ry.keep k2
      refine ⟨fun σ H3 => ∃ (G : Addr) (gs : List V), σ = [some (.ref p), some (.ref l), some (.ref D), some (.ref L), some (.int (0 + (i : Int))), some (.ref M), some (.ref G), o7, none] ∧ H3 G = some (.lst gs) ∧ RpL H3 gs ((ls.filter (readyB ds)).map rowD) ∧ Kp [] H2 H3, ⟨L, rfl, ⟨_, SqL.of hy2⟩, fun G hG => lc_list (xs := ys) (LcR H2 G fun i => ((ls.take i).filter (readyB ds)).map rowD) (LcR.start hG rfl) (fun i H3 _ q => ?_) (fun j z H3 hz3 q => ?_) fun H3 q => ?_⟩, ?_⟩
      · obtain ⟨_, _, _, _, k⟩ := q
        exact SqL.of (k.get0 hy2)
      · obtain ⟨_, _, _, _, k3⟩ := id q
        obtain ⟨w, hw3, rw3⟩ := row_at (ry2.keep k3) hz3
        obtain ⟨b, rfl, hb⟩ := rp_row rw3
        have tf := filt_take (f := readyB ds) hw3
        have fl : ((ls.take j).filter (readyB ds)).length < 100 := Nat.lt_of_le_of_lt (List.length_filter_le _ _) (by simp; omega)
        refine ⟨rfl, ?_⟩
        cases w with
        | inl s =>
          refine ⟨_, .inr (.inl ⟨_, SqT.of hb, rfl⟩), rfl, brT ?_⟩
          show if (true : Bool) = true then _ else _
          rw [if_pos rfl]
          refine q.step hG Kp.refl (d := rowD (.inl s)) rw3 (row_still _) ?_ ?_
          · simp only [tf]; simp [readyB]
          · rw [List.length_map]; exact Nat.lt_of_lt_of_le fl z100
        | inr r =>
          have hM3 := k3.get0 hM2
          refine ⟨_, .inr (.inl ⟨_, SqT.of hb, rfl⟩), rfl, brF ⟨_, _, .inr (SqT.of hb), atI_nat (j := 1) rfl, _, .inl (SqL.of hM3), rfl, flat_strs _, ?_⟩⟩
          rw [inV_str]
          refine brK (fun c1 => ⟨_, _, .inr (SqT.of hb), atI_nat (j := 2) rfl, _, .inl (SqL.of hM3), rfl, flat_strs _, ?_⟩) fun c1 => ?_
          · rw [inV_str]
            by_cases c2 : r.2.2.1 ∈ ("street" : Str) :: (stsOf ds).map (·.1)
            · have kb : knownB ds r = true := by unfold knownB; rw [c1, decide_eq_true c2]; rfl
              rw [decide_eq_true c2]
              show if (true : Bool) = true then _ else _
              rw [if_pos rfl]
              refine q.step hG Kp.refl (d := rowD (.inr r)) rw3 (row_still _) ?_ ?_
              · simp only [tf]; simp [readyB, kb]
              · rw [List.length_map]; exact Nat.lt_of_lt_of_le fl z100
            · have kb : knownB ds r = false := by unfold knownB; rw [decide_eq_false c2, Bool.and_false]
              rw [decide_eq_false c2]
              show if (false : Bool) = true then _ else _
              rw [if_neg (by decide)]
              exact LcR.skip q Kp.refl (by simp only [tf]; simp [readyB, kb])
          · have kb : knownB ds r = false := by unfold knownB; rw [c1, Bool.false_and]
            show if (false : Bool) = true then _ else _
            rw [if_neg (by decide)]
            exact LcR.skip q Kp.refl (by simp only [tf]; simp [readyB, kb])
      · obtain ⟨gs, hG3, rG, _, k3⟩ := q
        dsimp only at rG
        rw [hyl, List.take_length] at rG
        exact ⟨G, gs, rfl, hG3, rG, k3⟩
      rintro σ H3 ⟨G, gs, rfl, hG3, rG, k3⟩
      have hgl : gs.length = (ls.filter (readyB ds)).length := by rw [rG.length]; simp
      have hg1 : 1 ≤ gs.length := by
        rw [hgl]
        have := ready_ex pm hkn hls
        cases e : ls.filter (readyB ds) with
        | nil => exact absurd e this
        | cons a b => simp
      have hg36 : gs.length ≤ 36 := by rw [hgl]; exact Nat.le_trans (List.length_filter_le _ _) (by omega)
      have k13 := k2.trans k3
      have p3 : Pool H3 p := p1.keep k13 (by simp)
      have gst := rows_still (ls.filter (readyB ds))
      have hGp : G ≠ p := LstAt.neP (ds := (ls.filter (readyB ds)).map rowD) ⟨gs, hG3, rG⟩ p3 rowNe
      refine ⟨fun σ H4 => ∃ (c : Addr) (w : Row), σ = [some (.ref p), some (.ref l), some (.ref D), some (.ref L), some (.int (0 + (i : Int))), some (.ref M), some (.ref G), some (.ref c), none] ∧ w ∈ ls ∧ readyB ds w = true ∧ Rp H4 (.ref c) (rowD w) ∧ Pool H4 p ∧ Kp [p] H3 H4, ⟨_, .inl ⟨_, SqL.of hG3, rfl⟩, p, _, rfl, p3, ?_, fun H4 d d0 d1 p4 k4 => ?_⟩, ?_⟩
      · omega
      · obtain ⟨v, hv, hv2⟩ := atI_at (l := gs) d0 (by simpa using d1)
        obtain ⟨w, hw4, rw4⟩ := row_at (rG.still (p3.tk k4) gst) hv2
        obtain ⟨c, rfl, hc⟩ := rp_row rw4
        obtain ⟨m1, m2⟩ := List.mem_filter.mp (List.mem_of_getElem? hw4)
        exact ⟨_, _, .inl (SqL.of (k4.get1 hG3 hGp)), hv, c, w, rfl, m1, m2, rw4, p4, k4⟩
      rintro σ H4 ⟨c, w, rfl, hwl, hwr, rwc, p4, k4⟩
      have k14 : Kp [p] H1 H4 := k13.to.trans k4
      have tk14 := p1.tk k14
      have hx4 := k14.get1 hx hDp
      have hy4 := k14.get1 hy hLp
      have rx4 := rx.still tk14 dst
      have ry4 := ry.still tk14 lst
      obtain ⟨j, hj⟩ := List.mem_iff_getElem?.mp hwl
      have hjl : j < ls.length := (List.getElem?_eq_some_iff.mp hj).1
      have ndl : ls.Nodup := (List.nodup_append.mp (pm.nodup_iff.mpr nd)).2.1
      have tk5 : TK H4 (upd H4 D (.lst (xs ++ [.ref c]))) := TK.put hx4
      have hD5 : upd H4 D (.lst (xs ++ [.ref c])) D = some (.lst (xs ++ [.ref c])) := upd_same
      have hy5 : upd H4 D (.lst (xs ++ [.ref c])) L = some (.lst ys) := get_ne hy4 hLD
      have rx5 : RpL (upd H4 D (.lst (xs ++ [.ref c]))) (xs ++ [.ref c]) ((ds ++ [w]).map rowD) := by
        rw [List.map_append]
        exact (rx4.still tk5 dst).snoc (rwc.still tk5 (row_still w))
      have ry5 := ry4.still tk5 lst
      have rw5 := rwc.still tk5 (row_still w)
      have p5 : Pool (upd H4 D (.lst (xs ++ [.ref c]))) p := p4.keep (Kp.set (S := [D]) (by simp)) (by simpa using hDp.symm)
      have k5 : Kp [p] H (upd H4 D (.lst (xs ++ [.ref c]))) := (k1.trans k14).loc hD
      refine ⟨⟨_, hx4⟩, _, hx4, Nat.lt_of_lt_of_le (show xs.length < 100 by omega) z100, ?_⟩
      generalize upd H4 D (.lst (xs ++ [.ref c])) = H5 at hD5 hy5 rx5 ry5 rw5 p5 k5 ⊢
      refine ⟨tyL (K := K) hy5, L, .ref c, rowP w, ys, ls.map rowP, j, rowP w, rfl, rfl, hy5, rows_dp ry5, row_dp rw5, rowsP_shaped okl, rowP_shaped (okl w hwl), by rw [List.getElem?_map, hj]; rfl, by rw [rowP_eqv]; simp, fun m z' hm hz' => ?_, ?_⟩
      · rw [List.getElem?_map] at hz'
        cases e : ls[m]? with
        | none => rw [e] at hz'; cases hz'
        | some w' =>
          rw [e] at hz'
          cases hz'
          rw [rowP_eqv]
          refine decide_eq_false fun q => ?_
          subst q
          have h1 := (List.getElem?_eq_some_iff.mp e)
          have h2 := (List.getElem?_eq_some_iff.mp hj)
          exact (List.pairwise_iff_getElem.mp ndl) m j h1.1 h2.1 hm (h1.2.trans h2.2.symm)
      have tk6 : TK H5 (upd H5 L (.lst (ys.eraseIdx j))) := TK.put hy5
      refine ⟨ds ++ [w], ls.eraseIdx j, _, _, _, _, rfl, ⟨_, get_ne hD5 hLD.symm, rx5.still tk6 (rows_still _)⟩, ⟨_, upd_same, ?_⟩, ?_, by simp [hdl], od.snoc hwr, p5.keep (Kp.set (S := [L]) (by simp)) (by simpa using hLp.symm), k5.loc hL0⟩
      · have := RpL.erase j (ry5.still tk6 lst)
        rw [er_map] at this
        exact this
      · have e1 : (w :: ls.eraseIdx j).Perm ls := by
          have e0 := (List.perm_middle (a := w) (l₁ := ls.take j) (l₂ := ls.drop (j + 1))).symm
          rw [← List.eraseIdx_eq_take_drop_succ, ← split_at hj] at e0
          exact e0
        have e3 : ((ds ++ [w]) ++ ls.eraseIdx j).Perm (ds ++ ls) := by
          rw [List.append_assoc]
          exact List.Perm.append_left ds e1
        exact e3.trans pm
    · rintro σ H1 ⟨ds, ls, o4, o5, o6, o7, rfl, hD1, hL1, pm, hdl, od, p1, k1⟩
      have hlen := pm.length_eq
      rw [List.length_append] at hlen
      have e : ls = [] := List.eq_nil_of_length_eq_zero (by omega)
      subst e
      rw [List.append_nil] at pm
      exact hk H1 D ds hD1 pm od hD p1 k1
end
end LW
set_option Elab.async false
set_option linter.all false
set_option maxRecDepth 100000
set_option maxHeartbeats 1000000
namespace LW
open PySem PySem.Spec PyProof.Rows L2 U
--  : Nat) : Stmt := PySem.Challenge.pw_manyrides_k03_text_and_town_are_each_oth.main.body.getD i (.Pass ⟨0, 0, 0, 0⟩)
section
variable {P : Program} {w : World} {K : PySem.W.Frag} {mg : Str → Option Value} {base : Heap}
def usOf (ss : List St) (rs : List Rd) : List Row := ss.map Sum.inl ++ rs.map Sum.inr
theorem sts_us (ss : List St) (rs : List Rd) : stsOf (usOf ss rs) = ss := by
  unfold stsOf usOf
  rw [List.filterMap_append, List.filterMap_map, List.filterMap_map]
  simp [Function.comp_def]
theorem rds_us (ss : List St) (rs : List Rd) : rdsOf (usOf ss rs) = rs := by
  unfold rdsOf usOf
  rw [List.filterMap_append, List.filterMap_map, List.filterMap_map]
  simp [Function.comp_def]
theorem us_rows (ss : List St) (rs : List Rd) : (usOf ss rs).map rowD = ss.map stD ++ rs.map rdD := by simp [usOf, rowD, Function.comp_def]
theorem us_ok {ss : List St} {rs : List Rd} (g : GoodSt ss) (gr : GoodRd (ss.map (·.1)) rs) : ∀ w ∈ usOf ss rs, RowOk w := fun w hw => by
  rcases List.mem_append.mp hw with h | h
  · obtain ⟨t, ht, rfl⟩ := List.mem_map.mp h
    exact (good_row g gr).1 t ht
  · obtain ⟨t, ht, rfl⟩ := List.mem_map.mp h
    exact (good_row g gr).2 t ht
theorem us_mem {ss : List St} {rs : List Rd} : (∀ s, Sum.inl s ∈ usOf ss rs ↔ s ∈ ss) ∧ ∀ r, Sum.inr r ∈ usOf ss rs ↔ r ∈ rs := by
  constructor <;> intro x <;> simp [usOf]
theorem us_known {ss : List St} {rs : List Rd} (gr : GoodRd (ss.map (·.1)) rs) {ds : List Row} (h : ∀ s ∈ ss, Sum.inl s ∈ ds) {r : Rd} (hr : r ∈ rs) : knownB ds r = true := by
  have sub : ∀ n, n ∈ ss.map (·.1) → n ∈ (stsOf ds).map (·.1) := fun n hn => by
    obtain ⟨s, hs, rfl⟩ := List.mem_map.mp hn
    exact List.mem_map_of_mem (stsOf_mem.mpr (h s hs))
  simp only [knownB, Bool.and_eq_true, decide_eq_true_eq, List.mem_cons]
  exact ⟨(gr.st r hr).imp id (sub _), (gr.go r hr).imp id (sub _)⟩
theorem us_ord {ss : List St} {rs : List Rd} (gr : GoodRd (ss.map (·.1)) rs) : Ord (usOf ss rs) := by
  intro i r hi
  have hr : r ∈ rs := us_mem.2 r |>.mp (List.mem_of_getElem? hi)
  have hi2 : ss.length ≤ i := by
    apply Classical.byContradiction
    intro c
    unfold usOf at hi
    rw [List.getElem?_append_left (by simp; omega), List.getElem?_map] at hi
    cases e : ss[i]? with
    | none => rw [e] at hi; cases hi
    | some s => rw [e] at hi; cases hi
  refine us_known gr (fun s hs => ?_) hr
  unfold usOf
  rw [List.take_append, List.take_of_length_le (by simpa using hi2)]
  exact List.mem_append_left _ (List.mem_map_of_mem hs)
theorem nd_of_map {α β : Type} {f : α → β} {l : List α} (h : (l.map f).Nodup) : l.Nodup := (List.pairwise_map.mp h).imp fun q e => q (congrArg f e)
theorem us_nodup {ss : List St} {rs : List Rd} (g : GoodSt ss) (gr : GoodRd (ss.map (·.1)) rs) : (usOf ss rs).Nodup := by
  have n1 : ss.Nodup := nd_of_map g.nd
  have n2 : rs.Nodup := nd_of_map gr.nd
  refine List.nodup_append.mpr ⟨List.Pairwise.map _ (fun a b h e => h (Sum.inl.inj e)) n1, List.Pairwise.map _ (fun a b h e => h (Sum.inr.inj e)) n2, fun a ha b hb e => ?_⟩
  obtain ⟨s, _, rfl⟩ := List.mem_map.mp ha
  obtain ⟨r, _, rfl⟩ := List.mem_map.mp hb
  cases e
theorem mix_of {ss : List St} {rs : List Rd} {ws : List Row} (g : GoodSt ss) (gr : GoodRd (ss.map (·.1)) rs) (pm : ws.Perm (usOf ss rs)) (od : Ord ws) : Mix ws := by
  have h12 := g.len
  have h24 := gr.len
  have ps : (stsOf ws).Perm ss := by
    have h : (stsOf ws).Perm (stsOf (usOf ss rs)) := by
      unfold stsOf
      exact pm.filterMap _
    rwa [sts_us] at h
  have pr : (rdsOf ws).Perm rs := by
    have h : (rdsOf ws).Perm (rdsOf (usOf ss rs)) := by
      unfold rdsOf
      exact pm.filterMap _
    rwa [rds_us] at h
  refine ⟨fun w hw => us_ok g gr w (pm.mem_iff.mp hw), ?_, fun i hi => ?_⟩
  · have := pm.length_eq
    simp [usOf] at this
    omega
  have ss1 : (stsOf (ws.take i)).Sublist (stsOf ws) := (List.take_sublist i ws).filterMap _
  have sr1 : (rdsOf (ws.take i)).Sublist (rdsOf ws) := (List.take_sublist i ws).filterMap _
  have ms : ∀ s ∈ stsOf (ws.take i), s ∈ ss := fun s hs => ps.mem_iff.mp (ss1.subset hs)
  have mr : ∀ r ∈ rdsOf (ws.take i), r ∈ rs := fun r hr => pr.mem_iff.mp (sr1.subset hr)
  have kn : ∀ r ∈ rdsOf (ws.take i), knownB (ws.take i) r = true := fun r hr => by
    obtain ⟨j, hj⟩ := List.mem_iff_getElem?.mp (rdsOf_mem.mp hr)
    have hji : j < i := by
      have := (List.getElem?_eq_some_iff.mp hj).1
      simp at this; omega
    rw [List.getElem?_take_of_lt hji] at hj
    refine known_mono (fun s hs => ?_) (od j r hj)
    exact (List.take_sublist_take_left (Nat.le_of_lt hji)).subset hs
  refine ⟨⟨?_, ?_, fun s hs => g.nm s (ms s hs), fun s hs => g.dk s (ms s hs), fun s hs => g.bk s (ms s hs)⟩, ⟨?_, ?_, fun r hr => gr.nm r (mr r hr), fun r hr => ?_, fun r hr => ?_, fun r hr => gr.ne r (mr r hr), fun r hr => gr.kp r (mr r hr)⟩⟩
  · have := ss1.length_le
    have := ps.length_eq
    omega
  · exact (ss1.map _).nodup ((ps.map _).nodup_iff.mpr g.nd)
  · have := sr1.length_le
    have := pr.length_eq
    omega
  · exact (sr1.map _).nodup ((pr.map _).nodup_iff.mpr gr.nd)
  · have := kn r hr
    simp only [knownB, Bool.and_eq_true, decide_eq_true_eq, List.mem_cons] at this
    exact this.1
  · have := kn r hr
    simp only [knownB, Bool.and_eq_true, decide_eq_true_eq, List.mem_cons] at this
    exact this.2
end
end LW
set_option Elab.async false
set_option linter.all false
set_option maxRecDepth 100000
set_option maxHeartbeats 1000000
namespace LW
open PySem PySem.Spec PyProof.Rows L2 U
--  : Nat) : Stmt := PySem.Challenge.pw_manyrides_k03_text_and_town_are_each_oth.main.body.getD i (.Pass ⟨0, 0, 0, 0⟩)
section
variable {P : Program} {w : World} {K : PySem.W.Frag} {mg : Str → Option Value} {base : Heap}
theorem sts_step {ws : List Row} {i : Nat} {w : Row} (h : ws[i]? = some w) : stsOf (ws.take (i + 1)) = stsOf (ws.take i) ++ (match w with | .inl s => [s] | .inr _ => []) ∧ rdsOf (ws.take (i + 1)) = rdsOf (ws.take i) ++ (match w with | .inl _ => [] | .inr r => [r]) := by
  have e : ws.take (i + 1) = ws.take i ++ [w] := by rw [List.take_add_one, h]; rfl
  rw [e]
  cases w <;> simp [stsOf, rdsOf]
theorem rds_len (ds : List Row) : (rdsOf ds).length ≤ ds.length := by
  unfold rdsOf
  exact List.length_filterMap_le _ _
abbrev s_law : Stmt := top 57
abbrev N_law : List Str := ["script", "rows", "stations", "rides", "town", "text", "mixed", "first", "second", "row"]
theorem sc_law : FnScope N_law ["script"] (defScope s_law) := ⟨rfl, rfl, rfl, by decide +kernel, rfl, by decide +kernel, by decide +kernel⟩
def sp_law (K : PySem.W.Frag) (tb : List Addr) : Sp := fun vs H Q _ => ∃ (a : Addr) (ns : List Int), vs = [.ref a] ∧ (SqL K H a (ns.map V.int) ∧ TbG tb H ∧ ∀ H', Q (.bl true) H')
theorem ok_law {tb : List Addr} {f : Addr} {fd : FuncData} (F : FunD K "law" "law" (defArgs s_law) (defBody s_law) (defScope s_law) [] [] f fd)
    (C__law_town_rows : Cal P w K mg base CX0 4 "_law_town_rows" ["pool"] (sp__law_town_rows K))
    (C__law_pool : Cal P w K mg base CX0 1 "_law_pool" ["cell"] (sp__law_pool K))
    (C__law_cell : Cal P w K mg base CX0 1 "_law_cell" ["script", "k"] (sp__law_cell K))
    (M_Town : Mkr P w K mg base CX0 3 "Town" ["self", "stations", "rides"] (sp_Town___init__ K tb))
    (mN_list : mg "list" = none)
    (C__law_text : Cal P w K mg base CX0 2 "_law_text" ["rows"] (sp__law_text K))
    (C__law_reads : Cal P w K mg base CX0 13 "_law_reads" ["text", "stations", "rides"] (sp__law_reads K tb))
    (C__law_same : Cal P w K mg base CX0 12 "_law_same" ["actual", "expected"] (sp_same K 12))
    (C_write_town : Cal P w K mg base CX0 1 "write_town" ["town"] (sp_write_town K))
    (C__law_mixed : Cal P w K mg base CX0 2 "_law_mixed" ["pool", "rows"] (sp__law_mixed K))
    (mN_len : mg "len" = none) : FnOk P w K mg base CX0 14 f fd ["script"] (sp_law K tb) := by
  refine F.ok sc_law (fun vs H Q E h => ?_) (fun cdv A outer s H vs Q E hr h => ⟨_, PSs.nox ((pss_cons (ps_set (i := 1) sc_law.nd rfl (.inl rfl) (ue_call (E := E0) C__law_town_rows (hr.mono (by decide)) rfl pass0 (pa_cons (ue_call (E := E0) C__law_pool (hr.mono (by decide)) rfl pass0 (pa_cons (ue_call (E := E0) C__law_cell (hr.mono (by decide)) rfl pass0 (pa_cons (pu 0) (pa_cons pe_int pa_nil))) pa_nil)) pa_nil)))
    (pss_cons (ps_set (i := 2) sc_law.nd rfl (.inl rfl) (pe_ix (kIx K) (pu 1) pe_int (fun _ _ => rfl)))
    (pss_cons (ps_set (i := 3) sc_law.nd rfl (.inl rfl) (pe_ix (kIx K) (pu 1) pe_int (fun _ _ => rfl)))
    (pss_cons (ps_set (i := 4) sc_law.nd rfl (.inl rfl) (kMake K (E := E0) M_Town (hr.mono (by decide)) (by rfl) pass0 (pa_cons (pe_callTy (kList K rfl) (by rfl) mN_list (by decide +kernel) (pa_cons (pu 2) pa_nil)) (pa_cons (pe_callTy (kList K rfl) (by rfl) mN_list (by decide +kernel) (pa_cons (pu 3) pa_nil)) pa_nil))))
    (pss_cons (ps_set (i := 5) sc_law.nd rfl (.inl rfl) (ue_call (E := E0) C__law_text (hr.mono (by decide)) rfl pass0 (pa_cons (pe_op (kAdd K) (pu 2) (pu 3)) pa_nil)))
    (pss_cons (us_if (PW.pt (uw_or (pt_not (ut_val (ue_call (E := E0) C__law_same (hr.mono (by decide)) rfl pass0 (pa_cons (ue_call (E := E0) C_write_town (hr.mono (by decide)) rfl pass0 (pa_cons (pu 4) pa_nil)) (pa_cons (pu 5) pa_nil))))) (pw_or1 (pt_not (ut_val (ue_call (E := E0) C__law_reads (hr.mono (by decide)) rfl pass0 (pa_cons (pu 5) (pa_cons (pu 2) (pa_cons (pu 3) pa_nil))))))))) (pss_one (ps_ret pe_bl)) pss_nil)
    (pss_cons (ps_set (i := 6) sc_law.nd rfl (.inl rfl) (ue_call (E := E0) C__law_mixed (hr.mono (by decide)) rfl pass0 (pa_cons (ue_call (E := E0) C__law_pool (hr.mono (by decide)) rfl pass0 (pa_cons (ue_call (E := E0) C__law_cell (hr.mono (by decide)) rfl pass0 (pa_cons (pu 0) (pa_cons pe_int pa_nil))) pa_nil)) (pa_cons (pe_op (kAdd K) (pu 2) (pu 3)) pa_nil))))
    (pss_cons (ps_setLc (i := 7) (own := [("row", 9)]) rfl sc_law.nd rfl rfl (sw_true rfl rfl rfl (by decide +kernel)) (kiList K (pu 6)) (blkOk_by (N := N_law) (sc := defScope s_law) (by decide +kernel)) (fun _ _ _ _ _ => (pg_name (i := 9) sc_law.nd rfl (.inl rfl))) (fun _ _ _ _ _ => (pts_one (ut_cmp (kEq K hr.units) (pe_callB (kLen K) (by rfl) mN_len boot_len (pa_cons (pu 9) pa_nil)) pe_int (nomark _)))) (fun _ _ _ _ _ => (pu 9)))
    (pss_cons (ps_setLc (i := 8) (own := [("row", 9)]) rfl sc_law.nd rfl rfl (sw_true rfl rfl rfl (by decide +kernel)) (kiList K (pu 6)) (blkOk_by (N := N_law) (sc := defScope s_law) (by decide +kernel)) (fun _ _ _ _ _ => (pg_name (i := 9) sc_law.nd rfl (.inl rfl))) (fun _ _ _ _ _ => (pts_one (ut_cmp (kEq K hr.units) (pe_callB (kLen K) (by rfl) mN_len boot_len (pa_cons (pu 9) pa_nil)) pe_int (nomark _)))) (fun _ _ _ _ _ => (pu 9)))
    (pss_cons (us_if (pt_not (ut_val (ue_call (E := E0) C__law_reads (hr.mono (by decide)) rfl pass0 (pa_cons (ue_call (E := E0) C__law_text (hr.mono (by decide)) rfl pass0 (pa_cons (pu 6) pa_nil)) (pa_cons (pu 7) (pa_cons (pu 8) pa_nil)))))) (pss_one (ps_ret pe_bl)) pss_nil)
    (pss_one (ps_ret (ue_and (ue_call (E := E0) C__law_reads (hr.mono (by decide)) rfl pass0 (pa_cons (pu 5) (pa_cons (pu 2) (pa_cons (pu 3) pa_nil)))) (pe_one (ue_call (E := E0) C__law_same (hr.mono (by decide)) rfl pass0 (pa_cons (ue_call (E := E0) C_write_town (hr.mono (by decide)) rfl pass0 (pa_cons (pu 4) pa_nil)) (pa_cons (pu 5) pa_nil)))))))))))))))))), ?_⟩)
  · obtain ⟨a, ns, rfl, _⟩ := h
    rfl
  · obtain ⟨a, ns, rfl, h⟩ := h
    obtain ⟨ha, htb, hk⟩ := h
    refine ⟨a, ns, 0, rfl, ha, fun c0 => ⟨c0, rfl, fun G1 p hp P1 k1 => ⟨p, rfl, P1, fun H2 L ss rs hw gs gr hL2 P2 k2 => ?_⟩⟩⟩
    have K2 : Kp [] H H2 := Kp.over k1 hp k2
    obtain ⟨S, R, hL, hS, hR⟩ := hw
    obtain ⟨xs, hx, rx⟩ := id hS
    obtain ⟨ys, hy, ry⟩ := id hR
    have h12 := gs.len
    have h24 := gr.len
    have hxl : xs.length = ss.length := by rw [rx.length]; simp
    have hyl : ys.length = rs.length := by rw [ry.length]; simp
    have uok := us_ok gs gr
    have ulen : (usOf ss rs).length ≤ 36 := by simp [usOf]; omega
    have umix := mix_of gs gr (List.Perm.refl (usOf ss rs)) (us_ord gr)
    have fit : xs.length + ys.length ≤ sizeLine := Nat.le_trans (show xs.length + ys.length ≤ 100 by omega) z100
    refine ⟨_, _, .inl (SqL.of hL), atI_nat (j := 0) rfl, _, _, .inl (SqL.of hL), atI_nat (j := 1) rfl, xs, .inl (SqL.of hx), fun A hA => ⟨ys, .inl (SqL.of (get_new hy hA)), fun C hC x dx hx0 hdx _ => ?_⟩⟩
    have k24 : Kp [] H2 (upd (upd H2 A (.lst xs)) C (.lst ys)) := (Kp.new hA).trans (Kp.new hC)
    have lA : LstAt (upd (upd H2 A (.lst xs)) C (.lst ys)) A (ss.map stD) := ⟨xs, get_new upd_same hC, rx.keep k24⟩
    have lC : LstAt (upd (upd H2 A (.lst xs)) C (.lst ys)) C (rs.map rdD) := ⟨ys, upd_same, ry.keep k24⟩
    obtain ⟨q1, q2, q3, q4⟩ := mk_pre (K := K) (ss := ss) (rs := rs) (l := A) (m := C) lA lC (TbG.keep0 htb (K2.trans k24)) hx0 hdx
    refine ⟨x, dx, A, C, ss, rs, rfl, upd_same, q1, q2, gs, gr, q3, fun H5 ht k5 => ⟨rfl, ?_⟩⟩
    have k25 := k24.trans (q4 H5 k5)
    have lst : ∀ {H' : Hp} {M : Addr}, Kp [] H2 H' → H' M = some (.lst (xs ++ ys)) → LstAt H' M ((usOf ss rs).map rowD) := fun {H' M} k e => ⟨xs ++ ys, e, by
      rw [us_rows]
      exact (rx.keep k).app (ry.keep k)⟩
    refine .inl ⟨_, _, k25.get0 hx, k25.get0 hy, fit, fun M hM => ?_⟩
    have k26 := k25.trans (Kp.new (o := .lst (xs ++ ys)) hM)
    refine ⟨M, usOf ss rs, rfl, lst k26 upd_same, uok, ulen, fun H7 k7 => ?_⟩
    have k27 := k26.trans k7
    have k57 : Kp [] H5 H7 := (Kp.new hM).trans k7
    refine ⟨x, ss, rs, rfl, ht.keep k57, gs, gr, fun H8 k8 => ⟨_, _, .str _, .str _, rfl, .str _, .str _, Nat.zero_le _, trivial, fun b H9 hb k9 => ?_⟩⟩
    have eb : b = true := hb.mpr rfl
    subst eb
    have k29 := (k27.trans k8).trans k9
    have k59 := (k57.trans k8).trans k9
    have S9 : LstAt H9 S ((stsOf (usOf ss rs)).map stD) := by rw [sts_us]; exact hS.keep k29
    have R9 : LstAt H9 R ((rdsOf (usOf ss rs)).map rdD) := by rw [rds_us]; exact hR.keep k29
    refine brF ⟨S, R, usOf ss rs, rfl, S9, R9, umix, TbG.keep0 htb (K2.trans k29), fun H10 k10 => brF ?_⟩
    have k210 := k29.trans k10
    have K10 := K2.trans k210
    refine ⟨a, ns, 1, rfl, sq_keep K10 ha, fun c1 => ⟨c1, rfl, fun G2 q hq P3 k11 => .inl ⟨_, _, (k210.trans k11).get0 hx, (k210.trans k11).get0 hy, fit, fun M2 hM2 => ?_⟩⟩⟩
    have k12 := (k210.trans k11).trans (Kp.new (o := .lst (xs ++ ys)) hM2)
    refine ⟨q, M2, usOf ss rs, rfl, P3.new hM2, lst k12 upd_same, us_nodup gs gr, ulen, uok, (fun r hr => us_known gr (fun s hs => us_mem.1 s |>.mpr hs) (us_mem.2 r |>.mp hr)), fun H13 m ws hm pm od hm0 P4 k13 => ?_⟩
    have k1013 : Kp [] H10 H13 := Kp.over k11 hq ((Kp.new (o := .lst (xs ++ ys)) hM2).trans k13)
    have wmix := mix_of gs gr pm od
    obtain ⟨us, hu, ru⟩ := id hm
    have hul : us.length = ws.length := by rw [ru.length]; simp
    have w36 := wmix.2.1
    refine ⟨m, rfl, ⟨_, SqL.of hu⟩, fun F hF => lc_list (xs := us) (LcR H13 F fun i => (stsOf (ws.take i)).map stD) (LcR.start hF rfl) (fun i H14 _ q => ?_) (fun i z H14 hz14 q => ?_) fun H14 q => ?_⟩
    · obtain ⟨_, _, _, _, k⟩ := q
      exact SqL.of (k.get0 hu)
    · obtain ⟨_, _, _, _, k14⟩ := id q
      obtain ⟨w, hw2, rw2⟩ := row_at (ru.keep k14) hz14
      obtain ⟨b, rfl, hb⟩ := rp_row rw2
      have st := (sts_step hw2).1
      have hsm : ((stsOf (ws.take i)).map stD).length < sizeLine := by
        rw [List.length_map]
        have := sts_len (ws.take i)
        have h2 : (ws.take i).length ≤ ws.length := by simp; omega
        exact Nat.lt_of_lt_of_le (show (stsOf (ws.take i)).length < 100 by omega) z100
      refine ⟨rfl, _, .inr (.inl ⟨_, SqT.of hb, rfl⟩), rfl, ?_⟩
      cases w with
      | inl s =>
        show if (true : Bool) = true then _ else _
        rw [if_pos rfl]
        exact q.step hF Kp.refl (d := stD s) rw2 rfl (by simp only [st]; simp) hsm
      | inr r =>
        show if (false : Bool) = true then _ else _
        rw [if_neg (by decide)]
        exact LcR.skip q Kp.refl (by simp only [st]; simp)
    obtain ⟨fs, hF14, rF, _, k14⟩ := q
    dsimp only at rF
    rw [hul, List.take_length] at rF
    refine ⟨m, rfl, ⟨_, SqL.of (k14.get0 hu)⟩, fun G hG => lc_list (xs := us) (LcR H14 G fun i => (rdsOf (ws.take i)).map rdD) (LcR.start hG rfl) (fun i H15 _ q => ?_) (fun i z H15 hz15 q => ?_) fun H15 q => ?_⟩
    · obtain ⟨_, _, _, _, k⟩ := q
      exact SqL.of ((k14.trans k).get0 hu)
    · obtain ⟨_, _, _, _, k15⟩ := id q
      obtain ⟨w, hw2, rw2⟩ := row_at (ru.keep (k14.trans k15)) hz15
      obtain ⟨b, rfl, hb⟩ := rp_row rw2
      have st := (sts_step hw2).2
      have hsm : ((rdsOf (ws.take i)).map rdD).length < sizeLine := by
        rw [List.length_map]
        have := rds_len (ws.take i)
        have h2 : (ws.take i).length ≤ ws.length := by simp; omega
        exact Nat.lt_of_lt_of_le (show (rdsOf (ws.take i)).length < 100 by omega) z100
      refine ⟨rfl, _, .inr (.inl ⟨_, SqT.of hb, rfl⟩), rfl, ?_⟩
      cases w with
      | inl s =>
        show if (false : Bool) = true then _ else _
        rw [if_neg (by decide)]
        exact LcR.skip q Kp.refl (by simp only [st]; simp)
      | inr r =>
        show if (true : Bool) = true then _ else _
        rw [if_pos rfl]
        exact q.step hG Kp.refl (d := rdD r) rw2 rfl (by simp only [st]; simp) hsm
    obtain ⟨gs2, hG15, rG, _, k15⟩ := q
    dsimp only at rG
    rw [hul, List.take_length] at rG
    have k1315 := k14.trans k15
    have k215 := (k210.trans k1013).trans k1315
    refine ⟨m, ws, rfl, hm.keep k1315, wmix.1, w36, fun H16 k16 => ⟨F, G, ws, rfl, ⟨fs, (k15.trans k16).get0 hF14, rF.keep (k15.trans k16)⟩, ⟨gs2, k16.get0 hG15, rG.keep k16⟩, wmix, TbG.keep0 htb ((K2.trans k215).trans k16), fun H17 k17 => brF ?_⟩⟩
    have k217 := (k215.trans k16).trans k17
    have k517 := (((k59.trans k10).trans k1013).trans k1315).trans (k16.trans k17)
    have S17 : LstAt H17 S ((stsOf (usOf ss rs)).map stD) := by rw [sts_us]; exact hS.keep k217
    have R17 : LstAt H17 R ((rdsOf (usOf ss rs)).map rdD) := by rw [rds_us]; exact hR.keep k217
    refine ⟨S, R, usOf ss rs, rfl, S17, R17, umix, TbG.keep0 htb (K2.trans k217), fun H18 k18 => brT ⟨x, ss, rs, rfl, (ht.keep k517).keep k18, gs, gr, fun H19 k19 => ⟨_, _, .str _, .str _, rfl, .str _, .str _, Nat.zero_le _, trivial, fun b H20 hb k20 => ?_⟩⟩⟩
    have eb : b = true := hb.mpr rfl
    subst eb
    exact hk _
end
end LW
set_option Elab.async false
set_option linter.all false
set_option maxRecDepth 100000
set_option maxHeartbeats 0
namespace LW
open PySem PySem.Spec PyProof.Rows L2 U
/-! the head -/
def d__law_cell : DA := { ad := fun K => He.ga K "_law_cell", name := "_law_cell", qual := "_law_cell", params := defArgs s__law_cell, body := defBody s__law_cell, scope := defScope s__law_cell }
def d__law_pool : DA := { ad := fun K => He.ga K "_law_pool", name := "_law_pool", qual := "_law_pool", params := defArgs s__law_pool, body := defBody s__law_pool, scope := defScope s__law_pool }
def d__law_take : DA := { ad := fun K => He.ga K "_law_take", name := "_law_take", qual := "_law_take", params := defArgs s__law_take, body := defBody s__law_take, scope := defScope s__law_take }
def d__law_same : DA := { ad := fun K => He.ga K "_law_same", name := "_law_same", qual := "_law_same", params := defArgs s__law_same, body := defBody s__law_same, scope := defScope s__law_same }
def d_is_name : DA := { ad := fun K => He.ga K "is_name", name := "is_name", qual := "is_name", params := defArgs s_is_name, body := defBody s_is_name, scope := defScope s_is_name }
def d_check_stations : DA := { ad := fun K => He.ga K "check_stations", name := "check_stations", qual := "check_stations", params := defArgs s_check_stations, body := defBody s_check_stations, scope := defScope s_check_stations }
def d_check_rides : DA := { ad := fun K => He.ga K "check_rides", name := "check_rides", qual := "check_rides", params := defArgs s_check_rides, body := defBody s_check_rides, scope := defScope s_check_rides }
def d_Town___init__ : DA := { ad := fun K => He.ma K (He.ga K "Town") "__init__", name := "__init__", qual := "Town.__init__", params := defArgs s_Town___init__, body := defBody s_Town___init__, scope := defScope s_Town___init__ }
def d__law_names : DA := { ad := fun K => He.ga K "_law_names", name := "_law_names", qual := "_law_names", params := defArgs s__law_names, body := defBody s__law_names, scope := defScope s__law_names }
def d__law_round : DA := { ad := fun K => He.ga K "_law_round", name := "_law_round", qual := "_law_round", params := defArgs s__law_round, body := defBody s__law_round, scope := defScope s__law_round }
def d__law_rides : DA := { ad := fun K => He.ga K "_law_rides", name := "_law_rides", qual := "_law_rides", params := defArgs s__law_rides, body := defBody s__law_rides, scope := defScope s__law_rides }
def d__law_net : DA := { ad := fun K => He.ga K "_law_net", name := "_law_net", qual := "_law_net", params := defArgs s__law_net, body := defBody s__law_net, scope := defScope s__law_net }
def d__law_free : DA := { ad := fun K => He.ga K "_law_free", name := "_law_free", qual := "_law_free", params := defArgs s__law_free, body := defBody s__law_free, scope := defScope s__law_free }
def d__law_docks : DA := { ad := fun K => He.ga K "_law_docks", name := "_law_docks", qual := "_law_docks", params := defArgs s__law_docks, body := defBody s__law_docks, scope := defScope s__law_docks }
def d__law_bikes : DA := { ad := fun K => He.ga K "_law_bikes", name := "_law_bikes", qual := "_law_bikes", params := defArgs s__law_bikes, body := defBody s__law_bikes, scope := defScope s__law_bikes }
def d__law_ends : DA := { ad := fun K => He.ga K "_law_ends", name := "_law_ends", qual := "_law_ends", params := defArgs s__law_ends, body := defBody s__law_ends, scope := defScope s__law_ends }
def d__law_is_able : DA := { ad := fun K => He.ga K "_law_is_able", name := "_law_is_able", qual := "_law_is_able", params := defArgs s__law_is_able, body := defBody s__law_is_able, scope := defScope s__law_is_able }
def d_ends : DA := { ad := fun K => He.ga K "ends", name := "ends", qual := "ends", params := defArgs s_ends, body := defBody s_ends, scope := defScope s_ends }
abbrev sx_UnknownRide : Stmt := inClass (top 6) 0
def dX_UnknownRide : DX := ⟨"UnknownRide", "UnknownRide.__init__", defArgs sx_UnknownRide, defBody sx_UnknownRide, defScope sx_UnknownRide⟩
def d_Town_position : DA := { ad := fun K => He.ma K (He.ga K "Town") "position", name := "position", qual := "Town.position", params := defArgs s_Town_position, body := defBody s_Town_position, scope := defScope s_Town_position }
def d_Town_empty : DA := { ad := fun K => cmAt K "Town" "empty", name := "empty", qual := "Town.empty", params := defArgs s_Town_empty, body := defBody s_Town_empty, scope := defScope s_Town_empty }
def d_town_of : DA := { ad := fun K => He.ga K "town_of", name := "town_of", qual := "town_of", params := defArgs s_town_of, body := defBody s_town_of, scope := defScope s_town_of }
def d_station_rows : DA := { ad := fun K => He.ga K "station_rows", name := "station_rows", qual := "station_rows", params := defArgs s_station_rows, body := defBody s_station_rows, scope := defScope s_station_rows }
def d_can_go : DA := { ad := fun K => He.ga K "can_go", name := "can_go", qual := "can_go", params := defArgs s_can_go, body := defBody s_can_go, scope := defScope s_can_go }
abbrev sx_UnknownStation : Stmt := inClass (top 5) 0
def dX_UnknownStation : DX := ⟨"UnknownStation", "UnknownStation.__init__", defArgs sx_UnknownStation, defBody sx_UnknownStation, defScope sx_UnknownStation⟩
def d_Town__row : DA := { ad := fun K => He.ma K (He.ga K "Town") "_row", name := "_row", qual := "Town._row", params := defArgs s_Town__row, body := defBody s_Town__row, scope := defScope s_Town__row }
def d_Town_docks : DA := { ad := fun K => He.ma K (He.ga K "Town") "docks", name := "docks", qual := "Town.docks", params := defArgs s_Town_docks, body := defBody s_Town_docks, scope := defScope s_Town_docks }
def d_Town_bikes : DA := { ad := fun K => He.ma K (He.ga K "Town") "bikes", name := "bikes", qual := "Town.bikes", params := defArgs s_Town_bikes, body := defBody s_Town_bikes, scope := defScope s_Town_bikes }
def d_Town_free : DA := { ad := fun K => He.ma K (He.ga K "Town") "free", name := "free", qual := "Town.free", params := defArgs s_Town_free, body := defBody s_Town_free, scope := defScope s_Town_free }
def d_Town_ride : DA := { ad := fun K => He.ma K (He.ga K "Town") "ride", name := "ride", qual := "Town.ride", params := defArgs s_Town_ride, body := defBody s_Town_ride, scope := defScope s_Town_ride }
def d_Town_passes : DA := { ad := fun K => He.ma K (He.ga K "Town") "passes", name := "passes", qual := "Town.passes", params := defArgs s_Town_passes, body := defBody s_Town_passes, scope := defScope s_Town_passes }
def d_able : DA := { ad := fun K => He.ga K "able", name := "able", qual := "able", params := defArgs s_able, body := defBody s_able, scope := defScope s_able }
def d__law_passes : DA := { ad := fun K => He.ga K "_law_passes", name := "_law_passes", qual := "_law_passes", params := defArgs s__law_passes, body := defBody s__law_passes, scope := defScope s__law_passes }
def d_is_number : DA := { ad := fun K => He.ga K "is_number", name := "is_number", qual := "is_number", params := defArgs s_is_number, body := defBody s_is_number, scope := defScope s_is_number }
def d_Town_with_ride : DA := { ad := fun K => He.ma K (He.ga K "Town") "with_ride", name := "with_ride", qual := "Town.with_ride", params := defArgs s_Town_with_ride, body := defBody s_Town_with_ride, scope := defScope s_Town_with_ride, kwd := [("kept", .bl true)] }
def d_with_line : DA := { ad := fun K => He.ga K "with_line", name := "with_line", qual := "with_line", params := defArgs s_with_line, body := defBody s_with_line, scope := defScope s_with_line }
def d__law_line : DA := { ad := fun K => He.ga K "_law_line", name := "_law_line", qual := "_law_line", params := defArgs s__law_line, body := defBody s__law_line, scope := defScope s__law_line }
def d__law_text : DA := { ad := fun K => He.ga K "_law_text", name := "_law_text", qual := "_law_text", params := defArgs s__law_text, body := defBody s__law_text, scope := defScope s__law_text }
def d_write_town : DA := { ad := fun K => He.ga K "write_town", name := "write_town", qual := "write_town", params := defArgs s_write_town, body := defBody s_write_town, scope := defScope s_write_town }
def d_read_town : DA := { ad := fun K => He.ga K "read_town", name := "read_town", qual := "read_town", params := defArgs s_read_town, body := defBody s_read_town, scope := defScope s_read_town }
def d__law_words : DA := { ad := fun K => He.ga K "_law_words", name := "_law_words", qual := "_law_words", params := defArgs s__law_words, body := defBody s__law_words, scope := defScope s__law_words }
def d__law_town_rows : DA := { ad := fun K => He.ga K "_law_town_rows", name := "_law_town_rows", qual := "_law_town_rows", params := defArgs s__law_town_rows, body := defBody s__law_town_rows, scope := defScope s__law_town_rows }
def d__law_reads : DA := { ad := fun K => He.ga K "_law_reads", name := "_law_reads", qual := "_law_reads", params := defArgs s__law_reads, body := defBody s__law_reads, scope := defScope s__law_reads }
def d__law_mixed : DA := { ad := fun K => He.ga K "_law_mixed", name := "_law_mixed", qual := "_law_mixed", params := defArgs s__law_mixed, body := defBody s__law_mixed, scope := defScope s__law_mixed }
def d_law : DA := { ad := fun K => He.ga K "law", name := "law", qual := "law", params := defArgs s_law, body := defBody s_law, scope := defScope s_law }
def facts : Facts := ⟨[.free "len", .glo "_law_cell", .free "abs", .free "int", .glo "_law_pool", .glo "_law_take", .free "isinstance", .free "tuple", .free "all", .free "range", .free "list", .free "dict", .free "bool", .free "str", .glo "_law_same", .str "STREET" "street", .int "MOST_SIGNS" 8, .str "LETTERS" "abcdefghijklmnopqrstuvwxyz", .str "DIGITS" "0123456789", .glo "is_name", .glo "Town", .glo "check_stations", .glo "check_rides", .cls "Town", .noat "Town" "stations", .noat "Town" "rides", .mkr "Town", .glo "_law_names", .free "min", .glo "_law_round", .glo "_law_rides", .glo "_law_net", .glo "_law_free", .glo "_law_docks", .glo "_law_bikes", .glo "_law_ends", .glo "_law_is_able", .glo "ends", .free "enumerate", .glo "UnknownRide", .noat "UnknownRide" "name", .free "super", .meth "Town" "position", .glo "town_of", .glo "station_rows", .glo "can_go", .glo "UnknownStation", .noat "UnknownStation" "name", .meth "Town" "_row", .meth "Town" "docks", .meth "Town" "bikes", .meth "Town" "free", .meth "Town" "ride", .free "sum", .meth "Town" "passes", .glo "able", .glo "_law_passes", .int "MOST_DIGITS" 6, .glo "is_number", .meth "Town" "with_ride", .glo "with_line", .glo "_law_line", .glo "_law_text", .glo "write_town", .glo "read_town", .glo "_law_words", .glo "_law_town_rows", .glo "_law_reads", .glo "_law_mixed", .glo "law"],
  [.con "Town" "MOST_DOCKS" (.int 999999), .con "Town" "MOST_STATIONS" (.int 12), .con "Town" "MOST_RIDES" (.int 24), .cm "Town" "empty"],
  [d__law_cell, d__law_pool, d__law_take, d__law_same, d_is_name, d_check_stations, d_check_rides, d_Town___init__, d__law_names, d__law_round, d__law_rides, d__law_net, d__law_free, d__law_docks, d__law_bikes, d__law_ends, d__law_is_able, d_ends, d_Town_position, d_Town_empty, d_town_of, d_station_rows, d_can_go, d_Town__row, d_Town_docks, d_Town_bikes, d_Town_free, d_Town_ride, d_Town_passes, d_able, d__law_passes, d_is_number, d_Town_with_ride, d_with_line, d__law_line, d__law_text, d_write_town, d_read_town, d__law_words, d__law_town_rows, d__law_reads, d__law_mixed, d_law],
  [dX_UnknownRide, dX_UnknownStation],
  "/claim/cut.py"⟩
abbrev P0 : Program := PySem.Challenge.rw_manyrides_k03_text_and_town_are_each_oth.prog
def factsT : FactsT := ⟨facts, [fun K => He.ga K "is_name", fun K => He.ma K (He.ga K "Town") "passes", fun K => He.ga K "is_number"]⟩
theorem fT_mem (K : PySem.W.Frag) (i : Nat) {f : PySem.W.Frag → Addr} (h : factsT.tf[i]? = some f) : tabP K (f K) ∈ factsT.tabs K := List.mem_map_of_mem (f := fun f : PySem.W.Frag → Addr => tabP K (f K)) (List.mem_of_getElem? h)
theorem told {w : World} {K : PySem.W.Frag} {h base : Heap} {mg : Str → Option Value} {fd : FuncData} (KX : K.In h) (G : h.Ns mainGlobals mg) (c : facts.Says K) (ct : ∀ p ∈ factsT.tabs K, GxR.TabB base mg p.1 p.2) (cr : ∀ f ∈ factsT.tf, codeRefB K (f K) = true)
    (F_law : FunD K "law" "law" (defArgs s_law) (defBody s_law) (defScope s_law) [] [] (He.ga K "law") fd) : FnOk P0 w K mg base CX0 14 (He.ga K "law") fd ["script"] (sp_law K ((factsT.tabs K).map (fun p : Addr × Addr => p.2))) := by
  obtain ⟨tb, etb⟩ : ∃ tb, tb = (factsT.tabs K).map (fun p => p.2) := ⟨_, rfl⟩
  obtain ⟨fd__law_cell, F__law_cell⟩ := c.def_ 0 (d := d__law_cell) rfl
  have B__law_cell : Binds K fd__law_cell ["script", "k"] [] := FunD.bindsN F__law_cell fun _ _ _ _ _ _ us hl => match us, hl with | [_, _], _ => rfl
  have O__law_cell := ok__law_cell (P := P0) (w := w) (mg := mg) (base := base) F__law_cell (He.free_ok KX G (c.fact 0 (f := .free "len") rfl))
  have C__law_cell : Cal P0 w K mg base CX0 1 "_law_cell" ["script", "k"] (sp__law_cell K) := ⟨_, fd__law_cell, (He.glo_ok KX G (c.fact 1 (f := .glo "_law_cell") rfl)), F__law_cell.kp, B__law_cell, O__law_cell⟩
  obtain ⟨fd__law_pool, F__law_pool⟩ := c.def_ 1 (d := d__law_pool) rfl
  have B__law_pool : Binds K fd__law_pool ["cell"] [] := FunD.bindsN F__law_pool fun _ _ _ _ _ _ us hl => match us, hl with | [_], _ => rfl
  have O__law_pool := ok__law_pool (P := P0) (w := w) (mg := mg) (base := base) F__law_pool (He.free_ok KX G (c.fact 2 (f := .free "abs") rfl)) (He.free_ok KX G (c.fact 3 (f := .free "int") rfl))
  have C__law_pool : Cal P0 w K mg base CX0 1 "_law_pool" ["cell"] (sp__law_pool K) := ⟨_, fd__law_pool, (He.glo_ok KX G (c.fact 4 (f := .glo "_law_pool") rfl)), F__law_pool.kp, B__law_pool, O__law_pool⟩
  obtain ⟨fd__law_take, F__law_take⟩ := c.def_ 2 (d := d__law_take) rfl
  have B__law_take : Binds K fd__law_take ["pool", "limit"] [] := FunD.bindsN F__law_take fun _ _ _ _ _ _ us hl => match us, hl with | [_, _], _ => rfl
  have O__law_take := ok__law_take (P := P0) (w := w) (mg := mg) (base := base) F__law_take (He.free_ok KX G (c.fact 3 (f := .free "int") rfl))
  have C__law_take : Cal P0 w K mg base CX0 1 "_law_take" ["pool", "limit"] (sp__law_take K) := ⟨_, fd__law_take, (He.glo_ok KX G (c.fact 5 (f := .glo "_law_take") rfl)), F__law_take.kp, B__law_take, O__law_take⟩
  obtain ⟨fd__law_same, F__law_same⟩ := c.def_ 3 (d := d__law_same) rfl
  have B__law_same : Binds K fd__law_same ["actual", "expected"] [] := FunD.bindsN F__law_same fun _ _ _ _ _ _ us hl => match us, hl with | [_, _], _ => rfl
  have CN__law_same : ∀ n, Cal P0 w K mg base CX0 n "_law_same" ["actual", "expected"] (sp_same K n) := fun n => by
    induction n with
    | zero => exact ⟨_, fd__law_same, (He.glo_ok KX G (c.fact 14 (f := .glo "_law_same") rfl)), F__law_same.kp, B__law_same, fun _ _ _ _ h => h.elim, fun _ _ _ _ _ _ _ _ _ _ _ _ _ h => h.elim⟩
    | succ n ih => exact ⟨_, fd__law_same, (He.glo_ok KX G (c.fact 14 (f := .glo "_law_same") rfl)), F__law_same.kp, B__law_same, ok__law_same F__law_same (He.free_ok KX G (c.fact 6 (f := .free "isinstance") rfl)) (He.free_ok KX G (c.fact 7 (f := .free "tuple") rfl)) (He.free_ok KX G (c.fact 0 (f := .free "len") rfl)) (He.free_ok KX G (c.fact 8 (f := .free "all") rfl)) (He.free_ok KX G (c.fact 9 (f := .free "range") rfl)) ih (He.free_ok KX G (c.fact 10 (f := .free "list") rfl)) (He.free_ok KX G (c.fact 11 (f := .free "dict") rfl)) (He.free_ok KX G (c.fact 3 (f := .free "int") rfl)) (He.free_ok KX G (c.fact 12 (f := .free "bool") rfl)) (He.free_ok KX G (c.fact 13 (f := .free "str") rfl))⟩
  have C__law_same := CN__law_same 12
  obtain ⟨fd_is_name, F_is_name⟩ := c.def_ 4 (d := d_is_name) rfl
  have B_is_name : Binds K fd_is_name ["text"] [] := FunD.bindsN F_is_name fun _ _ _ _ _ _ us hl => match us, hl with | [_], _ => rfl
  have O_is_name := ok_is_name (P := P0) (w := w) (mg := mg) (base := base) (tb := tb) F_is_name (codeAt_eq F_is_name (cr _ (List.mem_of_getElem? (i := 0) rfl))) (ct _ (fT_mem K 0 (f := fun K => He.ga K "is_name") rfl)) (by rw [etb]; exact List.mem_map_of_mem (f := fun p : Addr × Addr => p.2) (fT_mem K 0 (f := fun K => He.ga K "is_name") rfl)) (He.str_ok KX G (c.fact 15 (f := .str "STREET" "street") rfl)) (He.free_ok KX G (c.fact 0 (f := .free "len") rfl)) (He.int_ok KX G (c.fact 16 (f := .int "MOST_SIGNS" 8) rfl)) (He.free_ok KX G (c.fact 8 (f := .free "all") rfl)) (He.str_ok KX G (c.fact 17 (f := .str "LETTERS" "abcdefghijklmnopqrstuvwxyz") rfl)) (He.str_ok KX G (c.fact 18 (f := .str "DIGITS" "0123456789") rfl))
  have C_is_name : Cal P0 w K mg base CX0 1 "is_name" ["text"] (sp_is_name K tb) := ⟨_, fd_is_name, (He.glo_ok KX G (c.fact 19 (f := .glo "is_name") rfl)), F_is_name.kp, B_is_name, O_is_name⟩
  obtain ⟨fd_check_stations, F_check_stations⟩ := c.def_ 5 (d := d_check_stations) rfl
  have B_check_stations : Binds K fd_check_stations ["stations"] [] := FunD.bindsN F_check_stations fun _ _ _ _ _ _ us hl => match us, hl with | [_], _ => rfl
  have O_check_stations := ok_check_stations (P := P0) (w := w) (mg := mg) (base := base) (tb := tb) F_check_stations C_is_name (He.glo_ok KX G (c.fact 20 (f := .glo "Town") rfl)) (conB_ok (c.more 0 (f := .con "Town" "MOST_DOCKS" (.int 999999)) rfl))
  have C_check_stations : Cal P0 w K mg base CX0 2 "check_stations" ["stations"] (sp_check_stations K tb) := ⟨_, fd_check_stations, (He.glo_ok KX G (c.fact 21 (f := .glo "check_stations") rfl)), F_check_stations.kp, B_check_stations, O_check_stations⟩
  obtain ⟨fd_check_rides, F_check_rides⟩ := c.def_ 6 (d := d_check_rides) rfl
  have B_check_rides : Binds K fd_check_rides ["rides", "stations"] [] := FunD.bindsN F_check_rides fun _ _ _ _ _ _ us hl => match us, hl with | [_, _], _ => rfl
  have O_check_rides := ok_check_rides (P := P0) (w := w) (mg := mg) (base := base) (tb := tb) F_check_rides C_is_name (He.str_ok KX G (c.fact 15 (f := .str "STREET" "street") rfl))
  have C_check_rides : Cal P0 w K mg base CX0 2 "check_rides" ["rides", "stations"] (sp_check_rides K tb) := ⟨_, fd_check_rides, (He.glo_ok KX G (c.fact 22 (f := .glo "check_rides") rfl)), F_check_rides.kp, B_check_rides, O_check_rides⟩
  obtain ⟨fd_Town___init__, F_Town___init__⟩ := c.def_ 7 (d := d_Town___init__) rfl
  have B_Town___init__ : Binds K fd_Town___init__ ["self", "stations", "rides"] [] := FunD.bindsN F_Town___init__ fun _ _ _ _ _ _ us hl => match us, hl with | [_, _, _], _ => rfl
  have O_Town___init__ := ok_Town___init__ (P := P0) (w := w) (mg := mg) (base := base) (tb := tb) F_Town___init__ (He.free_ok KX G (c.fact 0 (f := .free "len") rfl)) (He.glo_ok KX G (c.fact 20 (f := .glo "Town") rfl)) (conB_ok (c.more 1 (f := .con "Town" "MOST_STATIONS" (.int 12)) rfl)) (conB_ok (c.more 2 (f := .con "Town" "MOST_RIDES" (.int 24)) rfl)) C_check_stations C_check_rides (He.cls_ok (c.fact 23 (f := .cls "Town") rfl)) (He.noat_ok (c.fact 24 (f := .noat "Town" "stations") rfl)) (He.free_ok KX G (c.fact 7 (f := .free "tuple") rfl)) (He.noat_ok (c.fact 25 (f := .noat "Town" "rides") rfl))
  have M_Town : Mkr P0 w K mg base CX0 3 "Town" ["self", "stations", "rides"] (sp_Town___init__ K tb) := ⟨_, fd_Town___init__, (He.glo_ok KX G (c.fact 20 (f := .glo "Town") rfl)), He.mkr_ok (c.fact 26 (f := .mkr "Town") rfl), B_Town___init__, O_Town___init__⟩
  obtain ⟨fd__law_names, F__law_names⟩ := c.def_ 8 (d := d__law_names) rfl
  have B__law_names : Binds K fd__law_names ["pool", "count"] [] := FunD.bindsN F__law_names fun _ _ _ _ _ _ us hl => match us, hl with | [_, _], _ => rfl
  have O__law_names := ok__law_names (P := P0) (w := w) (mg := mg) (base := base) F__law_names C__law_take (He.free_ok KX G (c.fact 9 (f := .free "range") rfl))
  have C__law_names : Cal P0 w K mg base CX0 2 "_law_names" ["pool", "count"] (sp__law_names K) := ⟨_, fd__law_names, (He.glo_ok KX G (c.fact 27 (f := .glo "_law_names") rfl)), F__law_names.kp, B__law_names, O__law_names⟩
  obtain ⟨fd__law_round, F__law_round⟩ := c.def_ 9 (d := d__law_round) rfl
  have B__law_round : Binds K fd__law_round ["pool", "places", "most"] [] := FunD.bindsN F__law_round fun _ _ _ _ _ _ us hl => match us, hl with | [_, _, _], _ => rfl
  have O__law_round := ok__law_round (P := P0) (w := w) (mg := mg) (base := base) F__law_round C__law_take (He.free_ok KX G (c.fact 28 (f := .free "min") rfl)) (He.free_ok KX G (c.fact 0 (f := .free "len") rfl)) (He.free_ok KX G (c.fact 9 (f := .free "range") rfl))
  have C__law_round : Cal P0 w K mg base CX0 2 "_law_round" ["pool", "places", "most"] (sp__law_round K) := ⟨_, fd__law_round, (He.glo_ok KX G (c.fact 29 (f := .glo "_law_round") rfl)), F__law_round.kp, B__law_round, O__law_round⟩
  obtain ⟨fd__law_rides, F__law_rides⟩ := c.def_ 10 (d := d__law_rides) rfl
  have B__law_rides : Binds K fd__law_rides ["pool", "names", "places", "street", "spare"] [] := FunD.bindsN F__law_rides fun _ _ _ _ _ _ us hl => match us, hl with | [_, _, _, _, _], _ => rfl
  have O__law_rides := ok__law_rides (P := P0) (w := w) (mg := mg) (base := base) F__law_rides C__law_take (He.free_ok KX G (c.fact 0 (f := .free "len") rfl)) (He.free_ok KX G (c.fact 9 (f := .free "range") rfl)) (He.free_ok KX G (c.fact 10 (f := .free "list") rfl)) C__law_round
  have C__law_rides : Cal P0 w K mg base CX0 3 "_law_rides" ["pool", "names", "places", "street", "spare"] (sp__law_rides K) := ⟨_, fd__law_rides, (He.glo_ok KX G (c.fact 30 (f := .glo "_law_rides") rfl)), F__law_rides.kp, B__law_rides, O__law_rides⟩
  obtain ⟨fd__law_net, F__law_net⟩ := c.def_ 11 (d := d__law_net) rfl
  have B__law_net : Binds K fd__law_net ["rides", "place"] [] := FunD.bindsN F__law_net fun _ _ _ _ _ _ us hl => match us, hl with | [_, _], _ => rfl
  have O__law_net := ok__law_net (P := P0) (w := w) (mg := mg) (base := base) F__law_net 
  have C__law_net : Cal P0 w K mg base CX0 1 "_law_net" ["rides", "place"] (sp__law_net K) := ⟨_, fd__law_net, (He.glo_ok KX G (c.fact 31 (f := .glo "_law_net") rfl)), F__law_net.kp, B__law_net, O__law_net⟩
  obtain ⟨fd__law_free, F__law_free⟩ := c.def_ 12 (d := d__law_free) rfl
  have B__law_free : Binds K fd__law_free ["pool", "names", "big"] [] := FunD.bindsN F__law_free fun _ _ _ _ _ _ us hl => match us, hl with | [_, _, _], _ => rfl
  have O__law_free := ok__law_free (P := P0) (w := w) (mg := mg) (base := base) F__law_free C__law_take
  have C__law_free : Cal P0 w K mg base CX0 2 "_law_free" ["pool", "names", "big"] (sp__law_free K) := ⟨_, fd__law_free, (He.glo_ok KX G (c.fact 32 (f := .glo "_law_free") rfl)), F__law_free.kp, B__law_free, O__law_free⟩
  obtain ⟨fd__law_docks, F__law_docks⟩ := c.def_ 13 (d := d__law_docks) rfl
  have B__law_docks : Binds K fd__law_docks ["stations"] [] := FunD.bindsN F__law_docks fun _ _ _ _ _ _ us hl => match us, hl with | [_], _ => rfl
  have O__law_docks := ok__law_docks (P := P0) (w := w) (mg := mg) (base := base) F__law_docks 
  have C__law_docks : Cal P0 w K mg base CX0 1 "_law_docks" ["stations"] (sp__law_docks K) := ⟨_, fd__law_docks, (He.glo_ok KX G (c.fact 33 (f := .glo "_law_docks") rfl)), F__law_docks.kp, B__law_docks, O__law_docks⟩
  obtain ⟨fd__law_bikes, F__law_bikes⟩ := c.def_ 14 (d := d__law_bikes) rfl
  have B__law_bikes : Binds K fd__law_bikes ["stations"] [] := FunD.bindsN F__law_bikes fun _ _ _ _ _ _ us hl => match us, hl with | [_], _ => rfl
  have O__law_bikes := ok__law_bikes (P := P0) (w := w) (mg := mg) (base := base) F__law_bikes 
  have C__law_bikes : Cal P0 w K mg base CX0 1 "_law_bikes" ["stations"] (sp__law_bikes K) := ⟨_, fd__law_bikes, (He.glo_ok KX G (c.fact 34 (f := .glo "_law_bikes") rfl)), F__law_bikes.kp, B__law_bikes, O__law_bikes⟩
  obtain ⟨fd__law_ends, F__law_ends⟩ := c.def_ 15 (d := d__law_ends) rfl
  have B__law_ends : Binds K fd__law_ends ["stations", "rides"] [] := FunD.bindsN F__law_ends fun _ _ _ _ _ _ us hl => match us, hl with | [_, _], _ => rfl
  have O__law_ends := ok__law_ends (P := P0) (w := w) (mg := mg) (base := base) F__law_ends C__law_net
  have C__law_ends : Cal P0 w K mg base CX0 2 "_law_ends" ["stations", "rides"] (sp__law_ends K) := ⟨_, fd__law_ends, (He.glo_ok KX G (c.fact 35 (f := .glo "_law_ends") rfl)), F__law_ends.kp, B__law_ends, O__law_ends⟩
  obtain ⟨fd__law_is_able, F__law_is_able⟩ := c.def_ 16 (d := d__law_is_able) rfl
  have B__law_is_able : Binds K fd__law_is_able ["docks", "bikes", "ride"] [] := FunD.bindsN F__law_is_able fun _ _ _ _ _ _ us hl => match us, hl with | [_, _, _], _ => rfl
  have O__law_is_able := ok__law_is_able (P := P0) (w := w) (mg := mg) (base := base) F__law_is_able 
  have C__law_is_able : Cal P0 w K mg base CX0 1 "_law_is_able" ["docks", "bikes", "ride"] (sp__law_is_able K) := ⟨_, fd__law_is_able, (He.glo_ok KX G (c.fact 36 (f := .glo "_law_is_able") rfl)), F__law_is_able.kp, B__law_is_able, O__law_is_able⟩
  obtain ⟨fd_ends, F_ends⟩ := c.def_ 17 (d := d_ends) rfl
  have B_ends : Binds K fd_ends ["town"] [] := FunD.bindsN F_ends fun _ _ _ _ _ _ us hl => match us, hl with | [_], _ => rfl
  have O_ends := ok_ends (P := P0) (w := w) (mg := mg) (base := base) F_ends (He.cls_ok (c.fact 23 (f := .cls "Town") rfl)) (He.noat_ok (c.fact 24 (f := .noat "Town" "stations") rfl)) (He.noat_ok (c.fact 25 (f := .noat "Town" "rides") rfl)) (He.str_ok KX G (c.fact 15 (f := .str "STREET" "street") rfl))
  have C_ends : Cal P0 w K mg base CX0 1 "ends" ["town"] (sp_ends K) := ⟨_, fd_ends, (He.glo_ok KX G (c.fact 37 (f := .glo "ends") rfl)), F_ends.kp, B_ends, O_ends⟩
  have X_UnknownRide : Exc1 P0 w K mg "UnknownRide" "name" isStrB := by
    obtain ⟨i1, i2, i3, i4⟩ := c.exc (P := P0) 0 (d := dX_UnknownRide) rfl (by decide +kernel)
    refine ⟨⟨_, _, _, _, _, _, _, rfl, (He.glo_ok KX G (c.fact 39 (f := .glo "UnknownRide") rfl)), i1, ⟨⟨_, _, _, _, _, _, _, _, _, rfl, fun _ _ _ => ⟨_, rfl⟩, fun _ _ _ => rfl, fun _ _ _ => rfl⟩, fun _ _ _ => rfl, fun _ _ _ _ _ _ us hl => match us, hl with | [_, _], _ => rfl, ⟨_, rfl, rfl⟩, rfl, rfl, rfl, rfl, by decide +kernel, by decide +kernel, rfl, rfl, rfl, by decide +kernel, by decide +kernel⟩, He.noat_ok (c.fact 40 (f := .noat "UnknownRide" "name") rfl), ?_, i2, i3, i4⟩, He.free_ok KX G (c.fact 41 (f := .free "super") rfl)⟩
    exact fun v u hv hu => quiet_f hv hu
  obtain ⟨fd_Town_position, F_Town_position⟩ := c.def_ 18 (d := d_Town_position) rfl
  have B_Town_position : Binds K fd_Town_position ["self", "name"] [] := FunD.bindsN F_Town_position fun _ _ _ _ _ _ us hl => match us, hl with | [_, _], _ => rfl
  have O_Town_position := ok_Town_position (P := P0) (w := w) (mg := mg) (base := base) F_Town_position (He.free_ok KX G (c.fact 38 (f := .free "enumerate") rfl)) (He.cls_ok (c.fact 23 (f := .cls "Town") rfl)) (He.noat_ok (c.fact 25 (f := .noat "Town" "rides") rfl)) X_UnknownRide
  have Me_position : Met P0 w K mg base (L2.CX P0 w) 2 "Town" "position" ["self", "name"] (sp_Town_position K) := ⟨_, fd_Town_position, He.cls_ok (c.fact 23 (f := .cls "Town") rfl), He.meth_ok (c.fact 42 (f := .meth "Town" "position") rfl), B_Town_position, O_Town_position⟩
  obtain ⟨fd_Town_empty, F_Town_empty⟩ := c.def_ 19 (d := d_Town_empty) rfl
  have B_Town_empty : Binds K fd_Town_empty ["cls"] [] := FunD.bindsN F_Town_empty fun _ _ _ _ _ _ us hl => match us, hl with | [_], _ => rfl
  have O_Town_empty := ok_Town_empty (P := P0) (w := w) (mg := mg) (base := base) (tb := tb) F_Town_empty M_Town
  have Cm_Town_empty : Cmt P0 w K mg base CX0 5 "Town" "empty" (sp_Town_empty K tb) := ⟨_, _, fd_Town_empty, ["cls"], (cmB_ok (c.more 3 (f := .cm "Town" "empty") rfl)).1, (cmB_ok (c.more 3 (f := .cm "Town" "empty") rfl)).2.choose_spec, B_Town_empty, O_Town_empty⟩
  obtain ⟨fd_town_of, F_town_of⟩ := c.def_ 20 (d := d_town_of) rfl
  have B_town_of : Binds K fd_town_of ["stations", "rides"] [] := FunD.bindsN F_town_of fun _ _ _ _ _ _ us hl => match us, hl with | [_, _], _ => rfl
  have O_town_of := ok_town_of (P := P0) (w := w) (mg := mg) (base := base) (tb := tb) F_town_of Cm_Town_empty (He.glo_ok KX G (c.fact 20 (f := .glo "Town") rfl)) (He.cls_ok (c.fact 23 (f := .cls "Town") rfl)) (He.noat_ok (c.fact 24 (f := .noat "Town" "stations") rfl)) (He.free_ok KX G (c.fact 7 (f := .free "tuple") rfl)) (He.noat_ok (c.fact 25 (f := .noat "Town" "rides") rfl))
  have C_town_of : Cal P0 w K mg base CX0 6 "town_of" ["stations", "rides"] (sp_town_of K tb) := ⟨_, fd_town_of, (He.glo_ok KX G (c.fact 43 (f := .glo "town_of") rfl)), F_town_of.kp, B_town_of, O_town_of⟩
  obtain ⟨fd_station_rows, F_station_rows⟩ := c.def_ 21 (d := d_station_rows) rfl
  have B_station_rows : Binds K fd_station_rows ["town"] [] := FunD.bindsN F_station_rows fun _ _ _ _ _ _ us hl => match us, hl with | [_], _ => rfl
  have O_station_rows := ok_station_rows (P := P0) (w := w) (mg := mg) (base := base) F_station_rows (He.cls_ok (c.fact 23 (f := .cls "Town") rfl)) (He.noat_ok (c.fact 24 (f := .noat "Town" "stations") rfl))
  have C_station_rows : Cal P0 w K mg base CX0 1 "station_rows" ["town"] (sp_station_rows K) := ⟨_, fd_station_rows, (He.glo_ok KX G (c.fact 44 (f := .glo "station_rows") rfl)), F_station_rows.kp, B_station_rows, O_station_rows⟩
  obtain ⟨fd_can_go, F_can_go⟩ := c.def_ 22 (d := d_can_go) rfl
  have B_can_go : Binds K fd_can_go ["ride", "rows"] [] := FunD.bindsN F_can_go fun _ _ _ _ _ _ us hl => match us, hl with | [_, _], _ => rfl
  have O_can_go := ok_can_go (P := P0) (w := w) (mg := mg) (base := base) F_can_go (He.str_ok KX G (c.fact 15 (f := .str "STREET" "street") rfl))
  have C_can_go : Cal P0 w K mg base CX0 1 "can_go" ["ride", "rows"] (sp_can_go K) := ⟨_, fd_can_go, (He.glo_ok KX G (c.fact 45 (f := .glo "can_go") rfl)), F_can_go.kp, B_can_go, O_can_go⟩
  have X_UnknownStation : Exc1 P0 w K mg "UnknownStation" "name" isStrB := by
    obtain ⟨i1, i2, i3, i4⟩ := c.exc (P := P0) 1 (d := dX_UnknownStation) rfl (by decide +kernel)
    refine ⟨⟨_, _, _, _, _, _, _, rfl, (He.glo_ok KX G (c.fact 46 (f := .glo "UnknownStation") rfl)), i1, ⟨⟨_, _, _, _, _, _, _, _, _, rfl, fun _ _ _ => ⟨_, rfl⟩, fun _ _ _ => rfl, fun _ _ _ => rfl⟩, fun _ _ _ => rfl, fun _ _ _ _ _ _ us hl => match us, hl with | [_, _], _ => rfl, ⟨_, rfl, rfl⟩, rfl, rfl, rfl, rfl, by decide +kernel, by decide +kernel, rfl, rfl, rfl, by decide +kernel, by decide +kernel⟩, He.noat_ok (c.fact 47 (f := .noat "UnknownStation" "name") rfl), ?_, i2, i3, i4⟩, He.free_ok KX G (c.fact 41 (f := .free "super") rfl)⟩
    exact fun v u hv hu => quiet_f hv hu
  obtain ⟨fd_Town__row, F_Town__row⟩ := c.def_ 23 (d := d_Town__row) rfl
  have B_Town__row : Binds K fd_Town__row ["self", "station"] [] := FunD.bindsN F_Town__row fun _ _ _ _ _ _ us hl => match us, hl with | [_, _], _ => rfl
  have O_Town__row := ok_Town__row (P := P0) (w := w) (mg := mg) (base := base) F_Town__row (He.cls_ok (c.fact 23 (f := .cls "Town") rfl)) (He.noat_ok (c.fact 24 (f := .noat "Town" "stations") rfl)) X_UnknownStation
  have Me__row : Met P0 w K mg base (L2.CX P0 w) 2 "Town" "_row" ["self", "station"] (sp_Town__row K) := ⟨_, fd_Town__row, He.cls_ok (c.fact 23 (f := .cls "Town") rfl), He.meth_ok (c.fact 48 (f := .meth "Town" "_row") rfl), B_Town__row, O_Town__row⟩
  obtain ⟨fd_Town_docks, F_Town_docks⟩ := c.def_ 24 (d := d_Town_docks) rfl
  have B_Town_docks : Binds K fd_Town_docks ["self", "station"] [] := FunD.bindsN F_Town_docks fun _ _ _ _ _ _ us hl => match us, hl with | [_, _], _ => rfl
  have O_Town_docks := ok_Town_docks (P := P0) (w := w) (mg := mg) (base := base) F_Town_docks Me__row
  have Me_docks : Met P0 w K mg base (L2.CX P0 w) 3 "Town" "docks" ["self", "station"] (sp_Town_docks K) := ⟨_, fd_Town_docks, He.cls_ok (c.fact 23 (f := .cls "Town") rfl), He.meth_ok (c.fact 49 (f := .meth "Town" "docks") rfl), B_Town_docks, O_Town_docks⟩
  obtain ⟨fd_Town_bikes, F_Town_bikes⟩ := c.def_ 25 (d := d_Town_bikes) rfl
  have B_Town_bikes : Binds K fd_Town_bikes ["self", "station"] [] := FunD.bindsN F_Town_bikes fun _ _ _ _ _ _ us hl => match us, hl with | [_, _], _ => rfl
  have O_Town_bikes := ok_Town_bikes (P := P0) (w := w) (mg := mg) (base := base) F_Town_bikes Me__row
  have Me_bikes : Met P0 w K mg base (L2.CX P0 w) 3 "Town" "bikes" ["self", "station"] (sp_Town_bikes K) := ⟨_, fd_Town_bikes, He.cls_ok (c.fact 23 (f := .cls "Town") rfl), He.meth_ok (c.fact 50 (f := .meth "Town" "bikes") rfl), B_Town_bikes, O_Town_bikes⟩
  obtain ⟨fd_Town_free, F_Town_free⟩ := c.def_ 26 (d := d_Town_free) rfl
  have B_Town_free : Binds K fd_Town_free ["self", "station"] [] := FunD.bindsN F_Town_free fun _ _ _ _ _ _ us hl => match us, hl with | [_, _], _ => rfl
  have O_Town_free := ok_Town_free (P := P0) (w := w) (mg := mg) (base := base) F_Town_free Me__row
  have Me_free : Met P0 w K mg base (L2.CX P0 w) 3 "Town" "free" ["self", "station"] (sp_Town_free K) := ⟨_, fd_Town_free, He.cls_ok (c.fact 23 (f := .cls "Town") rfl), He.meth_ok (c.fact 51 (f := .meth "Town" "free") rfl), B_Town_free, O_Town_free⟩
  obtain ⟨fd_Town_ride, F_Town_ride⟩ := c.def_ 27 (d := d_Town_ride) rfl
  have B_Town_ride : Binds K fd_Town_ride ["self", "name"] [] := FunD.bindsN F_Town_ride fun _ _ _ _ _ _ us hl => match us, hl with | [_, _], _ => rfl
  have O_Town_ride := ok_Town_ride (P := P0) (w := w) (mg := mg) (base := base) F_Town_ride (He.cls_ok (c.fact 23 (f := .cls "Town") rfl)) (He.noat_ok (c.fact 25 (f := .noat "Town" "rides") rfl)) Me_position
  have Me_ride : Met P0 w K mg base (L2.CX P0 w) 3 "Town" "ride" ["self", "name"] (sp_Town_ride K) := ⟨_, fd_Town_ride, He.cls_ok (c.fact 23 (f := .cls "Town") rfl), He.meth_ok (c.fact 52 (f := .meth "Town" "ride") rfl), B_Town_ride, O_Town_ride⟩
  obtain ⟨fd_Town_passes, F_Town_passes⟩ := c.def_ 28 (d := d_Town_passes) rfl
  have B_Town_passes : Binds K fd_Town_passes ["self"] [] := FunD.bindsN F_Town_passes fun _ _ _ _ _ _ us hl => match us, hl with | [_], _ => rfl
  have O_Town_passes := ok_Town_passes (P := P0) (w := w) (mg := mg) (base := base) (tb := tb) F_Town_passes (codeAt_eq F_Town_passes (cr _ (List.mem_of_getElem? (i := 1) rfl))) (ct _ (fT_mem K 1 (f := fun K => He.ma K (He.ga K "Town") "passes") rfl)) (by rw [etb]; exact List.mem_map_of_mem (f := fun p : Addr × Addr => p.2) (fT_mem K 1 (f := fun K => He.ma K (He.ga K "Town") "passes") rfl)) (He.free_ok KX G (c.fact 53 (f := .free "sum") rfl)) (He.cls_ok (c.fact 23 (f := .cls "Town") rfl)) (He.noat_ok (c.fact 25 (f := .noat "Town" "rides") rfl))
  have Me_passes : Met P0 w K mg base CX0 1 "Town" "passes" ["self"] (sp_Town_passes K tb) := ⟨_, fd_Town_passes, He.cls_ok (c.fact 23 (f := .cls "Town") rfl), He.meth_ok (c.fact 54 (f := .meth "Town" "passes") rfl), B_Town_passes, O_Town_passes⟩
  obtain ⟨fd_able, F_able⟩ := c.def_ 29 (d := d_able) rfl
  have B_able : Binds K fd_able ["town"] [] := FunD.bindsN F_able fun _ _ _ _ _ _ us hl => match us, hl with | [_], _ => rfl
  have O_able := ok_able (P := P0) (w := w) (mg := mg) (base := base) F_able C_station_rows (He.cls_ok (c.fact 23 (f := .cls "Town") rfl)) (He.noat_ok (c.fact 25 (f := .noat "Town" "rides") rfl)) C_can_go
  have C_able : Cal P0 w K mg base CX0 2 "able" ["town"] (sp_able K) := ⟨_, fd_able, (He.glo_ok KX G (c.fact 55 (f := .glo "able") rfl)), F_able.kp, B_able, O_able⟩
  obtain ⟨fd__law_passes, F__law_passes⟩ := c.def_ 30 (d := d__law_passes) rfl
  have B__law_passes : Binds K fd__law_passes ["rides"] [] := FunD.bindsN F__law_passes fun _ _ _ _ _ _ us hl => match us, hl with | [_], _ => rfl
  have O__law_passes := ok__law_passes (P := P0) (w := w) (mg := mg) (base := base) F__law_passes (He.free_ok KX G (c.fact 0 (f := .free "len") rfl))
  have C__law_passes : Cal P0 w K mg base CX0 1 "_law_passes" ["rides"] (sp__law_passes K) := ⟨_, fd__law_passes, (He.glo_ok KX G (c.fact 56 (f := .glo "_law_passes") rfl)), F__law_passes.kp, B__law_passes, O__law_passes⟩
  obtain ⟨fd_is_number, F_is_number⟩ := c.def_ 31 (d := d_is_number) rfl
  have B_is_number : Binds K fd_is_number ["text"] [] := FunD.bindsN F_is_number fun _ _ _ _ _ _ us hl => match us, hl with | [_], _ => rfl
  have O_is_number := ok_is_number (P := P0) (w := w) (mg := mg) (base := base) (tb := tb) F_is_number (codeAt_eq F_is_number (cr _ (List.mem_of_getElem? (i := 2) rfl))) (ct _ (fT_mem K 2 (f := fun K => He.ga K "is_number") rfl)) (by rw [etb]; exact List.mem_map_of_mem (f := fun p : Addr × Addr => p.2) (fT_mem K 2 (f := fun K => He.ga K "is_number") rfl)) (He.free_ok KX G (c.fact 8 (f := .free "all") rfl)) (He.str_ok KX G (c.fact 18 (f := .str "DIGITS" "0123456789") rfl)) (He.free_ok KX G (c.fact 0 (f := .free "len") rfl)) (He.int_ok KX G (c.fact 57 (f := .int "MOST_DIGITS" 6) rfl))
  have C_is_number : Cal P0 w K mg base CX0 1 "is_number" ["text"] (sp_is_number K tb) := ⟨_, fd_is_number, (He.glo_ok KX G (c.fact 58 (f := .glo "is_number") rfl)), F_is_number.kp, B_is_number, O_is_number⟩
  obtain ⟨fd_Town_with_ride, F_Town_with_ride⟩ := c.def_ 32 (d := d_Town_with_ride) rfl
  have B_Town_with_ride : ∃ ds, Vals [.bl true] ds ∧ Binds K fd_Town_with_ride ["self", "name", "start", "goal", "kept"] ds := bindD F_Town_with_ride 4 rfl fun D doc pm an cdv ct us z hl => match us, hl with | [_, _, _, _], _ => ⟨_, _, _, _, _, _, rfl, rfl, rfl⟩
  have BN_Town_with_ride : KBn K fd_Town_with_ride ["self", "name", "start", "goal", "kept"] 4 ["kept"] (fun us ws => us ++ ws) (fun vs zs => vs ++ zs) := bindN F_Town_with_ride 4 fun D doc pm an cdv ct us z hl => match us, hl with | [_, _, _, _], _ => rfl
  have O_Town_with_ride := ok_Town_with_ride (P := P0) (w := w) (mg := mg) (base := base) (tb := tb) F_Town_with_ride M_Town (He.cls_ok (c.fact 23 (f := .cls "Town") rfl)) (He.noat_ok (c.fact 25 (f := .noat "Town" "rides") rfl)) (He.free_ok KX G (c.fact 10 (f := .free "list") rfl)) (He.noat_ok (c.fact 24 (f := .noat "Town" "stations") rfl))
  have Md_with_ride : MetD P0 w K mg base CX0 5 "Town" "with_ride" ["self", "name", "start", "goal", "kept"] [.bl true] (sp_Town_with_ride K tb) := ⟨_, fd_Town_with_ride, _, He.cls_ok (c.fact 23 (f := .cls "Town") rfl), He.meth_ok (c.fact 59 (f := .meth "Town" "with_ride") rfl), B_Town_with_ride.choose_spec.2, B_Town_with_ride.choose_spec.1, O_Town_with_ride⟩
  have Mn_with_ride : MetN P0 w K mg base CX0 5 "Town" "with_ride" 4 ["kept"] ["self", "name", "start", "goal", "kept"] (sp_Town_with_ride K tb) := ⟨_, fd_Town_with_ride, _, He.cls_ok (c.fact 23 (f := .cls "Town") rfl), He.meth_ok (c.fact 59 (f := .meth "Town" "with_ride") rfl), BN_Town_with_ride, O_Town_with_ride⟩
  obtain ⟨fd_with_line, F_with_line⟩ := c.def_ 33 (d := d_with_line) rfl
  have B_with_line : Binds K fd_with_line ["town", "line"] [] := FunD.bindsN F_with_line fun _ _ _ _ _ _ us hl => match us, hl with | [_, _], _ => rfl
  have O_with_line := ok_with_line (P := P0) (w := w) (mg := mg) (base := base) (tb := tb) F_with_line Mn_with_ride Md_with_ride C_is_number (He.free_ok KX G (c.fact 3 (f := .free "int") rfl)) M_Town (He.free_ok KX G (c.fact 10 (f := .free "list") rfl)) (He.cls_ok (c.fact 23 (f := .cls "Town") rfl)) (He.noat_ok (c.fact 25 (f := .noat "Town" "rides") rfl)) (He.noat_ok (c.fact 24 (f := .noat "Town" "stations") rfl))
  have C_with_line : Cal P0 w K mg base CX0 6 "with_line" ["town", "line"] (sp_with_line K tb) := ⟨_, fd_with_line, (He.glo_ok KX G (c.fact 60 (f := .glo "with_line") rfl)), F_with_line.kp, B_with_line, O_with_line⟩
  obtain ⟨fd__law_line, F__law_line⟩ := c.def_ 34 (d := d__law_line) rfl
  have B__law_line : Binds K fd__law_line ["row"] [] := FunD.bindsN F__law_line fun _ _ _ _ _ _ us hl => match us, hl with | [_], _ => rfl
  have O__law_line := ok__law_line (P := P0) (w := w) (mg := mg) (base := base) F__law_line (He.free_ok KX G (c.fact 0 (f := .free "len") rfl)) (He.free_ok KX G (c.fact 13 (f := .free "str") rfl))
  have C__law_line : Cal P0 w K mg base CX0 1 "_law_line" ["row"] (sp__law_line K) := ⟨_, fd__law_line, (He.glo_ok KX G (c.fact 61 (f := .glo "_law_line") rfl)), F__law_line.kp, B__law_line, O__law_line⟩
  obtain ⟨fd__law_text, F__law_text⟩ := c.def_ 35 (d := d__law_text) rfl
  have B__law_text : Binds K fd__law_text ["rows"] [] := FunD.bindsN F__law_text fun _ _ _ _ _ _ us hl => match us, hl with | [_], _ => rfl
  have O__law_text := ok__law_text (P := P0) (w := w) (mg := mg) (base := base) F__law_text C__law_line
  have C__law_text : Cal P0 w K mg base CX0 2 "_law_text" ["rows"] (sp__law_text K) := ⟨_, fd__law_text, (He.glo_ok KX G (c.fact 62 (f := .glo "_law_text") rfl)), F__law_text.kp, B__law_text, O__law_text⟩
  obtain ⟨fd_write_town, F_write_town⟩ := c.def_ 36 (d := d_write_town) rfl
  have B_write_town : Binds K fd_write_town ["town"] [] := FunD.bindsN F_write_town fun _ _ _ _ _ _ us hl => match us, hl with | [_], _ => rfl
  have O_write_town := ok_write_town (P := P0) (w := w) (mg := mg) (base := base) F_write_town (He.cls_ok (c.fact 23 (f := .cls "Town") rfl)) (He.noat_ok (c.fact 24 (f := .noat "Town" "stations") rfl)) (He.noat_ok (c.fact 25 (f := .noat "Town" "rides") rfl))
  have C_write_town : Cal P0 w K mg base CX0 1 "write_town" ["town"] (sp_write_town K) := ⟨_, fd_write_town, (He.glo_ok KX G (c.fact 63 (f := .glo "write_town") rfl)), F_write_town.kp, B_write_town, O_write_town⟩
  obtain ⟨fd_read_town, F_read_town⟩ := c.def_ 37 (d := d_read_town) rfl
  have B_read_town : Binds K fd_read_town ["text"] [] := FunD.bindsN F_read_town fun _ _ _ _ _ _ us hl => match us, hl with | [_], _ => rfl
  have O_read_town := ok_read_town (P := P0) (w := w) (mg := mg) (base := base) (tb := tb) F_read_town Cm_Town_empty (He.glo_ok KX G (c.fact 20 (f := .glo "Town") rfl)) (He.free_ok KX G (c.fact 38 (f := .free "enumerate") rfl)) C_with_line
  have C_read_town : Cal P0 w K mg base CX0 7 "read_town" ["text"] (sp_read_town K tb) := ⟨_, fd_read_town, (He.glo_ok KX G (c.fact 64 (f := .glo "read_town") rfl)), F_read_town.kp, B_read_town, O_read_town⟩
  obtain ⟨fd__law_words, F__law_words⟩ := c.def_ 38 (d := d__law_words) rfl
  have B__law_words : Binds K fd__law_words ["pool", "count"] [] := FunD.bindsN F__law_words fun _ _ _ _ _ _ us hl => match us, hl with | [_, _], _ => rfl
  have O__law_words := ok__law_words (P := P0) (w := w) (mg := mg) (base := base) F__law_words C__law_names C__law_take (He.free_ok KX G (c.fact 9 (f := .free "range") rfl))
  have C__law_words : Cal P0 w K mg base CX0 3 "_law_words" ["pool", "count"] (sp__law_words K) := ⟨_, fd__law_words, (He.glo_ok KX G (c.fact 65 (f := .glo "_law_words") rfl)), F__law_words.kp, B__law_words, O__law_words⟩
  obtain ⟨fd__law_town_rows, F__law_town_rows⟩ := c.def_ 39 (d := d__law_town_rows) rfl
  have B__law_town_rows : Binds K fd__law_town_rows ["pool"] [] := FunD.bindsN F__law_town_rows fun _ _ _ _ _ _ us hl => match us, hl with | [_], _ => rfl
  have O__law_town_rows := ok__law_town_rows (P := P0) (w := w) (mg := mg) (base := base) F__law_town_rows C__law_take C__law_words (He.free_ok KX G (c.fact 28 (f := .free "min") rfl)) C__law_free C__law_rides (He.free_ok KX G (c.fact 0 (f := .free "len") rfl))
  have C__law_town_rows : Cal P0 w K mg base CX0 4 "_law_town_rows" ["pool"] (sp__law_town_rows K) := ⟨_, fd__law_town_rows, (He.glo_ok KX G (c.fact 66 (f := .glo "_law_town_rows") rfl)), F__law_town_rows.kp, B__law_town_rows, O__law_town_rows⟩
  obtain ⟨fd__law_reads, F__law_reads⟩ := c.def_ 40 (d := d__law_reads) rfl
  have B__law_reads : Binds K fd__law_reads ["text", "stations", "rides"] [] := FunD.bindsN F__law_reads fun _ _ _ _ _ _ us hl => match us, hl with | [_, _, _], _ => rfl
  have O__law_reads := ok__law_reads (P := P0) (w := w) (mg := mg) (base := base) (tb := tb) F__law_reads C_read_town C__law_same (He.free_ok KX G (c.fact 7 (f := .free "tuple") rfl)) (He.cls_ok (c.fact 23 (f := .cls "Town") rfl)) (He.noat_ok (c.fact 25 (f := .noat "Town" "rides") rfl)) (He.noat_ok (c.fact 24 (f := .noat "Town" "stations") rfl)) Me_free Me_bikes Me_docks (He.free_ok KX G (c.fact 9 (f := .free "range") rfl)) (He.free_ok KX G (c.fact 0 (f := .free "len") rfl)) Me_ride Me_position C__law_is_able C__law_bikes C__law_docks C__law_ends C_ends C_able C__law_passes Me_passes C__law_text C_write_town
  have C__law_reads : Cal P0 w K mg base CX0 13 "_law_reads" ["text", "stations", "rides"] (sp__law_reads K tb) := ⟨_, fd__law_reads, (He.glo_ok KX G (c.fact 67 (f := .glo "_law_reads") rfl)), F__law_reads.kp, B__law_reads, O__law_reads⟩
  obtain ⟨fd__law_mixed, F__law_mixed⟩ := c.def_ 41 (d := d__law_mixed) rfl
  have B__law_mixed : Binds K fd__law_mixed ["pool", "rows"] [] := FunD.bindsN F__law_mixed fun _ _ _ _ _ _ us hl => match us, hl with | [_, _], _ => rfl
  have O__law_mixed := ok__law_mixed (P := P0) (w := w) (mg := mg) (base := base) F__law_mixed (He.free_ok KX G (c.fact 10 (f := .free "list") rfl)) (He.free_ok KX G (c.fact 9 (f := .free "range") rfl)) (He.free_ok KX G (c.fact 0 (f := .free "len") rfl)) C__law_take
  have C__law_mixed : Cal P0 w K mg base CX0 2 "_law_mixed" ["pool", "rows"] (sp__law_mixed K) := ⟨_, fd__law_mixed, (He.glo_ok KX G (c.fact 68 (f := .glo "_law_mixed") rfl)), F__law_mixed.kp, B__law_mixed, O__law_mixed⟩
  rw [← etb]
  exact ok_law (P := P0) (w := w) (mg := mg) (base := base) (tb := tb) F_law C__law_town_rows C__law_pool C__law_cell M_Town (He.free_ok KX G (c.fact 10 (f := .free "list") rfl)) C__law_text C__law_reads C__law_same C_write_town C__law_mixed (He.free_ok KX G (c.fact 0 (f := .free "len") rfl))
theorem start_ {K : PySem.W.Frag} {h : Heap} {mg : Str → Option Value} {f : Addr} (KX : K.In h) (G : h.Ns mainGlobals mg) (hfa : mg ("law" : Str) = some (.ref f)) (c : facts.Says K) :
    f = He.ga K "law" ∧ ∃ fd, FunD K "law" "law" (defArgs s_law) (defBody s_law) (defScope s_law) [] [] (He.ga K "law") fd := by
  have e := hfa.symm.trans (He.glo_ok KX G (c.fact 69 (f := .glo "law") rfl))
  cases e
  exact ⟨rfl, c.def_ 42 (d := d_law) rfl⟩
abbrev R : PySem.W.OpenRow := PySem.W.OpenLaw.row PySem.Challenge.rw_manyrides_k03_text_and_town_are_each_oth
abbrev qv : Program := PySem.W.view R.prog [57]
def nm0 : List Str := ["__name__", "_wall", "__name__", "RidesError", "BadName", "Duplicate", "UnknownStation", "UnknownRide", "SameEnds", "NotKept", "BadNumber", "TooLarge", "BadLine", "STREET", "LETTERS", "DIGITS", "MOST_SIGNS", "MOST_DIGITS", "is_name", "is_number", "Town", "town_of", "need_rides", "check_stations", "check_rides", "write_town", "read_town", "with_line", "ends", "station_rows", "can_go"]
def nm1 : List Str := ["able", "_law_cell", "_law_pool", "_law_take", "_law_names", "_law_round", "_law_rides", "_law_free", "_law_passes", "_law_same", "_law_words", "_law_town_rows", "_law_line", "_law_text", "_law_mixed", "_law_reads", "_law_net", "_law_docks", "_law_bikes", "_law_ends", "_law_is_able"]
def names : List Str := nm0 ++ nm1
abbrev hk : PySem.W.Hook := hookV 5 factsT
def ob (s : PySem.W.SharedT) : AlV := factsT.obsT 5 (HandSHeadRun.getT s)
theorem ob_eq (s : PySem.W.SharedT) : ob s = hk.obs s.abs := obsV_eq (HandSHeadRun.getT_eq s)
theorem run (w : World) : HandSHeadRun.RunEq R qv hk ob 14000 names w := by
  intro os
  kernel_rfl
end LW
open PySem PySem.W PySem.Calls PyProof.Rows
theorem PySem.Challenge.cw_manyrides_k03_text_and_town_are_each_oth_holds : PySem.Challenge.rw_manyrides_k03_text_and_town_are_each_oth.Holds := by
  w_on; o_law
  refine HandSHeadRun.head_any (r := LW.R) (q := LW.qv) (H := LW.hk) (ob := LW.ob) (M := 14000) (loose := LW.names) (d := HandSHeadRun.topDef LW.R.prog 57) (kwd := []) LW.ob_eq
    (by kernel_rfl) (fun s => by kernel_rfl) LW.run (by kernel_rfl) (by kernel_rfl) (by kernel_rfl) (by rfl) (by first | assumption | decide +kernel) (by decide +kernel) ⟨rfl, rfl, rfl, rfl, rfl, by decide +kernel⟩ ?hw ?hc
  case hw => w_witness2
  case hc =>
    refine U.walk_ofV (l := PySem.Challenge.rw_manyrides_k03_text_and_town_are_each_oth) (n := 63) (k := 14) (m := 5) (T := LW.factsT) (x := "script") (CX := C8.CX0) rfl (by decide) (by kernel_rfl) ⟨rfl, by decide, by decide⟩ ?F (fun _ _ _ _ z => z)
    intro w mg fa h K KX ct G hmg0
    have hmg : mg ("law" : PySem.Str) = some (.ref fa) := by
      have e : (HandSHeadRun.topDef LW.R.prog 57).name = ("law" : PySem.Str) := by kernel_rfl
      rw [← e]
      exact hmg0
    obtain ⟨rfl, fd, F⟩ := LW.start_ KX G hmg ct.says
    have b := L2.FunD.bindsA (ps := ["script"]) F fun _ _ _ _ _ _ us hl => match us, hl with | [_], _ => rfl
    refine ⟨fd, LW.sp_law K ((LW.factsT.tabs K).map (fun p : Addr × Addr => p.2)), fun s v => b s [v] rfl, fun H a ns hl hT hS => ⟨a, ns, rfl, hS, fun q hq => ?_, fun _ => rfl⟩, fun base _ _ tb => LW.told (w := w) (base := base) KX G ct.says tb ct.ref_ F⟩
    obtain ⟨p, hp, rfl⟩ := List.mem_map.mp hq
    exact hT p hp

import PyProof.Rows.All
import Wide.All
import OpenK.AllK
import Wide.FinOn
import HandS.ForMost
import HandS.Exc
import HandS.ExcOwn
import HandS.TryOnly
import HandS.WordsExc
import HandS.IsInst
import HandS.Defaults
import HandS.Flow
import KE.KExcSuper
import HandS.ExcInit
import KE.KExcIs
import HandS.ExcIs
import HandS.ExcField
import HandS.HeadHook1
import HandS.Property
import HandS.Style
import HandS.Walk
import HandS.Codes
import HandS.HeadHook4
import KE.KStateDown
import Lean
import HandS.Head0
import HandS.Head1
import HandS.Head2
import HandS.HeadEnd
import PySem.Challenge.RW_manyrides_k79_a_book_reads_back
set_option Elab.async false
set_option linter.all false
set_option maxRecDepth 100000
set_option maxHeartbeats 1000000
namespace U
open PySem PySem.Spec PyProof.Rows L2
section
variable {X : Cx}

/-! readings made weaker, joined -/
theorem peI {e : Expr} {t t' : TE} (h : PE X e t) (w : ∀ σ H Q, t' σ H Q → t σ H Q) : PE X e t' :=
  ⟨fun p s σ H Q I q => h.run p s σ H Q I (w σ H Q q)⟩
theorem ptI {e : Expr} {t t' : TT} (h : PT X e t) (w : ∀ σ H Q, t' σ H Q → t σ H Q) : PT X e t' :=
  ⟨fun p s σ H Q I q => h.run p s σ H Q I (w σ H Q q)⟩
theorem psI {e : Stmt} {t t' : TS} (h : PS X e t) (w : ∀ D σ H, t' D σ H → t D σ H) : PS X e t' :=
  ⟨fun p s σ H D I q => h.run p s σ H D I (w D σ H q)⟩
theorem piI {g e : Expr} {t t' : TI} (h : PI X g e t) (w : ∀ σ H R, t' σ H R → t σ H R) : PI X g e t' :=
  ⟨fun p s σ H R I q => h.run p s σ H R I (w σ H R q)⟩
theorem peOr {e : Expr} {t u : TE} (h : PE X e t) (k : PE X e u) : PE X e (fun σ H Q => t σ H Q ∨ u σ H Q) :=
  ⟨fun p s σ H Q I q => q.elim (h.run p s σ H Q I) (k.run p s σ H Q I)⟩
theorem psOr {e : Stmt} {t u : TS} (h : PS X e t) (k : PS X e u) : PS X e (fun D σ H => t D σ H ∨ u D σ H) :=
  ⟨fun p s σ H D I q => q.elim (h.run p s σ H D I) (k.run p s σ H D I)⟩

/-! a name, read off its slot -/
def uV (i : Nat) : TE := fun σ H Q => match σ[i]? with
  | some (some v) => Q v H
  | _ => False
theorem pu (i : Nat) {x : Str} {pos : Pos} (hN : X.N[i]? = some x := by rfl) (hv : Vis X.env.scope x := by first | exact Or.inl rfl | exact Or.inr (Or.inl rfl) | exact Or.inr (Or.inr rfl))
    (hd : (x == ("__debug__" : Str)) = false := by decide) (hcd : (x == ("__classdict__" : Str)) = false := by decide) : PE X (.Name x pos) (uV i) :=
  peI (pe_var hN hv hd hcd) fun σ H Q q => by
    unfold uV at q
    split at q
    · exact ⟨_, by assumption, q⟩
    · exact q.elim

/-! operators, by values -/
def uAdd (K : PySem.W.Frag) : R2 := fun x y H Q => match x, y with
  | .int i, .int j => Q (.int (i + j)) H
  | .str a, .str b => a.length + b.length ≤ sizeLine ∧ Q (.str (a ++ b)) H
  | .ref a, .ref b => (∃ xs ys, H a = some (.lst xs) ∧ H b = some (.lst ys) ∧ xs.length + ys.length ≤ sizeLine ∧ ∀ p, H p = none → Q (.ref p) (upd H p (.lst (xs ++ ys)))) ∨ rCatT K x y H Q
  | _, _ => False
theorem o_add : OpR X (binaryOp .Add) (uAdd X.K) := by
  intro pins s σ H x y v u Q I rx ry h
  cases x with
  | int i => cases y with
    | int j => exact op_add pins s σ H _ _ v u Q I rx ry ⟨i, j, rfl, rfl, h⟩
    | _ => exact (show False from h).elim
  | str a => cases y with
    | str b => exact op_add_str pins s σ H _ _ v u Q I rx ry ⟨a, b, rfl, rfl, h.1, h.2⟩
    | _ => exact (show False from h).elim
  | ref a => cases y with
    | ref b =>
      rcases (show _ ∨ _ from h) with ⟨xs, ys, h1, h2, h3, h4⟩ | h
      · exact op_cat pins s σ H _ _ v u Q I rx ry ⟨a, b, xs, ys, rfl, rfl, h1, h2, h3, h4⟩
      · exact op_catT pins s σ H _ _ v u Q I rx ry h
    | _ => exact (show False from h).elim
  | _ => exact (show False from h).elim
/-- two ints, and what is asked of them -/
def uI (f : Int → Int → VK → Hp → Prop) : R2 := fun x y H Q => match x, y with
  | .int i, .int j => f i j Q H
  | _, _ => False
theorem uI_of {f : Value → Value → Sem Value} {r : R2} {g : Int → Int → VK → Hp → Prop} (h : OpR X f r) (w : ∀ i j Q H, g i j Q H → r (.int i) (.int j) H Q) : OpR X f (uI g) := by
  intro pins s σ H x y v u Q I rx ry q
  cases x with
  | int i => cases y with
    | int j => exact h pins s σ H _ _ v u Q I rx ry (w i j Q H q)
    | _ => exact (show False from q).elim
  | _ => exact (show False from q).elim
def uSub : R2 := uI fun i j Q H => Q (.int (i - j)) H
theorem o_sub : OpR X (binaryOp .Sub) uSub := uI_of op_sub fun i j Q H q => ⟨i, j, rfl, rfl, q⟩
def uMul : R2 := uI fun i j Q H => CMul i j ∧ Q (.int (i * j)) H
theorem o_mul : OpR X (binaryOp .Mult) uMul := uI_of op_mul fun i j Q H q => ⟨i, j, rfl, rfl, q.1, q.2⟩
def uMod : R2 := uI fun i j Q H => 0 < j ∧ Q (.int (i % j)) H
theorem o_mod : OpR X (binaryOp .Mod) uMod := uI_of op_mod fun i j Q H q => ⟨i, j, rfl, rfl, q.1, q.2⟩
def uDiv : R2 := uI fun i j Q H => (0 < j ∧ j < 1073741824) ∧ Q (.int (i / j)) H
theorem o_div : OpR X (binaryOp .FloorDiv) uDiv := uI_of op_fdiv fun i j Q H q => ⟨i, j, rfl, rfl, q.1, q.2⟩
def uPow : R2 := uI fun i j Q H => CPow i j ∧ Q (.int (i ^ j.toNat)) H
theorem o_pow : OpR X (binaryOp .Pow) uPow := uI_of op_pow fun i j Q H q => ⟨i, j, rfl, rfl, q.1, q.2⟩
def uLt : R2 := uI fun i j Q H => Q (.bl (decide (i < j))) H
theorem o_lt : OpR X (compareOp .Lt) uLt := uI_of op_lt fun i j Q H q => ⟨i, j, rfl, rfl, q⟩
def uLe : R2 := uI fun i j Q H => Q (.bl (decide (i ≤ j))) H
theorem o_le : OpR X (compareOp .LtE) uLe := uI_of op_le fun i j Q H q => ⟨i, j, rfl, rfl, q⟩
def uGt : R2 := uI fun i j Q H => Q (.bl (decide (j < i))) H
theorem o_gt : OpR X (compareOp .Gt) uGt := uI_of op_gt fun i j Q H q => ⟨i, j, rfl, rfl, q⟩
def uGe : R2 := uI fun i j Q H => Q (.bl (decide (j ≤ i))) H
theorem o_ge : OpR X (compareOp .GtE) uGe := uI_of op_ge fun i j Q H q => ⟨i, j, rfl, rfl, q⟩
def eqB : V → V → Bool
  | .int i, .int j => decide (i = j)
  | .str a, .str b => decide (a = b)
  | .bl a, .bl b => decide (a = b)
  | x, y => decide (x = y)
theorem eqB_dec (x y : V) : eqB x y = decide (x = y) := by
  cases x <;> cases y <;> simp [eqB]
/-- ==: scalars | data -/
def uEq (K : PySem.W.Frag) : R2 := fun x y H Q => match x, y with
  | .ref _, .ref _ => rEqD K x y H Q
  | x, y => scal x y = true ∧ Q (.bl (eqB x y)) H
def uNe (K : PySem.W.Frag) : R2 := fun x y H Q => match x, y with
  | .ref _, .ref _ => rNeD K x y H Q
  | x, y => scal x y = true ∧ Q (.bl (!eqB x y)) H
theorem o_eq (hu : X.A.units + 64 < cLine) : OpR X (compareOp .Eq) (uEq X.K) := by
  intro pins s σ H x y v u Q I rx ry h
  have go : (scal x y = true ∧ Q (.bl (eqB x y)) H) → wpAny (model X.prog X.w) X.A (compareOp .Eq v u) (EP X pins σ Q) X.xe s := fun q =>
    op_eq pins s σ H x y v u Q I rx ry ⟨q.1, by rw [← eqB_dec]; exact q.2⟩
  cases x with
  | ref a => cases y with
    | ref b => exact op_eqD hu pins s σ H _ _ v u Q I rx ry h
    | _ => exact go h
  | _ => exact go h
theorem o_ne (hu : X.A.units + 64 < cLine) : OpR X (compareOp .NotEq) (uNe X.K) := by
  intro pins s σ H x y v u Q I rx ry h
  have go : (scal x y = true ∧ Q (.bl (!eqB x y)) H) → wpAny (model X.prog X.w) X.A (compareOp .NotEq v u) (EP X pins σ Q) X.xe s := fun q =>
    op_ne pins s σ H x y v u Q I rx ry ⟨q.1, by rw [← eqB_dec]; exact q.2⟩
  cases x with
  | ref a => cases y with
    | ref b => exact op_neD hu pins s σ H _ _ v u Q I rx ry h
    | _ => exact go h
  | _ => exact go h
/-- is None -/
def isNonV : V → Bool
  | .non => true
  | _ => false
theorem isNonV_dec (x : V) : isNonV x = decide (x = .non) := by cases x <;> simp [isNonV]
def uIsN : R2 := fun x y H Q => y = .non ∧ Q (.bl (isNonV x)) H
def uNotN : R2 := fun x y H Q => y = .non ∧ Q (.bl (!isNonV x)) H
theorem o_isN : OpR X (compareOp .Is) uIsN := fun pins s σ H x y v u Q I rx ry h => op_isN pins s σ H x y v u Q I rx ry ⟨h.1, by rw [← isNonV_dec]; exact h.2⟩
theorem o_notN : OpR X (compareOp .IsNot) uNotN := fun pins s σ H x y v u Q I rx ry h => op_notN pins s σ H x y v u Q I rx ry ⟨h.1, by rw [← isNonV_dec]; exact h.2⟩
/-- in: one sign in a text | a flat thing in a list or a tuple -/
def uIn (K : PySem.W.Frag) : R2 := fun x y H Q => match y with
  | .str z => ∃ c : Nat, x = .str ⟨#[c]⟩ ∧ Q (.bl (decide (c ∈ z.cps.toList))) H
  | .ref p => ∃ xs, (SqL K H p xs ∨ SqT K H p xs) ∧ flatV x = true ∧ xs.all flatV = true ∧ Q (.bl (inV x xs)) H
  | _ => False
def uNotIn (K : PySem.W.Frag) : R2 := fun x y H Q => match y with
  | .str z => ∃ c : Nat, x = .str ⟨#[c]⟩ ∧ Q (.bl (!decide (c ∈ z.cps.toList))) H
  | .ref p => ∃ xs, (SqL K H p xs ∨ SqT K H p xs) ∧ flatV x = true ∧ xs.all flatV = true ∧ Q (.bl (!inV x xs)) H
  | _ => False
theorem o_in : OpR X (compareOp .In) (uIn X.K) := by
  intro pins s σ H x y v u Q I rx ry h
  cases y with
  | str z => obtain ⟨c, e, q⟩ := (show ∃ c : Nat, _ ∧ _ from h); exact op_in_sign pins s σ H _ _ v u Q I rx ry ⟨c, z, e, rfl, q⟩
  | ref p => obtain ⟨xs, a, b, c, q⟩ := (show ∃ xs, _ ∧ _ from h); exact op_in_seq pins s σ H _ _ v u Q I rx ry ⟨p, xs, rfl, a, b, c, q⟩
  | _ => exact (show False from h).elim
theorem o_notIn : OpR X (compareOp .NotIn) (uNotIn X.K) := by
  intro pins s σ H x y v u Q I rx ry h
  cases y with
  | str z => obtain ⟨c, e, q⟩ := (show ∃ c : Nat, _ ∧ _ from h); exact op_notIn_sign pins s σ H _ _ v u Q I rx ry ⟨c, z, e, rfl, q⟩
  | ref p => obtain ⟨xs, a, b, c, q⟩ := (show ∃ xs, _ ∧ _ from h); exact op_notIn_seq pins s σ H _ _ v u Q I rx ry ⟨p, xs, rfl, a, b, c, q⟩
  | _ => exact (show False from h).elim
/-- a list's, a tuple's, a text's item -/
def uIx (K : PySem.W.Frag) : R2 := fun x y H Q => match x, y with
  | .ref a, .int i => ∃ xs v, (SqL K H a xs ∨ SqT K H a xs) ∧ atI xs i = some v ∧ Q v H
  | .str z, .int i => ∃ c, z.length ≤ sizeLine ∧ atI z.cps.toList i = some c ∧ Q (.str ⟨#[c]⟩) H
  | _, _ => False
theorem o_ix : IxR X (uIx X.K) := by
  intro value slice pins s σ H x y v u Q I rx ry h hs
  cases x with
  | ref a => cases y with
    | int i =>
      obtain ⟨xs, v', hq, hi, q⟩ := (show ∃ xs v, (_ ∨ _) ∧ _ from h)
      rcases hq with hq | hq
      · exact ix_list value slice pins s σ H _ _ v u Q I rx ry ⟨a, xs, i, v', rfl, rfl, hq, hi, q⟩ hs
      · exact ix_tup value slice pins s σ H _ _ v u Q I rx ry ⟨a, xs, i, v', rfl, rfl, hq, hi, q⟩ hs
    | _ => exact (show False from h).elim
  | str z => cases y with
    | int i =>
      obtain ⟨c, hz, hi, q⟩ := (show ∃ c, _ ∧ _ from h)
      exact ix_str value slice pins s σ H _ _ v u Q I rx ry ⟨z, i, c, rfl, rfl, hz, hi, q⟩ hs
    | _ => exact (show False from h).elim
  | _ => exact (show False from h).elim

/-! tests -/
def uT (t : TE) : TT := fun σ H Q => t σ H fun x H' => match x with
  | .bl k => Q k H'
  | _ => False
theorem uT_eq (t : TE) : uT t = tTest t := by
  funext σ H Q
  unfold uT tTest
  congr 1
  funext x H'
  cases x <;> simp
theorem ut_cmp {op : CmpOp} {r : R2} {a b : Expr} {ta tb : TE} {pos : Pos} (ho : OpR X (compareOp op) r) (ha : PE X a ta) (hb : PE X b tb) (hm : behindInMarks op b = false) : PT X (.Compare a [op] [b] pos) (uT (tOp r ta tb)) := by
  rw [uT_eq]
  exact pt_cmpR ho ha hb hm
theorem ut_chain {op op' : CmpOp} {r r' : R2} {a b c : Expr} {ta tb tc : TE} {pos : Pos} (ho : OpR X (compareOp op) r) (ho' : OpR X (compareOp op') r') (ha : PE X a ta) (hb : PE X b tb) (hc : PE X c tc)
    (hm : lastMarks [op, op'] [b, c] = false := by with_unfolding_all rfl) : PT X (.Compare a [op, op'] [b, c] pos) (uT (tChain r r' ta tb tc)) := by
  rw [uT_eq]
  exact pt_chain ho ho' ha hb hc hm
theorem ut_val {e : Expr} {t : TE} (h : PE X e t) (he : ∀ whole, isTrue e X.env whole = (do let v ← whole; standAt e.pos; holding [v] (truthy v)) := by intro _; rfl) : PT X e (uT t) := by
  have q := pt_val h he
  rw [show tB t = uT t from (uT_eq t).symm ▸ rfl] at q
  exact q
/-- a branch -/
def br (b : Bool) (A B : Prop) : Prop := (b = true → A) ∧ (b = false → B)
theorem br_eq (b : Bool) (A B : Prop) : br b A B = (if b = true then A else B) := by
  cases b <;> simp [br]
def uIf (c : TT) (t u : TS) : TS := fun D σ H => c σ H fun b H1 => br b (t D σ H1) (u D σ H1)
theorem us_if {c : Expr} {a b : List Stmt} {pos : Pos} {tc : TT} {t u : TS} (hc : PT X c tc) (ha : PSs X a t) (hb : PSs X b u) : PS X (.If c a b pos) (uIf tc t u) := by
  have q := ps_if (pos := pos) hc ha hb
  have e : uIf tc t u = tIfS tc t u := by
    funext D σ H
    unfold uIf tIfS
    congr 1
    funext b H1
    exact br_eq ..
  rw [e]
  exact q
def uAnd (t u : TT) : TT := fun σ H Q => t σ H fun c H1 => br c (u σ H1 Q) (Q false H1)
def uOr (t u : TT) : TT := fun σ H Q => t σ H fun c H1 => br c (Q true H1) (u σ H1 Q)
theorem uw_and {a b : Expr} {rest : List Expr} {pos : Pos} {t u : TT} (ha : PT X a t) (hb : PW X (.BoolOp .And (b :: rest) pos) u) : PW X (.BoolOp .And (a :: b :: rest) pos) (uAnd t u) := by
  have e : uAnd t u = tAnd t u := by
    funext σ H Q
    unfold uAnd tAnd
    congr 1
    funext b H1
    exact br_eq ..
  rw [e]
  exact pw_and ha hb
theorem uw_or {a b : Expr} {rest : List Expr} {pos : Pos} {t u : TT} (ha : PT X a t) (hb : PW X (.BoolOp .Or (b :: rest) pos) u) : PW X (.BoolOp .Or (a :: b :: rest) pos) (uOr t u) := by
  have e : uOr t u = tOr t u := by
    funext σ H Q
    unfold uOr tOr
    congr 1
    funext b H1
    exact br_eq ..
  rw [e]
  exact pw_or ha hb
def uAndV (ta tb : TE) : TE := fun σ H Q => ta σ H fun x H1 => match x with
  | .bl c => br c (tb σ H1 Q) (Q (.bl false) H1)
  | _ => False
def uOrV (ta tb : TE) : TE := fun σ H Q => ta σ H fun x H1 => match x with
  | .bl c => br c (Q (.bl true) H1) (tb σ H1 Q)
  | _ => False
theorem ue_and {a b : Expr} {rest : List Expr} {pos : Pos} {ta tb : TE} (ha : PE X a ta) (hb : PE X (.BoolOp .And (b :: rest) pos) tb) : PE X (.BoolOp .And (a :: b :: rest) pos) (uAndV ta tb) := by
  have e : uAndV ta tb = tAndV ta tb := by
    funext σ H Q
    unfold uAndV tAndV
    congr 1
    funext x H1
    cases x <;> simp [br_eq]
  rw [e]
  exact pe_and ha hb
theorem ue_or {a b : Expr} {rest : List Expr} {pos : Pos} {ta tb : TE} (ha : PE X a ta) (hb : PE X (.BoolOp .Or (b :: rest) pos) tb) : PE X (.BoolOp .Or (a :: b :: rest) pos) (uOrV ta tb) := by
  have e : uOrV ta tb = tOrV ta tb := by
    funext σ H Q
    unfold uOrV tOrV
    congr 1
    funext x H1
    cases x <;> simp [br_eq]
  rw [e]
  exact pe_or ha hb
def uNotV (ta : TE) : TE := fun σ H Q => ta σ H fun x H1 => match x with
  | .bl c => Q (.bl (!c)) H1
  | _ => False
theorem ue_not {a : Expr} {pos : Pos} {ta : TE} (ha : PE X a ta) : PE X (.UnaryOp .Not a pos) (uNotV ta) := by
  have e : uNotV ta = tNotV ta := by
    funext σ H Q
    unfold uNotV tNotV
    congr 1
    funext x H1
    cases x <;> simp
  rw [e]
  exact pe_not ha
def uIfE (t : TT) (ta tb : TE) : TE := fun σ H Q => t σ H fun c H1 => br c (ta σ H1 Q) (tb σ H1 Q)
theorem ue_if {c a b : Expr} {pos : Pos} {t : TT} {ta tb : TE} (hc : PT X c t) (ha : PE X a ta) (hb : PE X b tb) : PE X (.IfExp c a b pos) (uIfE t ta tb) := by
  have e : uIfE t ta tb = tIf t ta tb := by
    funext σ H Q
    unfold uIfE tIf
    congr 1
    funext b H1
    exact br_eq ..
  rw [e]
  exact pe_ifExp hc ha hb

/-! a call of an own def -/
/-- the def that the module's name x stands for keeps its promise -/
structure Cal (P : Program) (w : World) (K : PySem.W.Frag) (mg : Str → Option Value) (base : Heap) (CX : CXT) (k : Nat) (x : Str) (ps : List Str) (sp : Sp) : Prop where
  ok : ∃ f fd, mg x = some (.ref f) ∧ PySem.W.keepIn K (.ref f) = true ∧ Binds K fd ps [] ∧ FnOk P w K mg base CX k f fd ps sp
def uCall (sp : Sp) (E : XK) (t : TA) : TE := fun σ H Q => t σ H fun vs H1 => sp vs H1 Q E
theorem ue_call {CX : CXT} {k : Nat} {x : Str} {ps : List Str} {sp : Sp} {E : XK} {e : Expr} {es : List Expr} {p pos : Pos} {t : TA} (C : Cal X.prog X.w X.K X.mg X.base CX k x ps sp) (hr : Room k X.A) (hg : Gl X x) (hx : Passes CX X E)
    (ha : PA X (e :: es) t) (hdb : (x == ("__debug__" : Str)) = false := by decide) (he : starEach (e :: es) X.env = (false, eval e X.env) :: starEach es X.env := by rfl) (hpl : (backTo pos (starEach es X.env)).any (·.1) = false := by rfl) :
    PE X (.Call (.Name x p) (e :: es) [] pos) (uCall sp E t) := by
  obtain ⟨f, fd, hm, hk, hb, F⟩ := C.ok
  refine peI (pe_call F hr hg hm hk hb .nil hx ha hdb he hpl) fun σ H Q q => ?_
  have q' : t σ H (fun vs H1 => sp vs H1 Q E) := q
  simpa only [tCall, List.append_nil] using q'
end
end U
set_option Elab.async false
set_option linter.all false
set_option maxRecDepth 100000
set_option maxHeartbeats 1000000
namespace PySem
namespace XC
open PySem.W PySem.Calls PyProof.Rows PySem.HandSPX
abbrev veB : List Value := [.type "ValueError", .type "Exception", .type "BaseException", .type "object"]
/-- a class over ValueError, perhaps by own classes, with instances that have a dict -/
def oxB (K : Frag) (C : Addr) : Bool := match K.lookup C with
  | some ⟨.type "type", _, .cls cd, sl⟩ => (match cd.mro, sl.toList with
    | .ref C' :: bm, [_, _, _, _, some (.builtin n), _] => C' == C && n == "ValueError.__new__" && !cd.hasDel && (refsVE bm && cd.hasDict)
    | _, _ => false)
  | _ => false
def OX (K : Frag) (C : Addr) : Prop := ∃ nm q N bs bm sn sub ab col dd k0 k1 k2 k3 k5, K.lookup C = some (excClassObj nm q C N bs bm true sn sub ab col dd k0 k1 k2 k3 k5 "ValueError.__new__") ∧ refsVE bm = true
theorem oxB_ok {K : Frag} {C : Addr} (q : oxB K C = true) : OX K C := by
  unfold oxB at q
  split at q
  · rename_i dd cd sl ho
    split at q
    · rename_i C' bm k0 k1 k2 k3 n k5 hm hs
      simp only [Bool.and_eq_true, beq_iff_eq, Bool.not_eq_true'] at q
      obtain ⟨⟨⟨rfl, rfl⟩, hdel⟩, ht, hd⟩ := q
      obtain ⟨nm, bs, mro, N, qn, hdct, sn, sub, ab, col, del⟩ := cd
      dsimp only at hm hdel hd
      subst hm hdel hd
      have e : sl = #[k0, k1, k2, k3, some (.builtin "ValueError.__new__"), k5] := by
        apply Array.toList_inj.mp
        rw [hs]
      subst e
      exact ⟨nm, qn, N, bs, bm, sn, sub, ab, col, dd, k0, k1, k2, k3, k5, ho, ht⟩
    · cases q
  · cases q
/-- what the written part tells of the class at C and of its __init__ at fI -/
structure Ini (K : Frag) (prog : Program) (C fI : Addr) (qual : Str) (ar : Arguments) (body : List Stmt) (sc : Scope) : Prop where
  ox : OX K C
  ini : excInitIn K C veB "ValueError.__new__" = true
  sa : findIn K (.ref C) "__setattr__" = some (some (.builtin "object.__setattr__"))
  iC : findIn K (.ref C) "__init__" = some (some (.ref fI))
  tC : typeIn K (.ref fI) = some (.type "function")
  sub : subIn K (.ref C) (.type "ValueError") = some true
  mro : mroIn K C (.ref C) = some true
  sup : ks_superIn K C C "__init__" = some (some (.builtin "ValueError.__init__"))
  tp : nsIn K cStatics "thirdparty.any" = some none
  fn : ∃ (oc : Value) (od : Option Addr) (doc pm : Value) (an : Option Addr) (cda cc : Addr) (ct : Value) (osl : Array (Option Value)) (ccl : Value) (cdd : Option Addr) (vs : Array Value) (ccs : Array (Option Value)) (file : Str) (tf : Tok) (cl : Value) (cld : Option Addr) (csl : Array (Option Value)),
    K.lookup fI = some ⟨oc, od, .func (ksFn "__init__" qual ar body sc .none .none doc pm an (.ref cda) ct cc), osl⟩ ∧ codeIn K (.ref cda) qual = true ∧
    K.lookup cda = some ⟨ccl, cdd, .fields vs, ccs⟩ ∧ vs[2]? = some (.str file tf) ∧ ((prog.main.file : Str) == file) = true ∧ K.lookup cc = some ⟨cl, cld, .cell (some (.ref C)), csl⟩
/-- what such an __init__ leaves: the exception at x has its own dict at dx, with the fields of fs -/
structure End (h h' : Heap) (x C dx : Addr) (fs : List (Str × Value)) : Prop where
  keep : ∀ b o, h.get? b = some o → h'.get? b = some o
  obj : ∃ t1 : Addr, h'.get? x = some { cls := .ref C, dict := some dx, data := .fields #[.ref t1, .none, .none, .none, .bool false, .none] }
  dbig : h.objs.size ≤ dx
  dne : dx ≠ x
  ns : h'.Ns1 dx (fun y => fs.lookup y)
abbrev q1 (p1 p2 p3 p4 p5 : Pos) (arg : Expr) : Stmt := .Expr (.Call (.Attribute (.Call (.Name "super" p1) [] [] p2) "__init__" p3) [arg] [] p4) p5
abbrev q2 (f : Str) (p1 p2 p3 p4 : Pos) : Stmt := .Assign [.Attribute (.Name "self" p1) f p2] (.Name f p3) p4
section
variable {prog : Program} {w : World} {A : Around} {E : Value → Shared → Prop} {R : Result → Shared → Prop} {s : Shared} {K : Frag} {mg : Str → Option Value} {C fI : Addr} {qual : Str} {ar : Arguments} {body : List Stmt} {sc : Scope}
/-- super().__init__(arg) -/
theorem sup_run {Q : Flow → Shared → Prop} {p1 p2 p3 p4 p5 : Pos} {arg : Expr} {h₀ : Heap} {L x t cda cc : Addr} {m mb : Str → Option Value} {v0 : Arg} {bdy : List Stmt} (T : Ini K prog C fI qual ar body sc)
    (F : Fr h₀ L s.heap m) (X₀ : K.In h₀) (N : News h₀ L s.heap [(x, excObj C t none .none)]) (hself : m "self" = some (.ref x)) (har : (ar.posonlyargs ++ ar.args).head? = some v0) (hv0 : v0.arg = "self")
    {oc : Value} {od : Option Addr} {doc pm : Value} {an : Option Addr} {ct : Value} {osl : Array (Option Value)} {ccl : Value} {cdd : Option Addr} {vs : Array Value} {ccs : Array (Option Value)} {file : Str} {tf : Tok} {cl : Value} {cld : Option Addr} {csl : Array (Option Value)}
    (hfI : K.lookup fI = some ⟨oc, od, .func (ksFn "__init__" qual ar body sc .none .none doc pm an (.ref cda) ct cc), osl⟩) (hcda : K.lookup cda = some ⟨ccl, cdd, .fields vs, ccs⟩) (hvs : vs[2]? = some (.str file tf)) (hfile : ((prog.main.file : Str) == file) = true)
    (hcc : K.lookup cc = some ⟨cl, cld, .cell (some (.ref C)), csl⟩)
    (G : h₀.Ns mainGlobals mg) (hsup : mg "super" = none) (B : h₀.Ns builtinsNs mb) (hb : mb "super" = some (.type "super")) (htop : (prog.main.scope.names.lookup ("super" : Str)).isSome = false)
    (hks : sc.names.lookup ("super" : Str) = some .globalImplicit) (hkc : sc.names.lookup ("__class__" : Str) = some .free) (hka : sc.names.lookup ("self" : Str) = some .local) (hk : sc.kind = .function)
    (harg : ∀ (s' : Shared) (Q : Value → Shared → Prop), s'.heap.Ns L m → (∀ u tk, Q u { s' with toks := tk }) → wpAny (model prog w) A (eval arg (ksEnv qual sc L fI (.ref cda) cc)) Q E s')
    (h : ∀ t' h' tk, Fr h₀ L h' m → News h₀ L h' [(x, excObj C t' none .none)] → Q .next { s with heap := h', toks := tk })
    (he : starEach [arg] (ksEnv qual sc L fI (.ref cda) cc) = (false, eval arg (ksEnv qual sc L fI (.ref cda) cc)) :: starEach [] (ksEnv qual sc L fI (.ref cda) cc) := by rfl)
    {pl : Sem Bool} (hev : eval (.Call (.Attribute (.Call (.Name "super" p1) [] [] p2) "__init__" p3) [arg] [] p4) (ksEnv qual sc L fI (.ref cda) cc) = (do
      let ov ← attributeBase (.Call (.Name "super" p1) [] [] p2) "__init__" (ksEnv qual sc L fI (.ref cda) cc) (eval (.Call (.Name "super" p1) [] [] p2) (ksEnv qual sc L fI (.ref cda) cc))
      standAt p3.atName
      let (f, first) ← holding [ov] (getMethod ov "__init__" pl)
      callWith p4 f first (backTo p4 (starEach [arg] (ksEnv qual sc L fI (.ref cda) cc))) []) := by rfl)
    (hsw : swapsWith (.Call (.Attribute (.Call (.Name "super" p1) [] [] p2) "__init__" p3) [arg] [] p4) none p5.line (ksEnv qual sc L fI (.ref cda) cc) = pure false := by rfl) :
    wpAt (model prog w) A (.func bdy (ksEnv qual sc L fI (.ref cda) cc)) (exec (q1 p1 p2 p3 p4 p5 arg) (ksEnv qual sc L fI (.ref cda) cc)) Q E s := by
  have X : K.In s.heap := X₀.keeps F.keep
  obtain ⟨nm, q, NN, bs, bm, sn, sub, ab, col, dd, k0, k1, k2, k3, k5, hC, hbm⟩ := T.ox
  have hx := (N (x, excObj C t none .none) (by simp)).1
  have hD1 := X _ _ hC
  have hxC : x ≠ C := fun z => by
    rw [← z] at hD1
    rw [hx] at hD1
    cases hD1
  obtain ⟨hh, g, d, tk, os⟩ := s
  refine ks_wpAt_Expr_any (ks_wpAt_MethodCall (pl := pl) ?_ hev) (by simp [interactive, hk]) hsw
  refine ks_wpAt_super_base (env := ksEnv qual sc L fI (.ref cda) cc) hks hkc (by decide) rfl (X _ _ hfI) rfl har rfl (X _ _ hcda) rfl hvs hfile htop ?_
  rw [hv0]
  refine ks_loadName_global hk hks (loadGlobal_builtin (env := ksEnv qual sc L fI (.ref cda) cc) (G.keeps F.keep) hsup (B.keeps F.keep) hb ⟨rfl, ?_⟩)
  refine wpAny_loadName_free hk hkc rfl ⟨_, X _ _ hcc, rfl⟩ ?_
  refine wpAny_loadName_local hk hka F.ns hself ?_
  refine ks_wpAny_isType_cls hD1 rfl ⟨rfl, ?_⟩
  refine ks_wpAny_call_super hD1 rfl hx rfl (fun c e => ?_) (looks_mroIn X T.mro) (fun h' e k => ?_)
  · cases e
  obtain ⟨F', N', l'⟩ := ks_newsPush (s := ⟨hh, g, d, tk, os⟩) F N rfl e k
  have hI : InstAt h' x (excObj C t none .none) C none := ⟨(N' (x, excObj C t none .none) (by simp)).1, rfl, rfl, trivial⟩
  refine kxs_method (s := ⟨h', g, d, tk, os⟩) kxs_ValueError F' X₀ N' (so := hh.objs.size) (x := x) (C := C) (D := C) (by simp) hI T.tp T.sup T.sub (by decide) fun u h2 F2 N2 l2 => ?_
  refine kxs_callWith1 (s := ⟨h2, g, d, tk + 1, os⟩) (i := "ValueError.__init__") (x := x) N2 (by simp) ?_ he (by rfl)
  rw [he]
  show wpAny _ _ (spliced ((false, eval arg (ksEnv qual sc L fI (.ref cda) cc)) :: backTo _ (starEach [] (ksEnv qual sc L fI (.ref cda) cc)))) _ _ _
  refine Calls.spliced_cons (harg _ _ F2.ns fun av tk2 => Calls.spliced_nil ?_)
  refine ⟨kxs_at N2 (by simp), ?_⟩
  have xu : x ≠ u := fun z => absurd (l2 (x, excObj C t none .none) (by simp)) (by rw [z]; exact Nat.lt_irrefl _)
  have xs : x ≠ hh.objs.size := Nat.ne_of_lt (Heap.lt_size hx)
  have su : hh.objs.size ≠ u := Nat.ne_of_lt (l2 (hh.objs.size, ks_superObj C x C) (by simp))
  refine kxs_call (s := ⟨h2, g, d, tk2, os⟩) (t := t) (dv := none) (c2 := .none) F2 X₀ N2 PySem.F.excBase_ValueError T.ini (by simp)
    (U := .tail (Ne.symm xu) (.tail (Ne.symm xs) (.head fun p hp => nomatch hp))) (by rw [sizeLine_eq]; exact (by decide : 1 ≤ 16777216)) fun t' h3 F3 N3 l3 => ?_
  exact h t' h3 tk2 F3 fun p hp => N3 p (by
    have e : p = (x, excObj C t' none .none) := by simpa using hp
    rw [e]
    simp)
theorem lk {α : Type} (f g : Str) (y : α) (fs : List (Str × α)) : List.lookup g ((f, y) :: fs) = if g = f then some y else List.lookup g fs := by
  by_cases h : g = f
  · subst h
    simp [List.lookup]
  · have e : (g == f) = false := by simpa using h
    rw [if_neg h]
    simp [List.lookup, e]
theorem ns1_congr {h : Heap} {a : Addr} {m m' : Str → Option Value} (x : h.Ns1 a m) (e : ∀ y, m y = m' y) : h.Ns1 a m' := by
  have z : m = m' := funext e
  rw [← z]
  exact x
theorem ld {M : Model} {A : Around} {E : Value → Shared → Prop} {s : Shared} {env : Env} {m : Str → Option Value} {x : Str} {pos : Pos} {v : Value} {Q : Value → Shared → Prop} (hn : s.heap.Ns env.locals m) (hv : m x = some v) (hk : env.scope.kind = .function) (hl : env.kindOf x = some .local) (h : Q v s)
    (hd : (x == ("__debug__" : Str)) = false) : wpAny M A (eval (.Name x pos) env) Q E s := wpAny_Name (wpAny_loadName_local hk hl hn hv h) hd
/-- self.f = f, the first field -/
theorem st1 {env : Env} {Q : Flow → Shared → Prop} {f : Str} {p1 p2 p3 p4 : Pos} {v : Value} {h₀ : Heap} {L x t : Addr} {m : Str → Option Value} (T : Ini K prog C fI qual ar body sc) (hno : findIn K (.ref C) f = some none)
    (F : Fr h₀ L s.heap m) (X₀ : K.In h₀) (N : News h₀ L s.heap [(x, excObj C t none .none)]) (hL : env.locals = L) (hk : env.scope.kind = .function) (hself : m "self" = some (.ref x)) (hv : m f = some v)
    (k1 : env.kindOf "self" = some .local) (k2 : env.kindOf f = some .local) (hd : (f == ("__debug__" : Str)) = false)
    (h : ∀ h' tk dx, Fr h₀ L h' m → h'.get? x = some { cls := .ref C, dict := some dx, data := .fields #[.ref t, .none, .none, .none, .bool false, .none] } → h₀.objs.size ≤ dx → dx ≠ x → dx ≠ L → h'.Ns1 dx (fun y => List.lookup y [(f, v)]) → Q .next { s with heap := h', toks := tk })
    (hsw : swapsWith (.Name f p3) (some (.Attribute (.Name "self" p1) f p2)) p4.line env = pure false := by rfl) : wpAny (model prog w) A (exec (q2 f p1 p2 p3 p4) env) Q E s := by
  have X : K.In s.heap := X₀.keeps F.keep
  obtain ⟨nm, q, NN, bs, bm, sn, sub, ab, col, dd, k0, k1', k2', k3, k5, hC, hbm⟩ := T.ox
  have hcl : clsIn K C = some { name := nm, bases := bs, mro := .ref C :: bm, ns := NN, qualname := q, hasDict := true, slotNames := sn, subclasses := sub, abstract := ab, collection := col, hasDel := false } := by unfold clsIn; rw [hC] <;> rfl
  have hx := (N (x, excObj C t none .none) (by simp)).1
  have hxn := (N (x, excObj C t none .none) (by simp)).2.2
  have hxL := (N (x, excObj C t none .none) (by simp)).2.1
  subst hL
  refine plainObj_wpAny_Assign_Attribute ?_ hsw
  refine ld F.ns hv hk k2 (ld F.ns hself hk k1 ?_ (by decide)) hd
  refine set_plain X (ox := excO C t) (od := none) ⟨hx, rfl, rfl, trivial⟩ T.sa ?_
  obtain ⟨hh, g, d, tk, os⟩ := s
  refine exc_osa X hx hcl (show refsVE (.ref C :: bm) = true from hbm) rfl hno (fun h' tk' dx k dn dne hx' hn => ?_)
  obtain ⟨oL, es, ep, hLo, r⟩ := F.ns
  refine h h' tk' dx ⟨⟨oL, es, ep, k _ _ (Ne.symm hxL) hLo, r⟩, fun b o e => k b o (fun z => by rw [z, hxn] at e; cases e) (F.keep b o e), F.above⟩ hx' ?_ dne ?_ ?_
  · exact Nat.le_trans (Nat.le_trans F.above (Nat.le_of_lt (Heap.lt_size hLo))) dn
  · exact Ne.symm (Nat.ne_of_lt (Nat.lt_of_lt_of_le (Heap.lt_size hLo) dn))
  · exact ns1_congr hn fun y => (lk f y v []).symm
/-- self.f = f, one more -/
theorem st2 {env : Env} {Q : Flow → Shared → Prop} {f : Str} {p1 p2 p3 p4 : Pos} {v : Value} {h₀ : Heap} {L x t dx : Addr} {m : Str → Option Value} {fs : List (Str × Value)} (T : Ini K prog C fI qual ar body sc) (hno : findIn K (.ref C) f = some none)
    (F : Fr h₀ L s.heap m) (X₀ : K.In h₀) (hx : s.heap.get? x = some { cls := .ref C, dict := some dx, data := .fields #[.ref t, .none, .none, .none, .bool false, .none] }) (hdx : h₀.objs.size ≤ dx) (hdL : dx ≠ L) (hne : dx ≠ x) (hns : s.heap.Ns1 dx (fun y => fs.lookup y)) (hlen : fs.length ≤ 900)
    (hL : env.locals = L) (hk : env.scope.kind = .function) (hself : m "self" = some (.ref x)) (hv : m f = some v)
    (k1 : env.kindOf "self" = some .local) (k2 : env.kindOf f = some .local) (hd : (f == ("__debug__" : Str)) = false)
    (h : ∀ h' tk, Fr h₀ L h' m → h'.get? x = some { cls := .ref C, dict := some dx, data := .fields #[.ref t, .none, .none, .none, .bool false, .none] } → h'.Ns1 dx (fun y => List.lookup y ((f, v) :: fs)) → Q .next { s with heap := h', toks := tk })
    (hsw : swapsWith (.Name f p3) (some (.Attribute (.Name "self" p1) f p2)) p4.line env = pure false := by rfl) : wpAny (model prog w) A (exec (q2 f p1 p2 p3 p4) env) Q E s := by
  have X : K.In s.heap := X₀.keeps F.keep
  obtain ⟨nm, q, NN, bs, bm, sn, sub, ab, col, dd, k0, k1', k2', k3, k5, hC, hbm⟩ := T.ox
  have hcl : clsIn K C = some { name := nm, bases := bs, mro := .ref C :: bm, ns := NN, qualname := q, hasDict := true, slotNames := sn, subclasses := sub, abstract := ab, collection := col, hasDel := false } := by unfold clsIn; rw [hC] <;> rfl
  have hw : Within (fun y => fs.lookup y) (fs.map (·.1)) := fun y hy => by
    have key : ∀ l : List (Str × Value), l.lookup y ≠ none → y ∈ l.map (·.1) := by
      intro l
      induction l with
      | nil => intro z; exact absurd rfl z
      | cons p l ih =>
        intro z
        obtain ⟨a, b⟩ := p
        by_cases e : y = a
        · subst e; simp
        · simp only [List.lookup, beq_eq_false_iff_ne.mpr e] at z
          exact List.mem_cons_of_mem _ (ih z)
    exact key fs hy
  obtain ⟨oD, esD, epD, hoD, _, _⟩ := hns.count hw
  subst hL
  refine plainObj_wpAny_Assign_Attribute ?_ hsw
  refine ld F.ns hv hk k2 (ld F.ns hself hk k1 ?_ (by decide)) hd
  refine set_plain X (ox := { cls := .ref C, dict := some dx, data := .fields #[.ref t, .none, .none, .none, .bool false, .none] }) (od := some oD) ⟨hx, rfl, rfl, hoD⟩ T.sa ?_
  obtain ⟨hh, g, d, tk, os⟩ := s
  refine PySem.OEX.osa_old X hx hns hw (by rw [List.length_map]; omega) hcl (show refsVE (.ref C :: bm) = true from hbm) rfl hno (fun h' tk' k hn => ?_)
  obtain ⟨oL, es, ep, hLo, r⟩ := F.ns
  refine h h' tk' ⟨⟨oL, es, ep, k _ _ (Ne.symm hdL) hLo, r⟩, fun b o e => k b o (fun z => ?_) (F.keep b o e), F.above⟩ (k _ _ (Ne.symm hne) hx) ?_
  · rw [z] at e
    exact absurd (Nat.lt_of_lt_of_le (Heap.lt_size e) hdx) (Nat.lt_irrefl _)
  · exact ns1_congr hn fun y => (lk f y v _).symm
/-- a made exception of the class at C, with its fields -/
structure Made (h h' : Heap) (e C d : Addr) (fs : List (Str × Value)) : Prop where
  keep : ∀ b o, h.get? b = some o → h'.get? b = some o
  new : h.objs.size ≤ e
  obj : ∃ t1 : Addr, h'.get? e = some { cls := .ref C, dict := some d, data := .fields #[.ref t1, .none, .none, .none, .bool false, .none] }
  dbig : h.objs.size ≤ d
  dne : d ≠ e
  ns : h'.Ns1 d (fun y => fs.lookup y)
/-- the message's reading asks nothing and leaves the heap -/
def Quiet (prog : Program) (w : World) (arg : Expr) (qual : Str) (sc : Scope) (fI : Addr) (ok : (Str → Option Value) → Prop) : Prop :=
  ∀ (A : Around) (E : Value → Shared → Prop) (L cda cc : Addr) (m : Str → Option Value) (s' : Shared) (Q : Value → Shared → Prop), s'.heap.Ns L m → ok m → (∀ u tk, Q u { s' with toks := tk }) → wpAny (model prog w) A (eval arg (ksEnv qual sc L fI (.ref cda) cc)) Q E s'
/-- the text of an __init__ of one field -/
structure Text1 (prog : Program) (fI : Addr) (qual f : Str) (ar : Arguments) (body : List Stmt) (sc : Scope) (arg : Expr) : Prop where
  shape : ∃ p1 p2 p3 p4 p5 r1 r2 r3 r4, body = [q1 p1 p2 p3 p4 p5 arg, q2 f r1 r2 r3 r4] ∧
    (∀ L cda cc, ∃ pl : Sem Bool, eval (.Call (.Attribute (.Call (.Name "super" p1) [] [] p2) "__init__" p3) [arg] [] p4) (ksEnv qual sc L fI (.ref cda) cc) = (do
      let ov ← attributeBase (.Call (.Name "super" p1) [] [] p2) "__init__" (ksEnv qual sc L fI (.ref cda) cc) (eval (.Call (.Name "super" p1) [] [] p2) (ksEnv qual sc L fI (.ref cda) cc))
      standAt p3.atName
      let (f, first) ← holding [ov] (getMethod ov "__init__" pl)
      callWith p4 f first (backTo p4 (starEach [arg] (ksEnv qual sc L fI (.ref cda) cc))) [])) ∧
    (∀ L cda cc, swapsWith (.Call (.Attribute (.Call (.Name "super" p1) [] [] p2) "__init__" p3) [arg] [] p4) none p5.line (ksEnv qual sc L fI (.ref cda) cc) = pure false) ∧
    (∀ L cda cc, swapsWith (.Name f r3) (some (.Attribute (.Name "self" r1) f r2)) r4.line (ksEnv qual sc L fI (.ref cda) cc) = pure false)
  star : ∀ L cda cc, starEach [arg] (ksEnv qual sc L fI (.ref cda) cc) = (false, eval arg (ksEnv qual sc L fI (.ref cda) cc)) :: starEach [] (ksEnv qual sc L fI (.ref cda) cc)
  bind : ∀ (doc pm : Value) (an : Option Addr) (cdv ct : Value) (cc : Addr) (us : List Value), us.length = 2 → bindArgs (ksFn "__init__" qual ar body sc .none .none doc pm an cdv ct cc) ⟨us, []⟩ = pure ((["self", f] : List Str).zip us)
  hd : ∃ v0 : Arg, (ar.posonlyargs ++ ar.args).head? = some v0 ∧ v0.arg = "self"
  ks : sc.names.lookup ("super" : Str) = some .globalImplicit
  kc : sc.names.lookup ("__class__" : Str) = some .free
  ka : sc.names.lookup ("self" : Str) = some .local
  kf : sc.names.lookup f = some .local
  fn : f ≠ "self"
  nd : (f == ("__debug__" : Str)) = false
  kind : sc.kind = .function
  co : sc.isCoroutine = false
  gen : sc.isGenerator = false
  cell : ∀ x ∈ sc.names, x.2 ≠ .cell
  top : (prog.main.scope.names.lookup ("super" : Str)).isSome = false
theorem init1 {f : Str} {arg : Expr} {x t : Addr} {v : Value} {h₀ : Heap} {mb : Str → Option Value} (T : Ini K prog C fI qual ar body sc) (Y : Text1 prog fI qual f ar body sc arg) (hno : findIn K (.ref C) f = some none)
    (hq : Quiet prog w arg qual sc fI fun m => m f = some v) (X₀ : K.In h₀) (k₀ : ∀ b o, h₀.get? b = some o → s.heap.get? b = some o) (sz : h₀.objs.size ≤ s.heap.objs.size) (hx : s.heap.get? x = some (excObj C t none .none)) (hxn : h₀.get? x = none) (hlim : s.heap.NoLimit) (hroom : A.depth < recursionLimit)
    (G : h₀.Ns mainGlobals mg) (hsup : mg "super" = none) (B : h₀.Ns builtinsNs mb) (hb : mb "super" = some (.type "super"))
    (hR : ∀ h' tk dx, End h₀ h' x C dx [(f, v)] → R (.ok (.ret .none)) { s with heap := h', toks := tk }) : codeAny (model prog w) A (.call (.ref fI) ⟨[.ref x, v], []⟩) R s := by
  obtain ⟨oc, od, doc, pm, an, cda, cc, ct, osl, ccl, cdd, vs, ccs, file, tf, cl, cld, csl, hfI, hcd, hcda, hvs, hfile, hcc⟩ := T.fn
  obtain ⟨p1, p2, p3, p4, p5, r1, r2, r3, r4, rfl, hev, hsw1, hsw2⟩ := Y.shape
  obtain ⟨v0, har, hv0⟩ := Y.hd
  have X : K.In s.heap := X₀.keeps k₀
  refine ks_codeAny_call_defAt hroom (X _ _ hfI) rfl hlim (codeRec_of X hcd) rfl (binds := [("self", .ref x), (f, v)]) (BindsTo.of_eq (Y.bind _ _ _ _ _ _ [.ref x, v] rfl)) Y.cell (fun y hy => ?_) (fun h₁ hns hk₁ => ?_) Y.co Y.gen Y.kind
  · rcases List.mem_cons.mp hy with e | hy
    · rw [e]; exact Y.ka
    · have e : y = (f, v) := by simpa using hy
      rw [e]; exact Y.kf
  have F : Fr h₀ s.heap.objs.size h₁ (fun y => List.lookup y ([(f, v), (("self" : Str), Value.ref x)] : List (Str × Value))) := ⟨hns, fun b o e => hk₁ b o (k₀ b o e), sz⟩
  have N : News h₀ s.heap.objs.size h₁ [(x, excObj C t none .none)] := fun p hp => by
    have e : p = (x, excObj C t none .none) := by simpa using hp
    rw [e]
    exact ⟨hk₁ _ _ hx, Nat.ne_of_lt (Heap.lt_size hx), hxn⟩
  have hself : List.lookup ("self" : Str) ([(f, v), (("self" : Str), Value.ref x)] : List (Str × Value)) = some (.ref x) := by
    rw [lk, if_neg (Ne.symm Y.fn), lk, if_pos rfl]
  have hf : List.lookup f ([(f, v), (("self" : Str), Value.ref x)] : List (Str × Value)) = some v := by rw [lk, if_pos rfl]
  obtain ⟨pl, hev⟩ := hev s.heap.objs.size cda cc
  refine ks_wpAt_execs_cons (sup_run (s := ⟨h₁, _, _, _, _⟩) (h₀ := h₀) (m := fun y => List.lookup y ([(f, v), (("self" : Str), Value.ref x)] : List (Str × Value))) T F X₀ N hself har hv0 hfI hcda hvs hfile hcc G hsup B hb Y.top Y.ks Y.kc Y.ka Y.kind (fun s' Q hn z => hq _ _ _ _ _ _ s' Q hn hf z) (fun t' h' tk F' N' => ?_) (Y.star _ _ _) hev (hsw1 _ _ _))
  refine wpAt_of_wpAny (wpAny_execs_cons (st1 (s := ⟨h', _, _, _, _⟩) T hno F' X₀ N' rfl Y.kind hself hf Y.ka Y.kf Y.nd (fun h2 tk2 dx F2 hx2 hd1 hd2 hd3 hn2 => ?_) (hsw2 _ _ _)))
  exact wpAny_execs_nil (hR h2 tk2 dx ⟨F2.keep, ⟨_, hx2⟩, hd1, hd2, hn2⟩)
theorem made1 {f : Str} {arg : Expr} {v : Value} {mb : Str → Option Value} (T : Ini K prog C fI qual ar body sc) (Y : Text1 prog fI qual f ar body sc arg) (hno : findIn K (.ref C) f = some none)
    (hq : Quiet prog w arg qual sc fI fun m => m f = some v) (X : K.In s.heap) (hlim : s.heap.NoLimit) (hroom : A.depth + 1 < recursionLimit)
    (G : s.heap.Ns mainGlobals mg) (hsup : mg "super" = none) (B : s.heap.Ns builtinsNs mb) (hb : mb "super" = some (.type "super"))
    (hR : ∀ h' tk e d, Made s.heap h' e C d [(f, v)] → R (.ok (.ret (.ref e))) { s with heap := h', toks := tk }) : codeAny (model prog w) A (.call (.ref C) ⟨[v], []⟩) R s := by
  obtain ⟨nm, q, NN, bs, bm, sn, sub, ab, col, dd, k0, k1, k2, k3, k5, hC, hbm⟩ := T.ox
  obtain ⟨hp, g, dr, tk, os⟩ := s
  have k : ∀ b o, hp.get? b = some o → ((hp.push (kdv_tup [v])).push (excO C hp.objs.size)).get? b = some o := fun b o e => Heap.get?_push_of_some _ (Heap.get?_push_of_some _ e)
  have hget : ((hp.push (kdv_tup [v])).push (excO C hp.objs.size)).get? (hp.objs.size + 1) = some (excO C hp.objs.size) := by heap_get
  have hn : hp.get? (hp.objs.size + 1) = none := Heap.get?_none_of_le (Nat.le_succ _)
  refine call_own F.excBase_ValueError (fun X => refsVE_contains X bm hbm) (X _ _ hC) (looks_findIn X T.iC) (fun self => bind_fn X self T.tC) (by rw [sizeLine_eq]; exact (by decide : 1 ≤ 16777216)) ?_
  refine init1 (s := ⟨(hp.push (kdv_tup [v])).push (excO C hp.objs.size), g, dr, tk, os⟩) (t := hp.objs.size) T Y hno hq X k ?_ hget hn (hlim.keeps k) ?_ G hsup B hb fun h' tk' dx E' => ⟨rfl, hR h' tk' (hp.objs.size + 1) dx ⟨E'.keep, Nat.le_succ _, E'.obj, E'.dbig, E'.dne, E'.ns⟩⟩
  · show hp.objs.size ≤ _
    rw [Heap.size_push, Heap.size_push]
    exact Nat.le_succ_of_le (Nat.le_succ _)
  · show A.depth + 1 < recursionLimit
    exact hroom
end
end XC
end PySem
set_option Elab.async false
set_option linter.all false
set_option maxRecDepth 100000
set_option maxHeartbeats 1000000
namespace U
open PySem PySem.Spec PyProof.Rows L2
section
variable {X : Cx}
/-- what is known of the exception class that the module's name nm stands for: raised by nm(v), it holds v as its field f -/
structure Exc1 (P : Program) (w : World) (K : PySem.W.Frag) (mg : Str → Option Value) (nm f : Str) (okv : V → Prop) : Prop where
  ex : ∃ (C fI : Addr) (qual : Str) (ar : Arguments) (body : List Stmt) (sc : Scope) (arg : Expr), C = He.ga K nm ∧ mg nm = some (.ref C) ∧ XC.Ini K P C fI qual ar body sc ∧ XC.Text1 P fI qual f ar body sc arg ∧ PySem.W.findIn K (.ref C) f = some none ∧
    (∀ v u, okv v → RelV v u → XC.Quiet P w arg qual sc fI fun m => m f = some u) ∧ PySem.W.keepIn K (.ref C) = true ∧ PySem.W.subIn K (.ref C) (.type "BaseException") = some true ∧ PySem.W.typeIn K (.ref C) = some (.type "type")
  sup : mg "super" = none
def tMk1 (C : Addr) (f : Str) (okv : V → Prop) (ta : TA) : L2.St → Hp → XK → Prop := fun σ H Q => ta σ H fun vs H1 => ∃ v, vs = [v] ∧ okv v ∧ ∀ d, H1 d = none → Q (.ref C) (some d) (upd H1 d (.xd [(f, v)]))
theorem relO1 {f : Str} {v : V} {v' : Value} (r : RelV v v') (g : Str) : RelO (List.lookup g [(f, v)]) (List.lookup g [(f, v')]) := by
  rw [XC.lk, XC.lk]
  by_cases h : g = f
  · rw [if_pos h, if_pos h]
    exact r
  · rw [if_neg h, if_neg h]
    trivial
theorem pmk1 {nm f : Str} {okv : V → Prop} {a : Expr} {ta : TA} {p pos : Pos} {k : Nat} (T : Exc1 X.prog X.w X.K X.mg nm f okv) (hr : Room k X.A) (ha : PA X [a] ta) (hg : Gl X nm) (hd : (nm == ("__debug__" : Str)) = false := by decide)
    (he : starEach (a :: []) X.env = (false, eval a X.env) :: starEach [] X.env := by rfl) (hpl : (backTo pos (starEach [] X.env)).any (·.1) = false := by rfl) :
    PMk X (.Call (.Name nm p) [a] [] pos) (tMk1 (He.ga X.K nm) f okv ta) := by
  intro pins s σ H Q I h
  obtain ⟨C, fI, qual, ar, body, sc, arg, rfl, gC, Tn, Ty, hno, hq, kC, exC, tyC⟩ := T.ex
  refine wpAny_Call_Name_kw (ld_glob I hg gC ?_ hd)
  refine PySem.W.callWith_K (h₀ := X.base) I.ok.mod.kin kC (thn (ha.run pos pins s σ H _ I h) fun us s1 hh => ?_) he hpl
  obtain ⟨vs, H1, I1, r1, v, ev, hok, q1⟩ := hh
  subst ev
  refine ⟨I1.kIn, ?_⟩
  cases r1 with
  | cons rv rn =>
    rename_i v' us'
    cases rn
    show wpAny _ _ (call (.ref (He.ga X.K nm)) [v']) _ _ _
    have hlim := I1.nolimit
    obtain ⟨mb, hB1, hB2⟩ := I1.mod.blt
    have bsup : mb "super" = some (.type "super") := (hB2 "super" (by decide +kernel)).trans (by decide +kernel)
    have hG := I1.mod.glob.keeps I1.bk
    have hBb := hB1.keeps I1.bk
    have hK := I1.kIn
    obtain ⟨hp, g, dr, tk, os⟩ := s1
    refine wpAny_call (XC.made1 (s := ⟨hp, g, dr, tk, os⟩) Tn Ty hno (hq v v' hok rv) hK hlim (by have := hr.dp; omega) hG T.sup hBb bsup fun h' tk' e d M => ?_)
    show MkP X pins σ Q (.ref e) ⟨h', g, dr, tk', os⟩
    obtain ⟨t1, hoe⟩ := M.obj
    have hns := M.ns
    obtain ⟨G', g1, g2⟩ := restrict h' fun b => decide (b ≠ e)
    have gk : ∀ b, b ≠ e → G'.get? b = h'.get? b := fun b hb => g1 b (decide_eq_true hb)
    have ge : G'.get? e = none := g2 e (by simp)
    have old : ∀ b o, hp.get? b = some o → G'.get? b = some o := fun b o q => (gk b (Nat.ne_of_lt (Nat.lt_of_lt_of_le (Heap.lt_size q) M.new))).trans (M.keep b o q)
    have ob : ObjOk X.prog X.w (upd H1 d (.xd [(f, v)])) G' d (.xd [(f, v)]) := ⟨_, hns.at (fun o q => (gk d M.dne).trans q), fun y => relO1 rv y⟩
    have J : Inv X pins σ (upd H1 d (.xd [(f, v)])) ⟨G', g, dr, tk', os⟩ := I1.laid (t' := tk') old M.dbig ob
    refine ⟨e, _, _, ⟨G', g, dr, tk', os⟩, _, .ref (He.ga X.K nm), some d, rfl, J, fun b o q => ?_, ge, hoe, ⟨rfl, rfl⟩, rfl, rfl, ?_, rfl, I1.bare, raises_own exC tyC, q1 d (I1.hok.fresh M.dbig)⟩
    · by_cases hb : b = e
      · have q' : G'.get? b = some o := q
        rw [hb, ge] at q'
        cases q'
      · exact (gk b hb).symm.trans q
    · rw [upd_ne (Ne.symm M.dne)]
      exact I1.hok.fresh M.new
/-- raise nm(e) -/
def tRaise1 (C : Addr) (f : Str) (okv : V → Prop) (W : WX) (ta : TA) : TS := fun _ σ H => tMk1 C f okv ta σ H fun cls d H' => W cls d σ H'
theorem us_raise1 {nm f : Str} {okv : V → Prop} {a : Expr} {ta : TA} {W : WX} {p pos pos2 : Pos} {k : Nat} (hc : X.calm = true) (T : Exc1 X.prog X.w X.K X.mg nm f okv) (hr : Room k X.A) (tk : Takes X W) (ha : PA X [a] ta) (hg : Gl X nm := by rfl) (hd : (nm == ("__debug__" : Str)) = false := by decide)
    (he : starEach (a :: []) X.env = (false, eval a X.env) :: starEach [] X.env := by rfl) (hpl : (backTo pos (starEach [] X.env)).any (·.1) = false := by rfl) :
    PS X (.Raise (some (.Call (.Name nm p) [a] [] pos)) none pos2) (tRaise1 (He.ga X.K nm) f okv W ta) :=
  ps_raise hc tk (pmk1 T hr ha hg hd he hpl)
/-- isinstance(e, c), e the exception (of the class cls, with its dict d) that the suite holds at a -/
def rIsX (K : PySem.W.Frag) (a : Addr) (cls : Value) (d : Option Addr) : List V → Hp → VK → Prop := fun xs H Q =>
  ∃ (D dd : Addr) (fs : List (Str × V)) (c : V) (cv : Value) (b : Bool), cls = .ref D ∧ d = some dd ∧ H dd = some (.xd fs) ∧ ExcC K D ∧ xs = [.ref a, c] ∧ (∀ u, RelV c u → u = cv) ∧ PySem.W.kitOne K (.ref D) cv = some b ∧ Q (.bl b) H
theorem call_isX {a : Addr} {cls : Value} {d : Option Addr} {oe : Obj} {pn : List (Addr × Obj)} (hz : Zc cls d oe) (hf : ∃ vs, oe.data = .fields vs) : CallR (X.suite a ((a, oe) :: pn)) (.builtin "isinstance") (rIsX X.K a cls d) := by
  intro pins s σ H xs us Q I r h
  obtain ⟨D, dd, fs, c, cv, b, rfl, rfl, hdd, C, rfl, hcv, e, q⟩ := h
  cases r with
  | cons rx rr =>
    cases rr with
    | cons rt rr =>
      cases rr
      cases rx
      have ec := hcv _ rt
      subst ec
      obtain ⟨hget, _⟩ := I.pin (a, oe) (List.mem_append.mpr (.inl List.mem_cons_self))
      obtain ⟨vs, hv⟩ := hf
      have hx : ObjOk X.prog X.w H s.heap dd (.xd fs) := I.hok dd _ hdd
      obtain ⟨mA, hns, hr⟩ := hx
      obtain ⟨od, ho, hl⟩ := lookIn_ns hns
      have J : PySem.W.InstAt s.heap a oe D (some od) := by
        obtain ⟨oc, od', oda, osl⟩ := oe
        obtain ⟨h1, h2⟩ := hz
        dsimp only at h1 h2 hv
        subst h1 h2 hv
        exact ⟨hget, rfl, rfl, ho⟩
      have hcl : (PySem.W.clsIn X.K D).isSome = true := by
        obtain ⟨cd, hc, _⟩ := PySem.W.any_some C.hd
        rw [hc]; rfl
      exact PySem.W.kia_one (PySem.W.kitx_exc (od := some od) hcl C.hg C.hk C.hs C.ha C.hn C.ht C.hm) I.kIn J e (fun z => nomatch z) fun tk => ⟨.bl b, H, I.kept (t' := tk) fun _ _ z => z, rfl, q⟩
end
end U
set_option Elab.async false
set_option linter.all false
set_option maxRecDepth 100000
set_option maxHeartbeats 1000000
namespace U
open PySem PySem.Spec PyProof.Rows L2
section
variable {X : Cx}
/-! built-ins, by values -/
abbrev CR := List V → Hp → VK → Prop
def uLen (K : PySem.W.Frag) : CR := fun xs H Q => match xs with
  | [.str z] => z.length ≤ sizeLine ∧ Q (.int z.length) H
  | [.ref p] => ∃ n : Nat, ((∃ ys, SqL K H p ys ∧ n = ys.length) ∨ (∃ ys, SqT K H p ys ∧ n = ys.length) ∨ ∃ kvs, H p = some (.dK kvs) ∧ n = kvs.length) ∧ Q (.int n) H
  | _ => False
theorem c_len : CallR X (.builtin "len") (uLen X.K) := by
  intro pins s σ H xs us Q I r h
  match xs, h with
  | [.str z], h => exact call_len pins s σ H _ us Q I r ⟨_, _, rfl, ⟨h.1, rfl⟩, h.2⟩
  | [.ref p], ⟨n, q, h⟩ =>
    rcases q with ⟨ys, a, b⟩ | ⟨ys, a, b⟩ | ⟨kvs, a, b⟩
    · exact call_len pins s σ H _ us Q I r ⟨_, n, rfl, .inl ⟨ys, a, b⟩, h⟩
    · exact call_len pins s σ H _ us Q I r ⟨_, n, rfl, .inr ⟨ys, a, b⟩, h⟩
    · subst b; exact call_lenD pins s σ H _ us Q I r ⟨p, kvs, rfl, a, h⟩
def uAbs : CR := fun xs H Q => match xs with
  | [.int i] => Q (.int (if i < 0 then -i else i)) H
  | _ => False
theorem c_abs : CallR X (.builtin "abs") uAbs := by
  intro pins s σ H xs us Q I r h
  match xs, h with
  | [.int i], h => exact call_abs pins s σ H _ us Q I r ⟨i, rfl, h⟩
def uInt : CR := fun xs H Q => match xs with
  | [.int i] => Q (.int i) H
  | [.str z] => ∃ n, PySem.intText? z = some n ∧ z.length ≤ 640 ∧ Q (.int n) H
  | _ => False
theorem c_int : CallR X (.type "int") uInt := by
  intro pins s σ H xs us Q I r h
  match xs, h with
  | [.int i], h => exact call_int1 pins s σ H _ us Q I r (.inl ⟨i, rfl, h⟩)
  | [.str z], ⟨n, a, b, h⟩ => exact call_int_str pins s σ H _ us Q I r ⟨z, n, rfl, a, b, h⟩
def uStr : CR := fun xs H Q => match xs with
  | [.int i] => i.natAbs.log2 < 1920 ∧ Q (.str (toString i)) H
  | _ => False
theorem c_str : CallR X (.type "str") uStr := by
  intro pins s σ H xs us Q I r h
  match xs, h with
  | [.int i], h => exact call_str_int pins s σ H _ us Q I r ⟨i, rfl, h.1, h.2⟩
def uMin (K : PySem.W.Frag) : CR := fun xs H Q => match xs with
  | [.int i, .int j] => Q (.int (if j < i then j else i)) H
  | [.ref p] => rMin K xs H Q
  | _ => False
theorem c_min (hc : X.calm = true) : CallR X (.builtin "min") (uMin X.K) := by
  intro pins s σ H xs us Q I r h
  match xs, h with
  | [.int i, .int j], h => exact call_min2 hc pins s σ H _ us Q I r ⟨i, j, rfl, h⟩
  | [.ref p], h => exact cr_min hc pins s σ H _ us Q I r h
def uMax (K : PySem.W.Frag) : CR := fun xs H Q => match xs with
  | [.int i, .int j] => Q (.int (if j > i then j else i)) H
  | [.ref p] => rMax K xs H Q
  | _ => False
theorem c_max (hc : X.calm = true) : CallR X (.builtin "max") (uMax X.K) := by
  intro pins s σ H xs us Q I r h
  match xs, h with
  | [.int i, .int j], h => exact call_max2 hc pins s σ H _ us Q I r ⟨i, j, rfl, h⟩
  | [.ref p], h => exact cr_max hc pins s σ H _ us Q I r h
def uAll (K : PySem.W.Frag) : CR := fun xs H Q => match xs with
  | [.ref p] => ∃ bs : List Bool, SqL K H p (bs.map V.bl) ∧ Q (.bl (bs.all id)) H
  | _ => False
theorem c_all (hc : X.calm = true) : CallR X (.builtin "all") (uAll X.K) := by
  intro pins s σ H xs us Q I r h
  match xs, h with
  | [.ref p], ⟨bs, a, h⟩ => exact cr_all hc pins s σ H _ us Q I r ⟨p, bs, rfl, a, h⟩
def uTuple (K : PySem.W.Frag) : CR := fun xs H Q => match xs with
  | [.ref p] => ∃ ys, (SqL K H p ys ∧ ∀ l, H l = none → Q (.ref l) (upd H l (.tup ys))) ∨ (SqT K H p ys ∧ Q (.ref p) H)
  | _ => False
theorem c_tuple : CallR X (.type "tuple") (uTuple X.K) := by
  intro pins s σ H xs us Q I r h
  match xs, h with
  | [.ref p], ⟨ys, h⟩ => exact call_tuple_of pins s σ H _ us Q I r ⟨p, ys, rfl, h⟩
def uList (K : PySem.W.Frag) : CR := fun xs H Q => match xs with
  | [.ref p] => ∃ ys, (SqL K H p ys ∨ SqT K H p ys) ∧ ∀ l, H l = none → Q (.ref l) (upd H l (.lst ys))
  | _ => False
theorem c_list : CallR X (.type "list") (uList X.K) := by
  intro pins s σ H xs us Q I r h
  match xs, h with
  | [.ref p], ⟨ys, a, h⟩ => exact call_list_of pins s σ H _ us Q I r ⟨p, ys, rfl, a, h⟩
def uSum (K : PySem.W.Frag) : CR := fun xs H Q => match xs with
  | [.ref p] => ∃ ns : List Int, SqL K H p (ns.map V.int) ∧ Q (.int ns.sum) H
  | _ => False
theorem c_sum (hc : X.calm = true) : CallR X (.builtin "sum") (uSum X.K) := by
  intro pins s σ H xs us Q I r h
  match xs, h with
  | [.ref p], ⟨ns, a, h⟩ => exact cr_sum hc pins s σ H _ us Q I r ⟨p, ns, rfl, a, h⟩
/-! slices -/
abbrev SR := V → Option Int → Option Int → Hp → VK → Prop
def uSl (K : PySem.W.Frag) : SR := fun x lo hi H Q => match x with
  | .str z => z.length ≤ sizeLine ∧ Q (.str (cutS z lo hi)) H
  | .ref a => ∃ xs, SqL K H a xs ∧ ∀ p, H p = none → Q (.ref p) (upd H p (.lst (cutV xs lo hi)))
  | _ => False
theorem s_sl : SlR X (uSl X.K) := by
  intro pins s σ H x v vl vu lo hi sl Q I rx hs pl pu h
  cases x with
  | str z => exact sl_str pins s σ H _ v vl vu lo hi sl Q I rx hs pl pu ⟨z, rfl, h.1, h.2⟩
  | ref a => obtain ⟨xs, h1, h2⟩ := (show ∃ xs, _ ∧ _ from h); exact sl_list pins s σ H _ v vl vu lo hi sl Q I rx hs pl pu ⟨a, xs, rfl, h1, h2⟩
  | _ => exact (show False from h).elim
def uPart (t : TE) : TO := fun σ H Q => t σ H fun x H1 => match x with
  | .int i => Q (some i) H1
  | _ => False
theorem po_u {e : Expr} {te : TE} (h : PE X e te) : PO X (some e) (uPart te) := by
  have e1 : uPart te = tPart te := by
    funext σ H Q
    unfold uPart tPart
    congr 1
    funext x H1
    cases x <;> simp
  rw [e1]
  exact po_some h
/-! methods of built-in types: the receiver's type is told by its value -/
def isL (K : PySem.W.Frag) (a : Addr) (H : Hp) : Prop := ∃ xs, H a = some (.lst xs)
def uApp : V → List V → Hp → VK → Prop := fun x vs H Q => match x, vs with
  | .ref l, [y] => ∃ xs, H l = some (.lst xs) ∧ xs.length < sizeLine ∧ Q .non (upd H l (.lst (xs ++ [y])))
  | _, _ => False
theorem tyL {K : PySem.W.Frag} {l : Addr} {H : Hp} {xs : List V} (h : H l = some (.lst xs)) : tyV K "list" (.ref l) H := .inl ⟨rfl, _, Or.inl (Or.inl h)⟩
theorem m_app : MtR X "list.append" uApp := by
  intro pins s σ H x xs v us Q I rx rs h
  match x, xs, h with
  | .ref l, [y], ⟨zs, a, b, h⟩ => exact mt_append pins s σ H _ _ v us Q I rx rs ⟨l, zs, y, rfl, rfl, a, b, h⟩
def uSplit : V → List V → Hp → VK → Prop := fun x vs H Q => match x, vs with
  | .str a, [.str b] => (b.length == 0) = false ∧ a.length + 2 ≤ sizeLine ∧ ∀ p, H p = none → Q (.ref p) (upd H p (.lst ((Txt.split a b).map V.str)))
  | _, _ => False
theorem m_split : MtR X "str.split" uSplit := by
  intro pins s σ H x xs v us Q I rx rs h
  match x, xs, h with
  | .str a, [.str b], ⟨h1, h2, h3⟩ => exact mt_split pins s σ H _ _ v us Q I rx rs ⟨a, b, rfl, rfl, h1, h2, h3⟩
def uJoin (K : PySem.W.Frag) : V → List V → Hp → VK → Prop := fun x vs H Q => match x, vs with
  | .str a, [.ref p] => ∃ ys : List Str, (SqL K H p (ys.map V.str) ∨ SqT K H p (ys.map V.str)) ∧ (ys.map (·.length)).sum + ys.length * a.length ≤ 16777216 ∧ Q (.str (Str.join a ys)) H
  | _, _ => False
theorem m_join : MtR X "str.join" (uJoin X.K) := by
  intro pins s σ H x xs v us Q I rx rs h
  match x, xs, h with
  | .str a, [.ref p], ⟨ys, h1, h2, h3⟩ => exact mt_join pins s σ H _ _ v us Q I rx rs ⟨a, p, ys, rfl, rfl, h1, h2, by rw [TL.join_eq]; exact h3⟩
def uSet : TSet := fun o i v H Q => match o, i with
  | .ref p, .int k => ∃ xs j, H p = some (.lst xs) ∧ ixN xs.length k = some j ∧ Q (upd H p (.lst (xs.set j v)))
  | _, _ => False
theorem st_list : PSet X uSet := by
  intro pins s σ H o i v ov iv u Q I ro ri rv h
  match o, i, h with
  | .ref p, .int k, ⟨xs, j, h1, h2, h3⟩ => exact set_list pins s σ H _ _ v ov iv u Q I ro ri rv ⟨p, xs, k, j, rfl, rfl, h1, h2, h3⟩
/-- a module's constant -/
theorem pg_c {x : Str} {v : V} {pos : Pos} (h : ∃ u, X.mg x = some u ∧ RelV v u) (hg : Gl X x := by rfl) (hd : (x == ("__debug__" : Str)) = false := by decide) : PE X (.Name x pos) (tC v) := by
  obtain ⟨u, e, r⟩ := h
  exact pe_glob hg e r hd
theorem cI {mg : Str → Option Value} {x : Str} {i : Int} (h : ∃ t, mg x = some (.int i t)) : ∃ u, mg x = some u ∧ RelV (.int i) u := by
  obtain ⟨t, e⟩ := h
  exact ⟨_, e, _, rfl⟩
theorem cS {mg : Str → Option Value} {x i : Str} (h : ∃ t, mg x = some (.str i t)) : ∃ u, mg x = some u ∧ RelV (.str i) u := by
  obtain ⟨t, e⟩ := h
  exact ⟨_, e, _, rfl⟩
end
theorem sl {n : Nat} (h : Nat.ble n sizeLine = true) : n ≤ sizeLine := Nat.le_of_ble_eq_true h
/-! heaps: all but what stands at S is kept -/
def Kp (S : List Addr) (H H' : Hp) : Prop := ∀ b o, H b = some o → b ∉ S → H' b = some o
section
variable {S S' : List Addr} {H H1 H2 : Hp} {p b : Addr} {o u : HO}
theorem Kp.refl : Kp S H H := fun _ _ h _ => h
theorem Kp.trans (a : Kp S H H1) (c : Kp S H1 H2) : Kp S H H2 := fun b o h n => c b o (a b o h n) n
theorem Kp.mono (a : Kp S H H1) (h : ∀ b ∈ S, b ∈ S') : Kp S' H H1 := fun b o e n => a b o e fun z => n (h b z)
theorem Kp.new (h : H p = none) : Kp S H (upd H p o) := fun b u e _ => by rw [upd_ne (ne_of_none e h)]; exact e
theorem Kp.set (h : p ∈ S) : Kp S H (upd H p o) := fun b u e n => by rw [upd_ne (fun z => n (by rw [z]; exact h))]; exact e
/-- a store to what is younger than H -/
theorem Kp.loc (a : Kp S H H1) (h : H p = none) : Kp S H (upd H1 p o) := fun b u e n => by rw [upd_ne (ne_of_none e h)]; exact a b u e n
theorem Kp.put (a : Kp S H H1) (h : p ∈ S) : Kp S H (upd H1 p o) := a.trans (Kp.set h)
theorem Kp.get (a : Kp S H H1) (h : H b = some o) (n : b ∉ S) : H1 b = some o := a b o h n
theorem Kp.get0 (a : Kp [] H H1) (h : H b = some o) : H1 b = some o := a b o h (by simp)
theorem Kp.get1 {q : Addr} (a : Kp [q] H H1) (h : H b = some o) (n : b ≠ q) : H1 b = some o := a b o h (by simpa using n)
theorem Kp.free (a : Kp S H H1) (h : H1 b = none) (n : b ∉ S) : H b = none := by
  cases q : H b with
  | none => rfl
  | some o => rw [a b o q n] at h; cases h
theorem Kp.free0 (a : Kp [] H H1) (h : H1 b = none) : H b = none := a.free h (by simp)
theorem Kp.same (a : Same H H1) : Kp S H H1 := fun b o h _ => a b o h
theorem Kp.to (a : Kp [] H H1) : Kp S H H1 := a.mono (by simp)
theorem get_new (h : H b = some o) (n : H p = none) : upd H p u b = some o := by rw [upd_ne (ne_of_none h n)]; exact h
theorem get_ne (h : H b = some o) (n : b ≠ p) : upd H p u b = some o := by rw [upd_ne n]; exact h
theorem none_ne (h : H b = some o) (n : upd H p u b = none) : False := by
  by_cases e : b = p
  · subst e; rw [upd_same] at n; cases n
  · rw [upd_ne e, h] at n; cases n
theorem ne_none_of (h : H b = some o) (n : H p = none) : p ≠ b := fun z => by subst z; rw [h] at n; cases n
theorem none_of (n : upd H p u b = none) : H b = none := by
  by_cases e : b = p
  · subst e; rw [upd_same] at n; cases n
  · rw [upd_ne e] at n; exact n
theorem ne_new (n : upd H p u b = none) : b ≠ p := fun e => by subst e; rw [upd_same] at n; cases n
end
end U
set_option Elab.async false
set_option linter.all false
set_option maxRecDepth 100000
set_option maxHeartbeats 1000000
namespace U
open PySem PySem.Spec PyProof.Rows L2
section
variable {X : Cx}
def isBl (b : Bool) : V → Bool
  | .bl a => a == b
  | _ => false
def uIsB : R2 := fun x y H Q => match y with
  | .bl b => Q (.bl (isBl b x)) H
  | _ => False
theorem o_isB : OpR X (compareOp .Is) uIsB := by
  intro pins s σ H x y v u Q I rx ry h
  match y, h with
  | .bl b, h =>
    cases (show u = Value.bool b from ry)
    refine wpAny_is_plain ?_ ⟨.bl (isBl b x), H, I, ?_, h⟩
    · cases x with
      | non => cases (show v = .none from rx); rfl
      | bl a => cases (show v = .bool a from rx); rfl
      | int i => obtain ⟨t, rfl⟩ := rx; rfl
      | str i => obtain ⟨t, rfl⟩ := rx; rfl
      | byt i => obtain ⟨t, rfl⟩ := rx; rfl
      | flt i => obtain ⟨t, rfl⟩ := rx; rfl
      | ref a => cases (show v = .ref a from rx); rfl
      | ty n => cases (show v = .type n from rx); rfl
    · show _ = Value.bool _
      congr 1
      cases x with
      | non => cases (show v = .none from rx); rfl
      | bl a =>
        cases (show v = .bool a from rx)
        cases a <;> cases b <;> rfl
      | int i => obtain ⟨t, rfl⟩ := rx; rfl
      | str i => obtain ⟨t, rfl⟩ := rx; rfl
      | byt i => obtain ⟨t, rfl⟩ := rx; rfl
      | flt i => obtain ⟨t, rfl⟩ := rx; rfl
      | ref a => cases (show v = .ref a from rx); rfl
      | ty n => cases (show v = .type n from rx); rfl
def uIsi (K : PySem.W.Frag) : CR := fun xs H Q => match xs with
  | [x, .ty n] => ∃ (t : String) (b : Bool), TyX K H x (.type t) ∧ kitB t n = some b ∧ Q (.bl b) H
  | _ => False
theorem c_isi : CallR X (.builtin "isinstance") (uIsi X.K) := by
  intro pins s σ H xs us Q I r h
  match xs, h with
  | [x, .ty n], ⟨t, b, h1, h2, h3⟩ => exact call_isi pins s σ H _ us Q I r ⟨x, .ty n, .type t, .type n, b, rfl, .ty n, h1, kit_ty h2, h3⟩
def uChain (r r' : R2) (ta tb tc : TE) : TE := fun σ H Q => ta σ H fun x H1 => tb σ H1 fun y H2 => r x y H2 fun z H3 => match z with
  | .bl k => br k (tc σ H3 fun w' H4 => r' y w' H4 Q) (Q (.bl false) H3)
  | _ => False
theorem uChain_eq (r r' : R2) (ta tb tc : TE) : uChain r r' ta tb tc = tChain r r' ta tb tc := by
  funext σ H Q
  unfold uChain tChain
  congr 1
  funext x H1
  congr 1
  funext y H2
  congr 1
  funext z H3
  cases z <;> simp [br_eq]
theorem ue_chain {op op' : CmpOp} {r r' : R2} {a b c : Expr} {ta tb tc : TE} {pos : Pos} (ho : OpR X (compareOp op) r) (ho' : OpR X (compareOp op') r') (ha : PE X a ta) (hb : PE X b tb) (hc : PE X c tc)
    (hm : lastMarks [op, op'] [b, c] = false := by with_unfolding_all rfl) : PE X (.Compare a [op, op'] [b, c] pos) (uChain r r' ta tb tc) := by
  rw [uChain_eq]
  exact pe_chain ho ho' ha hb hc hm
theorem ut_chainU {op op' : CmpOp} {r r' : R2} {a b c : Expr} {ta tb tc : TE} {pos : Pos} (ho : OpR X (compareOp op) r) (ho' : OpR X (compareOp op') r') (ha : PE X a ta) (hb : PE X b tb) (hc : PE X c tc)
    (hm : lastMarks [op, op'] [b, c] = false := by with_unfolding_all rfl) : PT X (.Compare a [op, op'] [b, c] pos) (uT (uChain r r' ta tb tc)) := by
  rw [uChain_eq]
  exact ut_chain ho ho' ha hb hc hm
/-! the same rules with the fragment told -/
variable (K : PySem.W.Frag)
theorem kAdd (e : X.K = K := by rfl) : OpR X (binaryOp .Add) (uAdd K) := e ▸ o_add
theorem kEq (hu : X.A.units + 64 < cLine) (e : X.K = K := by rfl) : OpR X (compareOp .Eq) (uEq K) := e ▸ o_eq hu
theorem kNe (hu : X.A.units + 64 < cLine) (e : X.K = K := by rfl) : OpR X (compareOp .NotEq) (uNe K) := e ▸ o_ne hu
theorem kIn (e : X.K = K := by rfl) : OpR X (compareOp .In) (uIn K) := e ▸ o_in
theorem kNotIn (e : X.K = K := by rfl) : OpR X (compareOp .NotIn) (uNotIn K) := e ▸ o_notIn
theorem kIx (e : X.K = K := by rfl) : IxR X (uIx K) := e ▸ o_ix
theorem kLen (e : X.K = K := by rfl) : CallR X (.builtin "len") (uLen K) := e ▸ c_len
theorem kMin (hc : X.calm = true) (e : X.K = K := by rfl) : CallR X (.builtin "min") (uMin K) := e ▸ c_min hc
theorem kMax (hc : X.calm = true) (e : X.K = K := by rfl) : CallR X (.builtin "max") (uMax K) := e ▸ c_max hc
theorem kAll (hc : X.calm = true) (e : X.K = K := by rfl) : CallR X (.builtin "all") (uAll K) := e ▸ c_all hc
theorem kTuple (e : X.K = K := by rfl) : CallR X (.type "tuple") (uTuple K) := e ▸ c_tuple
theorem kList (e : X.K = K := by rfl) : CallR X (.type "list") (uList K) := e ▸ c_list
theorem kSum (hc : X.calm = true) (e : X.K = K := by rfl) : CallR X (.builtin "sum") (uSum K) := e ▸ c_sum hc
theorem kIsi (e : X.K = K := by rfl) : CallR X (.builtin "isinstance") (uIsi K) := e ▸ c_isi
theorem kSl (e : X.K = K := by rfl) : SlR X (uSl K) := e ▸ s_sl
theorem kJoin (e : X.K = K := by rfl) : MtR X "str.join" (uJoin K) := e ▸ m_join
theorem kiList {g e : Expr} {te : TE} (h : PE X e te) (q : X.K = K := by rfl) : PI X g e (iList K te) := q ▸ pi_list h
theorem kiTup {g e : Expr} {te : TE} (h : PE X e te) (q : X.K = K := by rfl) : PI X g e (iTup K te) := q ▸ pi_tup h
end
theorem brT {A B : Prop} (h : A) : br true A B := ⟨fun _ => h, fun z => nomatch z⟩
theorem brF {A B : Prop} (h : B) : br false A B := ⟨fun z => (nomatch z), fun _ => h⟩
theorem brK {b : Bool} {A B : Prop} (h1 : b = true → A) (h2 : b = false → B) : br b A B := ⟨h1, h2⟩
/-! data -/
inductive Dt where
  | non | bl (b : Bool) | int (i : Int) | str (s : Str) | tup (l : List Dt) | lst (l : List Dt)
mutual
inductive Rp (H : Hp) : V → Dt → Prop
  | non : Rp H .non .non
  | bl (b : Bool) : Rp H (.bl b) (.bl b)
  | int (i : Int) : Rp H (.int i) (.int i)
  | str (x : Str) : Rp H (.str x) (.str x)
  | tup {a : Addr} {xs : List V} {ds : List Dt} : H a = some (.tup xs) → RpL H xs ds → Rp H (.ref a) (.tup ds)
  | lst {a : Addr} {xs : List V} {ds : List Dt} : H a = some (.lst xs) → RpL H xs ds → Rp H (.ref a) (.lst ds)
inductive RpL (H : Hp) : List V → List Dt → Prop
  | nil : RpL H [] []
  | cons {v : V} {vs : List V} {d : Dt} {ds : List Dt} : Rp H v d → RpL H vs ds → RpL H (v :: vs) (d :: ds)
end
def Dt.kind : Dt → String
  | .non => "NoneType" | .bl _ => "bool" | .int _ => "int" | .str _ => "str" | .tup _ => "tuple" | .lst _ => "list"
theorem Rp.ty {K : PySem.W.Frag} {H : Hp} {v : V} {d : Dt} (h : Rp H v d) : TyX K H v (.type d.kind) := by
  cases h with
  | non => exact .base .non
  | bl b => exact .base (.bl b)
  | int i => exact .base (.int i)
  | str s => exact .base (.str s)
  | tup h _ => exact .base (.tup h)
  | lst h _ => exact .base (.lst h)
theorem RpL.length {H : Hp} : ∀ {vs : List V} {ds : List Dt}, RpL H vs ds → vs.length = ds.length
  | _, _, .nil => rfl
  | _, _, .cons _ t => congrArg Nat.succ t.length
theorem RpL.get {H : Hp} : ∀ {vs : List V} {ds : List Dt} {i : Nat} {d : Dt}, RpL H vs ds → ds[i]? = some d → ∃ v, vs[i]? = some v ∧ Rp H v d
  | _, _, _, _, .nil, e => by simp at e
  | _, _, 0, _, .cons r _, e => by simp at e; subst e; exact ⟨_, rfl, r⟩
  | _, _, i + 1, d, .cons _ t, e => by
    obtain ⟨v, h1, h2⟩ := RpL.get (i := i) (d := d) t (by simpa using e)
    exact ⟨v, by simpa using h1, h2⟩
theorem RpL.app {H : Hp} : ∀ {vs ws : List V} {ds es : List Dt}, RpL H vs ds → RpL H ws es → RpL H (vs ++ ws) (ds ++ es)
  | _, _, _, _, .nil, s => s
  | _, _, _, _, .cons r t, s => .cons r (t.app s)
theorem RpL.snoc {H : Hp} {vs : List V} {ds : List Dt} {v : V} {d : Dt} (h : RpL H vs ds) (r : Rp H v d) : RpL H (vs ++ [v]) (ds ++ [d]) := h.app (.cons r .nil)
mutual
def Dt.depth : Dt → Nat
  | .tup l => 1 + depthL l
  | .lst l => 1 + depthL l
  | _ => 0
def depthL : List Dt → Nat
  | [] => 0
  | d :: l => max d.depth (depthL l)
end
theorem depth_mem {d : Dt} : ∀ {l : List Dt}, d ∈ l → d.depth ≤ depthL l
  | a :: l, h => by
    rcases List.mem_cons.mp h with e | h
    · subst e; exact Nat.le_max_left _ _
    · exact Nat.le_trans (depth_mem h) (Nat.le_max_right _ _)
mutual
/-- it holds no list -/
def Dt.still : Dt → Bool
  | .tup l => stillL l
  | .lst _ => false
  | _ => true
def stillL : List Dt → Bool
  | [] => true
  | d :: l => d.still && stillL l
end
mutual
/-- no row in it is too long -/
def Dt.wide : Dt → Prop
  | .tup l => l.length ≤ 100000 ∧ wideL l
  | .lst l => l.length ≤ 100000 ∧ wideL l
  | _ => True
def wideL : List Dt → Prop
  | [] => True
  | d :: l => d.wide ∧ wideL l
end
theorem wide_mem {d : Dt} : ∀ {l : List Dt}, d ∈ l → wideL l → d.wide
  | a :: l, h, q => by
    rcases List.mem_cons.mp h with e | h
    · subst e; exact q.1
    · exact wide_mem h q.2
theorem wideL_of : ∀ {l : List Dt}, (∀ d ∈ l, d.wide) → wideL l
  | [], _ => trivial
  | d :: l, h => ⟨h d (by simp), wideL_of fun e q => h e (by simp [q])⟩
def TK (H H' : Hp) : Prop := ∀ b xs, H b = some (.tup xs) → H' b = some (.tup xs)
theorem Kp.tk {S : List Addr} {H H' : Hp} (k : Kp S H H') (h : ∀ b ∈ S, ∀ xs, H b ≠ some (.tup xs)) : TK H H' := fun b xs e => k b _ e fun z => h b z xs e
theorem Kp.tk0 {H H' : Hp} (k : Kp [] H H') : TK H H' := k.tk (by simp)
theorem TK.refl {H : Hp} : TK H H := fun _ _ h => h
theorem TK.trans {H H1 H2 : Hp} (a : TK H H1) (b : TK H1 H2) : TK H H2 := fun c xs h => b c xs (a c xs h)
theorem TK.put {H : Hp} {p : Addr} {o : HO} {xs : List V} (h : H p = some (.lst xs)) : TK H (upd H p o) := fun b ys e => get_ne e fun z => by subst z; rw [h] at e; cases e
theorem TK.new {H : Hp} {p : Addr} {o : HO} (h : H p = none) : TK H (upd H p o) := fun b xs e => get_new e h
mutual
theorem Rp.still {H H' : Hp} (k : TK H H') : ∀ {d : Dt} {v : V}, Rp H v d → d.still = true → Rp H' v d
  | .non, _, .non, _ => .non
  | .bl _, _, .bl b, _ => .bl b
  | .int _, _, .int i, _ => .int i
  | .str _, _, .str i, _ => .str i
  | .tup l, _, .tup h r, s => .tup (k _ _ h) (RpL.still k r (by simpa [Dt.still] using s))
  | .lst _, _, .lst _ _, s => by simp [Dt.still] at s
theorem RpL.still {H H' : Hp} (k : TK H H') : ∀ {ds : List Dt} {vs : List V}, RpL H vs ds → stillL ds = true → RpL H' vs ds
  | [], _, .nil, _ => .nil
  | d :: ds, _, .cons r t, s => by
    simp only [stillL, Bool.and_eq_true] at s
    exact .cons (Rp.still k r s.1) (RpL.still k t s.2)
end
mutual
theorem Rp.keep {H H' : Hp} (k : Kp [] H H') : ∀ {d : Dt} {v : V}, Rp H v d → Rp H' v d
  | .non, _, .non => .non
  | .bl _, _, .bl b => .bl b
  | .int _, _, .int i => .int i
  | .str _, _, .str i => .str i
  | .tup l, _, .tup h r => .tup (k.get0 h) (RpL.keep k r)
  | .lst _, _, .lst h r => .lst (k.get0 h) (RpL.keep k r)
theorem RpL.keep {H H' : Hp} (k : Kp [] H H') : ∀ {ds : List Dt} {vs : List V}, RpL H vs ds → RpL H' vs ds
  | [], _, .nil => .nil
  | d :: ds, _, .cons r t => .cons (Rp.keep k r) (RpL.keep k t)
end
/-- a comprehension at work: the new list at D holds F i, what stood before it is kept but at S -/
def LcP (S : List Addr) (H1 : Hp) (D : Addr) (F : Nat → List V) (i : Nat) (H : Hp) : Prop := H D = some (.lst (F i)) ∧ Kp S H1 H
theorem LcP.start {S : List Addr} {H1 : Hp} {D : Addr} {F : Nat → List V} (hD : H1 D = none) (e : F 0 = []) : LcP S H1 D F 0 (upd H1 D (.lst [])) := ⟨by rw [upd_same, e], Kp.new hD⟩
theorem LcP.step {S : List Addr} {H1 H H4 : Hp} {D : Addr} {F : Nat → List V} {i : Nat} {y : V} (p : LcP S H1 D F i H) (hD : H1 D = none) (k : Kp S H H4) (n : D ∉ S) (e : F (i + 1) = F i ++ [y]) (hl : (F i).length < sizeLine) :
    ∃ acc, H4 D = some (.lst acc) ∧ acc.length < sizeLine ∧ LcP S H1 D F (i + 1) (upd H4 D (.lst (acc ++ [y]))) :=
  ⟨F i, k _ _ p.1 n, hl, by rw [upd_same, e], (p.2.trans k).loc hD⟩
theorem LcP.skip {S : List Addr} {H1 H H3 : Hp} {D : Addr} {F : Nat → List V} {i : Nat} (p : LcP S H1 D F i H) (k : Kp S H H3) (n : D ∉ S) (e : F (i + 1) = F i) : LcP S H1 D F (i + 1) H3 :=
  ⟨by rw [e]; exact k _ _ p.1 n, p.2.trans k⟩
/-- isinstance of data with a built-in class -/
def Dt.isK (d : Dt) (t : String) : Bool := d.kind == t || (t == "int" && d.kind == "bool")
theorem Dt.kit (d : Dt) (t : String) (ht : t ∈ ["tuple", "list", "dict", "int", "bool", "str"]) : kitB d.kind t = some (d.isK t) := by
  have go : ∀ k ∈ ["NoneType", "bool", "int", "str", "tuple", "list"], ∀ t ∈ ["tuple", "list", "dict", "int", "bool", "str"], kitB k t = some (k == t || (t == "int" && k == "bool")) := by decide +kernel
  refine go _ ?_ t ht
  cases d <;> simp [Dt.kind]
theorem bl_list (bs : List Bool) : (bs.map V.bl).length = bs.length := List.length_map ..
end U
set_option Elab.async false
set_option linter.all false
set_option maxRecDepth 100000
set_option maxHeartbeats 1000000
namespace U
open PySem PySem.Spec PyProof.Rows L2
section
variable {X : Cx}
/-! while, append -/
def uWhile (c : TT) (tb : TS) : TS := fun D σ H => ∃ W : Nat → L2.St → Hp → Prop, (∃ m, W m σ H) ∧ ∀ m σ H, W m σ H →
  c σ H fun b H1 => br b (∃ N : L2.St → Hp → Prop, (∀ σ' H', N σ' H' → ∃ m', m' < m ∧ W m' σ' H') ∧ tb { D with nx := N, ct := N, bk := D.nx } σ H1) (D.nx σ H1)
theorem us_while {c : Expr} {body : List Stmt} {tc : TT} {tb : TS} {pos : Pos} (hp : PassesOwn (model X.prog X.w) X.A X.env X.xe) (hc : PT X c tc) (hb : PSs X body tb) : PS X (.While c body [] pos) (uWhile tc tb) := by
  have e : uWhile tc tb = tWhile tc tb := by
    funext D σ H
    unfold uWhile tWhile
    simp only [br_eq]
  rw [e]
  exact ps_while hp hc hb
def tApp (to : TE) (t : TA) : TE := fun σ H Q => to σ H fun x H1 => match x with
  | .ref l => (∃ zs, H1 l = some (.lst zs)) ∧ t σ H1 fun xs H2 => uApp (.ref l) xs H2 Q
  | _ => False
theorem ue_append {o e : Expr} {to : TE} {t : TA} {apos cpos : Pos} (ho : PE X o to) (ha : PA X [e] t)
    (hbase : attributeBase o "append" X.env (eval o X.env) = eval o X.env := by rfl)
    (hfew : ((backTo cpos (starEach [e] X.env)).all (fun x => !x.1) && (backToKw cpos (keywordEach [] X.env)).all (fun x => x.1.isSome)
      && decide ([e].length + ([] : List Keyword).length + (if ([] : List Keyword).isEmpty then 0 else 1) < 30)) = true := by rfl)
    (hline : (apos.endLine == cpos.line) = true := by rfl) (hs : starEach [e] X.env = (false, eval e X.env) :: starEach [] X.env := by rfl) (hplain : (backTo cpos (starEach [] X.env)).any (·.1) = false := by rfl) :
    PE X (.Call (.Attribute o "append" apos) [e] [] cpos) (tApp to t) := by
  refine ⟨fun pins s σ H Q I h => ?_⟩
  refine wpAny_Call_method_late hbase hfew hline rfl (thn (ho.run pins s σ H _ I h) fun v s1 ⟨x, H1, I1, r1, q1⟩ => ?_)
  match x, r1, q1 with
  | .ref l, r1, ⟨⟨zs, hz⟩, q1⟩ =>
    obtain ⟨h1, h2⟩ := tyV_is I1 r1 (tyL hz)
    refine ⟨"list", "list.append", PySem.F.plainAttrs_list, PySem.F.slot_list_append, PySem.F.type_list_append, h1, h2, ?_⟩
    have hA := ha.run cpos pins s1 σ H1 _ I1 q1
    rw [hs] at hA ⊢
    have hp : (false || (backTo cpos (starEach [] X.env)).any (·.1)) = false := hplain
    exact Calls.callWith_builtin hp (Calls.evalArgs_plain (thn hA fun us s2 ⟨vs, H2, I2, r2, q2⟩ => m_app pins s2 σ H2 _ vs v us Q I2 r1 r2 q2))
end
section
variable {X : Cx}
def uNeg : V → Hp → VK → Prop := fun x H Q => match x with
  | .int i => Q (.int (-i)) H
  | _ => False
theorem o_neg : UnR X (unaryOp .USub) uNeg := by
  intro pins s σ H x v Q I rx h
  match x, rx, h with
  | .int i, rx, h => exact un_neg pins s σ H _ v Q I rx ⟨i, rfl, h⟩
end
theorem stillL_app : ∀ {l m : List Dt}, stillL l = true → stillL m = true → stillL (l ++ m) = true
  | [], _, _, h => h
  | a :: l, m, h, k => by
    simp only [stillL, Bool.and_eq_true, List.cons_append] at h ⊢
    exact ⟨h.1, stillL_app h.2 k⟩
theorem stillL_one {d : Dt} (h : d.still = true) : stillL [d] = true := by simp [stillL, h]
/-- a comprehension of data at work: the new list at D holds ds i -/
def LcR (H1 : Hp) (D : Addr) (ds : Nat → List Dt) (i : Nat) (H : Hp) : Prop := ∃ xs, H D = some (.lst xs) ∧ RpL H xs (ds i) ∧ stillL (ds i) = true ∧ Kp [] H1 H
theorem LcR.start {H1 : Hp} {D : Addr} {ds : Nat → List Dt} (hD : H1 D = none) (e : ds 0 = []) : LcR H1 D ds 0 (upd H1 D (.lst [])) := ⟨[], upd_same, by rw [e]; exact .nil, by rw [e]; rfl, Kp.new hD⟩
theorem LcR.step {H1 H H4 : Hp} {D : Addr} {ds : Nat → List Dt} {i : Nat} {y : V} {d : Dt} (p : LcR H1 D ds i H) (hD : H1 D = none) (k : Kp [] H H4) (r : Rp H4 y d) (st : d.still = true) (e : ds (i + 1) = ds i ++ [d]) (hl : (ds i).length < sizeLine) :
    ∃ acc, H4 D = some (.lst acc) ∧ acc.length < sizeLine ∧ LcR H1 D ds (i + 1) (upd H4 D (.lst (acc ++ [y]))) := by
  obtain ⟨xs, h1, h2, h3, h4⟩ := p
  have h5 := k.get0 h1
  have tk : TK H4 (upd H4 D (.lst (xs ++ [y]))) := TK.put h5
  refine ⟨xs, h5, by rw [h2.length]; exact hl, xs ++ [y], upd_same, ?_, ?_, (h4.trans k).loc hD⟩
  · rw [e]; exact (h2.still (k.tk0.trans tk) h3).snoc (r.still tk st)
  · rw [e]; exact stillL_app h3 (stillL_one st)
/-! slices -/
theorem cut_from (xs : List V) (k : Nat) : cutV xs (some (k : Int)) none = xs.drop k := by
  unfold cutV
  rw [HT.sIx_nat, HT.sIx_none]
  by_cases h : k ≤ xs.length
  · rw [Nat.min_eq_left h, List.take_of_length_le (by simp)]
  · rw [Nat.min_eq_right (by omega), List.drop_eq_nil_of_le (Nat.le_refl _), List.drop_eq_nil_of_le (by omega)]; simp
theorem cut_mid (xs : List V) (a b : Nat) : cutV xs (some (a : Int)) (some (b : Int)) = (xs.drop a).take (b - a) := by
  unfold cutV
  rw [HT.sIx_nat, HT.sIx_nat]
  by_cases h : a ≤ xs.length
  · rw [Nat.min_eq_left h]
    by_cases h2 : b ≤ xs.length
    · rw [Nat.min_eq_left h2]
    · rw [Nat.min_eq_right (show xs.length ≤ b by omega), List.take_of_length_le (by simp), List.take_of_length_le (by simp; omega)]
  · rw [List.drop_eq_nil_of_le (show xs.length ≤ min a xs.length by omega), List.drop_eq_nil_of_le (show xs.length ≤ a by omega)]; simp
theorem cut_to (xs : List V) (b : Nat) : cutV xs none (some (b : Int)) = xs.take b := by
  unfold cutV
  rw [HT.sIx_nat, HT.sIx_none, List.drop_zero, Nat.sub_zero]
  by_cases h : b ≤ xs.length
  · rw [Nat.min_eq_left h]
  · rw [Nat.min_eq_right (by omega), List.take_of_length_le (Nat.le_refl _), List.take_of_length_le (by omega)]
theorem cut_init (xs : List V) : cutV xs none (some (-1)) = xs.dropLast := by
  unfold cutV
  rw [HT.sIx_none, List.drop_zero, Nat.sub_zero, List.dropLast_eq_take]
  congr 1
  have e : HT.sIx xs.length xs.length (some (-1)) = ((-1 : Int) + (xs.length : Int)).toNat := rfl
  rw [e]
  omega
/-! walks over a text -/
theorem its_yld {z : Str} {i : Nat} {v : V} (h : ∃ c, z.cps[i]? = some c ∧ v = .str ⟨#[c]⟩) : ∃ c, z.cps.toList[i]? = some c ∧ v = .str ⟨#[c]⟩ := by
  obtain ⟨c, e, r⟩ := h
  exact ⟨c, by rw [Array.getElem?_toList]; exact e, r⟩
theorem for_str {z : Str} {g : TG} {tb : TS} {D : Ends} {σ : L2.St} {H : Hp} (Pv : Nat → L2.St → Hp → Prop) (h0 : Pv 0 σ H)
    (hs : ∀ i c σ H, z.cps.toList[i]? = some c → Pv i σ H → g (.str ⟨#[c]⟩) σ H fun σ2 H2 => tb { D with nx := Pv (i + 1), ct := Pv (i + 1), bk := D.nx } σ2 H2) (hd : ∀ σ H, Pv z.length σ H → D.nx σ H) :
    ∃ W : Nat → Nat → L2.St → Hp → Prop, (∃ m, W 0 m σ H) ∧ ∀ i m σ H, W i m σ H →
      ((Its z).stop i H ∧ D.nx σ H) ∨ ((Its z).go i H ∧ ∃ N : L2.St → Hp → Prop, (∀ σ' H', N σ' H' → ∃ m', m' < m ∧ W (i + 1) m' σ' H') ∧ ∀ x H', (Its z).yld i H x H' → g x σ H' fun σ2 H2 => tb { D with nx := N, ct := N, bk := D.nx } σ2 H2) :=
  for_it walk_str Pv h0 (fun _ _ _ _ _ => trivial) (fun i x σ H H' _ p y => by
    obtain ⟨e, y⟩ := y
    obtain ⟨c, e1, e2⟩ := its_yld y
    subst e e2
    exact hs i c σ _ e1 p) hd
theorem lc_str {z : Str} {g : TG} {tt : TT} {te : TE} {vs : List Nat} {σ : L2.St} {H1 : Hp} {D : Addr} {Qd : Hp → Prop} (Pv : Nat → Hp → Prop) (h0 : Pv 0 (upd H1 D (.lst [])))
    (hs : ∀ i c H, z.cps.toList[i]? = some c → Pv i H → g (.str ⟨#[c]⟩) (wipe σ vs) H fun σ2 H2 => wipe σ2 vs = wipe σ vs ∧ tt σ2 H2 fun b H3 =>
      if b = true then te σ2 H3 fun y H4 => ∃ acc, H4 D = some (.lst acc) ∧ acc.length < sizeLine ∧ Pv (i + 1) (upd H4 D (.lst (acc ++ [y]))) else Pv (i + 1) H3) (hd : ∀ H, Pv z.length H → Qd H) :
    ∃ W : Nat → Nat → Hp → Prop, (∃ m, W 0 m (upd H1 D (.lst []))) ∧ ∀ i m H, W i m H →
      ((Its z).stop i H ∧ Qd H) ∨ ((Its z).go i H ∧ ∃ Nx : Hp → Prop, (∀ H', Nx H' → ∃ m', m' < m ∧ W (i + 1) m' H') ∧ ∀ x H', (Its z).yld i H x H' → g x (wipe σ vs) H' fun σ2 H2 => wipe σ2 vs = wipe σ vs ∧ tt σ2 H2 fun b H3 =>
        if b = true then te σ2 H3 fun y H4 => ∃ acc, H4 D = some (.lst acc) ∧ acc.length < sizeLine ∧ Nx (upd H4 D (.lst (acc ++ [y]))) else Nx H3) :=
  lc_it walk_str Pv h0 (fun _ _ _ _ => trivial) (fun i x H H' _ p y => by
    obtain ⟨e, y⟩ := y
    obtain ⟨c, e1, e2⟩ := its_yld y
    subst e e2
    exact hs i c _ e1 p) hd
theorem len_cps (z : Str) : z.length = z.cps.toList.length := TL.len_tl z
theorem cps_lt {z : Str} {i c : Nat} (h : z.cps.toList[i]? = some c) : i < z.length := by
  rw [len_cps]; exact (List.getElem?_eq_some_iff.mp h).1
/-- a comprehension of booleans over a text's signs -/
theorem all_str {z : Str} {f : Nat → Bool} {n : Nat} (h : n = z.length) : ((z.cps.toList.take n).map f).all id = z.cps.toList.all f := by
  rw [h, len_cps, List.take_length]; simp
theorem take_one {l : List Nat} {i c : Nat} (h : l[i]? = some c) : l.take (i + 1) = l.take i ++ [c] := by
  rw [List.take_add_one, h]; rfl
theorem str_ne_len {z : Str} : z = ("" : Str) ↔ z.length = 0 := by
  constructor
  · intro h; subst h; rfl
  · intro h
    apply TL.ext_tl
    rw [len_cps] at h
    exact List.eq_nil_of_length_eq_zero h
theorem inV_str (x : Str) (l : List Str) : inV (.str x) (l.map V.str) = decide (x ∈ l) := by
  unfold inV
  induction l with
  | nil => rfl
  | cons a l ih =>
    rw [List.map_cons, List.any_cons, ih]
    have e : eqV (.str a) (.str x) = decide (x = a) := by
      unfold eqV
      by_cases h : x = a
      · subst h; simp
      · have h2 : ¬ a = x := fun e => h e.symm
        simp [h, h2]
    rw [e]
    simp [Bool.or_eq_true]
end U
set_option Elab.async false
set_option linter.all false
set_option maxRecDepth 100000
set_option maxHeartbeats 1000000
namespace U
open PySem PySem.Spec PyProof.Rows L2
section
variable {X : Cx}
/-! own classes: making, properties, fields -/
structure Mkr (P : Program) (w : World) (K : PySem.W.Frag) (mg : Str → Option Value) (base : Heap) (CX : CXT) (k : Nat) (x : Str) (ps : List Str) (sp : Sp) : Prop where
  ok : ∃ fI fd, mg x = some (.ref (He.ga K x)) ∧ Mk K (He.ga K x) fI ∧ Binds K fd ps [] ∧ FnOk P w K mg base CX k fI fd ps sp
def uMake (C : Addr) (sp : Sp) (E : XK) (t : TA) : TE := fun σ H Q => t σ H fun vs H1 => ∀ x dx, H1 x = none → H1 dx = none → dx ≠ x → sp (.ref x :: vs) (upd (upd H1 dx (.own x)) x (.ins C dx [])) (fun v H2 => v = .non ∧ Q (.ref x) H2) E
theorem ue_make {CX : CXT} {k : Nat} {x : Str} {ps : List Str} {sp : Sp} {E : XK} {e : Expr} {es : List Expr} {p pos : Pos} {t : TA} (M : Mkr X.prog X.w X.K X.mg X.base CX k x ps sp) (hr : Room (k + 1) X.A) (hg : Gl X x) (hx : Passes CX X E)
    (ha : PA X (e :: es) t) (hdb : (x == ("__debug__" : Str)) = false := by decide) (he : starEach (e :: es) X.env = (false, eval e X.env) :: starEach es X.env := by rfl) (hpl : (backTo pos (starEach es X.env)).any (·.1) = false := by rfl) :
    PE X (.Call (.Name x p) (e :: es) [] pos) (uMake (He.ga X.K x) sp E t) := by
  obtain ⟨fI, fd, hm, hk, hb, F⟩ := M.ok
  refine peI (pe_make hk F hr hg hm hb .nil hx ha hdb he hpl) fun σ H Q q => ?_
  unfold uMake at q
  simpa only [tMake, List.append_nil] using q
/-- .. where what it lets out is taken at the slots -/
def uMakeS (C : Addr) (sp : Sp) (W : WX) (t : TA) : TE := fun σ H Q => t σ H fun vs H1 => ∀ x dx, H1 x = none → H1 dx = none → dx ≠ x → sp (.ref x :: vs) (upd (upd H1 dx (.own x)) x (.ins C dx [])) (fun v H2 => v = .non ∧ Q (.ref x) H2) (WE W σ)
theorem makes_at {k : Nat} {C f : Addr} {fd : FuncData} {ps : List Str} {sp : Sp} {E : XK} {CX : CXT} {pins : List (Addr × Obj)} {σ : L2.St} {H : Hp} {s : Shared} {Q : VK} {us : List Value} {vs : List V} (M : Mk X.K C f) (F : FnOk X.prog X.w X.K X.mg X.base CX k f fd ps sp)
    (hr : Room (k + 1) X.A) (hb : Binds X.K fd ps []) (hx : PassesAt CX X σ E) (I : Inv X pins σ H s) (r : Vals vs us)
    (h : ∀ x dx, H x = none → H dx = none → dx ≠ x → sp (.ref x :: vs) (upd (upd H dx (.own x)) x (.ins C dx [])) (fun v H2 => v = .non ∧ Q (.ref x) H2) E) :
    wpAny (model X.prog X.w) X.A (call (.ref C) us) (EP X pins σ Q) X.xe s := by
  have z := s.heap.objs.size
  have hq := h _ _ (I.hok.fresh (Nat.le_succ s.heap.objs.size)) (I.hok.fresh (Nat.le_refl s.heap.objs.size)) (Nat.ne_of_lt (Nat.lt_succ_self _))
  have I2 := Inv.made (C := C) I
  have r2 : Vals (V.ref (s.heap.objs.size + 1) :: vs) (Value.ref (s.heap.objs.size + 1) :: us) := .cons rfl r
  have hl : (Value.ref (s.heap.objs.size + 1) :: us).length = ps.length := by rw [← r2.length]; exact F.len _ _ _ _ hq
  have b := hb _ (Value.ref (s.heap.objs.size + 1) :: us) I2.kIn (by rw [List.append_nil]; exact hl)
  rw [List.append_nil] at b
  refine wpAny_call (make_map (f := f) I.kIn M.makes M.init (beq_iff_eq.mp M.fn) (codeAny_mono (F.run _ X.stack _ _ ⟨Value.ref (s.heap.objs.size + 1) :: us, []⟩ _ _ _ E (hr.make C us []) (I2.env0.make C us []) b r2 hq) fun t s' hq' => ?_))
  match t with
  | .error e => exact hx pins _ _ e s' I2 hq'
  | .ok (.ret u) =>
    obtain ⟨v, H', I3, rv, ev, q3⟩ := I2.after hq'
    subst ev
    exact ⟨rv, ⟨V.ref (s.heap.objs.size + 1), H', I3, rfl, q3⟩⟩
  | .ok .next => exact False.elim hq'
  | .ok .brk => exact False.elim hq'
  | .ok .cont => exact False.elim hq'
theorem ue_makeS {k : Nat} {x : Str} {ps : List Str} {sp : Sp} {W : WX} {e : Expr} {es : List Expr} {p pos : Pos} {t : TA} (M : Mkr X.prog X.w X.K X.mg X.base (L2.CX X.prog X.w) k x ps sp) (hr : Room (k + 1) X.A) (hg : Gl X x) (tk : Takes X W)
    (ha : PA X (e :: es) t) (hdb : (x == ("__debug__" : Str)) = false := by decide) (he : starEach (e :: es) X.env = (false, eval e X.env) :: starEach es X.env := by rfl) (hpl : (backTo pos (starEach es X.env)).any (·.1) = false := by rfl) :
    PE X (.Call (.Name x p) (e :: es) [] pos) (uMakeS (He.ga X.K x) sp W t) := by
  obtain ⟨fI, fd, hm, hk, hb, F⟩ := M.ok
  refine ⟨fun pins s σ H Q I h => ?_⟩
  refine wpAny_Call_Name_kw (ld_glob I hg hm ?_ hdb)
  exact PySem.W.callWith_K (h₀ := X.base) I.ok.mod.kin hk.kp (thn (ha.run pos pins s σ H _ I h) fun us s1 ⟨vs, H1, I1, r, q⟩ => ⟨I1.kIn, makes_at hk F hr hb (passAt tk σ) I1 r q⟩) he hpl
def uCallS (sp : Sp) (W : WX) (t : TA) : TE := fun σ H Q => t σ H fun vs H1 => sp vs H1 Q (WE W σ)
theorem ue_callS {k : Nat} {x : Str} {ps : List Str} {sp : Sp} {W : WX} {e : Expr} {es : List Expr} {p pos : Pos} {t : TA} (C : Cal X.prog X.w X.K X.mg X.base (L2.CX X.prog X.w) k x ps sp) (hr : Room k X.A) (hg : Gl X x) (tk : Takes X W)
    (ha : PA X (e :: es) t) (hdb : (x == ("__debug__" : Str)) = false := by decide) (he : starEach (e :: es) X.env = (false, eval e X.env) :: starEach es X.env := by rfl) (hpl : (backTo pos (starEach es X.env)).any (·.1) = false := by rfl) :
    PE X (.Call (.Name x p) (e :: es) [] pos) (uCallS sp W t) := by
  obtain ⟨f, fd, hm, hk, hb, F⟩ := C.ok
  exact pe_callS (E := WE W) F hr hg hm hk hb (fun σ => passAt tk σ) ha hdb he hpl
structure Prp (P : Program) (w : World) (K : PySem.W.Frag) (mg : Str → Option Value) (base : Heap) (CX : CXT) (k : Nat) (cls f : Str) (sp : Sp) : Prop where
  ok : ∃ p g fd ps, Cls K (He.ga K cls) ∧ PropOf K (He.ga K cls) f p g ∧ Binds K fd ps [] ∧ FnOk P w K mg base CX k g fd ps sp
def uProp (C : Addr) (sp : Sp) (te : TE) : TE := fun σ H Q => te σ H fun x H1 => ∃ a dx fs, x = .ref a ∧ H1 a = some (.ins C dx fs) ∧ sp [.ref a] H1 Q E0
theorem ue_prop {k : Nat} {cls f : Str} {sp : Sp} {e : Expr} {te : TE} {pos : Pos} (h : Prp X.prog X.w X.K X.mg X.base CX0 k cls f sp) (hr : Room (k + 1) X.A) (he : PE X e te) (hb : attributeBase e f X.env (eval e X.env) = eval e X.env) :
    PE X (.Attribute e f pos) (uProp (He.ga X.K cls) sp te) := by
  obtain ⟨p, g, fd, ps, c, hp, hbd, F⟩ := h.ok
  exact peI (pe_prop (E := E0) (dvs := []) he c hp F hr hbd .nil pass0 hb) fun σ H Q q => q
/-- a caught exception: its class and its field -/
structure Cau (K : PySem.W.Frag) (nm f : Str) : Prop where
  xf : XfC K (He.ga K nm)
  no : PySem.W.findIn K (.ref (He.ga K nm)) f = some none
  ec : ExcC K (He.ga K nm)
/-! the same with the fragment told -/
section
variable (K : PySem.W.Frag)
theorem kMake {CX : CXT} {k : Nat} {x : Str} {ps : List Str} {sp : Sp} {E : XK} {e : Expr} {es : List Expr} {p pos : Pos} {t : TA} (M : Mkr X.prog X.w X.K X.mg X.base CX k x ps sp) (hr : Room (k + 1) X.A) (hg : Gl X x) (hx : Passes CX X E)
    (ha : PA X (e :: es) t) (hdb : (x == ("__debug__" : Str)) = false := by decide) (he : starEach (e :: es) X.env = (false, eval e X.env) :: starEach es X.env := by rfl) (hpl : (backTo pos (starEach es X.env)).any (·.1) = false := by rfl) (eK : X.K = K := by rfl) :
    PE X (.Call (.Name x p) (e :: es) [] pos) (uMake (He.ga K x) sp E t) := eK ▸ ue_make M hr hg hx ha hdb he hpl
theorem kMakeS {k : Nat} {x : Str} {ps : List Str} {sp : Sp} {W : WX} {e : Expr} {es : List Expr} {p pos : Pos} {t : TA} (M : Mkr X.prog X.w X.K X.mg X.base (L2.CX X.prog X.w) k x ps sp) (hr : Room (k + 1) X.A) (hg : Gl X x) (tk : Takes X W)
    (ha : PA X (e :: es) t) (hdb : (x == ("__debug__" : Str)) = false := by decide) (he : starEach (e :: es) X.env = (false, eval e X.env) :: starEach es X.env := by rfl) (hpl : (backTo pos (starEach es X.env)).any (·.1) = false := by rfl) (eK : X.K = K := by rfl) :
    PE X (.Call (.Name x p) (e :: es) [] pos) (uMakeS (He.ga K x) sp W t) := eK ▸ ue_makeS M hr hg tk ha hdb he hpl
theorem kProp {k : Nat} {cls f : Str} {sp : Sp} {e : Expr} {te : TE} {pos : Pos} (h : Prp X.prog X.w X.K X.mg X.base CX0 k cls f sp) (hr : Room (k + 1) X.A) (he : PE X e te) (hb : attributeBase e f X.env (eval e X.env) = eval e X.env) (eK : X.K = K := by rfl) :
    PE X (.Attribute e f pos) (uProp (He.ga K cls) sp te) := eK ▸ ue_prop h hr he hb
theorem kFld {e : Expr} {f : Str} {te : TE} {pos : Pos} (he : PE X e te) (hb : attributeBase e f X.env (eval e X.env) = eval e X.env) (eK : X.K = K := by rfl) : PE X (.Attribute e f pos) (tFld K te f) := eK ▸ pe_fld he hb
theorem kSetF {o value : Expr} {f : Str} {ta tv : TE} {pos pos' : Pos} (ha : PE X o ta) (hv : PE X value tv) (hs : swapsWith value (some (.Attribute o f pos')) pos.line X.env = pure false) (eK : X.K = K := by rfl) : PS X (.Assign [.Attribute o f pos'] value pos) (sFld K ta tv f) := eK ▸ ps_fld ha hv hs
theorem kRaise1 {nm f : Str} {okv : V → Prop} {a : Expr} {ta : TA} {W : WX} {p pos pos2 : Pos} {k : Nat} (hc : X.calm = true) (T : Exc1 X.prog X.w X.K X.mg nm f okv) (hr : Room k X.A) (tk : Takes X W) (ha : PA X [a] ta) (hg : Gl X nm := by rfl) (hd : (nm == ("__debug__" : Str)) = false := by decide)
    (he : starEach (a :: []) X.env = (false, eval a X.env) :: starEach [] X.env := by rfl) (hpl : (backTo pos (starEach [] X.env)).any (·.1) = false := by rfl) (eK : X.K = K := by rfl) :
    PS X (.Raise (some (.Call (.Name nm p) [a] [] pos)) none pos2) (tRaise1 (He.ga K nm) f okv W ta) := eK ▸ us_raise1 hc T hr tk ha hg hd he hpl
theorem kgTup {es : List Expr} {j : Nat} {t : TGs} {n : Nat} {pos : Pos} (hc : X.calm = true) (h : PGs X es t)
    (hn : (assignEach es X.env).length = n := by rfl) (hst : (assignEach es X.env).findIdx? (·.1) = none := by rfl) (eK : X.K = K := by rfl) : PG X (.Tuple es j pos) (gTup K n t) := eK ▸ pg_tup hc h hn hst
end
theorem names_glob {K : PySem.W.Frag} {x : Str} (h : X.mg x = some (.ref (He.ga K x))) (hg : Gl X x := by rfl) (hd : (x == ("__debug__" : Str)) = false := by decide) : Names X x (.ref (He.ga K x)) := ⟨hg, hd, .inl h⟩
theorem rel_ref {a : Addr} : ∀ u, RelV (.ref a) u → u = .ref a := fun u h => h
end
end U
set_option Elab.async false
set_option linter.all false
set_option maxRecDepth 100000
set_option maxHeartbeats 1000000
namespace U
open PySem PySem.Spec PyProof.Rows L2 He
/-! the head's facts: defs by any address, own exceptions, further checks -/
/-- one def -/
structure DA where
  ad : PySem.W.Frag → Addr
  name : Str
  qual : Str
  params : Arguments
  body : List Stmt
  scope : Scope
  dfl : List Dv := []
  kwd : List (Str × Dv) := []
abbrev FnA : Type := Option (Str × Str × Arguments × FuncBody × Scope × Addr × List Str × Addr)
def fnA (K : PySem.W.Frag) (a : Addr) : FnA := match K.lookup a with
  | some ⟨_, _, .func fd, _⟩ => some (fd.name, fd.qualname, fd.params, fd.body, fd.scope, fd.globals, fd.closure.map (·.1), fd.builtins)
  | _ => none
def DA.val (d : DA) : FnA := some (d.name, d.qual, d.params, .stmts d.body, d.scope, mainGlobals, [], builtinsNs)
def DA.dvs (K : PySem.W.Frag) (d : DA) : List V := d.dfl.map (Dv.v K)
def DA.kws (K : PySem.W.Frag) (d : DA) : List (Str × V) := d.kwd.map fun q => (q.1, q.2.v K)
def DA.okB (K : PySem.W.Frag) (d : DA) : Bool := PySem.W.keepIn K (.ref (d.ad K)) && (match K.lookup (d.ad K) with
  | some ⟨_, _, .func fd, _⟩ => PySem.W.codeIn K fd.code d.qual && (dflB K fd.defaults (d.dvs K) && kwdB K fd.kwdefaults (d.kws K))
  | _ => false)
theorem DA.funD {K : PySem.W.Frag} {d : DA} (e : fnA K (d.ad K) = d.val) (c : d.okB K = true) : ∃ fd, FunD K d.name d.qual d.params d.body d.scope (d.dvs K) (d.kws K) (d.ad K) fd := by
  obtain ⟨kp, c2⟩ := ba c
  unfold fnA at e
  cases q : K.lookup (d.ad K) with
  | none => rw [q] at c2; cases c2
  | some o =>
    obtain ⟨oc, od, dt, osl⟩ := o
    rw [q] at c2 e
    cases dt with
    | func fd =>
      obtain ⟨n1, n2, n3, n4, n5, n6, n7, n8, n9, n10, n11, n12, n13, n14, n15⟩ := fd
      have e2 : (some (n1, n2, n3, n4, n5, n6, n7.map (·.1), n15) : FnA) = some (d.name, d.qual, d.params, .stmts d.body, d.scope, mainGlobals, [], builtinsNs) := e
      simp only [Option.some.injEq, Prod.mk.injEq, List.map_eq_nil_iff] at e2
      obtain ⟨h1, h2, h3, h4, h5, h6, h7, h8⟩ := e2
      subst h1 h2 h3 h4 h5 h6 h7 h8
      obtain ⟨k1, k2⟩ := ba (show (PySem.W.codeIn K n13 d.qual && (dflB K n8 (d.dvs K) && kwdB K n9 (d.kws K))) = true from c2)
      obtain ⟨k3, k4⟩ := ba k2
      exact ⟨_, ⟨oc, od, n8, n9, n10, n11, n12, n13, n14, osl, rfl, q, k1, dflB_ok k3, kwdB_ok k4⟩, kp⟩
    | _ => cases c2
/-- an own exception class whose __init__ calls super().__init__ -/
structure DX where
  cls : Str
  qual : Str
  params : Arguments
  body : List Stmt
  scope : Scope
def DX.ad (d : DX) (K : PySem.W.Frag) : Addr := ma K (ga K d.cls) "__init__"
def DX.val (d : DX) : FnA := some ("__init__", d.qual, d.params, .stmts d.body, d.scope, mainGlobals, ["__class__"], builtinsNs)
def noneV : Value → Bool
  | .none => true
  | _ => false
theorem noneV_ok {v : Value} (h : noneV v = true) : v = .none := by cases v <;> first | rfl | cases h
def codeFile (K : PySem.W.Frag) (c : Value) (qual file : Str) : Bool := match c with
  | .ref cda => PySem.W.codeIn K (.ref cda) qual && (match K.lookup cda with
    | some ⟨_, _, .fields vs, _⟩ => (match (vs[2]? : Option Value) with
      | some (Value.str f _) => decide (f = file)
      | _ => false)
    | _ => false)
  | _ => false
theorem codeFile_ok {K : PySem.W.Frag} {c : Value} {qual file : Str} (h : codeFile K c qual file = true) : ∃ cda ccl cdd vs ccs tf, c = .ref cda ∧ PySem.W.codeIn K (.ref cda) qual = true ∧ K.lookup cda = some ⟨ccl, cdd, .fields vs, ccs⟩ ∧ vs[2]? = some (.str file tf) := by
  unfold codeFile at h
  split at h
  · rename_i cda
    obtain ⟨h1, h2⟩ := ba h
    split at h2
    · rename_i a b vs d e
      split at h2
      · rename_i f t e2
        have e3 : f = file := of_decide_eq_true h2
        subst e3
        exact ⟨cda, _, _, _, _, _, rfl, h1, e, e2⟩
      · cases h2
    · cases h2
  · cases h
def cellB (K : PySem.W.Frag) (C : Addr) (cl : List (Str × Addr)) : Bool := match cl with
  | [(_, cc)] => (match K.lookup cc with
    | some ⟨_, _, .cell (some (.ref D)), _⟩ => decide (D = C)
    | _ => false)
  | _ => false
theorem cellB_ok {K : PySem.W.Frag} {C : Addr} {cl : List (Str × Addr)} (h : cellB K C cl = true) : ∃ n cc a b c, cl = [(n, cc)] ∧ K.lookup cc = some ⟨a, b, .cell (some (.ref C)), c⟩ := by
  unfold cellB at h
  split at h
  · rename_i n cc
    split at h
    · rename_i a b D d e
      have e3 : D = C := of_decide_eq_true h
      subst e3
      exact ⟨n, cc, _, _, _, rfl, e⟩
    · cases h
  · cases h
def DX.okB (K : PySem.W.Frag) (file : Str) (d : DX) : Bool :=
  (XC.oxB K (ga K d.cls) && (PySem.W.excInitIn K (ga K d.cls) XC.veB "ValueError.__new__" && (eqO (PySem.W.findIn K (.ref (ga K d.cls)) "__setattr__") (some (some (.builtin "object.__setattr__"))) && (eqO (PySem.W.findIn K (.ref (ga K d.cls)) "__init__") (some (some (.ref (d.ad K)))) &&
  (decide (PySem.W.typeIn K (.ref (d.ad K)) = some (.type "function")) && (decide (PySem.W.subIn K (.ref (ga K d.cls)) (.type "ValueError") = some true) && (decide (PySem.W.mroIn K (ga K d.cls) (.ref (ga K d.cls)) = some true) &&
  (eqO (PySem.W.ks_superIn K (ga K d.cls) (ga K d.cls) "__init__") (some (some (.builtin "ValueError.__init__"))) && eqO (PySem.W.nsIn K cStatics "thirdparty.any") (some none))))))))) &&
  ((PySem.W.keepIn K (.ref (ga K d.cls)) && (decide (PySem.W.subIn K (.ref (ga K d.cls)) (.type "BaseException") = some true) && decide (PySem.W.typeIn K (.ref (ga K d.cls)) = some (.type "type")))) &&
  (match K.lookup (d.ad K) with
    | some ⟨_, _, .func fd, _⟩ => noneV fd.defaults && (noneV fd.kwdefaults && (codeFile K fd.code d.qual file && cellB K (ga K d.cls) fd.closure))
    | _ => false))
theorem DX.ok {K : PySem.W.Frag} {P : Program} {d : DX} {file : Str} (e : fnA K (d.ad K) = d.val) (c : d.okB K file = true) (hf : ((P.main.file : Str) == file) = true) :
    XC.Ini K P (ga K d.cls) (d.ad K) d.qual d.params d.body d.scope ∧ PySem.W.keepIn K (.ref (ga K d.cls)) = true ∧ PySem.W.subIn K (.ref (ga K d.cls)) (.type "BaseException") = some true ∧ PySem.W.typeIn K (.ref (ga K d.cls)) = some (.type "type") := by
  obtain ⟨c1, c2⟩ := ba c
  obtain ⟨a1, c1⟩ := ba c1
  obtain ⟨a2, c1⟩ := ba c1
  obtain ⟨a3, c1⟩ := ba c1
  obtain ⟨a4, c1⟩ := ba c1
  obtain ⟨a5, c1⟩ := ba c1
  obtain ⟨a6, c1⟩ := ba c1
  obtain ⟨a7, c1⟩ := ba c1
  obtain ⟨a8, a9⟩ := ba c1
  obtain ⟨c3, c4⟩ := ba c2
  obtain ⟨b1, c3⟩ := ba c3
  obtain ⟨b2, b3⟩ := ba c3
  refine ⟨⟨XC.oxB_ok a1, a2, eqO_ok a3, eqO_ok a4, of_decide_eq_true a5, of_decide_eq_true a6, of_decide_eq_true a7, eqO_ok a8, eqO_ok a9, ?_⟩, b1, of_decide_eq_true b2, of_decide_eq_true b3⟩
  unfold fnA at e
  cases q : K.lookup (d.ad K) with
  | none => rw [q] at c4; cases c4
  | some o =>
    obtain ⟨oc, od, dt, osl⟩ := o
    rw [q] at c4 e
    cases dt with
    | func fd =>
      obtain ⟨n1, n2, n3, n4, n5, n6, n7, n8, n9, n10, n11, n12, n13, n14, n15⟩ := fd
      have e2 : (some (n1, n2, n3, n4, n5, n6, n7.map (·.1), n15) : FnA) = some (("__init__" : Str), d.qual, d.params, .stmts d.body, d.scope, mainGlobals, [("__class__" : Str)], builtinsNs) := e
      simp only [Option.some.injEq, Prod.mk.injEq] at e2
      obtain ⟨h1, h2, h3, h4, h5, h6, h7, h8⟩ := e2
      obtain ⟨k1, k2⟩ := ba (show (noneV n8 && (noneV n9 && (codeFile K n13 d.qual file && cellB K (ga K d.cls) n7))) = true from c4)
      obtain ⟨k3, k4⟩ := ba k2
      obtain ⟨k5, k6⟩ := ba k4
      obtain ⟨cda, ccl, cdd, vs, ccs, tf, r1, r2, r3, r4⟩ := codeFile_ok k5
      obtain ⟨n, cc, x1, x2, x3, s1, s2⟩ := cellB_ok k6
      have e8 := noneV_ok k1
      have e9 := noneV_ok k3
      subst h1 h2 h3 h4 h5 h6 h8 e8 e9 r1 s1
      have e7 : n = ("__class__" : Str) := by simpa using h7
      subst e7
      exact ⟨oc, od, n10, n11, n12, cda, cc, n14, osl, ccl, cdd, vs, ccs, file, tf, x1, x2, x3, rfl, r2, r3, r4, hf, s2⟩
    | _ => cases c4
/-! properties, caught exceptions -/
def propGet (K : PySem.W.Frag) (cls f : Str) : Addr := match PySem.W.recIn K (ma K (ga K cls) f) "property" with
  | some (.ref g :: _) => g
  | _ => 0
def propB (K : PySem.W.Frag) (cls f : Str) : Bool := eqO (PySem.W.findIn K (.ref (ga K cls)) f) (some (some (.ref (ma K (ga K cls) f)))) &&
  (eqO (PySem.W.specialIn K (.ref (ma K (ga K cls) f)) "__get__") (some (some (.builtin "property.__get__"))) && (decide (PySem.W.takesIn K (.ref (ma K (ga K cls) f)) = some true) && (match PySem.W.recIn K (ma K (ga K cls) f) "property" with
    | some (.ref g :: _) => true
    | _ => false)))
theorem propB_ok {K : PySem.W.Frag} {cls f : Str} (h : propB K cls f = true) : PropOf K (ga K cls) f (ma K (ga K cls) f) (propGet K cls f) := by
  obtain ⟨h1, h⟩ := ba h
  obtain ⟨h2, h⟩ := ba h
  obtain ⟨h3, h⟩ := ba h
  refine ⟨eqO_ok h1, eqO_ok h2, of_decide_eq_true h3, ?_⟩
  unfold propGet
  split at h
  · rename_i g rest e
    rw [e]
    exact ⟨_, rfl⟩
  · cases h
def cauB (K : PySem.W.Frag) (nm f : Str) : Bool := xfB K (ga K nm) && (eqO (PySem.W.findIn K (.ref (ga K nm)) f) (some none) && (eqO (PySem.W.findIn K (.ref (ga K nm)) "__class__") (some (some (.builtin "object.__class__"))) &&
  (eqO (PySem.W.specialIn K (.builtin "object.__class__") "__get__") (some (some (.builtin "getset_descriptor.__get__"))) && (decide (PySem.W.takesIn K (.builtin "object.__class__") = some true) && decide (PySem.W.mroIn K (ga K nm) (.type "object") = some true)))))
theorem cauB_ok {K : PySem.W.Frag} {nm f : Str} (h : cauB K nm f = true) : Cau K nm f := by
  obtain ⟨h1, h⟩ := ba h
  obtain ⟨h2, h⟩ := ba h
  obtain ⟨h3, h⟩ := ba h
  obtain ⟨h4, h⟩ := ba h
  obtain ⟨h5, h6⟩ := ba h
  have x := xfB_ok h1
  exact ⟨x, eqO_ok h2, ⟨x.ga, x.gg, x.exC, x.hdC, eqO_ok h3, eqO_ok h4, of_decide_eq_true h5, of_decide_eq_true h6⟩⟩
def kiB (K : PySem.W.Frag) (a b : Str) (r : Bool) : Bool := decide (PySem.W.kitOne K (.ref (ga K a)) (.ref (ga K b)) = some r)
theorem kiB_ok {K : PySem.W.Frag} {a b : Str} {r : Bool} (h : kiB K a b r = true) : PySem.W.kitOne K (.ref (ga K a)) (.ref (ga K b)) = some r := of_decide_eq_true h
/-! further checks, by kind -/
inductive Fu where
  | tup (x : Str) (vs : List Dv)
  | prop (c f : Str)
  | cau (c f : Str)
  | ki (a b : Str) (r : Bool)
def Fu.ok (K : PySem.W.Frag) : Fu → Bool
  | .tup x vs => tupB K x vs
  | .prop c f => propB K c f
  | .cau c f => cauB K c f
  | .ki a b r => kiB K a b r
/-! the Hook -/
def asU (g : Addr → Option Obj) : Nat → List Addr
  | 0 => [mainGlobals, cStatics]
  | n + 1 => growD g (asU g n)
structure Facts where
  fa : List Fa
  fu : List Fu
  fn : List DA
  fx : List DX
  file : Str
abbrev AlU : Type := Bool × List FnA
def Facts.obs (T : Facts) (K : PySem.W.Frag) : AlU := ((T.fa.all fun f => f.ok K) && ((T.fu.all fun f => f.ok K) && ((T.fn.all fun d => d.okB K) && T.fx.all fun d => d.okB K T.file)), T.fn.map (fun d => fnA K (d.ad K)) ++ T.fx.map fun d => fnA K (d.ad K))
def Facts.val (T : Facts) : AlU := (true, T.fn.map DA.val ++ T.fx.map DX.val)
structure Facts.Says (T : Facts) (K : PySem.W.Frag) : Prop where
  eq : T.obs K = T.val
def Facts.obsG (T : Facts) (n : Nat) (g : Addr → Option Obj) : AlU := T.obs (frG g (asU g n))
def hookU (n : Nat) (T : Facts) : PySem.W.Hook where
  α := AlU
  obs := fun s => T.obsG n s.heap.get?
  val := fun _ => T.val
  says := fun _ h => ∃ K : PySem.W.Frag, K.In h ∧ T.Says K
  of := fun _ _ e => ⟨_, frG_in, ⟨e⟩⟩
  keeps := fun _ _ _ ⟨K, hK, c⟩ k => ⟨K, PySem.W.Frag.In.keeps hK k, c⟩
theorem obsU_eq {n : Nat} {T : Facts} {g : Addr → Option Obj} {s : Shared} (h : ∀ a, g a = s.heap.get? a) : T.obsG n g = (hookU n T).obs s := by
  have e : g = s.heap.get? := funext h
  rw [e] <;> rfl
section
variable {T : Facts} {K : PySem.W.Frag}
theorem Facts.Says.b (c : T.Says K) : ((T.fa.all fun f => f.ok K) && ((T.fu.all fun f => f.ok K) && ((T.fn.all fun d => d.okB K) && T.fx.all fun d => d.okB K T.file))) = true := congrArg (fun z : AlU => z.1) c.eq
theorem Facts.Says.fact (c : T.Says K) (i : Nat) {f : Fa} (h : T.fa[i]? = some f := by rfl) : f.ok K = true := List.all_eq_true.mp (ba c.b).1 f (List.mem_of_getElem? h)
theorem Facts.Says.more (c : T.Says K) (i : Nat) {f : Fu} (h : T.fu[i]? = some f := by rfl) : f.ok K = true := List.all_eq_true.mp (ba (ba c.b).2).1 f (List.mem_of_getElem? h)
theorem Facts.Says.lists (c : T.Says K) : T.fn.map (fun d => fnA K (d.ad K)) = T.fn.map DA.val ∧ T.fx.map (fun d => fnA K (d.ad K)) = T.fx.map DX.val := by
  have e : T.fn.map (fun d => fnA K (d.ad K)) ++ T.fx.map (fun d => fnA K (d.ad K)) = T.fn.map DA.val ++ T.fx.map DX.val := congrArg (fun z : AlU => z.2) c.eq
  exact List.append_inj e (by simp)
theorem Facts.Says.def_ (c : T.Says K) (i : Nat) {d : DA} (h : T.fn[i]? = some d := by rfl) : ∃ fd, FunD K d.name d.qual d.params d.body d.scope (d.dvs K) (d.kws K) (d.ad K) fd := by
  have c2 := (ba (ba (ba c.b).2).2).1
  have e2 : (T.fn.map fun d => fnA K (d.ad K))[i]? = (T.fn.map DA.val)[i]? := by rw [c.lists.1]
  rw [List.getElem?_map, List.getElem?_map, h] at e2
  exact DA.funD (Option.some.inj e2) (List.all_eq_true.mp c2 d (List.mem_of_getElem? h))
theorem Facts.Says.exc (c : T.Says K) (i : Nat) {P : Program} {d : DX} (h : T.fx[i]? = some d := by rfl) (hf : ((P.main.file : Str) == T.file) = true) :
    XC.Ini K P (ga K d.cls) (d.ad K) d.qual d.params d.body d.scope ∧ PySem.W.keepIn K (.ref (ga K d.cls)) = true ∧ PySem.W.subIn K (.ref (ga K d.cls)) (.type "BaseException") = some true ∧ PySem.W.typeIn K (.ref (ga K d.cls)) = some (.type "type") := by
  have c2 := (ba (ba (ba c.b).2).2).2
  have e2 : (T.fx.map fun d => fnA K (d.ad K))[i]? = (T.fx.map DX.val)[i]? := by rw [c.lists.2]
  rw [List.getElem?_map, List.getElem?_map, h] at e2
  exact DX.ok (Option.some.inj e2) (List.all_eq_true.mp c2 d (List.mem_of_getElem? h)) hf
end
end U
set_option Elab.async false
set_option linter.all false
set_option maxRecDepth 100000
set_option maxHeartbeats 1000000
namespace LW
open PySem PySem.Spec PyProof.Rows L2 U
def top (i : Nat) : Stmt := PySem.Challenge.pw_manyrides_k79_a_book_reads_back.main.body.getD i (.Pass ⟨0, 0, 0, 0⟩)
section
variable {P : Program} {w : World} {K : PySem.W.Frag} {mg : Str → Option Value} {base : Heap}
/-! the law's helpers: cells, pools, draws -/
/-- a pool of draws stands at p -/
def Pool (H : Hp) (p : Addr) : Prop := ∃ x b c : Int, H p = some (.lst [.int x, .int b, .int c]) ∧ 0 ≤ x ∧ 0 ≤ b ∧ b < 2147483647 ∧ 0 ≤ c
theorem Pool.keep {H H' : Hp} {p : Addr} {S : List Addr} (h : Pool H p) (f : Kp S H H') (n : p ∉ S) : Pool H' p := by
  obtain ⟨x, b, c, e, r⟩ := h
  exact ⟨x, b, c, f _ _ e n, r⟩
abbrev s__law_cell : Stmt := top 37
abbrev N__law_cell : List Str := ["script", "k"]
theorem sc__law_cell : FnScope N__law_cell ["script", "k"] (defScope s__law_cell) := ⟨rfl, rfl, rfl, by decide +kernel, rfl, by decide +kernel, by decide +kernel⟩
def sp__law_cell (K : PySem.W.Frag) : Sp := fun vs H Q _ => ∃ (a : Addr) (ns : List Int) (k : Nat), vs = [.ref a, .int k] ∧ SqL K H a (ns.map V.int) ∧ ∀ v : Int, Q (.int v) H
theorem ok__law_cell {f : Addr} {fd : FuncData} (F : FunD K "_law_cell" "_law_cell" (defArgs s__law_cell) (defBody s__law_cell) (defScope s__law_cell) [] [] f fd)
    (mN_len : mg "len" = none) : FnOk P w K mg base CX0 1 f fd ["script", "k"] (sp__law_cell K) := by
  refine F.ok sc__law_cell (fun vs H Q E h => ?_) (fun cdv A outer s H vs Q E hr h => ⟨_, PSs.nox ((pss_cons (us_if (ut_cmp o_lt (pu 1) (pe_callB (kLen K) (by rfl) mN_len boot_len (pa_cons (pu 0) pa_nil)) (nomark _)) (pss_one (ps_ret (pe_ix (kIx K) (pu 0) (pu 1) (fun _ _ => rfl)))) pss_nil)
    (pss_one (ps_ret pe_int)))), ?_⟩)
  · obtain ⟨a, ns, k, rfl, _⟩ := h
    rfl
  · obtain ⟨a, ns, k, rfl, h⟩ := h
    obtain ⟨hS, hk⟩ := h
    refine ⟨_, .inl ⟨_, hS, rfl⟩, fun c => ?_, fun _ => hk 0⟩
    have c' : (k : Int) < ((ns.map V.int).length : Nat) := of_decide_eq_true c
    have c2 : k < ns.length := by rw [List.length_map] at c'; omega
    refine ⟨_, .int ns[k], .inl hS, atI_nat ?_, hk _⟩
    rw [List.getElem?_map, List.getElem?_eq_getElem c2]
    rfl
abbrev s__law_pool : Stmt := top 38
abbrev N__law_pool : List Str := ["cell", "size"]
theorem sc__law_pool : FnScope N__law_pool ["cell"] (defScope s__law_pool) := ⟨rfl, rfl, rfl, by decide +kernel, rfl, by decide +kernel, by decide +kernel⟩
def sp__law_pool (K : PySem.W.Frag) : Sp := fun vs H Q _ => ∃ v : Int, vs = [.int v] ∧ ∀ (H' : Hp) p, H p = none → Pool H' p → Kp [] H H' → Q (.ref p) H'
theorem ok__law_pool {f : Addr} {fd : FuncData} (F : FunD K "_law_pool" "_law_pool" (defArgs s__law_pool) (defBody s__law_pool) (defScope s__law_pool) [] [] f fd)
    (mN_abs : mg "abs" = none)
    (mN_int : mg "int" = none) : FnOk P w K mg base CX0 1 f fd ["cell"] (sp__law_pool K) := by
  refine F.ok sc__law_pool (fun vs H Q E h => ?_) (fun cdv A outer s H vs Q E hr h => ⟨_, PSs.nox ((pss_cons (ps_set (i := 1) sc__law_pool.nd rfl (.inl rfl) (pe_callB c_abs (by rfl) mN_abs (by decide +kernel) (pa_cons (pe_callTy c_int (by rfl) mN_int boot_int (pa_cons (pu 0) pa_nil)) pa_nil)))
    (pss_cons (us_if (ut_cmp o_ge (pu 1) (pe_op o_pow pe_int pe_int) (nomark _)) (pss_one (ps_ret (pe_lst (pa_cons (pe_op o_sub (pu 1) (pe_op o_pow pe_int pe_int)) (pa_cons (pe_op o_mod (pu 1) pe_int) (pa_cons pe_int pa_nil)))))) pss_nil)
    (pss_one (ps_ret (pe_lst (pa_cons pe_int (pa_cons (pe_op o_mod (pu 1) pe_int) (pa_cons pe_int pa_nil))))))))), ?_⟩)
  · obtain ⟨v, rfl, _⟩ := h
    rfl
  · obtain ⟨v, rfl, h⟩ := h
    have hz : 0 ≤ (if v < 0 then -v else v) := by split <;> omega
    refine ⟨⟨by decide, by decide, by decide⟩, fun c => ?_, fun c => ?_⟩
    · have c' : (10 : Int) ^ (18 : Int).toNat ≤ (if v < 0 then -v else v) := of_decide_eq_true c
      refine ⟨⟨by decide, by decide, by decide⟩, by decide, sl rfl, fun p hp => ?_⟩
      exact h _ p hp ⟨_, _, _, upd_same, by omega, by omega, by omega, by omega⟩ (Kp.new hp)
    · refine ⟨by decide, sl rfl, fun p hp => ?_⟩
      exact h _ p hp ⟨_, _, _, upd_same, by omega, by omega, by omega, by omega⟩ (Kp.new hp)
abbrev s__law_take : Stmt := top 39
abbrev N__law_take : List Str := ["pool", "limit", "digit", "first", "second", "third"]
theorem sc__law_take : FnScope N__law_take ["pool", "limit"] (defScope s__law_take) := ⟨rfl, rfl, rfl, by decide +kernel, rfl, by decide +kernel, by decide +kernel⟩
def sp__law_take (K : PySem.W.Frag) : Sp := fun vs H Q _ => ∃ (p : Addr) (n : Int), vs = [.ref p, .int n] ∧ Pool H p ∧ (0 < n ∧ n < 1073741824) ∧ ∀ (H' : Hp) (d : Int), 0 ≤ d → d < n → Pool H' p → Kp [p] H H' → Q (.int d) H'
theorem ok__law_take {f : Addr} {fd : FuncData} (F : FunD K "_law_take" "_law_take" (defArgs s__law_take) (defBody s__law_take) (defScope s__law_take) [] [] f fd)
    (mN_int : mg "int" = none) : FnOk P w K mg base CX0 1 f fd ["pool", "limit"] (sp__law_take K) := by
  refine F.ok sc__law_take (fun vs H Q E h => ?_) (fun cdv A outer s H vs Q E hr h => ⟨_, PSs.nox ((pss_cons (ps_asg (pe_op (kAdd K) (pe_ix (kIx K) (pu 0) pe_int (fun _ _ => rfl)) pe_int) (pg_sub (pu 0) pe_int st_list))
    (pss_cons (us_if (ut_cmp o_gt (pe_ix (kIx K) (pu 0) pe_int (fun _ _ => rfl)) pe_int (nomark _)) (pss_cons (ps_set (i := 2) sc__law_take.nd rfl (.inl rfl) (pe_op o_mod (pe_callTy c_int (by rfl) mN_int boot_int (pa_cons (pe_ix (kIx K) (pu 0) pe_int (fun _ _ => rfl)) pa_nil)) (pu 1)))
    (pss_cons (ps_asg (pe_op o_div (pe_callTy c_int (by rfl) mN_int boot_int (pa_cons (pe_ix (kIx K) (pu 0) pe_int (fun _ _ => rfl)) pa_nil)) (pu 1)) (pg_sub (pu 0) pe_int st_list))
    (pss_one (ps_ret (pu 2))))) pss_nil)
    (pss_cons (ps_set (i := 3) sc__law_take.nd rfl (.inl rfl) (pe_op o_mod (pe_callTy c_int (by rfl) mN_int boot_int (pa_cons (pe_op (kAdd K) (pe_op (kAdd K) (pe_op o_mul (pe_ix (kIx K) (pu 0) pe_int (fun _ _ => rfl)) pe_int) (pe_op o_mul (pe_ix (kIx K) (pu 0) pe_int (fun _ _ => rfl)) pe_int)) pe_int) pa_nil)) pe_int))
    (pss_cons (ps_set (i := 4) sc__law_take.nd rfl (.inl rfl) (pe_op o_mod (pe_callTy c_int (by rfl) mN_int boot_int (pa_cons (pe_op (kAdd K) (pe_op o_mul (pu 3) (pu 3)) (pe_op o_div (pu 3) pe_int)) pa_nil)) pe_int))
    (pss_cons (ps_set (i := 5) sc__law_take.nd rfl (.inl rfl) (pe_op o_mod (pe_callTy c_int (by rfl) mN_int boot_int (pa_cons (pe_op o_mul (pu 4) (pe_op (kAdd K) (pe_op (kAdd K) (pe_op o_div (pu 4) pe_int) (pe_ix (kIx K) (pu 0) pe_int (fun _ _ => rfl))) pe_int)) pa_nil)) pe_int))
    (pss_one (ps_ret (pe_op o_mod (pe_op o_div (pu 5) pe_int) (pu 1)))))))))), ?_⟩)
  · obtain ⟨p, n, rfl, _⟩ := h
    rfl
  · obtain ⟨p, n, rfl, h⟩ := h
    obtain ⟨⟨x, b, c, hp, hx, hb, hb2, hc⟩, ⟨n1, n2⟩, hk⟩ := h
    refine ⟨_, _, .inl (SqL.of hp), rfl, _, _, hp, rfl, ?_⟩
    have h1 : upd H p (.lst [.int x, .int b, .int (c + 1)]) p = some (.lst [.int x, .int b, .int (c + 1)]) := upd_same
    refine ⟨_, _, .inl (SqL.of h1), rfl, fun c1 => ?_, fun c1 => ?_⟩
    · have c2 : (0 : Int) < x := of_decide_eq_true c1
      refine ⟨_, _, .inl (SqL.of h1), rfl, n1, _, _, .inl (SqL.of h1), rfl, ⟨n1, n2⟩, _, _, h1, rfl, ?_⟩
      refine hk _ _ (Int.emod_nonneg _ (by omega)) (Int.emod_lt_of_pos _ n1) ⟨_, _, _, upd_same, Int.ediv_nonneg (by omega) (by omega), hb, hb2, by omega⟩ ?_
      exact (Kp.set (by simp)).put (by simp)
    · refine ⟨_, _, .inl (SqL.of h1), rfl, .inr ⟨by decide, by decide⟩, _, _, .inl (SqL.of h1), rfl, .inr ⟨by decide, by decide⟩, by decide, ?_⟩
      generalize e1 : (b * 48271 + (c + 1) * 69621 + 11) % 2147483647 = first
      have f1 : 0 ≤ first := by rw [← e1]; exact Int.emod_nonneg _ (by decide)
      have f2 : first < 2147483647 := by rw [← e1]; exact Int.emod_lt_of_pos _ (by decide)
      refine ⟨.inl ⟨by omega, by omega⟩, ⟨by decide, by decide⟩, by decide, ?_⟩
      generalize e2 : (first * first + first / 4099) % 2147483629 = second
      have g1 : 0 ≤ second := by rw [← e2]; exact Int.emod_nonneg _ (by decide)
      have g2 : second < 2147483629 := by rw [← e2]; exact Int.emod_lt_of_pos _ (by decide)
      refine ⟨⟨by decide, by decide⟩, _, _, .inl (SqL.of h1), rfl, .inl ⟨by omega, by omega⟩, by decide, ⟨by decide, by decide⟩, n1, ?_⟩
      exact hk _ _ (Int.emod_nonneg _ (by omega)) (Int.emod_lt_of_pos _ n1) ⟨_, _, _, h1, hx, hb, hb2, by omega⟩ (Kp.set (by simp))
/-! the law's comparison -/
def sp_same (K : PySem.W.Frag) : Nat → Sp
  | 0 => fun _ _ _ _ => False
  | n + 1 => fun vs H Q _ => ∃ (v u : V) (d e : Dt), vs = [v, u] ∧ (Rp H v d ∧ Rp H u e ∧ e.depth ≤ n ∧ e.wide ∧ ∀ b H', (b = true ↔ d = e) → Kp [] H H' → Q (.bl b) H')
open Classical in
noncomputable def dq (ds es : List Dt) (k : Nat) : Bool := decide (ds[k]? = es[k]?)
theorem dq_iff {ds es : List Dt} {k : Nat} : dq ds es k = true ↔ ds[k]? = es[k]? := by
  classical
  exact decide_eq_true_iff
theorem dq_all {ds es : List Dt} (h : ds.length = es.length) : ((List.range es.length).map (dq ds es)).all id = true ↔ ds = es := by
  constructor
  · intro a
    apply List.ext_getElem? 
    intro i
    by_cases hi : i < es.length
    · have := (List.all_eq_true.mp a) (dq ds es i) (List.mem_map_of_mem (List.mem_range.mpr hi))
      exact dq_iff.mp this
    · rw [List.getElem?_eq_none (by omega), List.getElem?_eq_none (by omega)]
  · intro e
    subst e
    apply List.all_eq_true.mpr
    intro b hb
    obtain ⟨i, _, rfl⟩ := List.mem_map.mp hb
    exact dq_iff.mpr rfl
theorem same_comp {n : Nat} {H : Hp} {Q : VK} {a c : Addr} {xs ys : List V} {ds es : List Dt} (ha : ∀ H', Kp [] H H' → SqL K H' a xs ∨ SqT K H' a xs) (hc : (∃ zs, SqL K H c zs ∧ ys.length = zs.length) ∨ (∃ zs, SqT K H c zs ∧ ys.length = zs.length))
    (hc' : ∀ H', Kp [] H H' → SqL K H' c ys ∨ SqT K H' c ys) (hd : RpL H xs ds) (he : RpL H ys es) (hl : ds.length = es.length) (hz : es.length ≤ 100000) (hn : ∀ d ∈ es, ∃ m, n = m + 1 ∧ d.depth ≤ m) (hw : ∀ d ∈ es, d.wide)
    (h : ∀ b H', (b = true ↔ ds = es) → Kp [] H H' → Q (.bl b) H') :
    tCB (uAll K) (tCons (tLc (iRng1 (tCons (tCB (uLen K) (tCons (uV 1) tNil)) tNil)) (gName 2) tYes
            (uCall (sp_same K n) E0 (tCons (tOp (uIx K) (uV 0) (uV 2)) (tCons (tOp (uIx K) (uV 1) (uV 2)) tNil)))
            [2]) tNil) [some (.ref a), some (.ref c), none, none] H Q := by
  refine ⟨ys.length, ?_, ?_⟩
  · rcases hc with ⟨zs, e1, e2⟩ | ⟨zs, e1, e2⟩
    · exact .inl ⟨zs, e1, e2⟩
    · exact .inr (.inl ⟨zs, e1, e2⟩)
  have el : ys.length = es.length := he.length
  have dl : xs.length = ds.length := hd.length
  refine ⟨_, rfl, by omega, by omega, ?_⟩
  rw [Int.toNat_natCast]
  have FL : ∀ i, (((List.range i).map (dq ds es)).map V.bl).length = i := fun i => by simp
  refine fun D hD => lc_range (LcP [] H D fun i => ((List.range i).map (dq ds es)).map V.bl) (LcP.start hD rfl) (fun i H1 hi p => ?_) fun H1 p => ?_
  · have hi2 : i < es.length := by omega
    have hi3 : i < ds.length := by omega
    have k1 : Kp [] H H1 := p.2
    obtain ⟨x, x1, x2⟩ := hd.get (List.getElem?_eq_getElem hi3)
    obtain ⟨y, y1, y2⟩ := he.get (List.getElem?_eq_getElem hi2)
    obtain ⟨m, rfl, hm⟩ := hn _ (List.getElem_mem hi2)
    have ei : (0 + (i : Int)) = i := by omega
    rw [ei]
    refine ⟨rfl, xs, x, ha _ k1, atI_nat x1, ys, y, hc' _ k1, atI_nat y1, x, y, ds[i], es[i], rfl, x2.keep k1, y2.keep k1, hm, hw _ (List.getElem_mem hi2), fun b H' hb k' => ?_⟩
    have eb : b = dq ds es i := by
      rw [Bool.eq_iff_iff, hb, dq_iff, List.getElem?_eq_getElem hi3, List.getElem?_eq_getElem hi2, Option.some_inj]
    refine p.step hD k' (by simp) ?_ ?_
    · rw [eb]; simp [List.range_succ]
    · rw [FL]; exact Nat.lt_of_lt_of_le (show i < 100001 by omega) (sl rfl)
  · refine ⟨(List.range es.length).map (dq ds es), SqL.of (by rw [← el]; exact p.1), ?_⟩
    exact h _ _ (dq_all hl) p.2
abbrev s__law_same : Stmt := top 40
abbrev N__law_same : List Str := ["actual", "expected", "k", "key"]
theorem sc__law_same : FnScope N__law_same ["actual", "expected"] (defScope s__law_same) := ⟨rfl, rfl, rfl, by decide +kernel, rfl, by decide +kernel, by decide +kernel⟩

theorem ok__law_same {n : Nat} {f : Addr} {fd : FuncData} (F : FunD K "_law_same" "_law_same" (defArgs s__law_same) (defBody s__law_same) (defScope s__law_same) [] [] f fd)
    (mN_isinstance : mg "isinstance" = none)
    (mN_tuple : mg "tuple" = none)
    (mN_len : mg "len" = none)
    (mN_all : mg "all" = none)
    (mN_range : mg "range" = none)
    (C__law_same : Cal P w K mg base CX0 n "_law_same" ["actual", "expected"] (sp_same K n))
    (mN_list : mg "list" = none)
    (mN_dict : mg "dict" = none)
    (mN_int : mg "int" = none)
    (mN_bool : mg "bool" = none)
    (mN_str : mg "str" = none) : FnOk P w K mg base CX0 (n + 1) f fd ["actual", "expected"] (sp_same K (n + 1)) := by
  refine F.ok sc__law_same (fun vs H Q E h => ?_) (fun cdv A outer s H vs Q E hr h => ⟨_, PSs.nox ((pss_cons (us_if (ut_val (pe_callB (kIsi K) (by rfl) mN_isinstance (by decide +kernel) (pa_cons (pu 1) (pa_cons (pe_bltn (v := .ty "tuple") (by rfl) mN_tuple (by decide +kernel) rfl) pa_nil)))) (pss_cons (us_if (PW.pt (uw_or (pt_not (ut_val (pe_callB (kIsi K) (by rfl) mN_isinstance (by decide +kernel) (pa_cons (pu 0) (pa_cons (pe_bltn (v := .ty "tuple") (by rfl) mN_tuple (by decide +kernel) rfl) pa_nil))))) (pw_or1 (ut_cmp (kNe K hr.units) (pe_callB (kLen K) (by rfl) mN_len boot_len (pa_cons (pu 0) pa_nil)) (pe_callB (kLen K) (by rfl) mN_len boot_len (pa_cons (pu 1) pa_nil)) (nomark _))))) (pss_one (ps_ret pe_bl)) pss_nil)
    (pss_one (ps_ret (pe_callB (kAll K rfl) (by rfl) mN_all (by decide +kernel) (pa_cons (pe_lc (own := [("k", 2)]) rfl sc__law_same.nd (pi_range1 (by rfl) mN_range (pa_cons (pe_callB (kLen K) (by rfl) mN_len boot_len (pa_cons (pu 1) pa_nil)) pa_nil)) (blkOk_by (N := N__law_same) (sc := defScope s__law_same) (by decide +kernel)) (fun _ _ _ _ _ => (pg_name (i := 2) sc__law_same.nd rfl (.inl rfl))) (fun _ _ _ _ _ => pts_nil) (fun _ _ _ _ _ => (ue_call (E := E0) C__law_same hr rfl pass0 (pa_cons (pe_ix (kIx K) (pu 0) (pu 2) (fun _ _ => rfl)) (pa_cons (pe_ix (kIx K) (pu 1) (pu 2) (fun _ _ => rfl)) pa_nil))))) pa_nil))))) pss_nil)
    (pss_cons (us_if (ut_val (pe_callB (kIsi K) (by rfl) mN_isinstance (by decide +kernel) (pa_cons (pu 1) (pa_cons (pe_bltn (v := .ty "list") (by rfl) mN_list (by decide +kernel) rfl) pa_nil)))) (pss_cons (us_if (PW.pt (uw_or (pt_not (ut_val (pe_callB (kIsi K) (by rfl) mN_isinstance (by decide +kernel) (pa_cons (pu 0) (pa_cons (pe_bltn (v := .ty "list") (by rfl) mN_list (by decide +kernel) rfl) pa_nil))))) (pw_or1 (ut_cmp (kNe K hr.units) (pe_callB (kLen K) (by rfl) mN_len boot_len (pa_cons (pu 0) pa_nil)) (pe_callB (kLen K) (by rfl) mN_len boot_len (pa_cons (pu 1) pa_nil)) (nomark _))))) (pss_one (ps_ret pe_bl)) pss_nil)
    (pss_one (ps_ret (pe_callB (kAll K rfl) (by rfl) mN_all (by decide +kernel) (pa_cons (pe_lc (own := [("k", 2)]) rfl sc__law_same.nd (pi_range1 (by rfl) mN_range (pa_cons (pe_callB (kLen K) (by rfl) mN_len boot_len (pa_cons (pu 1) pa_nil)) pa_nil)) (blkOk_by (N := N__law_same) (sc := defScope s__law_same) (by decide +kernel)) (fun _ _ _ _ _ => (pg_name (i := 2) sc__law_same.nd rfl (.inl rfl))) (fun _ _ _ _ _ => pts_nil) (fun _ _ _ _ _ => (ue_call (E := E0) C__law_same hr rfl pass0 (pa_cons (pe_ix (kIx K) (pu 0) (pu 2) (fun _ _ => rfl)) (pa_cons (pe_ix (kIx K) (pu 1) (pu 2) (fun _ _ => rfl)) pa_nil))))) pa_nil))))) pss_nil)
    (pss_cons (us_if (ut_val (pe_callB (kIsi K) (by rfl) mN_isinstance (by decide +kernel) (pa_cons (pu 1) (pa_cons (pe_bltn (v := .ty "dict") (by rfl) mN_dict (by decide +kernel) rfl) pa_nil)))) (pss_cons (us_if (PW.pt (uw_or (pt_not (ut_val (pe_callB (kIsi K) (by rfl) mN_isinstance (by decide +kernel) (pa_cons (pu 0) (pa_cons (pe_bltn (v := .ty "dict") (by rfl) mN_dict (by decide +kernel) rfl) pa_nil))))) (pw_or1 (pt_not (ut_val (ue_call (E := E0) C__law_same hr rfl pass0 (pa_cons (pe_callTy (kList K) (by rfl) mN_list (by decide +kernel) (pa_cons (pu 0) pa_nil)) (pa_cons (pe_callTy (kList K) (by rfl) mN_list (by decide +kernel) (pa_cons (pu 1) pa_nil)) pa_nil)))))))) (pss_one (ps_ret pe_bl)) pss_nil)
    (pss_one (ps_ret (pe_callB (kAll K rfl) (by rfl) mN_all (by decide +kernel) (pa_cons (pe_lc (own := [("key", 3)]) rfl sc__law_same.nd (kiList K (pe_callTy (kList K) (by rfl) mN_list (by decide +kernel) (pa_cons (pu 1) pa_nil))) (blkOk_by (N := N__law_same) (sc := defScope s__law_same) (by decide +kernel)) (fun _ _ _ _ _ => (pg_name (i := 3) sc__law_same.nd rfl (.inl rfl))) (fun _ _ _ _ _ => pts_nil) (fun _ _ _ _ _ => (ue_call (E := E0) C__law_same hr rfl pass0 (pa_cons (pe_ix (kIx K) (pu 0) (pu 3) (fun _ _ => rfl)) (pa_cons (pe_ix (kIx K) (pu 1) (pu 3) (fun _ _ => rfl)) pa_nil))))) pa_nil))))) pss_nil)
    (pss_cons (us_if (ut_cmp o_isN (pu 1) pe_non (nomark _)) (pss_one (ps_ret (pe_cmpR o_isN (pu 0) pe_non (nomark _)))) pss_nil)
    (pss_cons (us_if (ut_cmp o_isB (pu 1) pe_bl (nomark _)) (pss_one (ps_ret (pe_cmpR o_isB (pu 0) pe_bl (nomark _)))) pss_nil)
    (pss_cons (us_if (ut_cmp o_isB (pu 1) pe_bl (nomark _)) (pss_one (ps_ret (pe_cmpR o_isB (pu 0) pe_bl (nomark _)))) pss_nil)
    (pss_cons (us_if (ut_val (pe_callB (kIsi K) (by rfl) mN_isinstance (by decide +kernel) (pa_cons (pu 1) (pa_cons (pe_bltn (v := .ty "int") (by rfl) mN_int (by decide +kernel) rfl) pa_nil)))) (pss_one (ps_ret (ue_and (pe_callB (kIsi K) (by rfl) mN_isinstance (by decide +kernel) (pa_cons (pu 0) (pa_cons (pe_bltn (v := .ty "int") (by rfl) mN_int (by decide +kernel) rfl) pa_nil))) (ue_and (ue_not (pe_callB (kIsi K) (by rfl) mN_isinstance (by decide +kernel) (pa_cons (pu 0) (pa_cons (pe_bltn (v := .ty "bool") (by rfl) mN_bool (by decide +kernel) rfl) pa_nil)))) (pe_one (pe_cmpR (kEq K hr.units) (pu 0) (pu 1) (nomark _))))))) pss_nil)
    (pss_one (ps_ret (ue_and (pe_callB (kIsi K) (by rfl) mN_isinstance (by decide +kernel) (pa_cons (pu 0) (pa_cons (pe_bltn (v := .ty "str") (by rfl) mN_str (by decide +kernel) rfl) pa_nil))) (pe_one (pe_cmpR (kEq K hr.units) (pu 0) (pu 1) (nomark _)))))))))))))), ?_⟩)
  · obtain ⟨v, u, d, e, rfl, _⟩ := h
    rfl
  · obtain ⟨v, u, d, e, rfl, h⟩ := h
    obtain ⟨hd, he, hn, hw, hk⟩ := h
    refine ⟨_, _, he.ty, e.kit _ (by simp), fun c => ?_, fun c0 => ?_⟩
    · cases he <;> simp [Dt.isK, Dt.kind] at c
      rename_i y0 ys es hy he
      refine ⟨_, _, hd.ty, d.kit _ (by simp), fun c1 => brT (hk _ _ ?_ Kp.refl), fun c1 => ?_⟩
      · simp; intro e; subst e; simp [Dt.isK, Dt.kind] at c1
      cases hd <;> simp [Dt.isK, Dt.kind] at c1
      rename_i x0 xs ds hx hd
      refine ⟨_, .inr (.inl ⟨_, SqT.of hx, rfl⟩), _, .inr (.inl ⟨_, SqT.of hy, rfl⟩), rfl, fun c1 => ?_, fun c1 => ?_⟩
      · refine hk _ _ ?_ Kp.refl
        simp [eqB_dec, hd.length, he.length] at c1
        simp; intro e; subst e; exact c1 rfl
      · simp [eqB_dec, hd.length, he.length] at c1
        refine same_comp (fun H' k => .inr (SqT.of (k.get0 hx))) (.inr ⟨_, SqT.of hy, rfl⟩) (fun H' k => .inr (SqT.of (k.get0 hy))) hd he (by omega) hw.1 (fun x hx => ?_) (fun x hx => wide_mem hx hw.2) fun b H' hb k => hk b H' (by rw [hb]; simp) k
        have := depth_mem hx
        simp [Dt.depth] at hn
        exact ⟨n - 1, by omega, by omega⟩
    · refine ⟨_, _, he.ty, e.kit _ (by simp), fun c => ?_, fun c' => ?_⟩
      · cases he <;> simp [Dt.isK, Dt.kind] at c
        rename_i ys es hy he
        refine ⟨_, _, hd.ty, d.kit _ (by simp), fun c1 => brT (hk _ _ ?_ Kp.refl), fun c1 => ?_⟩
        · simp; intro e; subst e; simp [Dt.isK, Dt.kind] at c1
        cases hd <;> simp [Dt.isK, Dt.kind] at c1
        rename_i xs ds hx hd
        refine ⟨_, .inl ⟨_, SqL.of hx, rfl⟩, _, .inl ⟨_, SqL.of hy, rfl⟩, rfl, fun c1 => ?_, fun c1 => ?_⟩
        · refine hk _ _ ?_ Kp.refl
          simp [eqB_dec, hd.length, he.length] at c1
          simp; intro e; subst e; exact c1 rfl
        · simp [eqB_dec, hd.length, he.length] at c1
          refine same_comp (fun H' k => .inl (SqL.of (k.get0 hx))) (.inl ⟨_, SqL.of hy, rfl⟩) (fun H' k => .inl (SqL.of (k.get0 hy))) hd he (by omega) hw.1 (fun x hx => ?_) (fun x hx => wide_mem hx hw.2) fun b H' hb k => hk b H' (by rw [hb]; simp) k
          have := depth_mem hx
          simp [Dt.depth] at hn
          exact ⟨n - 1, by omega, by omega⟩
      · refine ⟨_, _, he.ty, e.kit _ (by simp), fun c => ?_, fun _ => ?_⟩
        · cases he <;> simp [Dt.isK, Dt.kind] at c
        cases he with
        | non => 
          refine ⟨rfl, brT ⟨rfl, hk _ _ ?_ Kp.refl⟩⟩
          cases hd <;> simp [isNonV]
        | bl b =>
          cases b with
          | true =>
            refine ⟨rfl, brF (brT (hk _ _ ?_ Kp.refl))⟩
            cases hd <;> simp [isBl]
          | false =>
            refine ⟨rfl, brF (brF (brT (hk _ _ ?_ Kp.refl)))⟩
            cases hd <;> simp [isBl]
        | int i =>
          refine ⟨rfl, brF (brF (brF ⟨_, _, .base (.int i), rfl, brT ⟨_, _, hd.ty, d.kit _ (by simp), fun c => ?_, fun c => hk _ _ ?_ Kp.refl⟩⟩))⟩
          · refine ⟨_, _, hd.ty, d.kit _ (by simp), fun c => ?_, fun c => hk _ _ ?_ Kp.refl⟩
            · clear hn hw
              cases hd <;> simp [Dt.isK, Dt.kind] at c <;> simp_all [Dt.isK, Dt.kind]
              refine ⟨rfl, ?_⟩
              cases e : eqB _ _ with
              | true => exact hk.2 _ (by simpa [eqB_dec] using e) Kp.refl
              | false => exact hk.1 _ (by simpa [eqB_dec] using e) Kp.refl
            · cases hd <;> simp [Dt.isK, Dt.kind] at *
          · cases hd <;> simp [Dt.isK, Dt.kind] at *
        | str i =>
          refine ⟨rfl, brF (brF (brF ⟨_, _, .base (.str i), rfl, brF ⟨_, _, hd.ty, d.kit _ (by simp), fun c => ?_, fun c => hk _ _ ?_ Kp.refl⟩⟩))⟩
          · cases hd <;> simp [Dt.isK, Dt.kind] at *
            refine ⟨rfl, ?_⟩
            cases e : eqB _ _ with
            | true => exact hk.2 _ (by simpa [eqB_dec] using e) Kp.refl
            | false => exact hk.1 _ (by simpa [eqB_dec] using e) Kp.refl
          · cases hd <;> simp [Dt.isK, Dt.kind] at *
        | tup hy he => simp_all [Dt.isK, Dt.kind]
        | lst hy he => simp_all [Dt.isK, Dt.kind]
/-! words -/
def LA : Str := "abcdefghijklmnopqrstuvwxyz"
def DI : Str := "0123456789"
def AN : Str := "abcdefghijklmnopqrstuvwxyz0123456789"
def inS (s : Str) (c : Nat) : Bool := decide (c ∈ s.cps.toList)
def nameB (z : Str) : Bool := !decide (z = ("street" : Str)) && (decide (1 ≤ z.length) && (decide (z.length ≤ 8) && (z.cps.toList.head?.any (inS LA) && z.cps.toList.all fun c => inS LA c || inS DI c)))
def numB (z : Str) : Bool := decide (1 ≤ z.length) && (decide (z.length ≤ 6) && (!(decide (1 < z.length) && decide (z.cps.toList.head? = some 48)) && z.cps.toList.all (inS DI)))
theorem head_at {z : Str} (h : 1 ≤ z.length) : ∃ c, z.cps.toList.head? = some c ∧ z.cps.toList[0]? = some c := by
  rw [len_cps] at h
  cases e : z.cps.toList with
  | nil => rw [e] at h; simp at h
  | cons c l => exact ⟨c, rfl, rfl⟩
theorem one_str (c : Nat) : decide ((⟨#[c]⟩ : Str) = ("0" : Str)) = decide (c = 48) := by
  rw [decide_eq_decide]
  constructor
  · intro h
    have := congrArg (fun z : Str => z.cps.toList) h
    have e : (("0" : Str)).cps.toList = [48] := by decide +kernel
    rw [e] at this
    simpa using this
  · intro h; subst h; decide +kernel
abbrev s_is_name : Stmt := top 6
abbrev N_is_name : List Str := ["word", "sign"]
theorem sc_is_name : FnScope N_is_name ["word"] (defScope s_is_name) := ⟨rfl, rfl, rfl, by decide +kernel, rfl, by decide +kernel, by decide +kernel⟩
def sp_is_name (K : PySem.W.Frag) : Sp := fun vs H Q _ => ∃ z : Str, vs = [.str z] ∧ (z.length ≤ 2000000 ∧ ∀ H', Kp [] H H' → Q (.bl (nameB z)) H')
theorem ok_is_name {f : Addr} {fd : FuncData} (F : FunD K "is_name" "is_name" (defArgs s_is_name) (defBody s_is_name) (defScope s_is_name) [] [] f fd)
    (mN_len : mg "len" = none)
    (mc_LONGEST_NAME : ∃ t, mg "LONGEST_NAME" = some (.int 8 t))
    (mc_STREET : ∃ t, mg "STREET" = some (.str "street" t))
    (mc_LETTERS : ∃ t, mg "LETTERS" = some (.str "abcdefghijklmnopqrstuvwxyz" t))
    (mN_all : mg "all" = none)
    (mc_DIGITS : ∃ t, mg "DIGITS" = some (.str "0123456789" t)) : FnOk P w K mg base CX0 1 f fd ["word"] (sp_is_name K) := by
  refine F.ok sc_is_name (fun vs H Q E h => ?_) (fun cdv A outer s H vs Q E hr h => ⟨_, PSs.nox ((pss_cons (us_if (PW.pt (uw_or (ut_cmp (kEq K hr.units) (pu 0) (pg_c (v := .str "street") (cS mc_STREET)) (nomark _)) (pw_or1 (pt_not (ut_chainU o_le o_le pe_int (pe_callB (kLen K) (by rfl) mN_len boot_len (pa_cons (pu 0) pa_nil)) (pg_c (v := .int 8) (cI mc_LONGEST_NAME))))))) (pss_one (ps_ret pe_bl)) pss_nil)
    (pss_cons (us_if (ut_cmp (kNotIn K) (pe_ix (kIx K) (pu 0) pe_int (fun _ _ => rfl)) (pg_c (v := .str "abcdefghijklmnopqrstuvwxyz") (cS mc_LETTERS)) (by rfl)) (pss_one (ps_ret pe_bl)) pss_nil)
    (pss_one (ps_ret (pe_callB (kAll K rfl) (by rfl) mN_all (by decide +kernel) (pa_cons (pe_lc (own := [("sign", 1)]) rfl sc_is_name.nd (pi_str (pu 0)) (blkOk_by (N := N_is_name) (sc := defScope s_is_name) (by decide +kernel)) (fun _ _ _ _ _ => (pg_name (i := 1) sc_is_name.nd rfl (.inl rfl))) (fun _ _ _ _ _ => pts_nil) (fun _ _ _ _ _ => (ue_or (pe_cmpR (kIn K) (pu 1) (pg_c (v := .str "abcdefghijklmnopqrstuvwxyz") (cS mc_LETTERS)) (by rfl)) (pe_one (pe_cmpR (kIn K) (pu 1) (pg_c (v := .str "0123456789") (cS mc_DIGITS)) (by rfl)))))) pa_nil))))))), ?_⟩)
  · obtain ⟨z, rfl, _⟩ := h
    rfl
  · obtain ⟨z, rfl, h⟩ := h
    obtain ⟨hz, hk0⟩ := h
    have hk : ∀ b H', nameB z = b → Kp [] H H' → Q (.bl b) H' := fun b H' e k => e ▸ hk0 H' k
    refine ⟨rfl, fun c => brT (hk _ _ ?_ Kp.refl), fun c => ?_⟩
    · simp [eqB] at c; simp [nameB, c]
    have c1 : z ≠ ("street" : Str) := by simpa [eqB] using c
    have zs : z.length ≤ sizeLine := Nat.le_trans hz (sl (by decide))
    have no1 : ¬ (1 : Int) ≤ z.length → nameB z = false := fun h => by
      have h : ¬ 1 ≤ z.length := by omega
      simp [nameB, h]
    have no8 : ¬ (z.length : Int) ≤ 8 → nameB z = false := fun h => by
      have h : ¬ z.length ≤ 8 := by omega
      simp [nameB, h]
    refine ⟨zs, fun c2 => ⟨fun c3 => hk _ _ (no8 (by simpa using c3)) Kp.refl, fun c3 => ?_⟩, fun c2 => brT (hk _ _ (no1 (by simpa using c2)) Kp.refl)⟩
    have c2 : (1 : Int) ≤ z.length := of_decide_eq_true c2
    have c3 : (z.length : Int) ≤ 8 := by simpa using c3
    obtain ⟨d, hd1, hd2⟩ := head_at (z := z) (by omega)
    refine ⟨d, zs, atI_nat (j := 0) hd2, d, rfl, fun c4 => ?_, fun c4 => ?_⟩
    · refine hk _ _ ?_ Kp.refl
      have c4 : inS LA d = false := by simpa [inS, LA] using c4
      simp [nameB, hd1, c4]
    · have c4 : inS LA d = true := by simpa [inS, LA] using c4
      refine ⟨z, rfl, fun D hD => lc_str (LcP [] H D fun i => ((z.cps.toList.take i).map fun c => inS LA c || inS DI c).map V.bl) (LcP.start hD rfl) (fun i c H1 hi p => ?_) fun H1 p => ?_⟩
      · have fin : ∀ b, b = (inS LA c || inS DI c) → ∃ acc, H1 D = some (.lst acc) ∧ acc.length < sizeLine ∧ LcP [] H D (fun i => ((z.cps.toList.take i).map fun c => inS LA c || inS DI c).map V.bl) (i + 1) (upd H1 D (.lst (acc ++ [.bl b]))) := fun b e => by
          refine p.step hD Kp.refl (by simp) ?_ ?_
          · rw [e, take_one hi]; simp
          · have := cps_lt hi
            simp [← len_cps]
            exact Nat.lt_of_le_of_lt (Nat.min_le_left _ _) (Nat.lt_of_lt_of_le this zs)
        refine ⟨rfl, c, rfl, fun c5 => ?_, fun c5 => ⟨c, rfl, ?_⟩⟩
        · exact fin true (by rw [show inS LA c = true from c5]; rfl)
        · exact fin _ (by rw [show inS LA c = false from c5]; rfl)
      · refine ⟨_, SqL.of p.1, hk _ _ ?_ p.2⟩
        rw [all_str rfl]
        have c2' : 1 ≤ z.length := by omega
        have c3' : z.length ≤ 8 := by omega
        simp [nameB, c1, c2', c3', hd1, c4]
abbrev s_is_number : Stmt := top 7
abbrev N_is_number : List Str := ["word", "sign"]
theorem sc_is_number : FnScope N_is_number ["word"] (defScope s_is_number) := ⟨rfl, rfl, rfl, by decide +kernel, rfl, by decide +kernel, by decide +kernel⟩
def sp_is_number (K : PySem.W.Frag) : Sp := fun vs H Q _ => ∃ z : Str, vs = [.str z] ∧ (z.length ≤ 2000000 ∧ ∀ H', Kp [] H H' → Q (.bl (numB z)) H')
theorem ok_is_number {f : Addr} {fd : FuncData} (F : FunD K "is_number" "is_number" (defArgs s_is_number) (defBody s_is_number) (defScope s_is_number) [] [] f fd)
    (mN_len : mg "len" = none)
    (mc_LONGEST_NUMBER : ∃ t, mg "LONGEST_NUMBER" = some (.int 6 t))
    (mN_all : mg "all" = none)
    (mc_DIGITS : ∃ t, mg "DIGITS" = some (.str "0123456789" t)) : FnOk P w K mg base CX0 1 f fd ["word"] (sp_is_number K) := by
  refine F.ok sc_is_number (fun vs H Q E h => ?_) (fun cdv A outer s H vs Q E hr h => ⟨_, PSs.nox ((pss_cons (us_if (pt_not (ut_chainU o_le o_le pe_int (pe_callB (kLen K) (by rfl) mN_len boot_len (pa_cons (pu 0) pa_nil)) (pg_c (v := .int 6) (cI mc_LONGEST_NUMBER)))) (pss_one (ps_ret pe_bl)) pss_nil)
    (pss_cons (us_if (PW.pt (uw_and (ut_cmp (kEq K hr.units) (pe_ix (kIx K) (pu 0) pe_int (fun _ _ => rfl)) pe_str (nomark _)) (pw_and1 (ut_cmp o_gt (pe_callB (kLen K) (by rfl) mN_len boot_len (pa_cons (pu 0) pa_nil)) pe_int (nomark _))))) (pss_one (ps_ret pe_bl)) pss_nil)
    (pss_one (ps_ret (pe_callB (kAll K rfl) (by rfl) mN_all (by decide +kernel) (pa_cons (pe_lc (own := [("sign", 1)]) rfl sc_is_number.nd (pi_str (pu 0)) (blkOk_by (N := N_is_number) (sc := defScope s_is_number) (by decide +kernel)) (fun _ _ _ _ _ => (pg_name (i := 1) sc_is_number.nd rfl (.inl rfl))) (fun _ _ _ _ _ => pts_nil) (fun _ _ _ _ _ => (pe_cmpR (kIn K) (pu 1) (pg_c (v := .str "0123456789") (cS mc_DIGITS)) (by rfl)))) pa_nil))))))), ?_⟩)
  · obtain ⟨z, rfl, _⟩ := h
    rfl
  · obtain ⟨z, rfl, h⟩ := h
    obtain ⟨hz, hk0⟩ := h
    have hk : ∀ b H', numB z = b → Kp [] H H' → Q (.bl b) H' := fun b H' e k => e ▸ hk0 H' k
    have zs : z.length ≤ sizeLine := Nat.le_trans hz (sl (by decide))
    have no1 : ¬ (1 : Int) ≤ z.length → numB z = false := fun h => by
      have h : ¬ 1 ≤ z.length := by omega
      simp [numB, h]
    have no8 : ¬ (z.length : Int) ≤ 6 → numB z = false := fun h => by
      have h : ¬ z.length ≤ 6 := by omega
      simp [numB, h]
    refine ⟨zs, fun c2 => ⟨fun c3 => hk _ _ (no8 (by simpa using c3)) Kp.refl, fun c3 => ?_⟩, fun c2 => brT (hk _ _ (no1 (by simpa using c2)) Kp.refl)⟩
    have c2 : (1 : Int) ≤ z.length := of_decide_eq_true c2
    have c3 : (z.length : Int) ≤ 6 := by simpa using c3
    have c2' : 1 ≤ z.length := by omega
    have c3' : z.length ≤ 6 := by omega
    obtain ⟨d, hd1, hd2⟩ := head_at (z := z) (by omega)
    have rest : numB z = (!(decide (1 < z.length) && decide (d = 48)) && z.cps.toList.all (inS DI)) := by simp [numB, c2', c3', hd1]
    have go : (!(decide (1 < z.length) && decide (d = 48))) = true → ∀ D, H D = none → ∃ W : Nat → Nat → Hp → Prop, _ := fun c4 D hD => lc_str (z := z) (g := gName 1) (tt := tYes) (te := tOp (uIn K) (uV 1) (tC (.str "0123456789"))) (vs := [1]) (σ := L2.start N_is_number [.str z]) (Qd := fun H1 => uAll K [.ref D] H1 Q) (LcP [] H D fun i => ((z.cps.toList.take i).map fun c => inS DI c).map V.bl) (LcP.start hD rfl) (fun i c H1 hi p => by
        refine ⟨rfl, c, rfl, ?_⟩
        refine p.step hD Kp.refl (by simp) ?_ ?_
        · rw [take_one hi]; simp [inS, DI]
        · have := cps_lt hi
          simp [← len_cps]
          exact Nat.lt_of_le_of_lt (Nat.min_le_left _ _) (Nat.lt_of_lt_of_le this zs)) fun H1 p => by
        refine ⟨_, SqL.of p.1, hk _ _ ?_ p.2⟩
        rw [all_str rfl, rest, c4]
        rfl
    refine ⟨d, zs, atI_nat (j := 0) hd2, rfl, fun c4 => ⟨zs, fun c5 => ?_, fun c5 => ?_⟩, fun c4 => ?_⟩
    · have c4 : d = 48 := by simpa [eqB, one_str] using c4
      have c5 : (1 : Int) < z.length := of_decide_eq_true c5
      have c5 : 1 < z.length := by omega
      exact hk _ _ (by rw [rest]; simp [c4, c5]) Kp.refl
    · have c5 : ¬ (1 : Int) < z.length := of_decide_eq_false c5
      have c5 : ¬ 1 < z.length := by omega
      exact ⟨z, rfl, go (by simp [c5])⟩
    · have c4 : ¬ d = 48 := by simpa [eqB, one_str] using c4
      exact brF ⟨z, rfl, go (by simp [c4])⟩
theorem an_split (c : Nat) : inS AN c = (inS LA c || inS DI c) := by
  have e : AN.cps.toList = LA.cps.toList ++ DI.cps.toList := by decide +kernel
  simp [inS, e, ← Array.mem_toList_iff]
abbrev s__law_is_title : Stmt := top 46
abbrev N__law_is_title : List Str := ["word", "sign"]
theorem sc__law_is_title : FnScope N__law_is_title ["word"] (defScope s__law_is_title) := ⟨rfl, rfl, rfl, by decide +kernel, rfl, by decide +kernel, by decide +kernel⟩
def sp__law_is_title (K : PySem.W.Frag) : Sp := fun vs H Q _ => ∃ z : Str, vs = [.str z] ∧ (z.length ≤ 2000000 ∧ Q (.bl (nameB z)) H)
theorem ok__law_is_title {f : Addr} {fd : FuncData} (F : FunD K "_law_is_title" "_law_is_title" (defArgs s__law_is_title) (defBody s__law_is_title) (defScope s__law_is_title) [] [] f fd)
    (mN_len : mg "len" = none) : FnOk P w K mg base CX0 1 f fd ["word"] (sp__law_is_title K) := by
  refine F.ok sc__law_is_title (fun vs H Q E h => ?_) (fun cdv A outer s H vs Q E hr h => ⟨_, PSs.nox ((pss_cons (us_if (PW.pt (uw_or (ut_cmp o_lt (pe_callB (kLen K) (by rfl) mN_len boot_len (pa_cons (pu 0) pa_nil)) pe_int (nomark _)) (uw_or (ut_cmp o_gt (pe_callB (kLen K) (by rfl) mN_len boot_len (pa_cons (pu 0) pa_nil)) pe_int (nomark _)) (pw_or1 (ut_cmp (kEq K hr.units) (pu 0) pe_str (nomark _)))))) (pss_one (ps_ret pe_bl)) pss_nil)
    (pss_cons (us_if (ut_cmp (kNotIn K) (pe_ix (kIx K) (pu 0) pe_int (fun _ _ => rfl)) pe_str (by rfl)) (pss_one (ps_ret pe_bl)) pss_nil)
    (pss_cons (ps_for PassesOwn.never rfl (pi_str (pu 0)) (pg_name (i := 1) sc__law_is_title.nd rfl (.inl rfl)) (pss_one (us_if (ut_cmp (kNotIn K) (pu 1) pe_str (by rfl)) (pss_one (ps_ret pe_bl)) pss_nil)))
    (pss_one (ps_ret pe_bl)))))), ?_⟩)
  · obtain ⟨z, rfl, _⟩ := h
    rfl
  · obtain ⟨z, rfl, h⟩ := h
    obtain ⟨hz, hk0⟩ := h
    have hk : ∀ b, nameB z = b → Q (.bl b) H := fun b e => e ▸ hk0
    have zs : z.length ≤ sizeLine := Nat.le_trans hz (sl (by decide))
    refine ⟨zs, fun c2 => brT (hk _ ?_), fun c2 => ⟨zs, fun c3 => brT (hk _ ?_), fun c3 => ⟨rfl, fun c1 => hk _ ?_, fun c1 => ?_⟩⟩⟩
    · have c2 : (z.length : Int) < 1 := of_decide_eq_true c2
      have c2 : ¬ 1 ≤ z.length := by omega
      simp [nameB, c2]
    · have c3 : (8 : Int) < z.length := of_decide_eq_true c3
      have c3 : ¬ z.length ≤ 8 := by omega
      simp [nameB, c3]
    · simp [eqB] at c1; simp [nameB, c1]
    have c2 : ¬ (z.length : Int) < 1 := of_decide_eq_false c2
    have c3 : ¬ (8 : Int) < z.length := of_decide_eq_false c3
    have c2' : 1 ≤ z.length := by omega
    have c3' : z.length ≤ 8 := by omega
    have c1 : z ≠ ("street" : Str) := by simpa [eqB] using c1
    obtain ⟨d, hd1, hd2⟩ := head_at (z := z) (by omega)
    refine ⟨d, zs, atI_nat (j := 0) hd2, d, rfl, fun c4 => hk _ ?_, fun c4 => ?_⟩
    · have c4 : inS LA d = false := by simpa [inS, LA] using c4
      simp [nameB, hd1, c4]
    · have c4 : inS LA d = true := by simpa [inS, LA] using c4
      refine ⟨z, rfl, for_str (fun i σ H1 => (∃ o, σ = [some (.str z), o]) ∧ H1 = H ∧ (z.cps.toList.take i).all (inS AN) = true) ⟨⟨_, rfl⟩, rfl, rfl⟩ (fun i c σ H1 hi p => ?_) fun σ H1 p => ?_⟩
      · obtain ⟨⟨o, rfl⟩, rfl, p⟩ := p
        refine ⟨c, rfl, fun c5 => hk _ ?_, fun c5 => ⟨⟨_, rfl⟩, rfl, ?_⟩⟩
        · have c5 : inS AN c = false := by simpa [inS, AN] using c5
          have : z.cps.toList.all (fun c => inS LA c || inS DI c) = false := by
            rw [List.all_eq_false]
            exact ⟨c, List.mem_of_getElem? hi, by rw [← an_split, c5]; simp⟩
          simp only [nameB, this, Bool.and_false]
        · have c5 : inS AN c = true := by simpa [inS, AN] using c5
          rw [take_one hi]; simp at p; simp [p, c5]
          intro a b; exact p a b
      · obtain ⟨⟨o, rfl⟩, rfl, p⟩ := p
        refine hk _ ?_
        rw [len_cps, List.take_length] at p
        have e : (inS AN) = fun c => inS LA c || inS DI c := funext an_split
        rw [e] at p
        simp [nameB, c1, c2', c3', hd1, c4]
        simpa using p
abbrev s__law_is_number : Stmt := top 47
abbrev N__law_is_number : List Str := ["word", "sign"]
theorem sc__law_is_number : FnScope N__law_is_number ["word"] (defScope s__law_is_number) := ⟨rfl, rfl, rfl, by decide +kernel, rfl, by decide +kernel, by decide +kernel⟩
def sp__law_is_number (K : PySem.W.Frag) : Sp := fun vs H Q _ => ∃ z : Str, vs = [.str z] ∧ (z.length ≤ 2000000 ∧ Q (.bl (numB z)) H)
theorem ok__law_is_number {f : Addr} {fd : FuncData} (F : FunD K "_law_is_number" "_law_is_number" (defArgs s__law_is_number) (defBody s__law_is_number) (defScope s__law_is_number) [] [] f fd)
    (mN_len : mg "len" = none) : FnOk P w K mg base CX0 1 f fd ["word"] (sp__law_is_number K) := by
  refine F.ok sc__law_is_number (fun vs H Q E h => ?_) (fun cdv A outer s H vs Q E hr h => ⟨_, PSs.nox ((pss_cons (us_if (PW.pt (uw_or (ut_cmp o_lt (pe_callB (kLen K) (by rfl) mN_len boot_len (pa_cons (pu 0) pa_nil)) pe_int (nomark _)) (uw_or (ut_cmp o_gt (pe_callB (kLen K) (by rfl) mN_len boot_len (pa_cons (pu 0) pa_nil)) pe_int (nomark _)) (pw_or1 (PW.pt (uw_and (ut_cmp o_gt (pe_callB (kLen K) (by rfl) mN_len boot_len (pa_cons (pu 0) pa_nil)) pe_int (nomark _)) (pw_and1 (ut_cmp (kEq K hr.units) (pe_ix (kIx K) (pu 0) pe_int (fun _ _ => rfl)) pe_str (nomark _))))))))) (pss_one (ps_ret pe_bl)) pss_nil)
    (pss_cons (ps_for PassesOwn.never rfl (pi_str (pu 0)) (pg_name (i := 1) sc__law_is_number.nd rfl (.inl rfl)) (pss_one (us_if (ut_cmp (kNotIn K) (pu 1) pe_str (by rfl)) (pss_one (ps_ret pe_bl)) pss_nil)))
    (pss_one (ps_ret pe_bl))))), ?_⟩)
  · obtain ⟨z, rfl, _⟩ := h
    rfl
  · obtain ⟨z, rfl, h⟩ := h
    obtain ⟨hz, hk0⟩ := h
    have hk : ∀ b, numB z = b → Q (.bl b) H := fun b e => e ▸ hk0
    have zs : z.length ≤ sizeLine := Nat.le_trans hz (sl (by decide))
    refine ⟨zs, fun c2 => brT (hk _ ?_), fun c2 => ⟨zs, fun c3 => brT (hk _ ?_), fun c3 => ?_⟩⟩
    · have c2 : (z.length : Int) < 1 := of_decide_eq_true c2
      have c2 : ¬ 1 ≤ z.length := by omega
      simp [numB, c2]
    · have c3 : (6 : Int) < z.length := of_decide_eq_true c3
      have c3 : ¬ z.length ≤ 6 := by omega
      simp [numB, c3]
    have c2 : ¬ (z.length : Int) < 1 := of_decide_eq_false c2
    have c3 : ¬ (6 : Int) < z.length := of_decide_eq_false c3
    have c2' : 1 ≤ z.length := by omega
    have c3' : z.length ≤ 6 := by omega
    obtain ⟨d, hd1, hd2⟩ := head_at (z := z) (by omega)
    have rest : numB z = (!(decide (1 < z.length) && decide (d = 48)) && z.cps.toList.all (inS DI)) := by simp [numB, c2', c3', hd1]
    have go : (!(decide (1 < z.length) && decide (d = 48))) = true → tFor (iStr (uV 0)) (gName 1) (uIf (uT (tOp (uNotIn K) (uV 1) (tC (.str "0123456789")))) (tRet (tC (.bl false))) tNext) ⟨fun σ H => Q (.bl true) H, Q, fun _ _ => False, fun _ _ => False⟩ (L2.start N__law_is_number [.str z]) H := fun c4 => ⟨z, rfl, for_str (fun i σ H1 => (∃ o, σ = [some (.str z), o]) ∧ H1 = H ∧ (z.cps.toList.take i).all (inS DI) = true) ⟨⟨_, rfl⟩, rfl, rfl⟩ (fun i c σ H1 hi p => by
        obtain ⟨⟨o, rfl⟩, rfl, p⟩ := p
        refine ⟨c, rfl, fun c5 => hk _ ?_, fun c5 => ⟨⟨_, rfl⟩, rfl, ?_⟩⟩
        · have c5 : inS DI c = false := by simpa [inS, DI] using c5
          have : z.cps.toList.all (inS DI) = false := by
            rw [List.all_eq_false]
            exact ⟨c, List.mem_of_getElem? hi, by rw [c5]; simp⟩
          rw [rest, this, Bool.and_false]
        · have c5 : inS DI c = true := by simpa [inS, DI] using c5
          rw [take_one hi]; simp at p; simp [p, c5]
          intro a b; exact p a b) fun σ H1 p => by
        obtain ⟨⟨o, rfl⟩, rfl, p⟩ := p
        refine hk _ ?_
        rw [len_cps, List.take_length] at p
        rw [rest, c4, p]; rfl⟩
    refine ⟨zs, fun c5 => ⟨d, zs, atI_nat (j := 0) hd2, rfl, fun c4 => hk _ ?_, fun c4 => ?_⟩, fun c5 => ?_⟩
    · have c4 : d = 48 := by simpa [eqB, one_str] using c4
      have c5 : (1 : Int) < z.length := of_decide_eq_true c5
      have c5 : 1 < z.length := by omega
      rw [rest]; simp [c4, c5]
    · have c4 : ¬ d = 48 := by simpa [eqB, one_str] using c4
      exact go (by simp [c4])
    · have c5 : ¬ (1 : Int) < z.length := of_decide_eq_false c5
      have c5 : ¬ 1 < z.length := by omega
      exact brF (go (by simp [c5]))
/-! conditions -/
def numV (z : Str) : Int := (PySem.intText? z).getD 0
theorem di_digit {c : Nat} (h : inS DI c = true) : 48 ≤ c ∧ c ≤ 57 := by
  have e : DI.cps.toList = [48, 49, 50, 51, 52, 53, 54, 55, 56, 57] := by decide +kernel
  have h : c ∈ DI.cps.toList := by simpa [inS, ← Array.mem_toList_iff] using h
  rw [e] at h
  simp at h
  omega
theorem num_int {z : Str} (h : numB z = true) : PySem.intText? z = some (numV z) ∧ z.length ≤ 640 := by
  have hl : 1 ≤ z.length := by simp [numB] at h; exact h.1
  have h6 : z.length ≤ 6 := by simp [numB] at h; exact h.2.1
  have ha : ∀ c ∈ z.cps.toList, inS DI c = true := by simp only [numB, Bool.and_eq_true] at h; exact List.all_eq_true.mp h.2.2.2
  have e := intText_digits (x := z) (fun c hc => di_digit (ha c hc)) (by intro q; rw [len_cps, q] at hl; simp at hl) (by omega)
  exact ⟨by unfold numV; rw [e]; rfl, by omega⟩
def optD : Option (List Dt) → Dt
  | none => .non
  | some l => .tup l
def isNamed (a : Str) : Bool := decide (a = ("done" : Str)) || decide (a = ("waits" : Str))
def isNumbered (a : Str) : Bool := decide (a = ("bikes" : Str)) || decide (a = ("free" : Str))
def isCmp (a : Str) : Bool := decide (a = (">=" : Str)) || decide (a = ("<=" : Str))
def condP : List Str → Option (List Dt)
  | [a, b] => if (isNamed a && nameB b) = true then some [.str a, .str b] else none
  | [a, b, c, d] => if ((isNumbered a && isCmp c) && (nameB b && numB d)) = true then some [.str a, .str b, .str c, .int (numV d)] else none
  | _ => none
theorem in_two (x a b : Str) : inV (.str x) [.str a, .str b] = (decide (x = a) || decide (x = b)) := by
  have e := inV_str x [a, b]
  simpa using e
/-- words that stand in a list -/
def LW (K : PySem.W.Frag) (H : Hp) (a : Addr) (ws : List Str) : Prop := SqL K H a (ws.map V.str) ∧ ∀ w ∈ ws, w.length ≤ 2000000
theorem LW.ix {K : PySem.W.Frag} {H : Hp} {a : Addr} {ws : List Str} {i : Nat} {x : Str} (h : LW K H a ws) (e : ws[i]? = some x) : ∃ xs v, (SqL K H a xs ∨ SqT K H a xs) ∧ atI xs (i : Int) = some v ∧ v = .str x :=
  ⟨_, _, .inl h.1, atI_nat (by rw [List.getElem?_map, e]; rfl), rfl⟩
theorem LW.keep {K : PySem.W.Frag} {S : List Addr} {H H' : Hp} {a : Addr} {ws : List Str} (h : LW K H a ws) (hh : H a = some (.lst (ws.map V.str))) (k : Kp S H H') (n : a ∉ S) : LW K H' a ws := ⟨SqL.of (k _ _ hh n), h.2⟩
theorem condP_nil {ws : List Str} (h : ws.length ≠ 2) (h4 : ws.length ≠ 4) : condP ws = none := by
  match ws, h, h4 with
  | [], _, _ => rfl
  | [_], _, _ => rfl
  | [_, _], h, _ => exact absurd rfl h
  | [_, _, _], _, _ => rfl
  | [_, _, _, _], _, h => exact absurd rfl h
  | _ :: _ :: _ :: _ :: _ :: _, _, _ => rfl
abbrev s_condition_of : Stmt := top 12
abbrev N_condition_of : List Str := ["words"]
theorem sc_condition_of : FnScope N_condition_of ["words"] (defScope s_condition_of) := ⟨rfl, rfl, rfl, by decide +kernel, rfl, by decide +kernel, by decide +kernel⟩
def sp_condition_of (K : PySem.W.Frag) : Sp := fun vs H Q _ => ∃ (a : Addr) (ws : List Str), vs = [.ref a] ∧ (H a = some (.lst (ws.map V.str)) ∧ (∀ w ∈ ws, w.length ≤ 2000000) ∧ ∀ v H', Rp H' v (optD (condP ws)) → Kp [] H H' → Q v H')
theorem ok_condition_of {f : Addr} {fd : FuncData} (F : FunD K "condition_of" "condition_of" (defArgs s_condition_of) (defBody s_condition_of) (defScope s_condition_of) [] [] f fd)
    (C_is_name : Cal P w K mg base CX0 1 "is_name" ["word"] (sp_is_name K))
    (mr_NAMED : mg "NAMED" = some (.ref (He.ga K "NAMED")))
    (tp_NAMED : ∀ H, SqT K H (He.ga K "NAMED") [.str "done", .str "waits"])
    (mN_len : mg "len" = none)
    (mr_NUMBERED : mg "NUMBERED" = some (.ref (He.ga K "NUMBERED")))
    (tp_NUMBERED : ∀ H, SqT K H (He.ga K "NUMBERED") [.str "bikes", .str "free"])
    (C_is_number : Cal P w K mg base CX0 1 "is_number" ["word"] (sp_is_number K))
    (mN_int : mg "int" = none) : FnOk P w K mg base CX0 2 f fd ["words"] (sp_condition_of K) := by
  refine F.ok sc_condition_of (fun vs H Q E h => ?_) (fun cdv A outer s H vs Q E hr h => ⟨_, PSs.nox ((C8.pss_cut (us_if (PW.pt (uw_and (ut_cmp (kEq K hr.units) (pe_callB (kLen K) (by rfl) mN_len boot_len (pa_cons (pu 0) pa_nil)) pe_int (nomark _)) (uw_and (ut_cmp (kIn K) (pe_ix (kIx K) (pu 0) pe_int (fun _ _ => rfl)) (pe_glob (v := .ref (He.ga K "NAMED")) rfl mr_NAMED rfl) (by rfl)) (pw_and1 (ut_val (ue_call (E := E0) C_is_name (hr.mono (by decide)) rfl pass0 (pa_cons (pe_ix (kIx K) (pu 0) pe_int (fun _ _ => rfl)) pa_nil))))))) (pss_one (ps_ret (pe_tup (pa_cons (pe_ix (kIx K) (pu 0) pe_int (fun _ _ => rfl)) (pa_cons (pe_ix (kIx K) (pu 0) pe_int (fun _ _ => rfl)) pa_nil))))) pss_nil)
    (pss_cons (us_if (PW.pt (uw_or (ut_cmp (kNe K hr.units) (pe_callB (kLen K) (by rfl) mN_len boot_len (pa_cons (pu 0) pa_nil)) pe_int (nomark _)) (uw_or (ut_cmp (kNotIn K) (pe_ix (kIx K) (pu 0) pe_int (fun _ _ => rfl)) (pe_glob (v := .ref (He.ga K "NUMBERED")) rfl mr_NUMBERED rfl) (by rfl)) (pw_or1 (ut_cmp (kNotIn K) (pe_ix (kIx K) (pu 0) pe_int (fun _ _ => rfl)) (pe_tup (pa_cons pe_str (pa_cons pe_str pa_nil))) (by rfl)))))) (pss_one (ps_ret pe_non)) pss_nil)
    (pss_cons (us_if (PW.pt (uw_and (ut_val (ue_call (E := E0) C_is_name (hr.mono (by decide)) rfl pass0 (pa_cons (pe_ix (kIx K) (pu 0) pe_int (fun _ _ => rfl)) pa_nil))) (pw_and1 (ut_val (ue_call (E := E0) C_is_number (hr.mono (by decide)) rfl pass0 (pa_cons (pe_ix (kIx K) (pu 0) pe_int (fun _ _ => rfl)) pa_nil)))))) (pss_one (ps_ret (pe_tup (pa_cons (pe_ix (kIx K) (pu 0) pe_int (fun _ _ => rfl)) (pa_cons (pe_ix (kIx K) (pu 0) pe_int (fun _ _ => rfl)) (pa_cons (pe_ix (kIx K) (pu 0) pe_int (fun _ _ => rfl)) (pa_cons (pe_callTy c_int (by rfl) mN_int boot_int (pa_cons (pe_ix (kIx K) (pu 0) pe_int (fun _ _ => rfl)) pa_nil)) pa_nil))))))) pss_nil)
    (pss_one (ps_ret pe_non)))))), ?_⟩)
  · obtain ⟨a, ws, rfl, _⟩ := h
    rfl
  · obtain ⟨a, ws, rfl, h⟩ := h
    obtain ⟨ha, hw, hk⟩ := h
    have L := SqL.of (K := K) ha
    have no : condP ws = none → ∀ H', Kp [] H H' → Q .non H' := fun e H' k => hk _ _ (by rw [e]; exact .non) k
    refine ⟨fun σ H' => σ = L2.start N_condition_of [.ref a] ∧ Kp [] H H' ∧ (ws.length = 2 → condP ws = none), ⟨ws.length, .inl ⟨_, L, by simp⟩, rfl, fun c => ?_, fun c => ?_⟩, fun σ H1 hm => ?_⟩
    · have c : (ws.length : Int) = 2 := by simpa [eqB] using c
      have c : ws.length = 2 := by omega
      obtain ⟨x, y, rfl⟩ : ∃ x y, ws = [x, y] := by
        match ws, c with
        | [x, y], _ => exact ⟨x, y, rfl⟩
      refine ⟨_, _, .inl L, atI_nat (j := 0) rfl, _, .inr (tp_NAMED H), rfl, rfl, fun c => ?_, fun c => brF ⟨rfl, Kp.refl, fun _ => ?_⟩⟩
      · rw [in_two] at c
        refine ⟨_, _, .inl L, atI_nat (j := 1) rfl, y, rfl, hw y (by simp), fun H1 k1 => ⟨fun c2 => ?_, fun c2 => ⟨rfl, k1, fun _ => ?_⟩⟩⟩
        · have L1 := SqL.of (K := K) (k1.get0 ha)
          refine ⟨_, _, .inl L1, atI_nat (j := 0) rfl, _, _, .inl L1, atI_nat (j := 1) rfl, sl rfl, fun p hp => hk _ _ ?_ (k1.trans (Kp.new hp))⟩
          have e : condP [x, y] = some [.str x, .str y] := by rw [condP, show isNamed x = true from c, c2]; rfl
          rw [e]
          exact .tup upd_same (.cons (.str _) (.cons (.str _) .nil))
        · simp [condP, c2]
      · rw [in_two] at c
        simp at c
        simp [condP, isNamed, c]
    · have c : ¬ (ws.length : Int) = 2 := by simpa [eqB] using c
      exact brF ⟨rfl, Kp.refl, fun h => by omega⟩
    · obtain ⟨rfl, k1, h2⟩ := hm
      have ha1 := k1.get0 ha
      have L1 := SqL.of (K := K) ha1
      refine ⟨ws.length, .inl ⟨_, L1, by simp⟩, rfl, fun c => brT (no ?_ _ k1), fun c => ?_⟩
      · have c : ¬ (ws.length : Int) = 4 := by simpa [eqB] using c
        by_cases h : ws.length = 2
        · exact h2 h
        · exact condP_nil h (by omega)
      have c : (ws.length : Int) = 4 := by simpa [eqB] using c
      have c : ws.length = 4 := by omega
      obtain ⟨x, y, z, u, rfl⟩ : ∃ x y z u, ws = [x, y, z, u] := by
        match ws, c with
        | [x, y, z, u], _ => exact ⟨x, y, z, u, rfl⟩
      refine ⟨_, _, .inl L1, atI_nat (j := 0) rfl, _, .inr (tp_NUMBERED H1), rfl, rfl, fun c1 => brT (no ?_ _ k1), fun c1 => ?_⟩
      · rw [in_two] at c1; simp at c1; simp [condP, isNumbered, c1]
      rw [in_two] at c1
      refine ⟨_, _, .inl L1, atI_nat (j := 2) rfl, sl rfl, fun p hp => ⟨_, .inr (SqT.of upd_same), rfl, rfl, fun c2 => ?_, fun c2 => ?_⟩⟩
      · rw [in_two] at c2; simp at c2
        exact no (by simp [condP, isCmp, c2]) _ (k1.trans (Kp.new hp))
      rw [in_two] at c2
      have k2 := k1.trans (Kp.new (S := []) hp (o := .tup [.str (">=" : Str), .str ("<=" : Str)]))
      have L2 := SqL.of (K := K) (k2.get0 ha)
      have i1 : isNumbered x = true := by simp only [Bool.not_eq_false'] at c1; exact c1
      have i2 : isCmp z = true := by simp only [Bool.not_eq_false'] at c2; exact c2
      refine ⟨_, _, .inl L2, atI_nat (j := 1) rfl, y, rfl, hw y (by simp), fun H3 k3 => ⟨fun c3 => ?_, fun c3 => brF (no ?_ _ (k2.trans k3))⟩⟩
      · have k3 := k2.trans k3
        have L3 := SqL.of (K := K) (k3.get0 ha)
        refine ⟨_, _, .inl L3, atI_nat (j := 3) rfl, u, rfl, hw u (by simp), fun H4 k4 => ⟨fun c4 => ?_, fun c4 => no ?_ _ (k3.trans k4)⟩⟩
        · have k4 := k3.trans k4
          have L4 := SqL.of (K := K) (k4.get0 ha)
          refine ⟨_, _, .inl L4, atI_nat (j := 0) rfl, _, _, .inl L4, atI_nat (j := 1) rfl, _, _, .inl L4, atI_nat (j := 2) rfl, _, _, .inl L4, atI_nat (j := 3) rfl, numV u, (num_int c4).1, (num_int c4).2, sl rfl, fun q hq => hk _ _ ?_ (k4.trans (Kp.new hq))⟩
          have e : condP [x, y, z, u] = some [.str x, .str y, .str z, .int (numV u)] := by simp [condP, i1, i2, c3, c4]
          rw [e]
          exact .tup upd_same (.cons (.str _) (.cons (.str _) (.cons (.str _) (.cons (.int _) .nil))))
        · simp [condP, c4]
      · simp [condP, c3]
def sizeD : List Str → Nat
  | a :: _ => if isNumbered a = true then 4 else 2
  | [] => 2
/-- the conditions behind the link, n words at most -/
def condsF : Nat → Str → List Str → Option (List Dt)
  | _, _, [] => some []
  | 0, _, _ :: _ => none
  | n + 1, link, w :: r => match condP (r.take (sizeD r)) with
    | none => none
    | some c => if w = link then (condsF n ("and" : Str) (r.drop (sizeD r))).map fun l => Dt.tup c :: l else none
def condsD (link : Str) (ws : List Str) : Option (List Dt) := condsF ws.length link ws
theorem condsF_of : ∀ (n m : Nat) (link : Str) (ws : List Str), ws.length ≤ n → ws.length ≤ m → condsF n link ws = condsF m link ws
  | _, _, _, [], _, _ => by simp [condsF]
  | 0, _, _, _ :: _, h, _ => by simp at h
  | _ + 1, 0, _, _ :: _, _, h => by simp at h
  | n + 1, m + 1, link, w :: r, h1, h2 => by
    simp only [condsF]
    rw [condsF_of n m _ (r.drop (sizeD r)) (by simp at h1 ⊢; omega) (by simp at h2 ⊢; omega)]
theorem condsD_cons (link w : Str) (r : List Str) : condsD link (w :: r) = match condP (r.take (sizeD r)) with
    | none => none
    | some c => if w = link then (condsD ("and" : Str) (r.drop (sizeD r))).map fun l => Dt.tup c :: l else none := by
  unfold condsD
  rw [show (w :: r).length = r.length + 1 from rfl]
  simp only [condsF]
  rw [condsF_of r.length (r.drop (sizeD r)).length _ (r.drop (sizeD r)) (by simp) (Nat.le_refl _)]
theorem condP_still {ws : List Str} {l : List Dt} (h : condP ws = some l) : stillL l = true := by
  match ws, h with
  | [a, b], h => simp only [condP] at h; split at h <;> cases h; rfl
  | [a, b, c, d], h => simp only [condP] at h; split at h <;> cases h; rfl
  | [], h => cases h
  | [_], h => cases h
  | [_, _, _], h => cases h
  | _ :: _ :: _ :: _ :: _ :: _, h => cases h
theorem condP_len {ws : List Str} {l : List Dt} (h : condP ws = some l) : l.length = ws.length := by
  match ws, h with
  | [a, b], h => simp only [condP] at h; split at h <;> cases h; rfl
  | [a, b, c, d], h => simp only [condP] at h; split at h <;> cases h; rfl
  | [], h => cases h
  | [_], h => cases h
  | [_, _, _], h => cases h
  | _ :: _ :: _ :: _ :: _ :: _, h => cases h
theorem map_drop_str (ws : List Str) (k : Nat) : (ws.map V.str).drop k = (ws.drop k).map V.str := by rw [List.map_drop]
theorem condsD_nil (link : Str) : condsD link [] = some [] := rfl
theorem optD_map (o : Option (List Dt)) (d : List Dt) : optD (o.map (d ++ ·)) = optD (o.map (d ++ ·)) := rfl
theorem snoc_ne {α : Type} (l : List α) (a : α) : (l ++ [a]).length = l.length + 1 := by simp
theorem take_drop_str (ws : List Str) (a b : Nat) : ((ws.map V.str).drop a).take b = ((ws.drop a).take b).map V.str := by simp
theorem condsF_still : ∀ (n : Nat) (link : Str) (ws : List Str) (l : List Dt), condsF n link ws = some l → stillL l = true
  | _, _, [], l, h => by simp [condsF] at h; subst h; rfl
  | 0, _, _ :: _, _, h => by simp [condsF] at h
  | n + 1, link, w :: r, l, h => by
    simp only [condsF] at h
    cases e : condP (r.take (sizeD r)) with
    | none => rw [e] at h; cases h
    | some c =>
      rw [e] at h
      simp only at h
      split at h
      · cases e2 : condsF n ("and" : Str) (r.drop (sizeD r)) with
        | none => rw [e2] at h; cases h
        | some m =>
          rw [e2] at h
          cases h
          simp [stillL, Dt.still, condP_still e, condsF_still n _ _ m e2]
      · cases h
theorem condsD_still {link : Str} {ws : List Str} {l : List Dt} (h : condsD link ws = some l) : stillL l = true := condsF_still _ _ _ _ h
abbrev s_conditions_of : Stmt := top 13
abbrev N_conditions_of : List Str := ["words", "found", "link", "size", "condition"]
theorem sc_conditions_of : FnScope N_conditions_of ["words"] (defScope s_conditions_of) := ⟨rfl, rfl, rfl, by decide +kernel, rfl, by decide +kernel, by decide +kernel⟩
def sp_conditions_of (K : PySem.W.Frag) : Sp := fun vs H Q _ => ∃ (a : Addr) (ws : List Str), vs = [.ref a] ∧ (H a = some (.lst (ws.map V.str)) ∧ (∀ w ∈ ws, w.length ≤ 2000000) ∧ ws.length ≤ 2000001 ∧ ∀ v H', Rp H' v (optD (condsD ("when" : Str) ws)) → Kp [] H H' → Q v H')
theorem ok_conditions_of {f : Addr} {fd : FuncData} (F : FunD K "conditions_of" "conditions_of" (defArgs s_conditions_of) (defBody s_conditions_of) (defScope s_conditions_of) [] [] f fd)
    (mN_len : mg "len" = none)
    (mr_NUMBERED : mg "NUMBERED" = some (.ref (He.ga K "NUMBERED")))
    (tp_NUMBERED : ∀ H, SqT K H (He.ga K "NUMBERED") [.str "bikes", .str "free"])
    (C_condition_of : Cal P w K mg base CX0 2 "condition_of" ["words"] (sp_condition_of K))
    (mN_tuple : mg "tuple" = none) : FnOk P w K mg base CX0 3 f fd ["words"] (sp_conditions_of K) := by
  refine F.ok sc_conditions_of (fun vs H Q E h => ?_) (fun cdv A outer s H vs Q E hr h => ⟨_, PSs.nox ((pss_cons (ps_set (i := 1) sc_conditions_of.nd rfl (.inl rfl) (pe_lst pa_nil))
    (pss_cons (ps_set (i := 2) sc_conditions_of.nd rfl (.inl rfl) pe_str)
    (pss_cons (us_while PassesOwn.never (ut_cmp o_gt (pe_callB (kLen K) (by rfl) mN_len boot_len (pa_cons (pu 0) pa_nil)) pe_int (nomark _)) (pss_cons (ps_set (i := 3) sc_conditions_of.nd rfl (.inl rfl) pe_int)
    (C8.pss_cut (us_if (PW.pt (uw_and (ut_cmp o_gt (pe_callB (kLen K) (by rfl) mN_len boot_len (pa_cons (pu 0) pa_nil)) pe_int (nomark _)) (pw_and1 (ut_cmp (kIn K) (pe_ix (kIx K) (pu 0) pe_int (fun _ _ => rfl)) (pe_glob (v := .ref (He.ga K "NUMBERED")) rfl mr_NUMBERED rfl) (by rfl))))) (pss_one (ps_set (i := 3) sc_conditions_of.nd rfl (.inl rfl) pe_int)) pss_nil)
    (pss_cons (ps_set (i := 4) sc_conditions_of.nd rfl (.inl rfl) (ue_call (E := E0) C_condition_of (hr.mono (by decide)) rfl pass0 (pa_cons (pe_slice (kSl K) (pu 0) (po_u pe_int) (po_u (pe_op (kAdd K) pe_int (pu 3)))) pa_nil)))
    (pss_cons (us_if (PW.pt (uw_or (ut_cmp (kNe K hr.units) (pe_ix (kIx K) (pu 0) pe_int (fun _ _ => rfl)) (pu 2) (nomark _)) (pw_or1 (ut_cmp o_isN (pu 4) pe_non (nomark _))))) (pss_one (ps_ret pe_non)) pss_nil)
    (pss_cons (ps_expr (ue_append (pu 1) (pa_cons (pu 4) pa_nil)))
    (pss_cons (ps_set (i := 0) sc_conditions_of.nd rfl (.inl rfl) (pe_slice (kSl K) (pu 0) (po_u (pe_op (kAdd K) pe_int (pu 3))) po_none))
    (pss_one (ps_set (i := 2) sc_conditions_of.nd rfl (.inl rfl) pe_str)))))))))
    (pss_one (ps_ret (pe_callTy (kTuple K) (by rfl) mN_tuple (by decide +kernel) (pa_cons (pu 1) pa_nil)))))))), ?_⟩)
  · obtain ⟨a, ws, rfl, _⟩ := h
    rfl
  · obtain ⟨a, ws, rfl, h⟩ := h
    obtain ⟨ha, hw, hl, hk⟩ := h
    refine ⟨sl rfl, fun F hF => ⟨fun m σ H1 => ∃ (b : Addr) (rs : List Str) (link : Str) (vs : List V) (ds : List Dt) (o3 o4 : Option V), m = rs.length ∧ σ = [some (.ref b), some (.ref F), some (.str link), o3, o4] ∧
      H1 b = some (.lst (rs.map V.str)) ∧ (∀ w ∈ rs, w ∈ ws) ∧ b ≠ F ∧ H1 F = some (.lst vs) ∧ RpL H1 vs ds ∧ stillL ds = true ∧ ds.length + rs.length ≤ 2000001 ∧ Kp [] H H1 ∧ condsD ("when" : Str) ws = (condsD link rs).map (ds ++ ·), ⟨ws.length, a, ws, "when", [], [], none, none, rfl, rfl, get_new ha hF, fun _ h => h, ne_of_none ha hF, upd_same, .nil, rfl, by simpa using hl, Kp.new hF, ?_⟩, ?_⟩⟩
    · cases condsD ("when" : Str) ws <;> simp
    rintro m σ H1 ⟨b, rs, link, vs, ds, o3, o4, rfl, rfl, hb, hr, hbF, hFv, hR, hst, hlen, k1, hc⟩
    refine ⟨rs.length, .inl ⟨_, SqL.of hb, by simp⟩, fun c => ⟨_, fun _ _ h => h, ?_⟩, fun c => ?_⟩
    · have c : (0 : Int) < rs.length := of_decide_eq_true c
      cases rs with
      | nil => simp at c
      | cons w r =>
        have Lb := SqL.of (K := K) hb
        refine ⟨fun σ' H' => σ' = [some (.ref b), some (.ref F), some (.str link), some (.int (sizeD r)), o4] ∧ H' = H1, ⟨(w :: r).length, .inl ⟨_, Lb, by simp⟩, fun c1 => ?_, fun c1 => ?_⟩, ?_⟩
        · have c1 : (1 : Int) < (w :: r).length := of_decide_eq_true c1
          cases r with
          | nil => simp at c1
          | cons y r =>
            refine ⟨_, _, .inl Lb, atI_nat (j := 1) rfl, _, .inr (tp_NUMBERED H1), rfl, rfl, fun c2 => ?_, fun c2 => ?_⟩
            · rw [in_two] at c2
              exact ⟨by simp [sizeD, show isNumbered y = true from c2], rfl⟩
            · rw [in_two] at c2
              exact ⟨by simp [sizeD, show isNumbered y = false from c2], rfl⟩
        · have c1 : ¬ (1 : Int) < (w :: r).length := of_decide_eq_false c1
          cases r with
          | nil => exact brF ⟨rfl, rfl⟩
          | cons y r => simp at c1; omega
        rintro σ H2 ⟨rfl, rfl⟩
        have e1 : cutV ((w :: r).map V.str) (some 1) (some (1 + (sizeD r : Int))) = (r.take (sizeD r)).map V.str := by
          have q := cut_mid ((w :: r).map V.str) 1 (1 + sizeD r)
          rw [show ((1 + sizeD r : Nat) : Int) = 1 + (sizeD r : Int) by omega] at q
          exact q.trans (by simp)
        have e2 : cutV ((w :: r).map V.str) (some (1 + (sizeD r : Int))) none = (r.drop (sizeD r)).map V.str := by
          have q := cut_from ((w :: r).map V.str) (1 + sizeD r)
          rw [show ((1 + sizeD r : Nat) : Int) = 1 + (sizeD r : Int) by omega] at q
          exact q.trans (by rw [Nat.add_comm 1]; simp)
        refine ⟨_, Lb, fun p hp => ⟨p, r.take (sizeD r), rfl, by rw [upd_same, e1], fun x hx => hw x (hr x (List.mem_cons_of_mem _ (List.mem_of_mem_take hx))), fun v H3 hv k3 => ?_⟩⟩
        have k13 : Kp [] H2 H3 := (Kp.new hp).trans k3
        have hb3 := k13.get0 hb
        have hF3 := k13.get0 hFv
        rw [condsD_cons] at hc
        refine ⟨_, _, .inl (SqL.of hb3), atI_nat (j := 0) rfl, rfl, fun c1 => brT (hk .non H3 ?_ (k1.trans k13)), fun c1 => ⟨rfl, fun c2 => hk .non H3 ?_ (k1.trans k13), fun c2 => ?_⟩⟩
        · have c1 : ¬ w = link := by simpa [eqB] using c1
          have : condsD ("when" : Str) ws = none := by
            rw [hc]; cases condP (r.take (sizeD r)) <;> simp [c1]
          rw [this]; exact .non
        · have : condsD ("when" : Str) ws = none := by
            rw [hc]
            cases e : condP (r.take (sizeD r)) with
            | none => rfl
            | some l => rw [e] at hv; cases hv; simp [isNonV] at c2
          rw [this]; exact .non
        · have c1 : w = link := by simpa [eqB] using c1
          cases e : condP (r.take (sizeD r)) with
          | none => rw [e] at hv; cases hv; simp [isNonV] at c2
          | some l =>
            rw [e] at hv hc
            have hlv : vs.length = ds.length := hR.length
            refine ⟨⟨vs, hF3⟩, vs, hF3, ?_, ?_⟩
            · simp at hlen; exact Nat.lt_of_lt_of_le (show vs.length < 2000002 by omega) (sl rfl)
            have hb4 : upd H3 F (.lst (vs ++ [v])) b = some (.lst ((w :: r).map V.str)) := get_ne hb3 hbF
            refine ⟨_, SqL.of hb4, fun q hq => ?_⟩
            have tk : TK H2 (upd (upd H3 F (.lst (vs ++ [v]))) q (.lst (cutV ((w :: r).map V.str) (some (1 + (sizeD r : Int))) none))) := k13.tk0.trans ((TK.put hF3).trans (TK.new hq))
            have tk3 : TK H3 (upd (upd H3 F (.lst (vs ++ [v]))) q (.lst (cutV ((w :: r).map V.str) (some (1 + (sizeD r : Int))) none))) := (TK.put hF3).trans (TK.new hq)
            refine ⟨(r.drop (sizeD r)).length, by simp; omega, q, r.drop (sizeD r), "and", vs ++ [v], ds ++ [.tup l], _, _, rfl, rfl, by rw [upd_same, e2], fun x hx => hr x (List.mem_cons_of_mem _ (List.mem_of_mem_drop hx)), ne_new hq, get_new upd_same hq, ?_, stillL_app hst ?_, ?_, ?_, ?_⟩
            · exact (hR.still tk hst).snoc (hv.still tk3 (show stillL l = true from condP_still e))
            · simp [stillL, Dt.still, condP_still e]
            · simp at hlen ⊢; omega
            · exact ((k1.trans k13).loc hF).trans (Kp.new hq)
            · rw [hc]; simp only [if_pos c1]
              cases condsD ("and" : Str) (r.drop (sizeD r)) <;> simp
    · have c : ¬ (0 : Int) < rs.length := of_decide_eq_false c
      cases rs with
      | cons w r => exact absurd (show (0 : Int) < (w :: r).length by simp) c
      | nil =>
        refine ⟨vs, .inl ⟨SqL.of hFv, fun p hp => hk _ _ ?_ (k1.trans (Kp.new hp))⟩⟩
        rw [hc]
        exact .tup upd_same (by simpa using hR.still (TK.new hp) hst)
/-! lines -/
def splS (c : Nat) (z : Str) : List Str := (TL.spl [c] 0 [] z.cps.toList).map SX.S
theorem spl1 (c : Nat) (acc : List Nat) (d : Nat) (l : List Nat) : TL.spl [c] 0 acc (d :: l) = if d = c then acc :: TL.spl [c] 0 [] l else TL.spl [c] 0 (acc ++ [d]) l := by
  by_cases h : d = c
  · rw [if_pos h, TL.spl_hit (by subst h; simp [TL.pre])]; rfl
  · rw [if_neg h, TL.spl_miss (by simp [TL.pre, h])]
theorem spl_nil1 (c : Nat) (acc : List Nat) : TL.spl [c] 0 acc [] = [acc] := TL.spl_nil _ _ _
theorem spl_len (c : Nat) : ∀ (l acc : List Nat), (TL.spl [c] 0 acc l).length ≤ l.length + 1
  | [], acc => by rw [spl_nil1]; simp
  | d :: l, acc => by
    rw [spl1]
    split
    · simp; exact spl_len c l []
    · exact Nat.le_trans (spl_len c l _) (by simp)
theorem spl_mem (c : Nat) : ∀ (l acc : List Nat) (p : List Nat), p ∈ TL.spl [c] 0 acc l → p.length ≤ acc.length + l.length
  | [], acc, p, h => by rw [spl_nil1] at h; simp at h; subst h; simp
  | d :: l, acc, p, h => by
    rw [spl1] at h
    split at h
    · rcases List.mem_cons.mp h with e | h
      · subst e; simp
      · have := spl_mem c l [] p h; simp at this ⊢; omega
    · have := spl_mem c l _ p h; simp at this ⊢; omega
theorem splS_len (c : Nat) (z : Str) : (splS c z).length ≤ z.length + 1 := by
  have := spl_len c z.cps.toList []
  rw [len_cps]; simpa [splS] using this
theorem splS_mem {c : Nat} {z w : Str} (h : w ∈ splS c z) : w.length ≤ z.length := by
  obtain ⟨p, hp, rfl⟩ := List.mem_map.mp h
  have := spl_mem c _ _ _ hp
  rw [len_cps, len_cps]
  simpa [SX.S] using this
theorem split_S {z y : Str} {c : Nat} (hy : y.cps.toList = [c]) (hk : ¬ Builtin.Str.strKind z < Builtin.Str.strKind y) : Txt.split z y = splS c z := by
  apply TL.map_tl_inj
  rw [TL.split_spl z y (by rw [show TL.tl y = [c] from hy]; simp) hk, show TL.tl y = [c] from hy]
  simp only [splS, List.map_map]
  exact (List.map_id _).symm
theorem split_sp (z : Str) : Txt.split z (" " : Str) = splS 32 z := split_S (by decide +kernel) (TL.kind_ok (by decide +kernel))
theorem split_nl (z : Str) : Txt.split z ("\n" : Str) = splS 10 z := split_S (by decide +kernel) (TL.kind_ok (by decide +kernel))
def lineP : List Str → Option (List Dt)
  | a :: b :: r => if a = ("let" : Str) then (if (!decide (b = ("*" : Str)) && !nameB b) = true then none else match condsD ("when" : Str) r with
    | none => none
    | some l => if 12 < l.length then none else some [.str b, .tup l]) else none
  | _ => none
abbrev s_line_of : Stmt := top 27
abbrev N_line_of : List Str := ["line", "words", "conditions"]
theorem sc_line_of : FnScope N_line_of ["line"] (defScope s_line_of) := ⟨rfl, rfl, rfl, by decide +kernel, rfl, by decide +kernel, by decide +kernel⟩
def sp_line_of (K : PySem.W.Frag) : Sp := fun vs H Q _ => ∃ (z : Str), vs = [.str z] ∧ (z.length ≤ 2000000 ∧ ∀ v H', Rp H' v (optD (lineP (splS 32 z))) → Kp [] H H' → Q v H')
theorem ok_line_of {f : Addr} {fd : FuncData} (F : FunD K "line_of" "line_of" (defArgs s_line_of) (defBody s_line_of) (defScope s_line_of) [] [] f fd)
    (mN_len : mg "len" = none)
    (C_is_name : Cal P w K mg base CX0 1 "is_name" ["word"] (sp_is_name K))
    (mc_EVERYBODY : ∃ t, mg "EVERYBODY" = some (.str "*" t))
    (C_conditions_of : Cal P w K mg base CX0 3 "conditions_of" ["words"] (sp_conditions_of K))
    (mc_MOST_CONDITIONS : ∃ t, mg "MOST_CONDITIONS" = some (.int 12 t)) : FnOk P w K mg base CX0 4 f fd ["line"] (sp_line_of K) := by
  refine F.ok sc_line_of (fun vs H Q E h => ?_) (fun cdv A outer s H vs Q E hr h => ⟨_, PSs.nox ((pss_cons (ps_set (i := 1) sc_line_of.nd rfl (.inl rfl) (pe_m1 PySem.F.slot_str_split PySem.F.type_str_split m_split (pu 0) pe_str))
    (pss_cons (us_if (PW.pt (uw_or (ut_cmp o_lt (pe_callB (kLen K) (by rfl) mN_len boot_len (pa_cons (pu 1) pa_nil)) pe_int (nomark _)) (pw_or1 (ut_cmp (kNe K hr.units) (pe_ix (kIx K) (pu 1) pe_int (fun _ _ => rfl)) pe_str (nomark _))))) (pss_one (ps_ret pe_non)) pss_nil)
    (C8.pss_cut (us_if (PW.pt (uw_and (ut_cmp (kNe K hr.units) (pe_ix (kIx K) (pu 1) pe_int (fun _ _ => rfl)) (pg_c (v := .str "*") (cS mc_EVERYBODY)) (nomark _)) (pw_and1 (pt_not (ut_val (ue_call (E := E0) C_is_name (hr.mono (by decide)) rfl pass0 (pa_cons (pe_ix (kIx K) (pu 1) pe_int (fun _ _ => rfl)) pa_nil))))))) (pss_one (ps_ret pe_non)) pss_nil)
    (pss_cons (ps_set (i := 2) sc_line_of.nd rfl (.inl rfl) (ue_call (E := E0) C_conditions_of (hr.mono (by decide)) rfl pass0 (pa_cons (pe_slice (kSl K) (pu 1) (po_u pe_int) po_none) pa_nil)))
    (pss_cons (us_if (PW.pt (uw_or (ut_cmp o_isN (pu 2) pe_non (nomark _)) (pw_or1 (ut_cmp o_gt (pe_callB (kLen K) (by rfl) mN_len boot_len (pa_cons (pu 2) pa_nil)) (pg_c (v := .int 12) (cI mc_MOST_CONDITIONS)) (nomark _))))) (pss_one (ps_ret pe_non)) pss_nil)
    (pss_one (ps_ret (pe_tup (pa_cons (pe_ix (kIx K) (pu 1) pe_int (fun _ _ => rfl)) (pa_cons (pu 2) pa_nil))))))))))), ?_⟩)
  · obtain ⟨z, rfl, _⟩ := h
    rfl
  · obtain ⟨z, rfl, h⟩ := h
    obtain ⟨hz, hk⟩ := h
    refine ⟨⟨_, rfl⟩, by decide, Nat.le_trans (Nat.add_le_add_right hz 2) (sl (by decide)), fun p hp => ?_⟩
    rw [split_sp]
    have hwl := splS_len 32 z
    have hwm : ∀ w ∈ splS 32 z, w.length ≤ 2000000 := fun w h => Nat.le_trans (splS_mem h) hz
    generalize splS 32 z = ws at hk hwl hwm ⊢
    have no : lineP ws = none → ∀ H', Kp [] H H' → Q .non H' := fun e H' k => hk _ _ (by rw [e]; exact .non) k
    have k1 : Kp [] H (upd H p (.lst (ws.map V.str))) := Kp.new hp
    have h1 : upd H p (.lst (ws.map V.str)) p = some (.lst (ws.map V.str)) := upd_same
    generalize upd H p (.lst (ws.map V.str)) = H1 at k1 h1 ⊢
    have L1 := SqL.of (K := K) h1
    match ws, hwl, hwm with
    | [], _, _ => exact ⟨_, .inl ⟨_, L1, rfl⟩, brT (brT (no rfl _ k1))⟩
    | [_], _, _ => exact ⟨_, .inl ⟨_, L1, rfl⟩, brT (brT (no rfl _ k1))⟩
    | x :: y :: r, hwl, hwm =>
      refine ⟨(x :: y :: r).length, .inl ⟨_, L1, by simp⟩, fun c => ?_, fun _ => ⟨_, _, .inl L1, atI_nat (j := 0) rfl, rfl, fun c => no ?_ _ k1, fun c => ?_⟩⟩
      · have c : (((x :: y :: r).length : Nat) : Int) < 2 := of_decide_eq_true c
        simp at c; omega
      · have c : ¬ x = ("let" : Str) := by simpa [eqB] using c
        simp [lineP, c]
      have cx : x = ("let" : Str) := by simpa [eqB] using c
      refine ⟨fun σ H2 => σ = [some (.str z), some (.ref p), none] ∧ Kp [] H1 H2 ∧ (!decide (y = ("*" : Str)) && !nameB y) = false, ⟨_, _, .inl L1, atI_nat (j := 1) rfl, rfl, fun c => ?_, fun c => brF ⟨rfl, Kp.refl, ?_⟩⟩, ?_⟩
      · have c : ¬ y = ("*" : Str) := by simpa [eqB] using c
        refine ⟨_, _, .inl L1, atI_nat (j := 1) rfl, y, rfl, hwm y (by simp), fun H2 k2 => ⟨fun c2 => no ?_ _ (k1.trans k2), fun c2 => ⟨rfl, k2, ?_⟩⟩⟩
        · have c2 : nameB y = false := by simpa using c2
          simp [lineP, cx, c, c2]
        · have c2 : nameB y = true := by simpa using c2
          simp [c2]
      · have c : y = ("*" : Str) := by simpa [eqB] using c
        simp [c]
      rintro σ H2 ⟨rfl, k2, hy⟩
      have h2 := k2.get0 h1
      have k12 := k1.trans k2
      refine ⟨_, SqL.of h2, fun q hq => ⟨q, r, rfl, ?_, fun w h => hwm w (by simp [h]), by simp at hwl; omega, fun v H3 hv k3 => ?_⟩⟩
      · rw [upd_same]
        have e := cut_from ((x :: y :: r).map V.str) 2
        rw [show (some (2 : Int)) = some ((2 : Nat) : Int) from rfl, e]
        simp
      have k13 := k12.trans ((Kp.new hq).trans k3)
      refine ⟨rfl, fun c => brT (no ?_ _ k13), fun c => ?_⟩
      · cases e : condsD ("when" : Str) r with
        | none => simp [lineP, cx, hy, e]
        | some l => rw [e] at hv; cases hv; simp [isNonV] at c
      · cases e : condsD ("when" : Str) r with
        | none => rw [e] at hv; cases hv; simp [isNonV] at c
        | some l =>
          rw [e] at hv
          cases hv with
          | tup ha hr =>
            rename_i a xs
            refine ⟨xs.length, .inr (.inl ⟨_, SqT.of ha, rfl⟩), fun c => no ?_ _ k13, fun c => ?_⟩
            · have c : (12 : Int) < xs.length := of_decide_eq_true c
              rw [hr.length] at c
              have c : 12 < l.length := by omega
              simp [lineP, cx, hy, e, c]
            · have c : ¬ (12 : Int) < xs.length := of_decide_eq_false c
              rw [hr.length] at c
              have c : ¬ 12 < l.length := by omega
              have h3 : H3 p = some (.lst ((x :: y :: r).map V.str)) := k3.get0 (get_new h2 hq)
              refine ⟨_, _, .inl (SqL.of h3), atI_nat (j := 1) rfl, sl rfl, fun t ht => hk _ _ ?_ (k13.trans (Kp.new ht))⟩
              have e2 : lineP (x :: y :: r) = some [.str y, .tup l] := by
                simp only [lineP, cx, hy, e, c, if_true, if_false]
                rfl
              rw [e2]
              exact .tup upd_same (.cons (.str _) (.cons (.tup (get_new ha ht) (hr.keep (Kp.new ht))) .nil))
def rowD (e : Bool) (p : Str) : Dt := .tup [.str p, .bl e]
def linesD (ws : List Str) : List Dt := ws.dropLast.map (rowD true) ++ (match ws.getLast? with
  | some l => if l = ("" : Str) then [] else [rowD false l]
  | none => [])
theorem spl_ne (c : Nat) : ∀ (l acc : List Nat), TL.spl [c] 0 acc l ≠ []
  | [], acc => by rw [spl_nil1]; simp
  | d :: l, acc => by
    rw [spl1]
    split
    · simp
    · exact spl_ne c l _
theorem splS_ne (c : Nat) (z : Str) : splS c z ≠ [] := by
  intro h
  exact spl_ne c _ _ (List.map_eq_nil_iff.mp h)
abbrev s_lines_of : Stmt := top 8
abbrev N_lines_of : List Str := ["text", "pieces", "rows", "piece"]
theorem sc_lines_of : FnScope N_lines_of ["text"] (defScope s_lines_of) := ⟨rfl, rfl, rfl, by decide +kernel, rfl, by decide +kernel, by decide +kernel⟩
def sp_lines_of (K : PySem.W.Frag) : Sp := fun vs H Q _ => ∃ (z : Str), vs = [.str z] ∧ (z.length ≤ 2000000 ∧ ∀ p xs H', H' p = some (.lst xs) → RpL H' xs (linesD (splS 10 z)) → H p = none → Kp [] H H' → Q (.ref p) H')
theorem ok_lines_of {f : Addr} {fd : FuncData} (F : FunD K "lines_of" "lines_of" (defArgs s_lines_of) (defBody s_lines_of) (defScope s_lines_of) [] [] f fd) : FnOk P w K mg base CX0 1 f fd ["text"] (sp_lines_of K) := by
  refine F.ok sc_lines_of (fun vs H Q E h => ?_) (fun cdv A outer s H vs Q E hr h => ⟨_, PSs.nox ((pss_cons (ps_set (i := 1) sc_lines_of.nd rfl (.inl rfl) (pe_m1 PySem.F.slot_str_split PySem.F.type_str_split m_split (pu 0) pe_str))
    (pss_cons (ps_setLc (i := 2) (own := [("piece", 3)]) rfl sc_lines_of.nd rfl rfl (sw_true rfl rfl rfl (by decide +kernel)) (kiList K (pe_slice (kSl K) (pu 1) po_none (po_u (pe_un o_neg pe_int)))) (blkOk_by (N := N_lines_of) (sc := defScope s_lines_of) (by decide +kernel)) (fun _ _ _ _ _ => (pg_name (i := 3) sc_lines_of.nd rfl (.inl rfl))) (fun _ _ _ _ _ => pts_nil) (fun _ _ _ _ _ => (pe_tup (pa_cons (pu 3) (pa_cons pe_bl pa_nil)))))
    (pss_cons (us_if (ut_cmp (kNe K hr.units) (pe_ix (kIx K) (pu 1) (pe_un o_neg pe_int) (fun _ _ => rfl)) pe_str (nomark _)) (pss_one (ps_expr (ue_append (pu 2) (pa_cons (pe_tup (pa_cons (pe_ix (kIx K) (pu 1) (pe_un o_neg pe_int) (fun _ _ => rfl)) (pa_cons pe_bl pa_nil))) pa_nil)))) pss_nil)
    (pss_one (ps_ret (pu 2))))))), ?_⟩)
  · obtain ⟨z, rfl, _⟩ := h
    rfl
  · obtain ⟨z, rfl, h⟩ := h
    obtain ⟨hz, hk⟩ := h
    refine ⟨⟨_, rfl⟩, by decide, Nat.le_trans (Nat.add_le_add_right hz 2) (sl (by decide)), fun p hp => ?_⟩
    rw [split_nl]
    have hwl := splS_len 10 z
    have hne := splS_ne 10 z
    generalize splS 10 z = ws at hk hwl hne ⊢
    have k1 : Kp [] H (upd H p (.lst (ws.map V.str))) := Kp.new hp
    have h1 : upd H p (.lst (ws.map V.str)) p = some (.lst (ws.map V.str)) := upd_same
    generalize upd H p (.lst (ws.map V.str)) = H1 at k1 h1 ⊢
    have L1 := SqL.of (K := K) h1
    obtain ⟨ini, l, rfl⟩ : ∃ ini l, ws = ini ++ [l] := ⟨ws.dropLast, ws.getLast hne, (List.dropLast_concat_getLast hne).symm⟩
    have hil : ini.length ≤ 2000000 := by simp at hwl; omega
    have e1 : cutV ((ini ++ [l]).map V.str) none (some (-1)) = ini.map V.str := by rw [cut_init]; simp
    have eL : linesD (ini ++ [l]) = ini.map (rowD true) ++ (if l = ("" : Str) then [] else [rowD false l]) := by simp [linesD]
    have aL : atI ((ini ++ [l]).map V.str) (-1) = some (.str l) := by rw [List.map_append]; exact atI_last _ _
    refine ⟨_, L1, fun q hq => ?_⟩
    rw [e1]
    have k2 : Kp [] H1 (upd H1 q (.lst (ini.map V.str))) := Kp.new hq
    have h2 : upd H1 q (.lst (ini.map V.str)) q = some (.lst (ini.map V.str)) := upd_same
    generalize upd H1 q (.lst (ini.map V.str)) = H2 at k2 h2 ⊢
    refine ⟨q, rfl, ⟨_, SqL.of h2⟩, fun D hD => lc_list (xs := ini.map V.str) (LcR H2 D fun i => (ini.take i).map (rowD true)) (LcR.start hD rfl) (fun i H3 _ p3 => ?_) (fun i x H3 hx p3 => ?_) fun H3 p3 => ?_⟩
    · obtain ⟨_, _, _, _, k3⟩ := p3
      exact SqL.of (k3.get0 h2)
    · rw [List.getElem?_map] at hx
      cases e : ini[i]? with
      | none => rw [e] at hx; cases hx
      | some w =>
        rw [e] at hx
        cases hx
        refine ⟨rfl, sl rfl, fun t ht => p3.step hD (Kp.new ht) (.tup upd_same (.cons (.str w) (.cons (.bl true) .nil))) rfl ?_ ?_⟩
        · rw [List.take_add_one, e]; simp [rowD]
        · simp; exact Nat.lt_of_le_of_lt (Nat.le_trans (Nat.min_le_right _ _) hil) (Nat.lt_of_lt_of_le (show 2000000 < 2000001 by omega) (sl rfl))
    · obtain ⟨xs, h3, r3, s3, k3⟩ := p3
      simp at r3 s3
      have k03 := k1.trans (k2.trans k3)
      have hDH : H D = none := (k1.trans k2).free0 hD
      have L3 := SqL.of (K := K) ((k2.trans k3).get0 h1)
      refine ⟨_, _, .inl L3, aL, rfl, fun c => ?_, fun c => ?_⟩
      · have c : ¬ l = ("" : Str) := by simpa [eqB] using c
        refine ⟨⟨xs, h3⟩, _, _, .inl L3, aL, sl rfl, fun t ht => ⟨xs, get_new h3 ht, ?_, ?_⟩⟩
        · rw [r3.length]; simp; exact Nat.lt_of_le_of_lt hil (Nat.lt_of_lt_of_le (show 2000000 < 2000001 by omega) (sl rfl))
        · have tk : TK H3 (upd (upd H3 t (.tup [.str l, .bl false])) D (.lst (xs ++ [.ref t]))) := (TK.new ht).trans (TK.put (get_new h3 ht))
          refine hk D (xs ++ [.ref t]) _ upd_same ?_ hDH ((k03.trans (Kp.new ht)).loc hDH)
          rw [eL, if_neg c]
          exact (r3.still tk s3).snoc (.tup (get_ne upd_same (ne_none_of h3 ht)) (.cons (.str l) (.cons (.bl false) .nil)))
      · have c : l = ("" : Str) := by simpa [eqB] using c
        refine hk D xs _ h3 ?_ hDH k03
        rw [eL, if_pos c, List.append_nil]
        exact r3
inductive Due where
  | ok (rows : List Dt) | bad (n : Nat)
def dueGo : List Dt → List Str → Due
  | rows, [] => .ok rows
  | rows, [l] => if l = ("" : Str) then .ok rows else .bad (rows.length + 1)
  | rows, p :: q :: r => match lineP (splS 32 p) with
    | none => .bad (rows.length + 1)
    | some d => if rows.length = 40 then .bad (rows.length + 1) else dueGo (rows ++ [.tup d]) (q :: r)
def wantD (K : PySem.W.Frag) (u : Due) (H : Hp) (Q : VK) (E : XK) : Prop := match u with
  | .ok rows => ∀ a xs H', H' a = some (.tup xs) → RpL H' xs rows → Kp [] H H' → Q (.ref a) H'
  | .bad n => ∀ d H', H' d = some (.xd [(("line" : Str), .int n)]) → Kp [] H H' → E (.ref (He.ga K "BadLine")) (some d) H'
def isIntV (v : V) : Prop := ∃ i, v = .int i
theorem lineP_still {z : List Str} {l : List Dt} (h : lineP z = some l) : stillL l = true := by
  match z, h with
  | [], h => cases h
  | [_], h => cases h
  | a :: b :: r, h =>
    simp only [lineP] at h
    split at h
    · split at h
      · cases h
      · split at h
        · cases h
        · rename_i l0 e
          split at h
          · cases h
          · cases h
            simp [stillL, Dt.still]
            exact condsD_still e
    · cases h
theorem RpL.at {H : Hp} : ∀ {vs : List V} {ds : List Dt} {i : Nat} {v : V}, RpL H vs ds → vs[i]? = some v → ∃ d, ds[i]? = some d ∧ Rp H v d
  | _, _, _, _, .nil, e => by simp at e
  | _, _, 0, _, .cons r _, e => by simp at e; subst e; exact ⟨_, rfl, r⟩
  | _, _, i + 1, v, .cons _ t, e => by
    obtain ⟨d, h1, h2⟩ := RpL.at (i := i) (v := v) t (by simpa using e)
    exact ⟨d, by simpa using h1, h2⟩
theorem linesD_snoc (ini : List Str) (l : Str) : linesD (ini ++ [l]) = ini.map (rowD true) ++ (if l = ("" : Str) then [] else [rowD false l]) := by simp [linesD]
theorem dueGo_step (rows : List Dt) (p l : Str) (r : List Str) : dueGo rows (p :: (r ++ [l])) = match lineP (splS 32 p) with
    | none => .bad (rows.length + 1)
    | some d => if rows.length = 40 then .bad (rows.length + 1) else dueGo (rows ++ [.tup d]) (r ++ [l]) := by
  cases r <;> rfl
theorem linesD_still (ini : List Str) (l : Str) : stillL (linesD (ini ++ [l])) = true := by
  rw [linesD_snoc]
  apply stillL_app
  · induction ini with
    | nil => rfl
    | cons a r ih => simp only [List.map_cons, stillL, ih, Bool.and_true]; rfl
  · split <;> rfl
abbrev s_book_lines : Stmt := top 28
abbrev N_book_lines : List Str := ["text", "rows", "line", "ended", "row"]
theorem sc_book_lines : FnScope N_book_lines ["text"] (defScope s_book_lines) := ⟨rfl, rfl, rfl, by decide +kernel, rfl, by decide +kernel, by decide +kernel⟩
def sp_book_lines (K : PySem.W.Frag) : Sp := fun vs H Q E => ∃ (z : Str), vs = [.str z] ∧ (z.length ≤ 2000000 ∧ wantD K (dueGo [] (splS 10 z)) H Q E)
theorem ok_book_lines {f : Addr} {fd : FuncData} (F : FunD K "book_lines" "book_lines" (defArgs s_book_lines) (defBody s_book_lines) (defScope s_book_lines) [] [] f fd)
    (C_lines_of : Cal P w K mg base CX0 1 "lines_of" ["text"] (sp_lines_of K))
    (C_line_of : Cal P w K mg base CX0 4 "line_of" ["line"] (sp_line_of K))
    (mN_len : mg "len" = none)
    (mc_MOST_LINES : ∃ t, mg "MOST_LINES" = some (.int 40 t))
    (X_BadLine : Exc1 P w K mg "BadLine" "line" isIntV)
    (mN_tuple : mg "tuple" = none) : FnOk P w K mg base (L2.CX P w) 5 f fd ["text"] (sp_book_lines K) := by
  refine F.ok sc_book_lines (fun vs H Q E h => ?_) (fun cdv A outer s H vs Q E hr h => ⟨_, (pss_cons (ps_set (i := 1) sc_book_lines.nd rfl (.inl rfl) (pe_lst pa_nil))
    (pss_cons (ps_for (passes_of rfl) rfl (kiList K (ue_call (E := E0) C_lines_of (hr.mono (by decide)) rfl pass0 (pa_cons (pu 0) pa_nil))) (kgTup K (n := 2) rfl (pgs_cons (pg_name (i := 2) sc_book_lines.nd rfl (.inl rfl)) (pgs_cons (pg_name (i := 3) sc_book_lines.nd rfl (.inl rfl)) pgs_nil))) (pss_cons (ps_set (i := 4) sc_book_lines.nd rfl (.inl rfl) (ue_call (E := E0) C_line_of (hr.mono (by decide)) rfl pass0 (pa_cons (pu 2) pa_nil)))
    (pss_cons (us_if (PW.pt (uw_or (ut_cmp o_isN (pu 4) pe_non (nomark _)) (uw_or (pt_not (ut_val (pu 3))) (pw_or1 (ut_cmp (kEq K hr.units) (pe_callB (kLen K) (by rfl) mN_len boot_len (pa_cons (pu 1) pa_nil)) (pg_c (v := .int 40) (cI mc_MOST_LINES)) (nomark _)))))) (pss_one (kRaise1 K rfl X_BadLine (hr.mono (by decide) : Room 1 _) (takes_of rfl rfl rfl rfl) (pa_cons (pe_op (kAdd K) (pe_callB (kLen K) (by rfl) mN_len boot_len (pa_cons (pu 1) pa_nil)) pe_int) pa_nil))) pss_nil)
    (pss_one (ps_expr (ue_append (pu 1) (pa_cons (pu 4) pa_nil)))))))
    (pss_one (ps_ret (pe_callTy (kTuple K) (by rfl) mN_tuple (by decide +kernel) (pa_cons (pu 1) pa_nil)))))), ?_⟩)
  · obtain ⟨z, rfl, _⟩ := h
    rfl
  · obtain ⟨z, rfl, h⟩ := h
    obtain ⟨hz, hk⟩ := h
    have hne := splS_ne 10 z
    have hwm : ∀ w ∈ splS 10 z, w.length ≤ 2000000 := fun w h => Nat.le_trans (splS_mem h) hz
    refine ⟨sl rfl, fun R hR => ⟨z, rfl, hz, fun L xs H1 hL rL hLn k1 => ?_⟩⟩
    generalize splS 10 z = ws at hk rL hne hwm
    obtain ⟨ini, l, rfl⟩ : ∃ ini l, ws = ini ++ [l] := ⟨ws.dropLast, ws.getLast hne, (List.dropLast_concat_getLast hne).symm⟩
    have hst := linesD_still ini l
    have hRL : L ≠ R := fun e => by subst e; rw [upd_same] at hLn; cases hLn
    have kR : Kp [] H (upd H R (.lst [])) := Kp.new hR
    have hxl : xs.length = ini.length + (if l = ("" : Str) then 0 else 1) := by
      rw [rL.length, linesD_snoc]; split <;> simp
    have k01 : Kp [] H H1 := kR.trans k1
    have h1R : H1 R = some (.lst []) := k1.get0 upd_same
    refine ⟨L, rfl, ⟨_, SqL.of hL⟩, for_list (xs := xs) (fun i σ H2 => ∃ (vs : List V) (rows : List Dt) (o2 o3 o4 : Option V), σ = [some (.str z), some (.ref R), o2, o3, o4] ∧ H2 R = some (.lst vs) ∧ RpL H2 vs rows ∧ stillL rows = true ∧ rows.length = i ∧ i ≤ 40 ∧ i ≤ ini.length ∧ Kp [R] H1 H2 ∧ dueGo [] (ini ++ [l]) = dueGo rows (ini.drop i ++ [l])) ?_ ?_ ?_ ?_⟩
    · exact ⟨[], [], none, none, none, rfl, h1R, .nil, rfl, rfl, by omega, by omega, Kp.refl, rfl⟩
    · rintro i σ H2 _ ⟨vs, rows, o2, o3, o4, _, _, _, _, _, _, _, k2, _⟩
      exact SqL.of (k2.get1 hL hRL)
    · rintro i x σ H2 hx ⟨vs, rows, o2, o3, o4, rfl, hv, hr, hs, hrl, hi40, hini, k2, hdue⟩
      have tk2 : TK H1 H2 := k2.tk fun b hb ys => by simp at hb; subst hb; rw [h1R]; simp
      obtain ⟨d, hd, rd⟩ := RpL.at (rL.still tk2 hst) hx
      obtain ⟨e, p, he, hpm, hp⟩ : ∃ e p, d = rowD e p ∧ p ∈ ini ++ [l] ∧ ((e = true ∧ ini[i]? = some p) ∨ (e = false ∧ i = ini.length ∧ p = l ∧ l ≠ ("" : Str))) := by
        rw [linesD_snoc] at hd
        by_cases hi : i < ini.length
        · rw [List.getElem?_append_left (by simpa using hi), List.getElem?_map, List.getElem?_eq_getElem hi] at hd
          cases hd
          exact ⟨true, _, rfl, by simp, .inl ⟨rfl, List.getElem?_eq_getElem hi⟩⟩
        · have hi : i = ini.length := by omega
          subst hi
          rw [List.getElem?_append_right (by simp)] at hd
          split at hd
          · simp at hd
          · rename_i hl
            simp at hd
            exact ⟨false, l, hd.symm, by simp, .inr ⟨rfl, rfl, rfl, hl⟩⟩
      subst he
      obtain ⟨a, rfl, ha⟩ : ∃ a, x = .ref a ∧ H2 a = some (.tup [.str p, .bl e]) := by
        cases rd with
        | tup h r =>
          cases r with
          | cons r1 r =>
            cases r with
            | cons r2 r =>
              cases r; cases r1; cases r2
              exact ⟨_, rfl, h⟩
      refine ⟨a, _, rfl, SqT.of ha, rfl, _, _, rfl, _, _, rfl, rfl, p, rfl, hwm p hpm, fun v H3 rv k3 => ?_⟩
      have hv3 := k3.get0 hv
      have k03 : Kp [] H H3 := fun b o hb _ => by
        have : b ≠ R := ne_of_none hb hR
        exact k3.get0 (k2.get1 (k01.get0 hb) this)
      have lv : vs.length = rows.length := hr.length
      have rz : dueGo [] (ini ++ [l]) = .bad (rows.length + 1) → tRaise1 (He.ga K "BadLine") "line" isIntV (fun cls d _ H => E cls d H) (tCons (tOp (uAdd K) (tCB (uLen K) (tCons (uV 1) tNil)) (tC (.int 1))) tNil) (⟨fun _ _ => False, fun _ _ => False, fun _ _ => False, fun _ _ => False⟩) [some (.str z), some (.ref R), some (.str p), some (.bl e), some v] H3 := fun h => by
        rw [h] at hk
        refine ⟨vs.length, .inl ⟨_, SqL.of hv3, rfl⟩, _, rfl, ⟨_, rfl⟩, fun d hd => hk d _ ?_ (k03.trans (Kp.new hd))⟩
        rw [upd_same, lv]; rfl
      have stp : ∀ q, lineP (splS 32 p) = q → e = true → dueGo [] (ini ++ [l]) = match q with
          | none => .bad (rows.length + 1)
          | some d => if rows.length = 40 then .bad (rows.length + 1) else dueGo (rows ++ [.tup d]) (ini.drop (i + 1) ++ [l]) := fun q hq he => by
        rcases hp with ⟨_, hp⟩ | ⟨h, _⟩
        · rw [hdue, ← List.getElem_cons_drop (i := i) (List.getElem?_eq_some_iff.mp hp).1, (List.getElem?_eq_some_iff.mp hp).2, List.cons_append, dueGo_step, hq]
        · rw [h] at he; cases he
      have bad : e = false → dueGo [] (ini ++ [l]) = .bad (rows.length + 1) := fun he => by
        rcases hp with ⟨h, _⟩ | ⟨_, h1, h2, h3⟩
        · rw [h] at he; cases he
        · rw [hdue, List.drop_eq_nil_of_le (by omega)]
          show dueGo rows [l] = _
          rw [dueGo, if_neg h3]
      refine ⟨rfl, fun c => brT (rz ?_), fun c => ⟨fun c2 => brT (rz ?_), fun c2 => ⟨vs.length, .inl ⟨_, SqL.of hv3, rfl⟩, rfl, fun c3 => rz ?_, fun c3 => ?_⟩⟩⟩
      · cases he : e with
        | false => exact bad he
        | true =>
          have := stp _ rfl he
          cases q : lineP (splS 32 p) with
          | none => rw [q] at this; exact this
          | some m => rw [q] at rv; cases rv; simp [isNonV] at c
      · exact bad (by simpa using c2)
      · have c3 : (vs.length : Int) = 40 := by simpa [eqB] using c3
        have := stp _ rfl (by simpa using c2)
        cases q : lineP (splS 32 p) with
        | none => rw [q] at this; exact this
        | some m =>
          rw [q] at this
          simp only at this
          rw [if_pos (by omega)] at this
          exact this
      · have c3 : ¬ (vs.length : Int) = 40 := by simpa [eqB] using c3
        have := stp _ rfl (by simpa using c2)
        cases q : lineP (splS 32 p) with
        | none => rw [q] at rv; cases rv; simp [isNonV] at c
        | some m =>
          rw [q] at this rv
          simp only at this
          rw [if_neg (by omega)] at this
          have tk : TK H3 (upd H3 R (.lst (vs ++ [v]))) := TK.put hv3
          have hm : stillL m = true := lineP_still q
          refine ⟨⟨vs, hv3⟩, vs, hv3, ?_, vs ++ [v], rows ++ [.tup m], _, _, _, rfl, upd_same, ?_, stillL_app hs (stillL_one (d := .tup m) hm), ?_, ?_, ?_, ?_, this⟩
          · rw [lv]; exact Nat.lt_of_le_of_lt (show rows.length ≤ 40 by omega) (Nat.lt_of_lt_of_le (show 40 < 50 by omega) (sl rfl))
          · exact (hr.still (k3.tk0.trans tk) hs).snoc (rv.still tk hm)
          · simp [hrl]
          · omega
          · rcases hp with ⟨_, hp⟩ | ⟨h, _⟩
            · exact (List.getElem?_eq_some_iff.mp hp).1
            · rw [h] at c2; simp at c2
          · exact (k2.trans (k3.to)).put (by simp)
    · rintro σ H2 ⟨vs, rows, o2, o3, o4, rfl, hv, hr, hs, hrl, hi40, hini, k2, hdue⟩
      have hle : l = ("" : Str) := by
        by_cases h : l = ("" : Str)
        · exact h
        · rw [if_neg h] at hxl; omega
      rw [if_pos hle] at hxl
      rw [List.drop_eq_nil_of_le (by omega)] at hdue
      have hd2 : dueGo [] (ini ++ [l]) = .ok rows := by rw [hdue]; show dueGo rows [l] = _; rw [dueGo, if_pos hle]
      rw [hd2] at hk
      refine ⟨vs, .inl ⟨SqL.of hv, fun p hp => hk p _ _ upd_same (hr.still (TK.new hp) hs) ?_⟩⟩
      have k02 : Kp [] H H2 := fun b o hb _ => k2.get1 (k01.get0 hb) (ne_of_none hb hR)
      exact k02.trans (Kp.new hp)
/-! the law's own reader -/
theorem named_size {x : Str} {r : List Str} (h : isNamed x = true) : sizeD (x :: r) = 2 := by
  have : isNumbered x = false := by
    simp [isNamed] at h
    rcases h with h | h <;> subst h <;> decide +kernel
  simp [sizeD, this]
theorem named_not {x : Str} (h : isNamed x = true) : isNumbered x = false := by
    simp [isNamed] at h
    rcases h with h | h <;> subst h <;> decide +kernel
abbrev s__law_condition : Stmt := top 48
abbrev N__law_condition : List Str := ["words"]
theorem sc__law_condition : FnScope N__law_condition ["words"] (defScope s__law_condition) := ⟨rfl, rfl, rfl, by decide +kernel, rfl, by decide +kernel, by decide +kernel⟩
def sp__law_condition (K : PySem.W.Frag) : Sp := fun vs H Q _ => ∃ (a : Addr) (ws : List Str), vs = [.ref a] ∧ (H a = some (.lst (ws.map V.str)) ∧ (∀ w ∈ ws, w.length ≤ 2000000) ∧ ws.length ≤ 4 ∧ ∀ v H', Rp H' v (.tup ((condP (ws.take (sizeD ws))).getD [])) → Kp [] H H' → Q v H')
theorem ok__law_condition {f : Addr} {fd : FuncData} (F : FunD K "_law_condition" "_law_condition" (defArgs s__law_condition) (defBody s__law_condition) (defScope s__law_condition) [] [] f fd)
    (C__law_is_title : Cal P w K mg base CX0 1 "_law_is_title" ["word"] (sp__law_is_title K))
    (mN_len : mg "len" = none)
    (C__law_is_number : Cal P w K mg base CX0 1 "_law_is_number" ["word"] (sp__law_is_number K))
    (mN_int : mg "int" = none) : FnOk P w K mg base CX0 2 f fd ["words"] (sp__law_condition K) := by
  refine F.ok sc__law_condition (fun vs H Q E h => ?_) (fun cdv A outer s H vs Q E hr h => ⟨_, PSs.nox ((pss_cons (us_if (PW.pt (uw_or (ut_cmp o_lt (pe_callB (kLen K) (by rfl) mN_len boot_len (pa_cons (pu 0) pa_nil)) pe_int (nomark _)) (pw_or1 (pt_not (ut_val (ue_call (E := E0) C__law_is_title (hr.mono (by decide)) rfl pass0 (pa_cons (pe_ix (kIx K) (pu 0) pe_int (fun _ _ => rfl)) pa_nil))))))) (pss_one (ps_ret (pe_tup pa_nil))) pss_nil)
    (pss_cons (us_if (PW.pt (uw_or (ut_cmp (kEq K hr.units) (pe_ix (kIx K) (pu 0) pe_int (fun _ _ => rfl)) pe_str (nomark _)) (pw_or1 (ut_cmp (kEq K hr.units) (pe_ix (kIx K) (pu 0) pe_int (fun _ _ => rfl)) pe_str (nomark _))))) (pss_one (ps_ret (pe_tup (pa_cons (pe_ix (kIx K) (pu 0) pe_int (fun _ _ => rfl)) (pa_cons (pe_ix (kIx K) (pu 0) pe_int (fun _ _ => rfl)) pa_nil))))) pss_nil)
    (C8.pss_cut (us_if (PW.pt (uw_and (ut_cmp (kNe K hr.units) (pe_ix (kIx K) (pu 0) pe_int (fun _ _ => rfl)) pe_str (nomark _)) (pw_and1 (ut_cmp (kNe K hr.units) (pe_ix (kIx K) (pu 0) pe_int (fun _ _ => rfl)) pe_str (nomark _))))) (pss_one (ps_ret (pe_tup pa_nil))) pss_nil)
    (pss_cons (us_if (PW.pt (uw_or (ut_cmp o_lt (pe_callB (kLen K) (by rfl) mN_len boot_len (pa_cons (pu 0) pa_nil)) pe_int (nomark _)) (pw_or1 (pt_not (ut_val (ue_call (E := E0) C__law_is_number (hr.mono (by decide)) rfl pass0 (pa_cons (pe_ix (kIx K) (pu 0) pe_int (fun _ _ => rfl)) pa_nil))))))) (pss_one (ps_ret (pe_tup pa_nil))) pss_nil)
    (C8.pss_cut (us_if (PW.pt (uw_and (ut_cmp (kNe K hr.units) (pe_ix (kIx K) (pu 0) pe_int (fun _ _ => rfl)) pe_str (nomark _)) (pw_and1 (ut_cmp (kNe K hr.units) (pe_ix (kIx K) (pu 0) pe_int (fun _ _ => rfl)) pe_str (nomark _))))) (pss_one (ps_ret (pe_tup pa_nil))) pss_nil)
    (pss_one (ps_ret (pe_tup (pa_cons (pe_ix (kIx K) (pu 0) pe_int (fun _ _ => rfl)) (pa_cons (pe_ix (kIx K) (pu 0) pe_int (fun _ _ => rfl)) (pa_cons (pe_ix (kIx K) (pu 0) pe_int (fun _ _ => rfl)) (pa_cons (pe_callTy c_int (by rfl) mN_int boot_int (pa_cons (pe_ix (kIx K) (pu 0) pe_int (fun _ _ => rfl)) pa_nil)) pa_nil))))))))))))), ?_⟩)
  · obtain ⟨a, ws, rfl, _⟩ := h
    rfl
  · obtain ⟨a, ws, rfl, h⟩ := h
    obtain ⟨ha, hw, h4, hk⟩ := h
    have L := SqL.of (K := K) ha
    have no : condP (ws.take (sizeD ws)) = none → ∀ p, H p = none → Q (.ref p) (upd H p (.tup [])) := fun e p hp => hk _ _ (by rw [e]; exact .tup upd_same .nil) (Kp.new hp)
    match ws, hw, h4 with
    | [], _, _ => exact ⟨_, .inl ⟨_, L, rfl⟩, brT (brT ⟨sl rfl, no rfl⟩)⟩
    | [x], _, _ => 
      refine ⟨_, .inl ⟨_, L, rfl⟩, brT (brT ⟨sl rfl, no ?_⟩)⟩
      cases e : isNumbered x <;> simp [sizeD, e, condP]
    | x :: y :: r, hw, h4 =>
      refine ⟨(x :: y :: r).length, .inl ⟨_, L, by simp⟩, fun c => ?_, fun _ => ⟨_, _, .inl L, atI_nat (j := 1) rfl, y, rfl, hw y (by simp), fun c => ⟨sl rfl, no ?_⟩, fun c => ?_⟩⟩
      · have c : (((x :: y :: r).length : Nat) : Int) < 2 := of_decide_eq_true c
        simp at c; omega
      · have c : nameB y = false := by simpa using c
        cases e : isNumbered x with
        | false => simp [sizeD, e, condP, c]
        | true =>
          rw [show sizeD (x :: y :: r) = 4 by simp [sizeD, e]]
          match r with
          | [] => simp [condP, named_not, c]
          | [_] => rfl
          | z :: u :: t => simp [condP, c]
      have cy : nameB y = true := by simpa using c
      have nm : isNamed x = true → condP ((x :: y :: r).take (sizeD (x :: y :: r))) = some [.str x, .str y] := fun h => by
        rw [named_size h]; simp [condP, h, cy]
      have two : isNamed x = true → ∀ p, H p = none → Q (.ref p) (upd H p (.tup [.str x, .str y])) := fun e p hp => hk _ _ (by rw [nm e]; exact .tup upd_same (.cons (.str _) (.cons (.str _) .nil))) (Kp.new hp)
      refine ⟨_, _, .inl L, atI_nat (j := 0) rfl, rfl, fun c => brT ⟨_, _, .inl L, atI_nat (j := 0) rfl, _, _, .inl L, atI_nat (j := 1) rfl, sl rfl, two ?_⟩, fun c => ⟨_, _, .inl L, atI_nat (j := 0) rfl, rfl, fun c2 => ⟨_, _, .inl L, atI_nat (j := 0) rfl, _, _, .inl L, atI_nat (j := 1) rfl, sl rfl, two ?_⟩, fun c2 => ?_⟩⟩
      · have c : x = ("done" : Str) := by simpa [eqB] using c
        simp [isNamed, c]
      · have c : x = ("waits" : Str) := by simpa [eqB] using c2
        simp [isNamed, c]
      have nn : isNamed x = false := by
        simp [eqB] at c c2; simp [isNamed, c, c2]
      have nb : isNumbered x = false → condP ((x :: y :: r).take (sizeD (x :: y :: r))) = none := fun h => by
        simp [sizeD, h, condP, nn]
      refine ⟨fun σ H1 => σ = L2.start N__law_condition [.ref a] ∧ H1 = H ∧ isNumbered x = true, ⟨_, _, .inl L, atI_nat (j := 0) rfl, rfl, fun d1 => ⟨_, _, .inl L, atI_nat (j := 0) rfl, rfl, fun d2 => ⟨sl rfl, no (nb ?_)⟩, fun d2 => ⟨rfl, rfl, ?_⟩⟩, fun d1 => brF ⟨rfl, rfl, ?_⟩⟩, ?_⟩
      · simp [eqB] at d1 d2; simp [isNumbered, d1, d2]
      · simp [eqB] at d2; simp [isNumbered, d2]
      · simp [eqB] at d1; simp [isNumbered, d1]
      rintro σ H1 ⟨rfl, rfl, hx⟩
      rw [show sizeD (x :: y :: r) = 4 by simp [sizeD, hx]] at no hk
      match r, hw, h4 with
      | [], hw, _ => exact ⟨_, .inl ⟨_, L, rfl⟩, brT (brT ⟨sl rfl, no (by simp [condP, nn])⟩)⟩
      | [_], hw, _ => exact ⟨_, .inl ⟨_, L, rfl⟩, brT (brT ⟨sl rfl, no rfl⟩)⟩
      | z :: u :: q :: t, hw, h4 => simp at h4
      | [z, u], hw, _ =>
        refine ⟨_, .inl ⟨_, L, rfl⟩, brF ⟨_, _, .inl L, atI_nat (j := 3) rfl, u, rfl, hw u (by simp), fun d => ⟨sl rfl, no ?_⟩, fun d => ?_⟩⟩
        · have d : numB u = false := by simpa using d
          simp [condP, d]
        have du : numB u = true := by simpa using d
        refine ⟨fun σ H2 => σ = L2.start N__law_condition [.ref a] ∧ H2 = H1 ∧ isCmp z = true, ⟨_, _, .inl L, atI_nat (j := 2) rfl, rfl, fun d1 => ⟨_, _, .inl L, atI_nat (j := 2) rfl, rfl, fun d2 => ⟨sl rfl, no ?_⟩, fun d2 => ⟨rfl, rfl, ?_⟩⟩, fun d1 => brF ⟨rfl, rfl, ?_⟩⟩, ?_⟩
        · simp [eqB] at d1 d2; simp [condP, isCmp, d1, d2]
        · simp [eqB] at d2; simp [isCmp, d2]
        · simp [eqB] at d1; simp [isCmp, d1]
        rintro σ H2 ⟨rfl, rfl, hc⟩
        refine ⟨_, _, .inl L, atI_nat (j := 0) rfl, _, _, .inl L, atI_nat (j := 1) rfl, _, _, .inl L, atI_nat (j := 2) rfl, _, _, .inl L, atI_nat (j := 3) rfl, numV u, (num_int du).1, (num_int du).2, sl rfl, fun p hp => hk _ _ ?_ (Kp.new hp)⟩
        rw [show condP (List.take 4 [x, y, z, u]) = some [.str x, .str y, .str z, .int (numV u)] by simp [condP, hx, hc, cy, du]]
        exact .tup upd_same (.cons (.str _) (.cons (.str _) (.cons (.str _) (.cons (.int _) .nil))))
def mS (l : List (List Nat)) : List V := (l.map SX.S).map V.str
theorem mS_snoc (d : List (List Nat)) (c : List Nat) : mS (d ++ [c]) = mS d ++ [.str (SX.S c)] := by simp [mS]
theorem mS_len (d : List (List Nat)) : (mS d).length = d.length := by simp [mS]
theorem S_nil : ("" : Str) = SX.S [] := by apply TL.ext_tl; decide +kernel
theorem S_snoc (a : List Nat) (c : Nat) : SX.S a ++ (⟨#[c]⟩ : Str) = SX.S (a ++ [c]) := by
  apply TL.ext_tl
  rw [TL.tl_append]
theorem S_length (a : List Nat) : (SX.S a).length = a.length := by rw [len_cps]
theorem one_sp (c : Nat) : decide ((⟨#[c]⟩ : Str) = (" " : Str)) = decide (c = 32) := by
  rw [decide_eq_decide]
  constructor
  · intro h
    have := congrArg (fun z : Str => z.cps.toList) h
    have e : ((" " : Str)).cps.toList = [32] := by decide +kernel
    rw [e] at this
    simpa using this
  · intro h; subst h; decide +kernel
theorem one_nl (c : Nat) : decide ((⟨#[c]⟩ : Str) = ("\n" : Str)) = decide (c = 10) := by
  rw [decide_eq_decide]
  constructor
  · intro h
    have := congrArg (fun z : Str => z.cps.toList) h
    have e : (("\n" : Str)).cps.toList = [10] := by decide +kernel
    rw [e] at this
    simpa using this
  · intro h; subst h; decide +kernel
theorem ixN_lt {n j : Nat} (h : j < n) : ixN n (j : Int) = some j := by
  unfold ixN
  rw [if_pos (by omega), if_pos (by omega)]; simp
theorem take4 (r : List Str) : (r.take 4).take (sizeD (r.take 4)) = r.take (sizeD r) := by
  cases r with
  | nil => rfl
  | cons a r =>
    cases e : isNumbered a with
    | true => simp [sizeD, e, List.take_take]
    | false => simp [sizeD, e, List.take_take]
theorem drop_min (r : List Str) (n : Nat) : r.drop (min n r.length) = r.drop n := by
  by_cases h : n ≤ r.length
  · rw [Nat.min_eq_left h]
  · rw [Nat.min_eq_right (by omega), List.drop_eq_nil_of_le (Nat.le_refl _), List.drop_eq_nil_of_le (by omega)]
theorem condP_pos {ws : List Str} {l : List Dt} (h : condP ws = some l) : 0 < l.length := by
  rw [condP_len h]
  match ws, h with
  | _ :: _, _ => simp
  | [], h => cases h
def lnk (k : Nat) : Str := if k = 0 then "when" else "and"
abbrev s__law_line : Stmt := top 49
abbrev N__law_line : List Str := ["line", "words", "sign", "rows", "at", "k", "row"]
theorem sc__law_line : FnScope N__law_line ["line"] (defScope s__law_line) := ⟨rfl, rfl, rfl, by decide +kernel, rfl, by decide +kernel, by decide +kernel⟩
def sp__law_line (K : PySem.W.Frag) : Sp := fun vs H Q _ => ∃ (z : Str), vs = [.str z] ∧ (z.length ≤ 2000000 ∧ ∀ v H', Rp H' v (optD (lineP (splS 32 z))) → Kp [] H H' → Q v H')
theorem ok__law_line {f : Addr} {fd : FuncData} (F : FunD K "_law_line" "_law_line" (defArgs s__law_line) (defBody s__law_line) (defScope s__law_line) [] [] f fd)
    (mN_len : mg "len" = none)
    (C__law_is_title : Cal P w K mg base CX0 1 "_law_is_title" ["word"] (sp__law_is_title K))
    (mN_range : mg "range" = none)
    (C__law_condition : Cal P w K mg base CX0 2 "_law_condition" ["words"] (sp__law_condition K))
    (mN_min : mg "min" = none)
    (mN_tuple : mg "tuple" = none) : FnOk P w K mg base CX0 3 f fd ["line"] (sp__law_line K) := by
  refine F.ok sc__law_line (fun vs H Q E h => ?_) (fun cdv A outer s H vs Q E hr h => ⟨_, PSs.nox ((pss_cons (ps_set (i := 1) sc__law_line.nd rfl (.inl rfl) (pe_lst (pa_cons pe_str pa_nil)))
    (C8.pss_cut (ps_for PassesOwn.never rfl (pi_str (pu 0)) (pg_name (i := 2) sc__law_line.nd rfl (.inl rfl)) (pss_one (us_if (ut_cmp (kEq K hr.units) (pu 2) pe_str (nomark _)) (pss_one (ps_expr (ue_append (pu 1) (pa_cons pe_str pa_nil)))) (pss_one (ps_asg (pe_op (kAdd K) (pe_ix (kIx K) (pu 1) (pe_op o_sub (pe_callB (kLen K) (by rfl) mN_len boot_len (pa_cons (pu 1) pa_nil)) pe_int) (fun _ _ => rfl)) (pu 2)) (pg_sub (pu 1) (pe_op o_sub (pe_callB (kLen K) (by rfl) mN_len boot_len (pa_cons (pu 1) pa_nil)) pe_int) st_list))))))
    (C8.pss_cut (us_if (PW.pt (uw_or (ut_cmp o_lt (pe_callB (kLen K) (by rfl) mN_len boot_len (pa_cons (pu 1) pa_nil)) pe_int (nomark _)) (uw_or (ut_cmp (kNe K hr.units) (pe_ix (kIx K) (pu 1) pe_int (fun _ _ => rfl)) pe_str (nomark _)) (pw_or1 (PW.pt (uw_and (ut_cmp (kNe K hr.units) (pe_ix (kIx K) (pu 1) pe_int (fun _ _ => rfl)) pe_str (nomark _)) (pw_and1 (pt_not (ut_val (ue_call (E := E0) C__law_is_title (hr.mono (by decide)) rfl pass0 (pa_cons (pe_ix (kIx K) (pu 1) pe_int (fun _ _ => rfl)) pa_nil))))))))))) (pss_one (ps_ret pe_non)) pss_nil)
    (pss_cons (ps_set (i := 3) sc__law_line.nd rfl (.inl rfl) (pe_lst pa_nil))
    (pss_cons (ps_set (i := 4) sc__law_line.nd rfl (.inl rfl) pe_int)
    (C8.pss_cut (ps_for PassesOwn.never rfl (pi_range1 (by rfl) mN_range (pa_cons (pe_callB (kLen K) (by rfl) mN_len boot_len (pa_cons (pu 1) pa_nil)) pa_nil)) (pg_name (i := 5) sc__law_line.nd rfl (.inl rfl)) (pss_one (us_if (ut_cmp o_lt (pu 4) (pe_callB (kLen K) (by rfl) mN_len boot_len (pa_cons (pu 1) pa_nil)) (nomark _)) (pss_cons (ps_set (i := 6) sc__law_line.nd rfl (.inl rfl) (ue_call (E := E0) C__law_condition (hr.mono (by decide)) rfl pass0 (pa_cons (pe_slice (kSl K) (pu 1) (po_u (pe_op (kAdd K) (pu 4) pe_int)) (po_u (pe_op (kAdd K) (pu 4) pe_int))) pa_nil)))
    (pss_cons (us_if (PW.pt (uw_or (ut_cmp (kNe K hr.units) (pe_ix (kIx K) (pu 1) (pu 4) (fun _ _ => rfl)) (pe_ix (kIx K) (pe_lst (pa_cons pe_str (pa_cons pe_str pa_nil))) (pe_callB (kMin K rfl) (by rfl) mN_min (by decide +kernel) (pa_cons pe_int (pa_cons (pu 5) pa_nil))) (fun _ _ => rfl)) (nomark _)) (pw_or1 (ut_cmp (kEq K hr.units) (pe_callB (kLen K) (by rfl) mN_len boot_len (pa_cons (pu 6) pa_nil)) pe_int (nomark _))))) (pss_one (ps_ret pe_non)) pss_nil)
    (pss_cons (ps_expr (ue_append (pu 3) (pa_cons (pu 6) pa_nil)))
    (pss_one (ps_set (i := 4) sc__law_line.nd rfl (.inl rfl) (pe_op (kAdd K) (pe_op (kAdd K) (pu 4) pe_int) (pe_callB (kLen K) (by rfl) mN_len boot_len (pa_cons (pu 6) pa_nil)))))))) pss_nil)))
    (pss_cons (us_if (ut_cmp o_gt (pe_callB (kLen K) (by rfl) mN_len boot_len (pa_cons (pu 3) pa_nil)) pe_int (nomark _)) (pss_one (ps_ret pe_non)) pss_nil)
    (pss_one (ps_ret (pe_tup (pa_cons (pe_ix (kIx K) (pu 1) pe_int (fun _ _ => rfl)) (pa_cons (pe_callTy (kTuple K) (by rfl) mN_tuple (by decide +kernel) (pa_cons (pu 3) pa_nil)) pa_nil))))))))))))), ?_⟩)
  · obtain ⟨z, rfl, _⟩ := h
    rfl
  · obtain ⟨z, rfl, h⟩ := h
    obtain ⟨hz, hk⟩ := h
    have big : ∀ n : Nat, n ≤ 2000001 → n < sizeLine := fun n h => Nat.lt_of_le_of_lt h (Nat.lt_of_lt_of_le (show 2000001 < 2000002 by omega) (sl rfl))
    refine ⟨sl rfl, fun W hW => ⟨fun σ H1 => ∃ o2, σ = [some (.str z), some (.ref W), o2, none, none, none, none] ∧ H1 W = some (.lst ((splS 32 z).map V.str)) ∧ Kp [] H H1, ⟨z, rfl, for_str (fun i σ H1 => ∃ (d : List (List Nat)) (c : List Nat) (o2 : Option V), σ = [some (.str z), some (.ref W), o2, none, none, none, none] ∧ H1 W = some (.lst (mS (d ++ [c]))) ∧ TL.spl [32] 0 [] z.cps.toList = d ++ TL.spl [32] 0 c (z.cps.toList.drop i) ∧ d.length ≤ i ∧ c.length ≤ i ∧ Kp [] H H1) ?_ ?_ ?_⟩, ?_⟩⟩
    · refine ⟨[], [], none, rfl, ?_, rfl, by simp, by simp, Kp.new hW⟩
      rw [upd_same, S_nil]; rfl
    · rintro i ch σ H1 hi ⟨d, c, o2, rfl, hw, hs, hd, hc, k1⟩
      have hil := cps_lt hi
      have hsp : z.cps.toList.drop i = ch :: z.cps.toList.drop (i + 1) := by
        rw [← List.getElem_cons_drop (List.getElem?_eq_some_iff.mp hi).1, (List.getElem?_eq_some_iff.mp hi).2]
      rw [hsp, spl1] at hs
      have hl : (mS (d ++ [c])).length = d.length + 1 := by rw [mS_len]; simp
      have hl2 : (((mS (d ++ [c])).length : Nat) : Int) - 1 = (d.length : Nat) := by rw [hl]; omega
      refine ⟨rfl, fun q => ?_, fun q => ?_⟩
      · have q : ch = 32 := by simpa [eqB, one_sp] using q
        rw [if_pos q] at hs
        refine ⟨⟨_, hw⟩, _, hw, big _ (by rw [hl]; omega), d ++ [c], [], _, rfl, ?_, by rw [hs]; simp, by simp; omega, by simp, k1.loc hW⟩
        rw [upd_same, S_nil, mS_snoc (d ++ [c])]
      · have q : ¬ ch = 32 := by simpa [eqB, one_sp] using q
        rw [if_neg q] at hs
        refine ⟨_, .inl ⟨_, SqL.of hw, rfl⟩, _, .str (SX.S c), .inl (SqL.of hw), ?_, ?_, ?_⟩
        · rw [hl2]; exact atI_nat (by rw [mS_snoc, ← mS_len d]; simp)
        · rw [S_length]; exact Nat.le_trans (Nat.add_le_add_right hc _) (by have := big (i + 1) (by omega); simpa [len_cps] using Nat.le_of_lt this)
        · refine ⟨_, .inl ⟨_, SqL.of hw, rfl⟩, _, d.length, hw, ?_, d, c ++ [ch], _, rfl, ?_, hs, by omega, by simp; omega, k1.loc hW⟩
          · rw [hl2]; exact ixN_lt (by rw [hl]; omega)
          · rw [upd_same, S_snoc, mS_snoc, mS_snoc, ← mS_len d, List.set_append_right _ _ (Nat.le_refl _)]; simp
    · rintro σ H1 ⟨d, c, o2, rfl, hw, hs, hd, hc, k1⟩
      refine ⟨o2, rfl, ?_, k1⟩
      rw [hw, len_cps, List.drop_length, spl_nil1] at *
      simp only [splS, hs]; rfl
    rintro σ H1 ⟨o2, rfl, hw, k1⟩
    have hwl := splS_len 32 z
    have hwm : ∀ w ∈ splS 32 z, w.length ≤ 2000000 := fun w h => Nat.le_trans (splS_mem h) hz
    generalize splS 32 z = ws at hk hwl hwm hw ⊢
    have no : lineP ws = none → ∀ H', Kp [] H H' → Q .non H' := fun e H' k => hk _ _ (by rw [e]; exact .non) k
    have L1 := SqL.of (K := K) hw
    refine ⟨fun σ H2 => σ = [some (.str z), some (.ref W), o2, none, none, none, none] ∧ Kp [] H1 H2 ∧ ∃ y r, ws = ("let" : Str) :: y :: r ∧ (!decide (y = ("*" : Str)) && !nameB y) = false, ?_, ?_⟩
    · match ws, hwm, hwl with
      | [], _, _ => exact ⟨_, .inl ⟨_, L1, rfl⟩, brT (brT (no rfl _ k1))⟩
      | [_], _, _ => exact ⟨_, .inl ⟨_, L1, rfl⟩, brT (brT (no rfl _ k1))⟩
      | x :: y :: r, hwm, hwl =>
        refine ⟨(x :: y :: r).length, .inl ⟨_, L1, by simp⟩, fun c => ?_, fun _ => ⟨_, _, .inl L1, atI_nat (j := 0) rfl, rfl, fun c => brT (no ?_ _ k1), fun c => ?_⟩⟩
        · have c : (((x :: y :: r).length : Nat) : Int) < 2 := of_decide_eq_true c
          simp at c; omega
        · have c : ¬ x = ("let" : Str) := by simpa [eqB] using c
          simp [lineP, c]
        have cx : x = ("let" : Str) := by simpa [eqB] using c
        subst cx
        refine ⟨_, _, .inl L1, atI_nat (j := 1) rfl, rfl, fun c => ⟨_, _, .inl L1, atI_nat (j := 1) rfl, y, rfl, hwm y (by simp), fun c2 => no ?_ _ k1, fun c2 => ⟨rfl, Kp.refl, y, r, rfl, ?_⟩⟩, fun c => brF ⟨rfl, Kp.refl, y, r, rfl, ?_⟩⟩
        · have c : ¬ y = ("*" : Str) := by simpa [eqB] using c
          have c2 : nameB y = false := by simpa using c2
          simp [lineP, c, c2]
        · have c2 : nameB y = true := by simpa using c2
          simp [c2]
        · have c : y = ("*" : Str) := by simpa [eqB] using c
          simp [c]
    rintro σ H2 ⟨rfl, k2, y, r, rfl, hy⟩
    have hw2 := k2.get0 hw
    refine ⟨sl rfl, fun R hR => ⟨fun σ H3 => ∃ (vs : List V) (ds : List Dt) (at_ : Nat) (o5 o6 : Option V), σ = [some (.str z), some (.ref W), o2, some (.ref R), some (.int at_), o5, o6] ∧ H3 R = some (.lst vs) ∧ RpL H3 vs ds ∧ stillL ds = true ∧ condsD ("when" : Str) r = some ds ∧ Kp [] H2 H3, ?_, ?_⟩⟩
    · refine ⟨_, .inl ⟨_, SqL.of (K := K) (get_new hw2 hR), rfl⟩, _, rfl, by omega, by simp at hwl ⊢; omega, ?_⟩
      rw [Int.toNat_natCast, List.length_map]
      refine for_range (fun k σ H3 => ∃ (vs : List V) (ds : List Dt) (at_ : Nat) (o5 o6 : Option V), σ = [some (.str z), some (.ref W), o2, some (.ref R), some (.int at_), o5, o6] ∧ H3 R = some (.lst vs) ∧ RpL H3 vs ds ∧ stillL ds = true ∧ ds.length ≤ k ∧ condsD ("when" : Str) r = (condsD (lnk k) ((("let" : Str) :: y :: r).drop at_)).map (ds ++ ·) ∧ (2 + k ≤ at_ ∨ (("let" : Str) :: y :: r).length ≤ at_) ∧ (k = 0 → at_ = 2) ∧ Kp [] H2 H3) ?_ ?_ ?_
      · refine ⟨[], [], 2, none, none, rfl, upd_same, .nil, rfl, by simp, ?_, .inl (by omega), fun _ => rfl, Kp.new hR⟩
        show condsD ("when" : Str) r = (condsD ("when" : Str) r).map _
        cases condsD ("when" : Str) r <;> simp
      · rintro k σ H3 hki ⟨vs, ds, at_, o5, o6, rfl, hv, hr, hs, hdl, hc, hat, hk0, k3⟩
        have hw3 := k3.get0 hw2
        have L3 := SqL.of (K := K) hw3
        have k03 := k1.trans (k2.trans k3)
        refine ⟨_, .inl ⟨_, L3, rfl⟩, fun c => ?_, fun c => ?_⟩
        · have c : (at_ : Int) < (((("let" : Str) :: y :: r).map V.str).length : Nat) := of_decide_eq_true c
          rw [List.length_map] at c
          have c : at_ < (("let" : Str) :: y :: r).length := by omega
          generalize hws : (("let" : Str) :: y :: r) = ws at *
          obtain ⟨w, rest, hd1, hget, hrest⟩ : ∃ w rest, ws.drop at_ = w :: rest ∧ ws[at_]? = some w ∧ ws.drop (at_ + 1) = rest := ⟨ws[at_], ws.drop (at_ + 1), by rw [List.getElem_cons_drop], List.getElem?_eq_getElem c, rfl⟩
          have hrm : ∀ u ∈ rest, u ∈ ws := fun u h => List.mem_of_mem_drop (hrest ▸ h)
          have e1 : cutV (ws.map V.str) (some ((at_ : Int) + 1)) (some ((at_ : Int) + 5)) = (rest.take 4).map V.str := by
            have q := cut_mid (ws.map V.str) (at_ + 1) (at_ + 5)
            rw [show ((at_ + 1 : Nat) : Int) = (at_ : Int) + 1 by omega, show ((at_ + 5 : Nat) : Int) = (at_ : Int) + 5 by omega, show at_ + 5 - (at_ + 1) = 4 by omega] at q
            rw [q, take_drop_str, hrest]
          rw [hd1, condsD_cons] at hc
          refine ⟨_, L3, fun p hp => ⟨p, rest.take 4, rfl, by rw [upd_same, e1], fun u h => hwm u (hrm u (List.mem_of_mem_take h)), List.length_take_le _ _, fun v H4 rv k4 => ?_⟩⟩
          rw [take4] at rv
          have k34 : Kp [] H3 H4 := (Kp.new hp).trans k4
          have k04 := k03.trans k34
          have L4 := SqL.of (K := K) (k34.get0 hw3)
          have hv4 := k34.get0 hv
          have no' : (match condP (rest.take (sizeD rest)) with | none => none | some c => if w = lnk k then (condsD ("and" : Str) (rest.drop (sizeD rest))).map fun l => Dt.tup c :: l else none) = none → ∀ H', Kp [] H H' → Q .non H' := fun e => no (by
            rw [e] at hc
            rw [← hws]; simp [lineP, hc])
          have hmin : atI [V.str ("when" : Str), V.str ("and" : Str)] (if (0 + (k : Int)) < 1 then 0 + (k : Int) else 1) = some (.str (lnk k)) := by
            cases k with
            | zero => rfl
            | succ k =>
              rw [if_neg (by omega)]
              rfl
          refine ⟨_, .str w, .inl L4, atI_nat (j := at_) (by rw [List.getElem?_map, hget]; rfl), sl rfl, fun t ht => ⟨_, _, .inl (SqL.of upd_same), hmin, rfl, fun d => brT (no' ?_ _ (k04.trans (Kp.new ht))), fun d => ?_⟩⟩
          · have d : ¬ w = lnk k := by simpa [eqB] using d
            cases condP (rest.take (sizeD rest)) <;> simp [d]
          have dw : w = lnk k := by simpa [eqB] using d
          cases rv with
          | tup ha hl =>
            rename_i a xs
            have k45 : Kp [] H4 (upd H4 t (.lst [.str "when", .str "and"])) := Kp.new ht
            have ha5 := k45.get0 ha
            have hv5 := k45.get0 hv4
            have tk45 := k45.tk0
            have k05 := k04.trans k45
            have k25 := k3.trans (k34.trans k45)
            generalize upd H4 t (.lst [.str "when", .str "and"]) = H5 at *
            refine ⟨xs.length, .inr (.inl ⟨_, SqT.of ha5, rfl⟩), rfl, fun d => no' ?_ _ k05, fun d => ?_⟩
            · have d : (xs.length : Int) = 0 := by simpa [eqB] using d
              rw [hl.length] at d
              cases e : condP (rest.take (sizeD rest)) with
              | none => rfl
              | some l => rw [e] at d; have := condP_pos e; simp at d; rw [d] at this; simp at this
            · have d : ¬ (xs.length : Int) = 0 := by simpa [eqB] using d
              rw [hl.length] at d
              cases e : condP (rest.take (sizeD rest)) with
              | none => rw [e] at d; simp at d
              | some l =>
                rw [e] at hc hl
                have hst : stillL l = true := condP_still e
                have hl : RpL H4 xs l := hl
                have hll := condP_len e
                have tk56 : TK H5 (upd H5 R (.lst (vs ++ [.ref a]))) := TK.put hv5
                have haR : a ≠ R := fun z => by subst z; rw [hv5] at ha5; cases ha5
                have hxl : xs.length = l.length := hl.length
                have hlw : ds.length ≤ 2000000 := by omega
                refine ⟨⟨vs, hv5⟩, vs, hv5, big _ (by rw [hr.length]; omega), xs.length, .inr (.inl ⟨_, SqT.of (get_ne ha5 haR), rfl⟩), vs ++ [.ref a], ds ++ [.tup l], at_ + 1 + xs.length, _, _, rfl, upd_same, ?_, stillL_app hs (stillL_one (d := .tup l) hst), by simp; omega, ?_, ?_, fun h => by omega, ?_⟩
                · exact (hr.still (k34.tk0.trans (tk45.trans tk56)) hs).snoc (.tup (get_ne ha5 haR) (hl.still (tk45.trans tk56) hst))
                · rw [hc]
                  simp only [if_pos dw]
                  have e3 : ws.drop (at_ + 1 + xs.length) = rest.drop (sizeD rest) := by
                    rw [← List.drop_drop, hrest, hxl, hll, List.length_take, drop_min]
                  rw [e3, show lnk (k + 1) = ("and" : Str) from rfl]
                  cases condsD ("and" : Str) (rest.drop (sizeD rest)) <;> simp
                · have := condP_pos e
                  rcases hat with h | h
                  · exact .inl (by omega)
                  · exact .inr (by omega)
                · exact k25.loc hR
        · have c : ¬ (at_ : Int) < (((("let" : Str) :: y :: r).map V.str).length : Nat) := of_decide_eq_false c
          rw [List.length_map] at c
          have e0 : (("let" : Str) :: y :: r).drop at_ = [] := List.drop_eq_nil_of_le (by omega)
          refine ⟨vs, ds, at_, _, _, rfl, hv, hr, hs, by omega, ?_, .inr (by omega), fun h => by omega, k3⟩
          rw [hc, e0]; rfl
      · rintro σ H3 ⟨vs, ds, at_, o5, o6, rfl, hv, hr, hs, hdl, hc, hat, hk0, k3⟩
        refine ⟨vs, ds, at_, o5, o6, rfl, hv, hr, hs, ?_, k3⟩
        have e0 : (("let" : Str) :: y :: r).drop at_ = [] := List.drop_eq_nil_of_le (by omega)
        rw [hc, e0]; simp [condsD_nil]
    · rintro σ H3 ⟨vs, ds, at_, o5, o6, rfl, hv, hr, hs, hc, k3⟩
      have k03 := k1.trans (k2.trans k3)
      refine ⟨vs.length, .inl ⟨_, SqL.of hv, rfl⟩, fun c => no ?_ _ k03, fun c => ?_⟩
      · have c : (12 : Int) < vs.length := of_decide_eq_true c
        rw [hr.length] at c
        have c : 12 < ds.length := by omega
        simp [lineP, hy, hc, c]
      · have c : ¬ (12 : Int) < vs.length := of_decide_eq_false c
        rw [hr.length] at c
        have c : ¬ 12 < ds.length := by omega
        have L3 := SqL.of (K := K) (k3.get0 hw2)
        have e2 : lineP (("let" : Str) :: y :: r) = some [.str y, .tup ds] := by
          simp only [lineP, hy, hc, c, if_true, if_false]
          rfl
        refine ⟨_, _, .inl L3, atI_nat (j := 1) rfl, vs, .inl ⟨SqL.of hv, fun p hp => ⟨sl rfl, fun q hq => hk _ _ ?_ (k03.trans ((Kp.new hp).trans (Kp.new hq)))⟩⟩⟩
        rw [e2]
        have tk := (TK.new (H := H3) (o := .tup vs) hp).trans (TK.new (o := .tup [.str y, .ref p]) hq)
        exact .tup upd_same (.cons (.str _) (.cons (.tup (get_new upd_same hq) (hr.still tk hs)) .nil))
def dueDt (u : Due) (z : Str) : Dt := match u with
  | .ok rows => .tup [.str "read", .tup rows, .str z]
  | .bad n => .tup [.str "line", .int n, .bl true, .bl false]
def mSS (l : List (List Nat)) : List Str := l.map SX.S
theorem dueGo_cons (rows : List Dt) (p : Str) {r : List Str} (h : r ≠ []) : dueGo rows (p :: r) = match lineP (splS 32 p) with
    | none => .bad (rows.length + 1)
    | some d => if rows.length = 40 then .bad (rows.length + 1) else dueGo (rows ++ [.tup d]) r := by
  cases r with
  | nil => exact absurd rfl h
  | cons => rfl
abbrev s__law_due : Stmt := top 50
abbrev N__law_due : List Str := ["text", "lines", "line", "sign", "row"]
theorem sc__law_due : FnScope N__law_due ["text"] (defScope s__law_due) := ⟨rfl, rfl, rfl, by decide +kernel, rfl, by decide +kernel, by decide +kernel⟩
def sp__law_due (K : PySem.W.Frag) : Sp := fun vs H Q _ => ∃ (z : Str), vs = [.str z] ∧ (z.length ≤ 2000000 ∧ ∀ v H', Rp H' v (dueDt (dueGo [] (splS 10 z)) z) → Kp [] H H' → Q v H')
theorem ok__law_due {f : Addr} {fd : FuncData} (F : FunD K "_law_due" "_law_due" (defArgs s__law_due) (defBody s__law_due) (defScope s__law_due) [] [] f fd)
    (C__law_line : Cal P w K mg base CX0 3 "_law_line" ["line"] (sp__law_line K))
    (mN_len : mg "len" = none)
    (mN_tuple : mg "tuple" = none) : FnOk P w K mg base CX0 4 f fd ["text"] (sp__law_due K) := by
  refine F.ok sc__law_due (fun vs H Q E h => ?_) (fun cdv A outer s H vs Q E hr h => ⟨_, PSs.nox ((pss_cons (ps_set (i := 1) sc__law_due.nd rfl (.inl rfl) (pe_lst pa_nil))
    (pss_cons (ps_set (i := 2) sc__law_due.nd rfl (.inl rfl) pe_str)
    (pss_cons (ps_for PassesOwn.never rfl (pi_str (pu 0)) (pg_name (i := 3) sc__law_due.nd rfl (.inl rfl)) (pss_one (us_if (ut_cmp (kNe K hr.units) (pu 3) pe_str (nomark _)) (pss_one (ps_set (i := 2) sc__law_due.nd rfl (.inl rfl) (pe_op (kAdd K) (pu 2) (pu 3)))) (pss_cons (ps_set (i := 4) sc__law_due.nd rfl (.inl rfl) (ue_call (E := E0) C__law_line (hr.mono (by decide)) rfl pass0 (pa_cons (pu 2) pa_nil)))
    (pss_cons (us_if (PW.pt (uw_or (ut_cmp o_isN (pu 4) pe_non (nomark _)) (pw_or1 (ut_cmp (kEq K hr.units) (pe_callB (kLen K) (by rfl) mN_len boot_len (pa_cons (pu 1) pa_nil)) pe_int (nomark _))))) (pss_one (ps_ret (pe_tup (pa_cons pe_str (pa_cons (pe_op (kAdd K) (pe_callB (kLen K) (by rfl) mN_len boot_len (pa_cons (pu 1) pa_nil)) pe_int) (pa_cons pe_bl (pa_cons pe_bl pa_nil))))))) pss_nil)
    (pss_cons (ps_expr (ue_append (pu 1) (pa_cons (pu 4) pa_nil)))
    (pss_one (ps_set (i := 2) sc__law_due.nd rfl (.inl rfl) pe_str))))))))
    (pss_cons (us_if (ut_cmp (kNe K hr.units) (pu 2) pe_str (nomark _)) (pss_one (ps_ret (pe_tup (pa_cons pe_str (pa_cons (pe_op (kAdd K) (pe_callB (kLen K) (by rfl) mN_len boot_len (pa_cons (pu 1) pa_nil)) pe_int) (pa_cons pe_bl (pa_cons pe_bl pa_nil))))))) pss_nil)
    (pss_one (ps_ret (pe_tup (pa_cons pe_str (pa_cons (pe_callTy (kTuple K) (by rfl) mN_tuple (by decide +kernel) (pa_cons (pu 1) pa_nil)) (pa_cons (pu 0) pa_nil))))))))))), ?_⟩)
  · obtain ⟨z, rfl, _⟩ := h
    rfl
  · obtain ⟨z, rfl, h⟩ := h
    obtain ⟨hz, hk⟩ := h
    have big : ∀ n : Nat, n ≤ 2000001 → n < sizeLine := fun n h => Nat.lt_of_le_of_lt h (Nat.lt_of_lt_of_le (show 2000001 < 2000002 by omega) (sl rfl))
    refine ⟨sl rfl, fun L hL => ⟨z, rfl, for_str (fun i σ H1 => ∃ (vs : List V) (rows : List Dt) (cur : List Nat) (o3 o4 : Option V), σ = [some (.str z), some (.ref L), some (.str (SX.S cur)), o3, o4] ∧ H1 L = some (.lst vs) ∧ RpL H1 vs rows ∧ stillL rows = true ∧ rows.length ≤ 40 ∧ cur.length ≤ i ∧ dueGo [] (splS 10 z) = dueGo rows (mSS (TL.spl [10] 0 cur (z.cps.toList.drop i))) ∧ Kp [] H H1) ?_ ?_ ?_⟩⟩
    · exact ⟨[], [], [], none, none, by rw [← S_nil]; rfl, upd_same, .nil, rfl, by simp, by simp, rfl, Kp.new hL⟩
    · rintro i ch σ H1 hi ⟨vs, rows, cur, o3, o4, rfl, hv, hr, hs, h40, hcl, hd, k1⟩
      have hil := cps_lt hi
      have hsp : z.cps.toList.drop i = ch :: z.cps.toList.drop (i + 1) := by
        rw [← List.getElem_cons_drop (List.getElem?_eq_some_iff.mp hi).1, (List.getElem?_eq_some_iff.mp hi).2]
      rw [hsp, spl1] at hd
      have lv : vs.length = rows.length := hr.length
      refine ⟨rfl, fun q => ?_, fun q => ?_⟩
      · have q : ¬ ch = 10 := by simpa [eqB, one_nl] using q
        rw [if_neg q] at hd
        refine ⟨?_, vs, rows, cur ++ [ch], _, _, by rw [← S_snoc]; rfl, hv, hr, hs, h40, by simp; omega, hd, k1⟩
        rw [S_length]; exact Nat.le_trans (Nat.add_le_add_right hcl _) (Nat.le_of_lt (big (i + 1) (by omega)))
      · have q : ch = 10 := by simpa [eqB, one_nl] using q
        rw [if_pos q] at hd
        have hd : dueGo [] (splS 10 z) = match lineP (splS 32 (SX.S cur)) with
          | none => .bad (rows.length + 1)
          | some d => if rows.length = 40 then .bad (rows.length + 1) else dueGo (rows ++ [.tup d]) (mSS (TL.spl [10] 0 [] (z.cps.toList.drop (i + 1)))) := by
          rw [hd]
          exact dueGo_cons rows (SX.S cur) (r := mSS (TL.spl [10] 0 [] (z.cps.toList.drop (i + 1)))) fun e => spl_ne 10 _ _ (List.map_eq_nil_iff.mp e)
        refine ⟨SX.S cur, rfl, by rw [S_length]; omega, fun v H2 rv k2 => ?_⟩
        have hv2 := k2.get0 hv
        have k12 := k1.trans k2
        have bad : dueGo [] (splS 10 z) = .bad (rows.length + 1) → ∀ p, H2 p = none → Q (.ref p) (upd H2 p (.tup [.str "line", .int ((vs.length : Int) + 1), .bl true, .bl false])) := fun e p hp => hk _ _ (by
          rw [e]
          exact .tup upd_same (.cons (.str _) (.cons (by rw [lv]; exact .int _) (.cons (.bl _) (.cons (.bl _) .nil))))) (k12.trans (Kp.new hp))
        refine ⟨rfl, fun c => brT ⟨vs.length, .inl ⟨_, SqL.of hv2, rfl⟩, sl rfl, bad ?_⟩, fun c => ⟨vs.length, .inl ⟨_, SqL.of hv2, rfl⟩, rfl, fun c2 => ⟨vs.length, .inl ⟨_, SqL.of hv2, rfl⟩, sl rfl, bad ?_⟩, fun c2 => ?_⟩⟩
        · cases e : lineP (splS 32 (SX.S cur)) with
          | none => rw [hd, e]
          | some m => rw [e] at rv; cases rv; simp [isNonV] at c
        · have c2 : (vs.length : Int) = 40 := by simpa [eqB] using c2
          rw [hd]
          cases e : lineP (splS 32 (SX.S cur)) with
          | none => rfl
          | some m => simp only; rw [if_pos (by omega)]
        · have c2 : ¬ (vs.length : Int) = 40 := by simpa [eqB] using c2
          cases e : lineP (splS 32 (SX.S cur)) with
          | none => rw [e] at rv; cases rv; simp [isNonV] at c
          | some m =>
            rw [e] at hd rv
            simp only at hd
            rw [if_neg (by omega)] at hd
            have tk : TK H2 (upd H2 L (.lst (vs ++ [v]))) := TK.put hv2
            have hm : stillL m = true := lineP_still e
            refine ⟨⟨vs, hv2⟩, vs, hv2, big _ (by omega), vs ++ [v], rows ++ [.tup m], [], _, _, by rw [← S_nil]; rfl, upd_same, (hr.still (k2.tk0.trans tk) hs).snoc (rv.still tk hm), stillL_app hs (stillL_one (d := .tup m) hm), by simp; omega, by simp, hd, k12.loc hL⟩
    · rintro σ H1 ⟨vs, rows, cur, o3, o4, rfl, hv, hr, hs, h40, hcl, hd, k1⟩
      have lv : vs.length = rows.length := hr.length
      rw [len_cps, List.drop_length, spl_nil1] at hd
      have hd : dueGo [] (splS 10 z) = if SX.S cur = ("" : Str) then .ok rows else .bad (rows.length + 1) := hd
      refine ⟨rfl, fun c => ⟨vs.length, .inl ⟨_, SqL.of hv, rfl⟩, sl rfl, fun p hp => hk _ _ ?_ (k1.trans (Kp.new hp))⟩, fun c => ⟨vs, .inl ⟨SqL.of hv, fun p hp => ⟨sl rfl, fun q hq => hk _ _ ?_ (k1.trans ((Kp.new hp).trans (Kp.new hq)))⟩⟩⟩⟩
      · have c : ¬ SX.S cur = ("" : Str) := by simpa [eqB] using c
        rw [hd, if_neg c]
        exact .tup upd_same (.cons (.str _) (.cons (by rw [lv]; exact .int _) (.cons (.bl _) (.cons (.bl _) .nil))))
      · have c : SX.S cur = ("" : Str) := by simpa [eqB] using c
        rw [hd, if_pos c]
        have tk := (TK.new (H := H1) (o := .tup vs) hp).trans (TK.new (o := .tup [.str "read", .ref p, .str z]) hq)
        exact .tup upd_same (.cons (.str _) (.cons (.tup (get_new upd_same hq) (hr.still tk hs)) (.cons (.str _) .nil)))
/-! the book -/
def bookF (q : Addr) (z : Str) : List (Str × V) := [(("lines" : Str), .ref q), (("_text" : Str), .str z)]
/-- a book of the text z stands at a -/
def BookAt (K : PySem.W.Frag) (H : Hp) (a : Addr) (z : Str) (rows : List Dt) : Prop := ∃ dx q xs, H a = some (.ins (He.ga K "RuleBook") dx (bookF q z)) ∧ H q = some (.tup xs) ∧ RpL H xs rows
def wantB (K : PySem.W.Frag) (u : Due) (a : Addr) (z : Str) (H : Hp) (Q : VK) (E : XK) : Prop := match u with
  | .ok rows => ∀ H', BookAt K H' a z rows → Kp [a] H H' → Q .non H'
  | .bad n => ∀ d H', H' d = some (.xd [(("line" : Str), .int n)]) → Kp [a] H H' → E (.ref (He.ga K "BadLine")) (some d) H'
theorem dueGo_still : ∀ {ws : List Str} {rows l : List Dt}, stillL rows = true → dueGo rows ws = .ok l → stillL l = true
  | [], rows, l, h, e => by simp [dueGo] at e; subst e; exact h
  | [w], rows, l, h, e => by
    simp only [dueGo] at e
    split at e
    · cases e; exact h
    · cases e
  | p :: q :: r, rows, l, h, e => by
    simp only [dueGo] at e
    cases e2 : lineP (splS 32 p) with
    | none => rw [e2] at e; cases e
    | some m =>
      rw [e2] at e
      simp only at e
      split at e
      · cases e
      · exact dueGo_still (stillL_app h (stillL_one (d := .tup m) (lineP_still e2))) e
abbrev s_RuleBook___init__ : Stmt := inClass (top 35) 0
abbrev N_RuleBook___init__ : List Str := ["self", "text"]
theorem sc_RuleBook___init__ : FnScope N_RuleBook___init__ ["self", "text"] (defScope s_RuleBook___init__) := ⟨rfl, rfl, rfl, by decide +kernel, rfl, by decide +kernel, by decide +kernel⟩
def sp_RuleBook___init__ (K : PySem.W.Frag) : Sp := fun vs H Q E => ∃ (a dx : Addr) (z : Str), vs = [.ref a, .str z] ∧ (H a = some (.ins (He.ga K "RuleBook") dx []) ∧ z.length ≤ 2000000 ∧ wantB K (dueGo [] (splS 10 z)) a z H Q E)
theorem ok_RuleBook___init__ {f : Addr} {fd : FuncData} (F : FunD K "__init__" "RuleBook.__init__" (defArgs s_RuleBook___init__) (defBody s_RuleBook___init__) (defScope s_RuleBook___init__) [] [] f fd)
    (cl_RuleBook : Cls K (He.ga K "RuleBook"))
    (na_RuleBook_lines : NoAttr K (He.ga K "RuleBook") "lines")
    (C_book_lines : Cal P w K mg base (L2.CX P w) 5 "book_lines" ["text"] (sp_book_lines K))
    (na_RuleBook__text : NoAttr K (He.ga K "RuleBook") "_text") : FnOk P w K mg base (L2.CX P w) 6 f fd ["self", "text"] (sp_RuleBook___init__ K) := by
  refine F.ok sc_RuleBook___init__ (fun vs H Q E h => ?_) (fun cdv A outer s H vs Q E hr h => ⟨_, (pss_cons (kSetF K (pu 0) (ue_call (E := E) C_book_lines (hr.mono (by decide)) rfl (passes_call (takes_of rfl rfl rfl rfl) (fun _ _ _ _ h => h)) (pa_cons (pu 1) pa_nil)) rfl)
    (pss_one (kSetF K (pu 0) (pu 1) rfl))), ?_⟩)
  · obtain ⟨a, dx, z, rfl, _⟩ := h
    rfl
  · obtain ⟨a, dx, z, rfl, h⟩ := h
    obtain ⟨ha, hz, hk⟩ := h
    refine ⟨z, rfl, hz, ?_⟩
    cases e : dueGo [] (splS 10 z) with
    | bad n =>
      rw [e] at hk
      exact fun d H' h1 k => hk d H' h1 k.to
    | ok rows =>
      rw [e] at hk
      intro q xs H1 h1 h2 k1
      have h3 := k1.get0 ha
      have hst := dueGo_still rfl e
      refine ⟨a, _, _, _, rfl, h3, cl_RuleBook, na_RuleBook_lines, Nat.le_of_ble_eq_true rfl, a, _, _, _, rfl, upd_same, cl_RuleBook, na_RuleBook__text, Nat.le_of_ble_eq_true rfl, hk _ ?_ ?_⟩
      · have hqa : q ≠ a := fun z => by subst z; rw [h3] at h1; cases h1
        have tk : TK H1 (upd (upd H1 a (.ins (He.ga K "RuleBook") dx (putF "lines" (.ref q) []))) a (.ins (He.ga K "RuleBook") dx (bookF q z))) := fun b ys e => by
          have hb : b ≠ a := fun z => by subst z; rw [h3] at e; cases e
          rw [upd_ne hb, upd_ne hb]; exact e
        exact ⟨dx, q, xs, upd_same, tk _ _ h1, h2.still tk hst⟩
      · exact ((k1.to).put (by simp)).put (by simp)
abbrev s_RuleBook_text : Stmt := inClass (top 35) 1
abbrev N_RuleBook_text : List Str := ["self"]
theorem sc_RuleBook_text : FnScope N_RuleBook_text ["self"] (defScope s_RuleBook_text) := ⟨rfl, rfl, rfl, by decide +kernel, rfl, by decide +kernel, by decide +kernel⟩
def sp_RuleBook_text (K : PySem.W.Frag) : Sp := fun vs H Q _ => ∃ (a dx q : Addr) (z : Str), vs = [.ref a] ∧ (H a = some (.ins (He.ga K "RuleBook") dx (bookF q z)) ∧ Q (.str z) H)
theorem ok_RuleBook_text {f : Addr} {fd : FuncData} (F : FunD K "text" "RuleBook.text" (defArgs s_RuleBook_text) (defBody s_RuleBook_text) (defScope s_RuleBook_text) [] [] f fd)
    (cl_RuleBook : Cls K (He.ga K "RuleBook"))
    (na_RuleBook__text : NoAttr K (He.ga K "RuleBook") "_text") : FnOk P w K mg base CX0 1 f fd ["self"] (sp_RuleBook_text K) := by
  refine F.ok sc_RuleBook_text (fun vs H Q E h => ?_) (fun cdv A outer s H vs Q E hr h => ⟨_, PSs.nox ((pss_one (ps_ret (kFld K (pu 0) rfl)))), ?_⟩)
  · obtain ⟨a, dx, q, z, rfl, _⟩ := h
    rfl
  · obtain ⟨a, dx, q, z, rfl, h⟩ := h
    exact ⟨a, _, _, _, _, rfl, h.1, cl_RuleBook, na_RuleBook__text, rfl, h.2⟩
abbrev s__law_told : Stmt := top 51
abbrev N__law_told : List Str := ["text", "book", "told", "e", "near"]
theorem sc__law_told : FnScope N__law_told ["text"] (defScope s__law_told) := ⟨rfl, rfl, rfl, by decide +kernel, rfl, by decide +kernel, by decide +kernel⟩
def sp__law_told (K : PySem.W.Frag) : Sp := fun vs H Q _ => ∃ (z : Str), vs = [.str z] ∧ (z.length ≤ 2000000 ∧ ∀ v H', Rp H' v (dueDt (dueGo [] (splS 10 z)) z) → Kp [] H H' → Q v H')
theorem ok__law_told {f : Addr} {fd : FuncData} (F : FunD K "_law_told" "_law_told" (defArgs s__law_told) (defBody s__law_told) (defScope s__law_told) [] [] f fd)
    (mr_BadLine : mg "BadLine" = some (.ref (He.ga K "BadLine")))
    (em_BadLine_BadLine : PySem.W.exmOne K (.ref (He.ga K "BadLine")) (.ref (He.ga K "BadLine")) = some true)
    (M_RuleBook : Mkr P w K mg base (L2.CX P w) 6 "RuleBook" ["self", "text"] (sp_RuleBook___init__ K))
    (ki_BadLine_TooLarge : PySem.W.kitOne K (.ref (He.ga K "BadLine")) (.ref (He.ga K "TooLarge")) = some false)
    (mN_isinstance : mg "isinstance" = none)
    (mr_TooLarge : mg "TooLarge" = some (.ref (He.ga K "TooLarge")))
    (ki_BadLine_BadNumber : PySem.W.kitOne K (.ref (He.ga K "BadLine")) (.ref (He.ga K "BadNumber")) = some false)
    (mr_BadNumber : mg "BadNumber" = some (.ref (He.ga K "BadNumber")))
    (ki_BadLine_BadName : PySem.W.kitOne K (.ref (He.ga K "BadLine")) (.ref (He.ga K "BadName")) = some false)
    (mr_BadName : mg "BadName" = some (.ref (He.ga K "BadName")))
    (ki_BadLine_RidesError : PySem.W.kitOne K (.ref (He.ga K "BadLine")) (.ref (He.ga K "RidesError")) = some true)
    (mr_RidesError : mg "RidesError" = some (.ref (He.ga K "RidesError")))
    (ca_BadLine_line : Cau K "BadLine" "line")
    (pr_text : Prp P w K mg base CX0 1 "RuleBook" "text" (sp_RuleBook_text K))
    (cl_RuleBook : Cls K (He.ga K "RuleBook"))
    (na_RuleBook_lines : NoAttr K (He.ga K "RuleBook") "lines") : FnOk P w K mg base (L2.CX P w) 8 f fd ["text"] (sp__law_told K) := by
  refine F.ok sc__law_told (fun vs H Q E h => ?_) (fun cdv A outer s H vs Q E hr h => ⟨_, (pss_cons (ps_set (i := 1) sc__law_told.nd rfl (.inl rfl) pe_non)
    (pss_cons (ps_set (i := 2) sc__law_told.nd rfl (.inl rfl) (pe_tup (pa_cons pe_str (pa_cons pe_int pa_nil))))
    (C8.pss_cut (ps_try_as (i := 3) (c := .ref (He.ga K "BadLine")) rfl rfl sc__law_told.nd rfl rfl (names_glob mr_BadLine) (takes_of rfl rfl rfl rfl) (fun W pn xe tk hpo => (pss_one (ps_set (i := 1) sc__law_told.nd rfl (.inl rfl) (kMakeS K M_RuleBook (hr.mono (by decide)) (by rfl) tk (pa_cons (pu 0) pa_nil))))) (fun a oe cls d pn hz hf => (pss_cons (ps_set (i := 4) sc__law_told.nd rfl (.inl rfl) (ue_or (pe_callB (call_isX hz hf) (by rfl) mN_isinstance (by decide +kernel) (pa_cons (pu 3) (pa_cons (pe_glob (v := .ref (He.ga K "BadName")) rfl mr_BadName rfl) pa_nil))) (ue_or (pe_callB (call_isX hz hf) (by rfl) mN_isinstance (by decide +kernel) (pa_cons (pu 3) (pa_cons (pe_glob (v := .ref (He.ga K "BadNumber")) rfl mr_BadNumber rfl) pa_nil))) (pe_one (pe_callB (call_isX hz hf) (by rfl) mN_isinstance (by decide +kernel) (pa_cons (pu 3) (pa_cons (pe_glob (v := .ref (He.ga K "TooLarge")) rfl mr_TooLarge rfl) pa_nil)))))))
    (pss_one (ps_set (i := 2) sc__law_told.nd rfl (.inl rfl) (pe_tup (pa_cons pe_str (pa_cons (pe_xf ca_BadLine_line.xf ca_BadLine_line.no hz hf (pu 3)) (pa_cons (pe_callB (call_isX hz hf) (by rfl) mN_isinstance (by decide +kernel) (pa_cons (pu 3) (pa_cons (pe_glob (v := .ref (He.ga K "RidesError")) rfl mr_RidesError rfl) pa_nil))) (pa_cons (pu 4) pa_nil))))))))))
    (pss_cons (us_if (ut_cmp (kEq K hr.units) (pe_ix (kIx K) (pu 2) pe_int (fun _ _ => rfl)) pe_str (nomark _)) (pss_one (ps_ret (pu 2))) pss_nil)
    (pss_one (ps_ret (pe_tup (pa_cons pe_str (pa_cons (kFld K (pu 1) rfl) (pa_cons (kProp K pr_text (hr.mono (by decide)) (pu 1) rfl) pa_nil)))))))))), ?_⟩)
  · obtain ⟨z, rfl, _⟩ := h
    rfl
  · obtain ⟨z, rfl, h⟩ := h
    obtain ⟨hz, hk⟩ := h
    refine ⟨sl rfl, fun T hT => ⟨fun σ H1 => ∃ (o1 : Option V) (t : Addr) (o3 o4 : Option V) (xs : List V), σ = [some (.str z), o1, some (.ref t), o3, o4] ∧ H1 t = some (.tup xs) ∧ Kp [] H H1 ∧
      ((∃ rows B, dueGo [] (splS 10 z) = .ok rows ∧ o1 = some (.ref B) ∧ xs = [.str "read", .int 0] ∧ BookAt K H1 B z rows) ∨ (∃ n : Nat, dueGo [] (splS 10 z) = .bad n ∧ xs = [.str "line", .int n, .bl true, .bl false])), ?_, ?_⟩⟩
    · refine fun B dx hB hdx hne => ⟨B, dx, z, rfl, upd_same, hz, ?_⟩
      have kk : ∀ H2, Kp [B] (upd (upd (upd H T (.tup [.str "read", .int 0])) dx (.own B)) B (.ins (He.ga K "RuleBook") dx [])) H2 → Kp [] (upd H T (.tup [.str "read", .int 0])) H2 := fun H2 k b o e _ => k.get1 (by rw [upd_ne (ne_of_none e hB), upd_ne (ne_of_none e hdx)]; exact e) (ne_of_none e hB)
      cases e : dueGo [] (splS 10 z) with
      | ok rows =>
        intro H2 hb k
        have k1 := kk H2 k
        exact ⟨rfl, _, T, _, _, _, rfl, k1.get0 upd_same, (Kp.new hT).trans k1, .inl ⟨rows, B, rfl, rfl, rfl, hb⟩⟩
      | bad n =>
        intro d H2 hd k
        have k1 := kk H2 k
        refine ⟨true, em_BadLine_BadLine, fun _ x hx => ?_, fun z => nomatch z⟩
        refine ⟨_, _, _, _, _, false, rfl, rfl, hd, ca_BadLine_line.ec, rfl, rel_ref, ki_BadLine_BadName, brF ⟨_, _, _, _, _, false, rfl, rfl, hd, ca_BadLine_line.ec, rfl, rel_ref, ki_BadLine_BadNumber, brF ⟨_, _, _, _, _, false, rfl, rfl, hd, ca_BadLine_line.ec, rfl, rel_ref, ki_BadLine_TooLarge, ?_⟩⟩⟩
        refine ⟨rfl, rfl, _, _, _, rfl, hd, rfl, _, _, _, _, _, true, rfl, rfl, hd, ca_BadLine_line.ec, rfl, rel_ref, ki_BadLine_RidesError, sl rfl, fun t ht => ?_⟩
        exact ⟨_, t, _, _, _, rfl, upd_same, ((Kp.new hT).trans k1).trans (Kp.new ht), .inr ⟨n, rfl, rfl⟩⟩
    · rintro σ H1 ⟨o1, t, o3, o4, xs, rfl, ht, k1, h⟩
      rcases h with ⟨rows, B, e, rfl, rfl, hb⟩ | ⟨n, e, rfl⟩
      · rw [e] at hk
        obtain ⟨dx, q, ys, hB, hq, hr⟩ := hb
        refine ⟨_, _, .inr (SqT.of ht), atI_nat (j := 0) rfl, rfl, ?_⟩
        refine brK (fun c => absurd c (by decide)) fun _ => ?_
        refine ⟨B, _, _, _, _, rfl, hB, cl_RuleBook, na_RuleBook_lines, rfl, B, dx, _, rfl, hB, B, dx, q, z, rfl, hB, sl rfl, fun p hp => hk _ _ ?_ (k1.trans (Kp.new hp))⟩
        exact .tup upd_same (.cons (.str _) (.cons (.tup (get_new hq hp) (hr.keep (Kp.new hp))) (.cons (.str _) .nil)))
      · rw [e] at hk
        refine ⟨_, _, .inr (SqT.of ht), atI_nat (j := 0) rfl, rfl, ?_⟩
        refine brK (fun _ => ?_) fun c => absurd c (by decide)
        exact hk _ _ (.tup ht (.cons (.str _) (.cons (.int _) (.cons (.bl _) (.cons (.bl _) .nil))))) k1
/-! drawn texts -/
theorem atI_in {α : Type} {l : List α} {d : Int} (h0 : 0 ≤ d) (h1 : d < l.length) : ∃ c, atI l d = some c ∧ c ∈ l := by
  obtain ⟨n, rfl⟩ := Int.eq_ofNat_of_zero_le h0
  have hn : n < l.length := by omega
  exact ⟨l[n], atI_nat (List.getElem?_eq_getElem hn), List.getElem_mem hn⟩
theorem one_len (c : Nat) : (⟨#[c]⟩ : Str).length = 1 := rfl
theorem app_len (a b : Str) : (a ++ b).length = a.length + b.length := by rw [len_cps, len_cps, len_cps, ← List.length_append]; exact congrArg List.length (TL.tl_append a b)
theorem Pool.ne {H : Hp} {p q : Addr} {o : HO} (h : Pool H p) (n : H q = none) : q ≠ p := fun z => by
  obtain ⟨_, _, _, e, _⟩ := h
  subst z; rw [e] at n; cases n
theorem Pool.new {H : Hp} {p q : Addr} {o : HO} (h : Pool H p) (n : H q = none) : Pool (upd H q o) p := by
  obtain ⟨x, b, c, e, r⟩ := h
  exact ⟨x, b, c, get_new e n, r⟩
/-- an item of a list of texts -/
theorem strIx (n : Nat) (l : List Str) {d : Int} (h0 : 0 ≤ d) (h1 : d < l.length) (h : ∀ w ∈ l, w.length ≤ n) : ∃ w : Str, atI (l.map V.str) d = some (.str w) ∧ w.length ≤ n := by
  obtain ⟨k, rfl⟩ := Int.eq_ofNat_of_zero_le h0
  have hk : k < l.length := by omega
  exact ⟨l[k], atI_nat (by rw [List.getElem?_map, List.getElem?_eq_getElem hk]; rfl), h _ (List.getElem_mem hk)⟩
theorem smallLog {n : Nat} (h : n < 1073741824) : n.log2 < 1920 := by
  by_cases h0 : n = 0
  · subst h0; decide
  · exact (Nat.log2_lt h0).mpr (Nat.lt_of_lt_of_le h (show 2 ^ 30 ≤ 2 ^ 1920 from Nat.pow_le_pow_right (by decide) (by decide)))
theorem numLen {i : Int} (h0 : 0 ≤ i) (h : i < 1000000) : (Str.ofString (toString i)).length ≤ 6 := PyProof.Rows.toString_length_le h0 (by decide) (by simpa using h)
theorem slB {n : Nat} (h : n ≤ 16777216) : n ≤ sizeLine := h
abbrev s__law_name : Stmt := top 41
abbrev N__law_name : List Str := ["pool", "signs", "name", "k"]
theorem sc__law_name : FnScope N__law_name ["pool"] (defScope s__law_name) := ⟨rfl, rfl, rfl, by decide +kernel, rfl, by decide +kernel, by decide +kernel⟩
def sp__law_name (K : PySem.W.Frag) : Sp := fun vs H Q _ => ∃ p : Addr, vs = [.ref p] ∧ (Pool H p ∧ ∀ H' (w : Str), w.length ≤ 16 → Pool H' p → Kp [p] H H' → Q (.str w) H')
theorem ok__law_name {f : Addr} {fd : FuncData} (F : FunD K "_law_name" "_law_name" (defArgs s__law_name) (defBody s__law_name) (defScope s__law_name) [] [] f fd)
    (C__law_take : Cal P w K mg base CX0 1 "_law_take" ["pool", "limit"] (sp__law_take K))
    (mN_range : mg "range" = none) : FnOk P w K mg base CX0 2 f fd ["pool"] (sp__law_name K) := by
  refine F.ok sc__law_name (fun vs H Q E h => ?_) (fun cdv A outer s H vs Q E hr h => ⟨_, PSs.nox ((pss_cons (ps_set (i := 1) sc__law_name.nd rfl (.inl rfl) pe_str)
    (pss_cons (us_if (ut_cmp (kEq K hr.units) (ue_call (E := E0) C__law_take (hr.mono (by decide)) rfl pass0 (pa_cons (pu 0) (pa_cons pe_int pa_nil))) pe_int (nomark _)) (pss_one (ps_ret (pe_ix (kIx K) (pe_lst (pa_cons pe_str (pa_cons pe_str (pa_cons pe_str (pa_cons pe_str (pa_cons pe_str (pa_cons pe_str (pa_cons pe_str (pa_cons pe_str (pa_cons pe_str (pa_cons pe_str pa_nil))))))))))) (ue_call (E := E0) C__law_take (hr.mono (by decide)) rfl pass0 (pa_cons (pu 0) (pa_cons pe_int pa_nil))) (fun _ _ => rfl)))) pss_nil)
    (pss_cons (ps_set (i := 2) sc__law_name.nd rfl (.inl rfl) (pe_ix (kIx K) (pu 1) (ue_call (E := E0) C__law_take (hr.mono (by decide)) rfl pass0 (pa_cons (pu 0) (pa_cons pe_int pa_nil))) (fun _ _ => rfl)))
    (pss_cons (ps_for PassesOwn.never rfl (pi_range1 (by rfl) mN_range (pa_cons (ue_call (E := E0) C__law_take (hr.mono (by decide)) rfl pass0 (pa_cons (pu 0) (pa_cons pe_int pa_nil))) pa_nil)) (pg_name (i := 3) sc__law_name.nd rfl (.inl rfl)) (pss_one (ps_set (i := 2) sc__law_name.nd rfl (.inl rfl) (pe_op (kAdd K) (pu 2) (pe_ix (kIx K) (pu 1) (ue_call (E := E0) C__law_take (hr.mono (by decide)) rfl pass0 (pa_cons (pu 0) (pa_cons pe_int pa_nil))) (fun _ _ => rfl))))))
    (pss_cons (us_if (ut_cmp (kEq K hr.units) (pu 2) pe_str (nomark _)) (pss_one (ps_ret pe_str)) pss_nil)
    (pss_one (ps_ret (pu 2))))))))), ?_⟩)
  · obtain ⟨p, rfl, _⟩ := h
    rfl
  · obtain ⟨p, rfl, h⟩ := h
    obtain ⟨hp, hk⟩ := h
    refine ⟨p, 3, rfl, hp, by decide, fun H1 d d0 d1 p1 k1 => ⟨rfl, fun _ => ?_, fun _ => ?_⟩⟩
    · refine ⟨sl rfl, fun q hq => ⟨p, 10, rfl, p1.new hq, by decide, fun H2 e e0 e1 p2 k2 => ?_⟩⟩
      have hq2 := k2.get1 (b := q) upd_same (Pool.ne (o := .lst []) p1 hq)
      obtain ⟨v, hv, hm⟩ := atI_in (l := [V.str ("let" : Str), .str "when", .str "and", .str "bikes", .str "free", .str "done", .str "waits", .str "streets", .str "r1", .str "a"]) e0 e1
      refine ⟨_, v, .inl (SqL.of hq2), hv, ?_⟩
      simp at hm
      have k12 := k1.trans (((Kp.new hq).to).trans k2)
      rcases hm with rfl | rfl | rfl | rfl | rfl | rfl | rfl | rfl | rfl | rfl <;> exact hk _ _ (by decide) p2 k12
    · refine ⟨p, 26, rfl, p1, by decide, fun H2 d d0 d1 p2 k2 => ?_⟩
      obtain ⟨c, hc, _⟩ := atI_in (l := (("abcdefghijklmnopqrstuvwxyz0123456789" : Str)).cps.toList) d0 (Int.lt_trans d1 (by decide))
      have k12 := k1.trans k2
      refine ⟨c, sl rfl, hc, p, 8, rfl, p2, by decide, fun H3 n n0 n1 p3 k3 => ⟨n, rfl, by omega, by omega, ?_⟩⟩
      have k13 := k12.trans k3
      refine for_range (fun i σ H4 => ∃ (w : Str) (o : Option V), σ = [some (.ref p), some (.str "abcdefghijklmnopqrstuvwxyz0123456789"), some (.str w), o] ∧ w.length = 1 + i ∧ Pool H4 p ∧ Kp [p] H H4) ?_ ?_ ?_
      · exact ⟨_, none, rfl, rfl, p3, k13⟩
      · rintro i σ H4 hi ⟨w, o, rfl, hw, p4, k4⟩
        refine ⟨p, 36, rfl, p4, by decide, fun H5 d d0 d1 p5 k5 => ?_⟩
        obtain ⟨c, hc, _⟩ := atI_in (l := (("abcdefghijklmnopqrstuvwxyz0123456789" : Str)).cps.toList) d0 (Int.lt_of_lt_of_le d1 (by decide))
        exact ⟨c, sl rfl, hc, by rw [hw, one_len]; exact Nat.le_trans (show 1 + i + 1 ≤ 100 by omega) (sl rfl), _, _, rfl, by rw [app_len, hw, one_len]; omega, p5, k4.trans k5⟩
      · rintro σ H4 ⟨w, o, rfl, hw, p4, k4⟩
        exact ⟨rfl, fun _ => hk _ _ (by decide) p4 k4, fun _ => hk _ _ (by omega) p4 k4⟩
abbrev s__law_drawn_line : Stmt := top 42
abbrev N__law_drawn_line : List Str := ["pool", "who", "line", "count", "k", "kind", "number"]
theorem sc__law_drawn_line : FnScope N__law_drawn_line ["pool"] (defScope s__law_drawn_line) := ⟨rfl, rfl, rfl, by decide +kernel, rfl, by decide +kernel, by decide +kernel⟩
def sp__law_drawn_line (K : PySem.W.Frag) : Sp := fun vs H Q _ => ∃ p : Addr, vs = [.ref p] ∧ (Pool H p ∧ ∀ H' (w : Str), w.length ≤ 2000 → Pool H' p → Kp [p] H H' → Q (.str w) H')
theorem ok__law_drawn_line {f : Addr} {fd : FuncData} (F : FunD K "_law_drawn_line" "_law_drawn_line" (defArgs s__law_drawn_line) (defBody s__law_drawn_line) (defScope s__law_drawn_line) [] [] f fd)
    (C__law_take : Cal P w K mg base CX0 1 "_law_take" ["pool", "limit"] (sp__law_take K))
    (C__law_name : Cal P w K mg base CX0 2 "_law_name" ["pool"] (sp__law_name K))
    (mN_range : mg "range" = none)
    (mN_min : mg "min" = none)
    (mN_int : mg "int" = none)
    (mN_str : mg "str" = none) : FnOk P w K mg base CX0 3 f fd ["pool"] (sp__law_drawn_line K) := by
  refine F.ok sc__law_drawn_line (fun vs H Q E h => ?_) (fun cdv A outer s H vs Q E hr h => ⟨_, PSs.nox ((pss_cons (ps_set (i := 1) sc__law_drawn_line.nd rfl (.inl rfl) pe_str)
    (C8.pss_cut (us_if (ut_cmp o_gt (ue_call (E := E0) C__law_take (hr.mono (by decide)) rfl pass0 (pa_cons (pu 0) (pa_cons pe_int pa_nil))) pe_int (nomark _)) (pss_one (ps_set (i := 1) sc__law_drawn_line.nd rfl (.inl rfl) (ue_call (E := E0) C__law_name (hr.mono (by decide)) rfl pass0 (pa_cons (pu 0) pa_nil)))) pss_nil)
    (pss_cons (ps_set (i := 2) sc__law_drawn_line.nd rfl (.inl rfl) (pe_op (kAdd K) pe_str (pu 1)))
    (pss_cons (ps_set (i := 3) sc__law_drawn_line.nd rfl (.inl rfl) (ue_call (E := E0) C__law_take (hr.mono (by decide)) rfl pass0 (pa_cons (pu 0) (pa_cons pe_int pa_nil))))
    (C8.pss_cut (us_if (ut_cmp (kEq K hr.units) (ue_call (E := E0) C__law_take (hr.mono (by decide)) rfl pass0 (pa_cons (pu 0) (pa_cons pe_int pa_nil))) pe_int (nomark _)) (pss_one (ps_set (i := 3) sc__law_drawn_line.nd rfl (.inl rfl) (pe_op (kAdd K) pe_int (ue_call (E := E0) C__law_take (hr.mono (by decide)) rfl pass0 (pa_cons (pu 0) (pa_cons pe_int pa_nil)))))) pss_nil)
    (C8.pss_cut (ps_for PassesOwn.never rfl (pi_range1 (by rfl) mN_range (pa_cons (pu 3) pa_nil)) (pg_name (i := 4) sc__law_drawn_line.nd rfl (.inl rfl)) (pss_cons (ps_set (i := 5) sc__law_drawn_line.nd rfl (.inl rfl) (ue_call (E := E0) C__law_take (hr.mono (by decide)) rfl pass0 (pa_cons (pu 0) (pa_cons pe_int pa_nil))))
    (C8.pss_cut (ps_set (i := 2) sc__law_drawn_line.nd rfl (.inl rfl) (pe_op (kAdd K) (pu 2) (pe_ix (kIx K) (pe_lst (pa_cons pe_str (pa_cons pe_str pa_nil))) (pe_callB (kMin K rfl) (by rfl) mN_min (by decide +kernel) (pa_cons pe_int (pa_cons (pu 4) pa_nil))) (fun _ _ => rfl))))
    (C8.pss_cut (ps_set (i := 2) sc__law_drawn_line.nd rfl (.inl rfl) (pe_op (kAdd K) (pe_op (kAdd K) (pu 2) (pe_ix (kIx K) (pe_lst (pa_cons pe_str (pa_cons pe_str (pa_cons pe_str (pa_cons pe_str (pa_cons pe_str (pa_cons pe_str pa_nil))))))) (pu 5) (fun _ _ => rfl))) (ue_call (E := E0) C__law_name (hr.mono (by decide)) rfl pass0 (pa_cons (pu 0) pa_nil))))
    (pss_one (us_if (ut_cmp o_lt (pu 5) pe_int (nomark _)) (pss_cons (ps_set (i := 6) sc__law_drawn_line.nd rfl (.inl rfl) (ue_call (E := E0) C__law_take (hr.mono (by decide)) rfl pass0 (pa_cons (pu 0) (pa_cons pe_int pa_nil))))
    (C8.pss_cut (us_if (ut_cmp (kEq K hr.units) (ue_call (E := E0) C__law_take (hr.mono (by decide)) rfl pass0 (pa_cons (pu 0) (pa_cons pe_int pa_nil))) pe_int (nomark _)) (pss_one (ps_set (i := 6) sc__law_drawn_line.nd rfl (.inl rfl) (ue_call (E := E0) C__law_take (hr.mono (by decide)) rfl pass0 (pa_cons (pu 0) (pa_cons pe_int pa_nil))))) pss_nil)
    (pss_one (ps_set (i := 2) sc__law_drawn_line.nd rfl (.inl rfl) (pe_op (kAdd K) (pe_op (kAdd K) (pu 2) (pe_ix (kIx K) (pe_lst (pa_cons pe_str (pa_cons pe_str pa_nil))) (pe_op o_mod (pe_callTy c_int (by rfl) mN_int boot_int (pa_cons (pu 5) pa_nil)) pe_int) (fun _ _ => rfl))) (pe_callTy c_str (by rfl) mN_str (by decide +kernel) (pa_cons (pu 6) pa_nil))))))) pss_nil))))))
    (pss_one (ps_ret (pu 2)))))))))), ?_⟩)
  · obtain ⟨p, rfl, _⟩ := h
    rfl
  · obtain ⟨p, rfl, h⟩ := h
    obtain ⟨hp, hk⟩ := h
    have slB : ∀ n : Nat, n ≤ 5000 → n ≤ sizeLine := fun n h => Nat.le_trans h (sl rfl)
    refine ⟨fun σ H1 => ∃ who : Str, σ = [some (.ref p), some (.str who), none, none, none, none, none] ∧ who.length ≤ 16 ∧ Pool H1 p ∧ Kp [p] H H1, ⟨p, 4, rfl, hp, by decide, fun H1 d d0 d1 p1 k1 => ⟨fun _ => ⟨p, rfl, p1, fun H2 w hw p2 k2 => ⟨w, rfl, hw, p2, k1.trans k2⟩⟩, fun _ => ⟨_, rfl, by decide, p1, k1⟩⟩⟩, ?_⟩
    rintro σ H1 ⟨who, rfl, hw, p1, k1⟩
    have l0 : (("let " : Str) ++ who).length ≤ 20 := by rw [app_len]; exact Nat.add_le_add (show (("let " : Str)).length ≤ 4 by decide) hw
    refine ⟨slB _ (Nat.le_trans (Nat.add_le_add (show (("let " : Str)).length ≤ 4 by decide) hw) (by decide)), p, 5, rfl, p1, by decide, fun H2 d d0 d1 p2 k2 => ?_⟩
    have k12 := k1.trans k2
    refine ⟨fun σ H3 => ∃ c : Int, σ = [some (.ref p), some (.str who), some (.str (("let " : Str) ++ who)), some (.int c), none, none, none] ∧ 0 ≤ c ∧ c ≤ 15 ∧ Pool H3 p ∧ Kp [p] H H3, ⟨p, 16, rfl, p2, by decide, fun H3 e e0 e1 p3 k3 => ⟨rfl, fun _ => ⟨p, 4, rfl, p3, by decide, fun H4 g g0 g1 p4 k4 => ⟨_, rfl, by omega, by omega, p4, (k12.trans k3).trans k4⟩⟩, fun _ => ⟨_, rfl, by omega, by omega, p3, k12.trans k3⟩⟩⟩, ?_⟩
    rintro σ H3 ⟨c, rfl, c0, c1, p3, k3⟩
    obtain ⟨n, rfl⟩ := Int.eq_ofNat_of_zero_le c0
    have hn : n ≤ 15 := by omega
    refine ⟨fun σ H4 => ∃ (line : Str) (o4 o5 o6 : Option V), σ = [some (.ref p), some (.str who), some (.str line), some (.int n), o4, o5, o6] ∧ line.length ≤ 1000 ∧ Pool H4 p ∧ Kp [p] H H4, ⟨_, rfl, by omega, by omega, ?_⟩, ?_⟩
    · rw [Int.toNat_natCast]
      refine for_range (fun i σ H4 => ∃ (line : Str) (o4 o5 o6 : Option V), σ = [some (.ref p), some (.str who), some (.str line), some (.int n), o4, o5, o6] ∧ line.length ≤ 20 + 60 * i ∧ Pool H4 p ∧ Kp [p] H H4) ⟨_, none, none, none, rfl, l0, p3, k3⟩ ?_ ?_
      · rintro i σ H4 hi ⟨line, o4, o5, o6, rfl, hl, p4, k4⟩
        have hll : line.length ≤ 1000 := by omega
        refine ⟨p, 6, rfl, p4, by decide, fun H5 kd q0 q1 p5 k5 => ⟨fun σ H6 => ∃ (line' : Str), σ = [some (.ref p), some (.str who), some (.str line'), some (.int n), some (.int (0 + (i : Int))), some (.int kd), o6] ∧ line'.length ≤ line.length + 6 ∧ Pool H6 p ∧ Kp [p] H H6, ⟨sl rfl, fun a ha => ?_⟩, ?_⟩⟩
        · obtain ⟨w, h1, h2⟩ := strIx 6 [(" when " : Str), " and "] (d := if (0 + (i : Int)) < 1 then 0 + (i : Int) else 1) (by split <;> omega) (by split <;> simp <;> omega) (by decide)
          refine ⟨_, _, .inl (SqL.of upd_same), h1, slB _ (by omega), _, rfl, by rw [app_len]; omega, p5.new ha, (k4.trans k5).trans (Kp.new ha)⟩
        rintro σ H6 ⟨line', rfl, hl', p6, k6⟩
        refine ⟨fun σ H7 => ∃ (line'' : Str), σ = [some (.ref p), some (.str who), some (.str line''), some (.int n), some (.int (0 + (i : Int))), some (.int kd), o6] ∧ line''.length ≤ line.length + 28 ∧ Pool H7 p ∧ Kp [p] H H7, ⟨sl rfl, fun a ha => ?_⟩, ?_⟩
        · obtain ⟨w, h1, h2⟩ := strIx 6 [("bikes " : Str), "bikes ", "free ", "free ", "done ", "waits "] (d := kd) q0 q1 (by decide)
          refine ⟨_, _, .inl (SqL.of upd_same), h1, slB _ (by omega), p, rfl, p6.new ha, fun H7 nm hnm p7 k7 => ⟨slB _ (by rw [app_len]; omega), _, rfl, by rw [app_len, app_len]; omega, p7, (k6.trans (Kp.new ha)).trans k7⟩⟩
        rintro σ H7 ⟨line'', rfl, hl'', p7, k7⟩
        refine ⟨fun _ => ⟨p, 8, rfl, p7, by decide, fun H8 a a0 a1 p8 k8 => ⟨fun σ H9 => ∃ b : Int, σ = [some (.ref p), some (.str who), some (.str line''), some (.int n), some (.int (0 + (i : Int))), some (.int kd), some (.int b)] ∧ 0 ≤ b ∧ b < 1000000 ∧ Pool H9 p ∧ Kp [p] H H9, ⟨p, 4, rfl, p8, by decide, fun H9 e e0 e1 p9 k9 => ⟨rfl, fun _ => ⟨p, 1000000, rfl, p9, by decide, fun H10 b b0 b1 p10 k10 => ⟨b, rfl, b0, b1, p10, ((k7.trans k8).trans k9).trans k10⟩⟩, fun _ => ⟨a, rfl, a0, by omega, p9, (k7.trans k8).trans k9⟩⟩⟩, ?_⟩⟩, fun _ => ⟨_, _, _, _, rfl, by omega, p7, k7⟩⟩
        rintro σ H9 ⟨b, rfl, b0, b1, p9, k9⟩
        refine ⟨sl rfl, fun t ht => ?_⟩
        obtain ⟨w, h1, h2⟩ := strIx 4 [(" >= " : Str), " <= "] (d := kd % 2) (by omega) (by simp; omega) (by decide)
        have nl := numLen b0 b1
        refine ⟨by decide, _, _, .inl (SqL.of upd_same), h1, slB _ (by omega), smallLog (by omega), slB _ (by rw [app_len]; omega), _, _, _, _, rfl, by rw [app_len, app_len]; omega, p9.new ht, k9.trans (Kp.new ht)⟩
      · rintro σ H4 ⟨line, o4, o5, o6, rfl, hl, p4, k4⟩
        exact ⟨line, o4, o5, o6, rfl, by omega, p4, k4⟩
    · rintro σ H4 ⟨line, o4, o5, o6, rfl, hl, p4, k4⟩
      exact hk _ _ (by omega) p4 k4
/-- texts in a list of one's own -/
def TxtL (H : Hp) (a : Addr) (n m : Nat) (ls : List Str) : Prop := H a = some (.lst (ls.map V.str)) ∧ ls.length ≤ n ∧ ∀ l ∈ ls, l.length ≤ m
abbrev s__law_drawn_lines : Stmt := top 43
abbrev N__law_drawn_lines : List Str := ["pool", "count", "k"]
theorem sc__law_drawn_lines : FnScope N__law_drawn_lines ["pool"] (defScope s__law_drawn_lines) := ⟨rfl, rfl, rfl, by decide +kernel, rfl, by decide +kernel, by decide +kernel⟩
def sp__law_drawn_lines (K : PySem.W.Frag) : Sp := fun vs H Q _ => ∃ p : Addr, vs = [.ref p] ∧ (Pool H p ∧ ∀ H' a ls, TxtL H' a 64 2000 ls → H a = none → Pool H' p → Kp [p] H H' → Q (.ref a) H')
theorem ok__law_drawn_lines {f : Addr} {fd : FuncData} (F : FunD K "_law_drawn_lines" "_law_drawn_lines" (defArgs s__law_drawn_lines) (defBody s__law_drawn_lines) (defScope s__law_drawn_lines) [] [] f fd)
    (C__law_take : Cal P w K mg base CX0 1 "_law_take" ["pool", "limit"] (sp__law_take K))
    (mN_range : mg "range" = none)
    (C__law_drawn_line : Cal P w K mg base CX0 3 "_law_drawn_line" ["pool"] (sp__law_drawn_line K)) : FnOk P w K mg base CX0 4 f fd ["pool"] (sp__law_drawn_lines K) := by
  refine F.ok sc__law_drawn_lines (fun vs H Q E h => ?_) (fun cdv A outer s H vs Q E hr h => ⟨_, PSs.nox ((pss_cons (ps_set (i := 1) sc__law_drawn_lines.nd rfl (.inl rfl) (ue_call (E := E0) C__law_take (hr.mono (by decide)) rfl pass0 (pa_cons (pu 0) (pa_cons pe_int pa_nil))))
    (C8.pss_cut (us_if (ut_cmp (kEq K hr.units) (ue_call (E := E0) C__law_take (hr.mono (by decide)) rfl pass0 (pa_cons (pu 0) (pa_cons pe_int pa_nil))) pe_int (nomark _)) (pss_one (ps_set (i := 1) sc__law_drawn_lines.nd rfl (.inl rfl) (pe_op (kAdd K) pe_int (ue_call (E := E0) C__law_take (hr.mono (by decide)) rfl pass0 (pa_cons (pu 0) (pa_cons pe_int pa_nil)))))) pss_nil)
    (pss_one (ps_ret (pe_lc (own := [("k", 2)]) rfl sc__law_drawn_lines.nd (pi_range1 (by rfl) mN_range (pa_cons (pu 1) pa_nil)) (blkOk_by (N := N__law_drawn_lines) (sc := defScope s__law_drawn_lines) (by decide +kernel)) (fun _ _ _ _ _ => (pg_name (i := 2) sc__law_drawn_lines.nd rfl (.inl rfl))) (fun _ _ _ _ _ => pts_nil) (fun _ _ _ _ _ => (ue_call (E := E0) C__law_drawn_line (hr.mono (by decide)) rfl pass0 (pa_cons (pu 0) pa_nil))))))))), ?_⟩)
  · obtain ⟨p, rfl, _⟩ := h
    rfl
  · obtain ⟨p, rfl, h⟩ := h
    obtain ⟨hp, hk⟩ := h
    refine ⟨p, 7, rfl, hp, by decide, fun H1 d d0 d1 p1 k1 => ⟨fun σ H3 => ∃ (n : Nat) (o2 : Option V), σ = [some (.ref p), some (.int n), o2] ∧ n ≤ 64 ∧ Pool H3 p ∧ Kp [p] H H3, ⟨p, 16, rfl, p1, by decide, fun H3 e e0 e1 p3 k3 => ⟨rfl, fun _ => ⟨p, 5, rfl, p3, by decide, fun H4 g g0 g1 p4 k4 => ⟨(38 + g).toNat, none, ?_, by omega, p4, (k1.trans k3).trans k4⟩⟩, fun _ => ⟨d.toNat, none, ?_, by omega, p3, k1.trans k3⟩⟩⟩, ?_⟩⟩
    · rw [Int.toNat_of_nonneg (by omega)]; rfl
    · rw [Int.toNat_of_nonneg (by omega)]; rfl
    rintro σ H3 ⟨n, o2, rfl, hn, p3, k3⟩
    refine ⟨n, rfl, by omega, by omega, ?_⟩
    rw [Int.toNat_natCast]
    refine fun D hD => ?_
    have hDp : D ≠ p := Pool.ne (o := .lst []) p3 hD
    refine lc_range (fun i H4 => ∃ ls : List Str, H4 D = some (.lst (ls.map V.str)) ∧ ls.length = i ∧ (∀ l ∈ ls, l.length ≤ 2000) ∧ Pool H4 p ∧ Kp [p] H3 H4) ⟨[], upd_same, rfl, by simp, p3.new hD, Kp.new hD⟩ ?_ ?_
    · rintro i H4 hi ⟨ls, h1, h2, h3, p4, k4⟩
      refine ⟨rfl, p, rfl, p4, fun H5 w hw p5 k5 => ?_⟩
      have hD5 := k5.get1 h1 hDp
      refine ⟨_, hD5, by simp; exact Nat.lt_of_lt_of_le (show ls.length < 100 by omega) (sl rfl), ls ++ [w], by rw [upd_same]; simp, by simp [h2], ?_, ?_, (k4.trans k5).loc hD⟩
      · intro l hl
        rcases List.mem_append.mp hl with hl | hl
        · exact h3 l hl
        · simp at hl; subst hl; exact hw
      · exact p5.keep (Kp.set (S := [D]) (by simp)) (by simpa using hDp.symm)
    · rintro H4 ⟨ls, h1, h2, h3, p4, k4⟩
      refine hk _ _ ls ⟨h1, by omega, h3⟩ ?_ p4 (k3.trans k4)
      exact k3.free hD (by simpa using hDp)
end
end LW
set_option Elab.async false
set_option linter.all false
set_option maxRecDepth 100000
set_option maxHeartbeats 1000000
namespace LW
open PySem PySem.Spec PyProof.Rows L2 U
--  : Nat) : Stmt := PySem.Challenge.pw_manyrides_k79_a_book_reads_back.main.body.getD i (.Pass ⟨0, 0, 0, 0⟩)
section
variable {P : Program} {w : World} {K : PySem.W.Frag} {mg : Str → Option Value} {base : Heap}
/-- signs and joints of texts -/
def wt (ys : List Str) : Nat := (ys.map (·.length)).sum + ys.length
theorem wt_app (a b : List Str) : wt (a ++ b) = wt a + wt b := by simp [wt]; omega
theorem wt_take (a : List Str) (n : Nat) : wt (a.take n) ≤ wt a := by
  conv => rhs; rw [← List.take_append_drop n a]
  rw [wt_app]; omega
theorem wt_drop (a : List Str) (n : Nat) : wt (a.drop n) ≤ wt a := by
  conv => rhs; rw [← List.take_append_drop n a]
  rw [wt_app]; omega
theorem wt_one (w : Str) : wt [w] = w.length + 1 := by simp [wt]
theorem wt_mem {a : List Str} {w : Str} (h : w ∈ a) : w.length + 1 ≤ wt a := by
  obtain ⟨s, t, rfl⟩ := List.append_of_mem h
  rw [show s ++ w :: t = s ++ ([w] ++ t) by simp, wt_app, wt_app, wt_one]; omega
theorem spl_wt (c : Nat) : ∀ (l acc : List Nat), ((TL.spl [c] 0 acc l).map List.length).sum + (TL.spl [c] 0 acc l).length = acc.length + l.length + 1
  | [], acc => by rw [spl_nil1]; simp
  | d :: l, acc => by
    rw [spl1]
    split
    · have := spl_wt c l []
      simp at this ⊢; omega
    · have := spl_wt c l (acc ++ [d])
      simp at this ⊢; omega
theorem splS_wt (c : Nat) (z : Str) : wt (splS c z) = z.length + 1 := by
  have := spl_wt c z.cps.toList []
  rw [len_cps]
  simp only [wt, splS, List.map_map, List.length_map]
  rw [show ((fun x : Str => x.length) ∘ SX.S) = List.length from funext S_length]
  simpa using this
theorem join_len1 (a : Str) (ha : a.length ≤ 1) : ∀ ys : List Str, (Str.join a ys).length ≤ wt ys
  | [] => by simp [Str.join]; exact Nat.zero_le _
  | [x] => by simp [Str.join, wt_one]
  | x :: y :: r => by
    have := join_len1 a ha (y :: r)
    rw [show Str.join a (x :: y :: r) = x ++ a ++ Str.join a (y :: r) from rfl, app_len, app_len, show x :: y :: r = [x] ++ (y :: r) from rfl, wt_app, wt_one]
    omega
theorem joinOk {a : Str} (ha : a.length ≤ 1) {ys : List Str} {n : Nat} (h : wt ys ≤ n) (hn : n ≤ 16777216) : (ys.map (·.length)).sum + ys.length * a.length ≤ 16777216 := by
  have : ys.length * a.length ≤ ys.length := by
    rcases Nat.le_one_iff_eq_zero_or_eq_one.mp ha with h | h <;> rw [h] <;> omega
  simp only [wt] at h
  omega
def odds : List Str := (["and", "when", "let", "=", ">", ">==", "=>", "<=", ">=", "0", "00", "07", "999999", "1000000", "0000001", "-1", "+1", "1.0", "A", "Let", "street", "*", "nine56789", "9a", "a-b", "bikes", "free", "done", "waits", "let*", "a_b", "_a", "1_0", "a.b", "aB", "a1B"] : List String).map Str.ofString
abbrev s__law_bent : Stmt := top 44
abbrev N__law_bent : List Str := ["pool", "line", "words", "at", "way", "odd"]
theorem sc__law_bent : FnScope N__law_bent ["pool", "line"] (defScope s__law_bent) := ⟨rfl, rfl, rfl, by decide +kernel, rfl, by decide +kernel, by decide +kernel⟩
def sp__law_bent (K : PySem.W.Frag) : Sp := fun vs H Q _ => ∃ (p : Addr) (line : Str), vs = [.ref p, .str line] ∧ (Pool H p ∧ line.length ≤ 100000 ∧ ∀ H' (w : Str), w.length ≤ 2 * line.length + 20 → Pool H' p → Kp [p] H H' → Q (.str w) H')
theorem ok__law_bent {f : Addr} {fd : FuncData} (F : FunD K "_law_bent" "_law_bent" (defArgs s__law_bent) (defBody s__law_bent) (defScope s__law_bent) [] [] f fd)
    (C__law_take : Cal P w K mg base CX0 1 "_law_take" ["pool", "limit"] (sp__law_take K))
    (mN_len : mg "len" = none) : FnOk P w K mg base CX0 2 f fd ["pool", "line"] (sp__law_bent K) := by
  refine F.ok sc__law_bent (fun vs H Q E h => ?_) (fun cdv A outer s H vs Q E hr h => ⟨_, PSs.nox ((pss_cons (ps_set (i := 2) sc__law_bent.nd rfl (.inl rfl) (pe_m1 PySem.F.slot_str_split PySem.F.type_str_split m_split (pu 1) pe_str))
    (pss_cons (ps_set (i := 3) sc__law_bent.nd rfl (.inl rfl) (ue_call (E := E0) C__law_take (hr.mono (by decide)) rfl pass0 (pa_cons (pu 0) (pa_cons (pe_callB (kLen K) (by rfl) mN_len boot_len (pa_cons (pu 2) pa_nil)) pa_nil))))
    (pss_cons (ps_set (i := 4) sc__law_bent.nd rfl (.inl rfl) (ue_call (E := E0) C__law_take (hr.mono (by decide)) rfl pass0 (pa_cons (pu 0) (pa_cons pe_int pa_nil))))
    (pss_cons (us_if (ut_cmp (kEq K hr.units) (pu 4) pe_int (nomark _)) (pss_one (ps_ret (pe_m1 PySem.F.slot_str_join PySem.F.type_str_join (kJoin K) pe_str (pe_op (kAdd K) (pe_slice (kSl K) (pu 2) po_none (po_u (pu 3))) (pe_slice (kSl K) (pu 2) (po_u (pe_op (kAdd K) (pu 3) pe_int)) po_none))))) pss_nil)
    (pss_cons (us_if (ut_cmp (kEq K hr.units) (pu 4) pe_int (nomark _)) (pss_one (ps_ret (pe_m1 PySem.F.slot_str_join PySem.F.type_str_join (kJoin K) pe_str (pe_op (kAdd K) (pe_slice (kSl K) (pu 2) po_none (po_u (pe_op (kAdd K) (pu 3) pe_int))) (pe_slice (kSl K) (pu 2) (po_u (pu 3)) po_none))))) pss_nil)
    (pss_cons (us_if (ut_cmp (kEq K hr.units) (pu 4) pe_int (nomark _)) (pss_one (ps_ret (pe_m1 PySem.F.slot_str_join PySem.F.type_str_join (kJoin K) pe_str (pe_op (kAdd K) (pe_op (kAdd K) (pe_slice (kSl K) (pu 2) po_none (po_u (pu 3))) (pe_lst (pa_cons pe_str pa_nil))) (pe_slice (kSl K) (pu 2) (po_u (pu 3)) po_none))))) pss_nil)
    (pss_cons (us_if (ut_cmp (kEq K hr.units) (pu 4) pe_int (nomark _)) (pss_one (ps_ret (pe_op (kAdd K) (pu 1) pe_str))) pss_nil)
    (pss_cons (us_if (ut_cmp (kEq K hr.units) (pu 4) pe_int (nomark _)) (pss_one (ps_ret pe_str)) pss_nil)
    (pss_cons (us_if (ut_cmp (kEq K hr.units) (pu 4) pe_int (nomark _)) (pss_one (ps_ret (pe_m1 PySem.F.slot_str_join PySem.F.type_str_join (kJoin K) pe_str (pe_op (kAdd K) (pe_slice (kSl K) (pu 2) po_none (po_u (pe_un o_neg pe_int))) (pe_lst (pa_cons (pe_op (kAdd K) pe_str (pe_ix (kIx K) (pu 2) (pe_op o_sub (pe_callB (kLen K) (by rfl) mN_len boot_len (pa_cons (pu 2) pa_nil)) pe_int) (fun _ _ => rfl))) pa_nil)))))) pss_nil)
    (pss_cons (us_if (ut_cmp (kEq K hr.units) (pu 4) pe_int (nomark _)) (pss_one (ps_ret (pe_op (kAdd K) (pu 1) pe_str))) pss_nil)
    (pss_cons (ps_set (i := 5) sc__law_bent.nd rfl (.inl rfl) (pe_lst (pa_cons pe_str (pa_cons pe_str (pa_cons pe_str (pa_cons pe_str (pa_cons pe_str (pa_cons pe_str (pa_cons pe_str (pa_cons pe_str (pa_cons pe_str (pa_cons pe_str (pa_cons pe_str (pa_cons pe_str (pa_cons pe_str (pa_cons pe_str (pa_cons pe_str pa_nil)))))))))))))))))
    (pss_cons (ps_set (i := 5) sc__law_bent.nd rfl (.inl rfl) (pe_op (kAdd K) (pu 5) (pe_lst (pa_cons pe_str (pa_cons pe_str (pa_cons pe_str (pa_cons pe_str (pa_cons pe_str (pa_cons pe_str (pa_cons pe_str (pa_cons pe_str (pa_cons pe_str (pa_cons pe_str (pa_cons pe_str (pa_cons pe_str (pa_cons pe_str pa_nil))))))))))))))))
    (C8.pss_cut (ps_set (i := 5) sc__law_bent.nd rfl (.inl rfl) (pe_op (kAdd K) (pu 5) (pe_lst (pa_cons pe_str (pa_cons pe_str (pa_cons pe_str (pa_cons pe_str (pa_cons pe_str (pa_cons pe_str (pa_cons pe_str (pa_cons pe_str pa_nil)))))))))))
    (pss_one (ps_ret (pe_m1 PySem.F.slot_str_join PySem.F.type_str_join (kJoin K) pe_str (pe_op (kAdd K) (pe_op (kAdd K) (pe_slice (kSl K) (pu 2) po_none (po_u (pu 3))) (pe_lst (pa_cons (pe_ix (kIx K) (pu 5) (ue_call (E := E0) C__law_take (hr.mono (by decide)) rfl pass0 (pa_cons (pu 0) (pa_cons pe_int pa_nil))) (fun _ _ => rfl)) pa_nil))) (pe_slice (kSl K) (pu 2) (po_u (pe_op (kAdd K) (pu 3) pe_int)) po_none))))))))))))))))))), ?_⟩)
  · obtain ⟨p, line, rfl, _⟩ := h
    rfl
  · obtain ⟨p, line, rfl, h⟩ := h
    obtain ⟨hp, hl, hk⟩ := h
    have slB : ∀ n : Nat, n ≤ 300000 → n ≤ sizeLine := fun n h => Nat.le_trans h (sl rfl)
    have c1 : ((" " : Str)).length = 1 := by decide
    refine ⟨⟨_, rfl⟩, by decide, slB _ (by omega), fun W hW => ?_⟩
    rw [split_sp]
    have hwt := splS_wt 32 line
    have hne := splS_ne 32 line
    generalize splS 32 line = ws at hwt hne ⊢
    have hlen : 0 < ws.length := List.length_pos_iff.mpr hne
    have hwl : ws.length ≤ line.length + 1 := by have : ws.length ≤ wt ws := by simp [wt]
                                                 omega
    have hWp : W ≠ p := Pool.ne (o := .lst []) hp hW
    have hw1 : upd H W (.lst (ws.map V.str)) W = some (.lst (ws.map V.str)) := upd_same
    have p1 : Pool (upd H W (.lst (ws.map V.str))) p := hp.new hW
    have k1 : Kp [p] H (upd H W (.lst (ws.map V.str))) := Kp.new hW
    generalize upd H W (.lst (ws.map V.str)) = H1 at hw1 p1 k1 ⊢
    refine ⟨ws.length, .inl ⟨_, SqL.of hw1, by simp⟩, p, ws.length, rfl, p1, ⟨by omega, by omega⟩, fun H2 at_ a0 a1 p2 k2 => ⟨p, 12, rfl, p2, by decide, fun H3 way _ _ p3 k3 => ?_⟩⟩
    have hw3 := (k2.trans k3).get1 hw1 hWp
    have k03 := k1.trans (k2.trans k3)
    obtain ⟨n, rfl⟩ := Int.eq_ofNat_of_zero_le a0
    have hn : n < ws.length := by omega
    have cT : ∀ m : Nat, cutV (ws.map V.str) none (some (m : Int)) = (ws.take m).map V.str := fun m => by rw [cut_to, List.map_take]
    have cF : ∀ m : Nat, cutV (ws.map V.str) (some (m : Int)) none = (ws.drop m).map V.str := fun m => by rw [cut_from, List.map_drop]
    have cT1 : cutV (ws.map V.str) none (some ((n : Int) + 1)) = (ws.take (n + 1)).map V.str := cT (n + 1)
    have cF1 : cutV (ws.map V.str) (some ((n : Int) + 1)) none = (ws.drop (n + 1)).map V.str := cF (n + 1)
    have wl : ∀ ys : List Str, ys.length ≤ wt ys := fun ys => by simp [wt]
    have fin : ∀ (H' : Hp) (a : Addr) (ys : List Str), H' a = some (.lst (ys.map V.str)) → wt ys ≤ 2 * line.length + 20 → Pool H' p → Kp [p] H H' → uJoin K (.str (" " : Str)) [.ref a] H' Q := fun H' a ys h1 h2 h3 h4 =>
      ⟨ys, .inl (SqL.of h1), joinOk (Nat.le_of_eq c1) h2 (by omega), hk _ _ (Nat.le_trans (join_len1 _ (Nat.le_of_eq c1) ys) h2) h3 h4⟩
    have z0 : wt ws = line.length + 1 := hwt
    have wT := fun m => wt_take ws m
    have wD := fun m => wt_drop ws m
    have lT : ∀ m : Nat, (ws.take m).length ≤ ws.length := fun m => by simp; omega
    have lD : ∀ m : Nat, (ws.drop m).length ≤ ws.length := fun m => by simp
    refine ⟨rfl, fun _ => ?_, fun _ => ⟨rfl, fun _ => ?_, fun _ => ⟨rfl, fun _ => ?_, fun _ => ⟨rfl, fun _ => ⟨?_, ?_⟩, fun _ => ⟨rfl, fun _ => ?_, fun _ => ⟨rfl, fun _ => ?_, fun _ => ⟨rfl, fun _ => ⟨?_, ?_⟩, fun _ => ?_⟩⟩⟩⟩⟩⟩⟩
    · refine ⟨⟨_, rfl⟩, _, SqL.of hw3, fun q1 e1 => ⟨_, SqL.of (get_new hw3 e1), fun q2 e2 => .inl ⟨_, _, get_new upd_same e2, upd_same, ?_, fun q3 e3 => fin _ _ (ws.take n ++ ws.drop (n + 1)) ?_ ?_ (((p3.new e1).new e2).new e3) (((k03.trans (Kp.new e1)).trans (Kp.new e2)).trans (Kp.new e3))⟩⟩⟩
      · rw [cT, cF1, List.length_map, List.length_map]; have := lT n; have := lD (n + 1); exact slB _ (by omega)
      · rw [upd_same, cT, cF1, List.map_append]
      · rw [wt_app]; have := wT n; have := wD (n + 1); omega
    · refine ⟨⟨_, rfl⟩, _, SqL.of hw3, fun q1 e1 => ⟨_, SqL.of (get_new hw3 e1), fun q2 e2 => .inl ⟨_, _, get_new upd_same e2, upd_same, ?_, fun q3 e3 => fin _ _ (ws.take (n + 1) ++ ws.drop n) ?_ ?_ (((p3.new e1).new e2).new e3) (((k03.trans (Kp.new e1)).trans (Kp.new e2)).trans (Kp.new e3))⟩⟩⟩
      · rw [cT1, cF, List.length_map, List.length_map]; have := lT (n + 1); have := lD n; exact slB _ (by omega)
      · rw [upd_same, cT1, cF, List.map_append]
      · rw [wt_app]; have := wT (n + 1); have := wD n; omega
    · refine ⟨⟨_, rfl⟩, _, SqL.of hw3, fun q1 e1 => ⟨sl rfl, fun q2 e2 => .inl ⟨_, _, get_new upd_same e2, upd_same, ?_, fun q3 e3 => ⟨_, SqL.of (get_new (get_new (get_new hw3 e1) e2) e3), fun q4 e4 => .inl ⟨_, _, get_new upd_same e4, upd_same, ?_, fun q5 e5 => fin _ _ (ws.take n ++ [("" : Str)] ++ ws.drop n) ?_ ?_ (((((p3.new e1).new e2).new e3).new e4).new e5) (((((k03.trans (Kp.new e1)).trans (Kp.new e2)).trans (Kp.new e3)).trans (Kp.new e4)).trans (Kp.new e5))⟩⟩⟩⟩⟩
      · rw [cT, List.length_map]; have := lT n; exact slB _ (by simp; omega)
      · rw [cT, cF, List.length_append, List.length_map, List.length_map]; have := lT n; have := lD n; exact slB _ (by simp at *; omega)
      · rw [upd_same, cT, cF, List.map_append, List.map_append]; rfl
      · rw [wt_app, wt_app, wt_one]; have := wT n; have := wD n; have : (("" : Str)).length = 0 := by decide
        omega
    · rw [c1]; exact slB _ (by omega)
    · exact hk _ _ (by rw [app_len, c1]; omega) p3 k03
    · exact hk _ _ (by have : (("" : Str)).length = 0 := by decide
                       omega) p3 k03
    · obtain ⟨ini, l, rfl⟩ : ∃ ini l, ws = ini ++ [l] := ⟨ws.dropLast, ws.getLast hne, (List.dropLast_concat_getLast hne).symm⟩
      have cI : cutV ((ini ++ [l]).map V.str) none (some (-1)) = ini.map V.str := by rw [cut_init]; simp
      have z1 := z0
      rw [wt_app, wt_one] at z1
      have zl := wl ini
      have c0 : (("0" : Str)).length = 1 := by decide
      have e0 : (((ini ++ [l]).map V.str).length : Int) - 1 = (ini.length : Nat) := by simp
      refine ⟨⟨_, rfl⟩, _, SqL.of hw3, fun q1 e1 => ⟨_, .inl ⟨_, SqL.of (get_new hw3 e1), rfl⟩, _, .str l, .inl (SqL.of (get_new hw3 e1)), ?_, ?_, sl rfl, fun q2 e2 => .inl ⟨_, _, get_new upd_same e2, upd_same, ?_, fun q3 e3 => fin _ _ (ini ++ [("0" : Str) ++ l]) ?_ ?_ (((p3.new e1).new e2).new e3) (((k03.trans (Kp.new e1)).trans (Kp.new e2)).trans (Kp.new e3))⟩⟩⟩
      · rw [e0]; exact atI_nat (by simp)
      · rw [c0]; exact slB _ (by omega)
      · have cI' := congrArg List.length cI
        exact Nat.le_trans (Nat.le_of_eq (congrArg (· + 1) cI')) (by rw [List.length_map]; exact slB _ (by omega))
      · rw [upd_same]
        have cI' : cutV ((ini ++ [l]).map V.str) none (some (-1)) ++ [.str (("0" : Str) ++ l)] = (ini ++ [("0" : Str) ++ l]).map V.str := by rw [cI]; simp
        exact congrArg (fun z => some (HO.lst z)) cI'
      · rw [wt_app, wt_one, app_len, c0]; omega
    · exact slB _ (by have c0 : (("0" : Str)).length = 1 := by decide
                      omega)
    · exact hk _ _ (by rw [app_len]; have c0 : (("0" : Str)).length = 1 := by decide
                       omega) p3 k03
    · refine ⟨sl rfl, fun o1 f1 => ⟨sl rfl, fun o2 f2 => .inl ⟨_, _, get_new upd_same f2, upd_same, sl rfl, fun o3 f3 => ⟨fun σ H4 => ∃ o5, σ = [some (.ref p), some (.str line), some (.ref W), some (.int n), some (.int way), some (.ref o5)] ∧ H4 o5 = some (.lst (odds.map V.str)) ∧ H4 W = some (.lst (ws.map V.str)) ∧ Pool H4 p ∧ Kp [p] H H4, ⟨sl rfl, fun o4 f4 => .inl ⟨_, _, get_new upd_same f4, upd_same, sl rfl, fun o5 f5 => ⟨o5, rfl, upd_same, get_new (get_new (get_new (get_new (get_new hw3 f1) f2) f3) f4) f5, ((((p3.new f1).new f2).new f3).new f4).new f5, ((((k03.trans (Kp.new f1)).trans (Kp.new f2)).trans (Kp.new f3)).trans (Kp.new f4)).trans (Kp.new f5)⟩⟩⟩, ?_⟩⟩⟩⟩
      rintro σ H4 ⟨o5, rfl, ho, hw4, p4, k4⟩
      refine ⟨⟨_, rfl⟩, _, SqL.of hw4, fun q1 e1 => ⟨p, 36, rfl, p4.new e1, by decide, fun H6 d d0 d1 p6 k6 => ?_⟩⟩
      have k46 : Kp [p] H4 H6 := (Kp.new e1).trans k6
      have ho6 := k46.get1 ho fun z => by obtain ⟨_, _, _, e, _⟩ := p4; subst z; rw [ho] at e; cases e
      have hw6 := k46.get1 hw4 hWp
      have hq6 := k6.get1 (b := q1) upd_same (Pool.ne (o := .lst []) p4 e1)
      obtain ⟨w, hw, hwl2⟩ := strIx 16 odds d0 d1 (by decide)
      refine ⟨_, _, .inl (SqL.of ho6), hw, sl rfl, fun q2 e2 => .inl ⟨_, _, get_new hq6 e2, upd_same, ?_, fun q3 e3 => ⟨_, SqL.of (get_new (get_new hw6 e2) e3), fun q4 e4 => .inl ⟨_, _, get_new upd_same e4, upd_same, ?_, fun q5 e5 => fin _ _ (ws.take n ++ [w] ++ ws.drop (n + 1)) ?_ ?_ ((((p6.new e2).new e3).new e4).new e5) (((((k4.trans k46).trans (Kp.new e2)).trans (Kp.new e3)).trans (Kp.new e4)).trans (Kp.new e5))⟩⟩⟩⟩
      · rw [cT, List.length_map]; have := lT n; exact slB _ (by simp; omega)
      · rw [cT, cF1, List.length_append, List.length_map, List.length_map]; have := lT n; have := lD (n + 1); exact slB _ (by simp at *; omega)
      · rw [upd_same, cT, cF1, List.map_append, List.map_append]; rfl
      · rw [wt_app, wt_app, wt_one]; have := wT n; have := wD (n + 1); omega
end
end LW
set_option Elab.async false
set_option linter.all false
set_option maxRecDepth 100000
set_option maxHeartbeats 1000000
namespace LW
open PySem PySem.Spec PyProof.Rows L2 U
--  : Nat) : Stmt := PySem.Challenge.pw_manyrides_k79_a_book_reads_back.main.body.getD i (.Pass ⟨0, 0, 0, 0⟩)
section
variable {P : Program} {w : World} {K : PySem.W.Frag} {mg : Str → Option Value} {base : Heap}
theorem cutS_le (z : Str) (lo hi : Option Int) : (cutS z lo hi).length ≤ z.length := by
  exact cutS_length z lo hi
theorem sum_le (n : Nat) : ∀ l : List Str, (∀ w ∈ l, w.length ≤ n) → (l.map (·.length)).sum ≤ n * l.length
  | [], _ => by simp
  | a :: l, h => by
    have := sum_le n l fun w hw => h w (by simp [hw])
    have := h a (by simp)
    simp [Nat.mul_add]; omega
theorem join0_le (n : Nat) {l : List Str} (h : ∀ w ∈ l, w.length ≤ n) : (Str.join ("" : Str) l).length ≤ n * l.length := by
  have go : ∀ l : List Str, (Str.join ("" : Str) l).length ≤ (l.map (·.length)).sum := fun l => by
    induction l with
    | nil => exact Nat.le_of_eq (show (Str.join ("" : Str) []).length = 0 by decide)
    | cons a l ih =>
      cases l with
      | nil => simp [Str.join]
      | cons b r =>
        rw [show Str.join ("" : Str) (a :: b :: r) = a ++ ("" : Str) ++ Str.join ("" : Str) (b :: r) from rfl, app_len, app_len]
        have : (("" : Str)).length = 0 := by decide
        simp at ih ⊢; omega
  exact Nat.le_trans (go l) (sum_le n l h)
abbrev s__law_bent_text : Stmt := top 45
abbrev N__law_bent_text : List Str := ["pool", "lines", "rows", "k", "at", "text", "way", "row"]
theorem sc__law_bent_text : FnScope N__law_bent_text ["pool", "lines"] (defScope s__law_bent_text) := ⟨rfl, rfl, rfl, by decide +kernel, rfl, by decide +kernel, by decide +kernel⟩
def sp__law_bent_text (K : PySem.W.Frag) : Sp := fun vs H Q _ => ∃ (p L : Addr) (ls : List Str), vs = [.ref p, .ref L] ∧ (Pool H p ∧ TxtL H L 64 2000 ls ∧ ∀ H' (w : Str), w.length ≤ 1000000 → Pool H' p → Kp [p] H H' → Q (.str w) H')
theorem ok__law_bent_text {f : Addr} {fd : FuncData} (F : FunD K "_law_bent_text" "_law_bent_text" (defArgs s__law_bent_text) (defBody s__law_bent_text) (defScope s__law_bent_text) [] [] f fd)
    (mN_list : mg "list" = none)
    (mN_range : mg "range" = none)
    (C__law_take : Cal P w K mg base CX0 1 "_law_take" ["pool", "limit"] (sp__law_take K))
    (mN_len : mg "len" = none)
    (C__law_bent : Cal P w K mg base CX0 2 "_law_bent" ["pool", "line"] (sp__law_bent K)) : FnOk P w K mg base CX0 3 f fd ["pool", "lines"] (sp__law_bent_text K) := by
  refine F.ok sc__law_bent_text (fun vs H Q E h => ?_) (fun cdv A outer s H vs Q E hr h => ⟨_, PSs.nox ((pss_cons (ps_set (i := 2) sc__law_bent_text.nd rfl (.inl rfl) (pe_callTy (kList K) (by rfl) mN_list (by decide +kernel) (pa_cons (pu 1) pa_nil)))
    (pss_cons (ps_for PassesOwn.never rfl (pi_range1 (by rfl) mN_range (pa_cons (ue_call (E := E0) C__law_take (hr.mono (by decide)) rfl pass0 (pa_cons (pu 0) (pa_cons pe_int pa_nil))) pa_nil)) (pg_name (i := 3) sc__law_bent_text.nd rfl (.inl rfl)) (pss_one (us_if (ut_cmp o_gt (pe_callB (kLen K) (by rfl) mN_len boot_len (pa_cons (pu 2) pa_nil)) pe_int (nomark _)) (pss_cons (ps_set (i := 4) sc__law_bent_text.nd rfl (.inl rfl) (ue_call (E := E0) C__law_take (hr.mono (by decide)) rfl pass0 (pa_cons (pu 0) (pa_cons (pe_callB (kLen K) (by rfl) mN_len boot_len (pa_cons (pu 2) pa_nil)) pa_nil))))
    (pss_one (ps_asg (ue_call (E := E0) C__law_bent (hr.mono (by decide)) rfl pass0 (pa_cons (pu 0) (pa_cons (pe_ix (kIx K) (pu 2) (pu 4) (fun _ _ => rfl)) pa_nil))) (pg_sub (pu 2) (pu 4) st_list)))) pss_nil)))
    (pss_cons (ps_set (i := 5) sc__law_bent_text.nd rfl (.inl rfl) (pe_m1 PySem.F.slot_str_join PySem.F.type_str_join (kJoin K) pe_str (pe_lc (own := [("row", 7)]) rfl sc__law_bent_text.nd (kiList K (pu 2)) (blkOk_by (N := N__law_bent_text) (sc := defScope s__law_bent_text) (by decide +kernel)) (fun _ _ _ _ _ => (pg_name (i := 7) sc__law_bent_text.nd rfl (.inl rfl))) (fun _ _ _ _ _ => pts_nil) (fun _ _ _ _ _ => (pe_op (kAdd K) (pu 7) pe_str)))))
    (pss_cons (ps_set (i := 6) sc__law_bent_text.nd rfl (.inl rfl) (ue_call (E := E0) C__law_take (hr.mono (by decide)) rfl pass0 (pa_cons (pu 0) (pa_cons pe_int pa_nil))))
    (pss_cons (us_if (ut_cmp (kEq K hr.units) (pu 6) pe_int (nomark _)) (pss_one (ps_ret (pe_slice (kSl K) (pu 5) po_none (po_u (pe_un o_neg pe_int))))) pss_nil)
    (pss_cons (us_if (ut_cmp (kEq K hr.units) (pu 6) pe_int (nomark _)) (pss_one (ps_ret (pe_op (kAdd K) (pu 5) pe_str))) pss_nil)
    (pss_one (ps_ret (pu 5)))))))))), ?_⟩)
  · obtain ⟨p, L, ls, rfl, _⟩ := h
    rfl
  · obtain ⟨p, L, ls, rfl, h⟩ := h
    obtain ⟨hp, ⟨hL, hl1, hl2⟩, hk⟩ := h
    refine ⟨_, .inl (SqL.of hL), fun R hR => ⟨p, 3, rfl, hp.new hR, by decide, fun H1 n n0 n1 p1 k1 => ⟨n, rfl, by omega, by omega, ?_⟩⟩⟩
    have hRp : R ≠ p := Pool.ne (o := .lst []) hp hR
    have hR1 := k1.get1 (b := R) upd_same hRp
    have nl1 : ((("\n" : Str))).length = 1 := by decide
    have nl0 : ((("" : Str))).length = 0 := by decide
    refine for_range (fun i σ H2 => ∃ (rows : List Str) (o3 o4 : Option V), σ = [some (.ref p), some (.ref L), some (.ref R), o3, o4, none, none, none] ∧ H2 R = some (.lst (rows.map V.str)) ∧ rows.length ≤ 64 ∧ (∀ w ∈ rows, w.length + 20 ≤ 2020 * 2 ^ i) ∧ Pool H2 p ∧ Kp [p] H H2) ?_ ?_ ?_
    · exact ⟨ls, none, none, rfl, hR1, hl1, fun w hw => by have := hl2 w hw; omega, p1, fun b o hb hn => k1 _ _ (get_new hb hR) hn⟩
    · rintro i σ H2 hi ⟨rows, o3, o4, rfl, hr, h64, hb, p2, k2⟩
      have hi2 : i ≤ 1 := by omega
      refine ⟨rows.length, .inl ⟨_, SqL.of hr, by simp⟩, fun c => ?_, fun c => ⟨rows, _, _, rfl, hr, h64, fun w hw => by have := hb w hw; rw [Nat.pow_succ]; omega, p2, k2⟩⟩
      have c : (0 : Int) < rows.length := of_decide_eq_true c
      refine ⟨rows.length, .inl ⟨_, SqL.of hr, by simp⟩, p, rows.length, rfl, p2, ⟨by omega, by omega⟩, fun H3 at_ a0 a1 p3 k3 => ?_⟩
      obtain ⟨j, rfl⟩ := Int.eq_ofNat_of_zero_le a0
      have hj : j < rows.length := by omega
      have hr3 := k3.get1 hr hRp
      have hbj := hb _ (List.getElem_mem hj)
      have h2i : 2 ^ i ≤ 2 := by
        rcases Nat.le_one_iff_eq_zero_or_eq_one.mp hi2 with h | h <;> rw [h] <;> decide
      refine ⟨_, _, .inl (SqL.of hr3), atI_nat (j := j) (v := .str rows[j]) (by rw [List.getElem?_map, List.getElem?_eq_getElem hj]; rfl), p, rows[j], rfl, p3, by omega, fun H4 w hw p4 k4 => ⟨_, j, k4.get1 hr3 hRp, ixN_lt (by rw [List.length_map]; exact hj), rows.set j w, _, _, rfl, ?_, by simpa using h64, ?_, ?_, ?_⟩⟩
      · rw [upd_same, List.map_set]
      · intro v hv
        rw [Nat.pow_succ]
        rcases List.mem_or_eq_of_mem_set hv with hv | rfl
        · have := hb v hv; omega
        · omega
      · exact p4.keep (Kp.set (S := [R]) (by simp)) (by simpa using hRp.symm)
      · exact ((k2.trans k3).trans k4).loc hR
    · rintro σ H2 ⟨rows, o3, o4, rfl, hr, h64, hb, p2, k2⟩
      have hb8 : ∀ w ∈ rows, w.length ≤ 8060 := fun w hw => by
        have := hb w hw
        have h2 : 2 ^ n.toNat ≤ 4 := Nat.pow_le_pow_right (n := 2) (by decide) (show n.toNat ≤ 2 by omega)
        omega
      refine ⟨⟨_, rfl⟩, R, rfl, ⟨_, SqL.of hr⟩, fun D hD => lc_list (xs := rows.map V.str) (LcP [] H2 D fun i => ((rows.take i).map (· ++ ("\n" : Str))).map V.str) (LcP.start hD rfl) (fun i H3 _ p3 => SqL.of (p3.2.get0 hr)) (fun i x H3 hx q3 => ?_) fun H3 q3 => ?_⟩
      · rw [List.getElem?_map] at hx
        cases e : rows[i]? with
        | none => rw [e] at hx; cases hx
        | some w =>
          rw [e] at hx
          cases hx
          have hw := hb8 w (List.mem_of_getElem? e)
          refine ⟨rfl, by rw [nl1]; exact Nat.le_trans (show w.length + 1 ≤ 10000 by omega) (sl rfl), q3.step hD Kp.refl (by simp) ?_ ?_⟩
          · rw [List.take_add_one, e]; simp
          · simp; exact Nat.lt_of_le_of_lt (Nat.min_le_right _ _) (Nat.lt_of_lt_of_le (show rows.length < 100 by omega) (sl rfl))
      · have hD3 := q3.1
        simp only [List.length_map, List.take_length] at hD3
        have hw1 : ∀ w ∈ rows.map (· ++ ("\n" : Str)), w.length ≤ 8061 := fun w hw => by
          obtain ⟨v, hv, rfl⟩ := List.mem_map.mp hw
          rw [app_len, nl1]; have := hb8 v hv; omega
        have hsum := sum_le 8061 _ hw1
        have hj := join0_le 8061 hw1
        rw [List.length_map] at hj hsum
        have hj2 : (Str.join ("" : Str) (rows.map (· ++ ("\n" : Str)))).length ≤ 600000 := Nat.le_trans hj (by omega)
        have p3 : Pool H3 p := p2.keep q3.2 (by simp)
        have k3 : Kp [p] H H3 := k2.trans q3.2.to
        refine ⟨_, .inl (SqL.of hD3), by rw [List.length_map, nl0]; omega, p, 12, rfl, p3, by decide, fun H4 way _ _ p4 k4 => ⟨rfl, fun _ => ⟨Nat.le_trans hj2 (sl (by decide)), hk _ _ (Nat.le_trans (cutS_le _ _ _) (by omega)) p4 (k3.trans k4)⟩, fun _ => ⟨rfl, fun _ => ⟨?_, hk _ _ ?_ p4 (k3.trans k4)⟩, fun _ => hk _ _ (by omega) p4 (k3.trans k4)⟩⟩⟩
        · rw [nl1]; exact Nat.le_trans (Nat.add_le_add_right hj2 1) (sl (by decide))
        · rw [app_len, nl1]; omega
end
end LW
set_option Elab.async false
set_option linter.all false
set_option maxRecDepth 100000
set_option maxHeartbeats 1000000
namespace LW
open PySem PySem.Spec PyProof.Rows L2 U
--  : Nat) : Stmt := PySem.Challenge.pw_manyrides_k79_a_book_reads_back.main.body.getD i (.Pass ⟨0, 0, 0, 0⟩)
section
variable {P : Program} {w : World} {K : PySem.W.Frag} {mg : Str → Option Value} {base : Heap}
theorem Rd.keepU {H H' : Hp} {a : Addr} {o : HO} (k : Kp [] H H') (h : Rd H a o) : Rd H' a o := by
  rcases h with h | ⟨b, h⟩
  · exact .inl (k.get0 h)
  · exact .inr ⟨b, k.get0 h⟩
theorem SqL.keepU {K : PySem.W.Frag} {H H' : Hp} {a : Addr} {xs : List V} (k : Kp [] H H') (h : SqL K H a xs) : SqL K H' a xs := by
  rcases h with h | h
  · exact .inl (Rd.keepU k h)
  · exact .inr h
def okD (n : Nat) (d : Dt) : Prop := d.depth ≤ n ∧ d.wide
theorem depthL_le {n : Nat} : ∀ {l : List Dt}, (∀ d ∈ l, d.depth ≤ n) → depthL l ≤ n
  | [], _ => by simp [depthL]
  | a :: l, h => by
    simp only [depthL]
    exact Nat.max_le.mpr ⟨h a (by simp), depthL_le fun d hd => h d (by simp [hd])⟩
theorem okD.tup {n : Nat} {l : List Dt} (hl : l.length ≤ 100000) (h : ∀ d ∈ l, okD n d) : okD (n + 1) (.tup l) :=
  ⟨by have := depthL_le (l := l) fun d hd => (h d hd).1
      simp only [Dt.depth]; omega, hl, wideL_of fun d hd => (h d hd).2⟩
theorem okD.mono {n m : Nat} {d : Dt} (h : okD n d) (k : n ≤ m) : okD m d := ⟨Nat.le_trans h.1 k, h.2⟩
theorem okD.str (s : Str) : okD 0 (.str s) := ⟨Nat.le_refl _, trivial⟩
theorem okD.int (s : Int) : okD 0 (.int s) := ⟨Nat.le_refl _, trivial⟩
theorem okD.bl (s : Bool) : okD 0 (.bl s) := ⟨Nat.le_refl _, trivial⟩
theorem condP_ok {ws : List Str} {l : List Dt} (h : condP ws = some l) : okD 1 (.tup l) := by
  match ws, h with
  | [a, b], h =>
    simp only [condP] at h; split at h <;> cases h
    exact .tup (by simp) (by simp; exact ⟨.str _, .str _⟩)
  | [a, b, c, d], h =>
    simp only [condP] at h; split at h <;> cases h
    exact .tup (by simp) (by simp; exact ⟨.str _, .str _, .str _, .int _⟩)
  | [], h => cases h
  | [_], h => cases h
  | [_, _, _], h => cases h
  | _ :: _ :: _ :: _ :: _ :: _, h => cases h
theorem condsF_ok : ∀ (n : Nat) (link : Str) (ws : List Str) (l : List Dt), condsF n link ws = some l → ∀ d ∈ l, okD 1 d
  | _, _, [], l, h => by simp [condsF] at h; subst h; simp
  | 0, _, _ :: _, _, h => by simp [condsF] at h
  | n + 1, link, w :: r, l, h => by
    simp only [condsF] at h
    cases e : condP (r.take (sizeD r)) with
    | none => rw [e] at h; cases h
    | some c =>
      rw [e] at h
      simp only at h
      split at h
      · cases e2 : condsF n ("and" : Str) (r.drop (sizeD r)) with
        | none => rw [e2] at h; cases h
        | some m =>
          rw [e2] at h
          cases h
          intro d hd
          rcases List.mem_cons.mp hd with rfl | hd
          · exact condP_ok e
          · exact condsF_ok n _ _ m e2 d hd
      · cases h
theorem lineP_ok {z : List Str} {l : List Dt} (h : lineP z = some l) : okD 3 (.tup l) := by
  match z, h with
  | [], h => cases h
  | [_], h => cases h
  | a :: b :: r, h =>
    simp only [lineP] at h
    split at h
    · split at h
      · cases h
      · split at h
        · cases h
        · rename_i l0 e
          split at h
          · cases h
          · rename_i hl
            cases h
            refine .tup (by simp) ?_
            simp
            exact ⟨(okD.str _).mono (by omega), .tup (by omega) (condsF_ok _ _ _ _ e)⟩
    · cases h
theorem dueGo_ok : ∀ {ws : List Str} {rows l : List Dt}, rows.length ≤ 40 → (∀ d ∈ rows, okD 3 d) → dueGo rows ws = .ok l → l.length ≤ 40 ∧ ∀ d ∈ l, okD 3 d
  | [], rows, l, h40, h, e => by simp [dueGo] at e; subst e; exact ⟨h40, h⟩
  | [w], rows, l, h40, h, e => by
    simp only [dueGo] at e
    split at e
    · cases e; exact ⟨h40, h⟩
    · cases e
  | p :: q :: r, rows, l, h40, h, e => by
    simp only [dueGo] at e
    cases e2 : lineP (splS 32 p) with
    | none => rw [e2] at e; cases e
    | some m =>
      rw [e2] at e
      simp only at e
      split at e
      · cases e
      · rename_i hne
        refine dueGo_ok (by simp; omega) (fun d hd => ?_) e
        rcases List.mem_append.mp hd with hd | hd
        · exact h d hd
        · simp at hd; subst hd; exact lineP_ok e2
theorem dueDt_ok (ws : List Str) (z : Str) : okD 5 (dueDt (dueGo [] ws) z) := by
  cases e : dueGo [] ws with
  | ok rows =>
    obtain ⟨h1, h2⟩ := dueGo_ok (by simp) (by simp) e
    refine .tup (by simp) ?_
    simp
    exact ⟨(okD.str _).mono (by omega), .tup (by omega) h2, (okD.str _).mono (by omega)⟩
  | bad n =>
    refine .tup (by simp) ?_
    simp
    exact ⟨(okD.str _).mono (by omega), (okD.int _).mono (by omega), (okD.bl _).mono (by omega), (okD.bl _).mono (by omega)⟩
theorem Kp.over {p : Addr} {H H1 H2 : Hp} (a : Kp [] H H1) (n : H p = none) (b : Kp [p] H1 H2) : Kp [] H H2 := fun c o e _ => b.get1 (a.get0 e) (ne_of_none e n)
abbrev s_law : Stmt := top 52
abbrev N_law : List Str := ["script", "lines", "text", "bent", "due", "told", "line"]
theorem sc_law : FnScope N_law ["script"] (defScope s_law) := ⟨rfl, rfl, rfl, by decide +kernel, rfl, by decide +kernel, by decide +kernel⟩
def sp_law (K : PySem.W.Frag) : Sp := fun vs H Q _ => ∃ (a : Addr) (ns : List Int), vs = [.ref a] ∧ (SqL K H a (ns.map V.int) ∧ ∀ H', Q (.bl true) H')
theorem ok_law {f : Addr} {fd : FuncData} (F : FunD K "law" "law" (defArgs s_law) (defBody s_law) (defScope s_law) [] [] f fd)
    (C__law_drawn_lines : Cal P w K mg base CX0 4 "_law_drawn_lines" ["pool"] (sp__law_drawn_lines K))
    (C__law_pool : Cal P w K mg base CX0 1 "_law_pool" ["cell"] (sp__law_pool K))
    (C__law_cell : Cal P w K mg base CX0 1 "_law_cell" ["script", "k"] (sp__law_cell K))
    (C__law_bent_text : Cal P w K mg base CX0 3 "_law_bent_text" ["pool", "lines"] (sp__law_bent_text K))
    (C__law_same : Cal P w K mg base CX0 12 "_law_same" ["actual", "expected"] (sp_same K 12))
    (C__law_due : Cal P w K mg base CX0 4 "_law_due" ["text"] (sp__law_due K))
    (C__law_told : Cal P w K mg base (L2.CX P w) 8 "_law_told" ["text"] (sp__law_told K)) : FnOk P w K mg base CX0 13 f fd ["script"] (sp_law K) := by
  refine F.ok sc_law (fun vs H Q E h => ?_) (fun cdv A outer s H vs Q E hr h => ⟨_, PSs.nox ((pss_cons (ps_set (i := 1) sc_law.nd rfl (.inl rfl) (ue_call (E := E0) C__law_drawn_lines (hr.mono (by decide)) rfl pass0 (pa_cons (ue_call (E := E0) C__law_pool (hr.mono (by decide)) rfl pass0 (pa_cons (ue_call (E := E0) C__law_cell (hr.mono (by decide)) rfl pass0 (pa_cons (pu 0) (pa_cons pe_int pa_nil))) pa_nil)) pa_nil)))
    (C8.pss_cut (ps_set (i := 2) sc_law.nd rfl (.inl rfl) (pe_m1 PySem.F.slot_str_join PySem.F.type_str_join (kJoin K) pe_str (pe_lc (own := [("line", 6)]) rfl sc_law.nd (kiList K (pu 1)) (blkOk_by (N := N_law) (sc := defScope s_law) (by decide +kernel)) (fun _ _ _ _ _ => (pg_name (i := 6) sc_law.nd rfl (.inl rfl))) (fun _ _ _ _ _ => pts_nil) (fun _ _ _ _ _ => (pe_op (kAdd K) (pu 6) pe_str)))))
    (pss_cons (ps_set (i := 3) sc_law.nd rfl (.inl rfl) (ue_call (E := E0) C__law_bent_text (hr.mono (by decide)) rfl pass0 (pa_cons (ue_call (E := E0) C__law_pool (hr.mono (by decide)) rfl pass0 (pa_cons (ue_call (E := E0) C__law_cell (hr.mono (by decide)) rfl pass0 (pa_cons (pu 0) (pa_cons pe_int pa_nil))) pa_nil)) (pa_cons (pu 1) pa_nil))))
    (pss_cons (us_if (pt_not (ut_val (ue_call (E := E0) C__law_same (hr.mono (by decide)) rfl pass0 (pa_cons (ue_call (E := E0) C__law_told (hr.mono (by decide)) rfl passL (pa_cons (pu 3) pa_nil)) (pa_cons (ue_call (E := E0) C__law_due (hr.mono (by decide)) rfl pass0 (pa_cons (pu 3) pa_nil)) pa_nil))))) (pss_one (ps_ret pe_bl)) pss_nil)
    (pss_cons (ps_set (i := 4) sc_law.nd rfl (.inl rfl) (ue_call (E := E0) C__law_due (hr.mono (by decide)) rfl pass0 (pa_cons (pu 2) pa_nil)))
    (pss_cons (ps_set (i := 5) sc_law.nd rfl (.inl rfl) (ue_call (E := E0) C__law_told (hr.mono (by decide)) rfl passL (pa_cons (pu 2) pa_nil)))
    (pss_cons (us_if (pt_not (ut_val (ue_call (E := E0) C__law_same (hr.mono (by decide)) rfl pass0 (pa_cons (pu 5) (pa_cons (pu 4) pa_nil))))) (pss_one (ps_ret pe_bl)) pss_nil)
    (pss_cons (us_if (ut_cmp (kEq K hr.units) (pe_ix (kIx K) (pu 4) pe_int (fun _ _ => rfl)) pe_str (nomark _)) (pss_one (ps_ret pe_bl)) pss_nil)
    (pss_one (ps_ret (ue_call (E := E0) C__law_same (hr.mono (by decide)) rfl pass0 (pa_cons (ue_call (E := E0) C__law_told (hr.mono (by decide)) rfl passL (pa_cons (pe_ix (kIx K) (pu 5) pe_int (fun _ _ => rfl)) pa_nil)) (pa_cons (pu 4) pa_nil)))))))))))))), ?_⟩)
  · obtain ⟨a, ns, rfl, _⟩ := h
    rfl
  · obtain ⟨a, ns, rfl, h⟩ := h
    obtain ⟨ha, hk⟩ := h
    have nl1 : ((("\n" : Str))).length = 1 := by decide
    have nl0 : ((("" : Str))).length = 0 := by decide
    refine ⟨a, ns, 0, rfl, ha, fun c0 => ⟨c0, rfl, fun H1 p hp P1 k1 => ⟨p, rfl, P1, fun H2 L ls hL hLn P2 k2 => ?_⟩⟩⟩
    obtain ⟨hL1, hL2, hL3⟩ := hL
    have K2 : Kp [] H H2 := Kp.over k1 hp k2
    refine ⟨fun σ H3 => ∃ (text : Str), σ = [some (.ref a), some (.ref L), some (.str text), none, none, none, none] ∧ text.length ≤ 2000000 ∧ Kp [] H2 H3, ⟨⟨_, rfl⟩, L, rfl, ⟨_, SqL.of hL1⟩, fun D hD => lc_list (xs := ls.map V.str) (LcP [] H2 D fun i => ((ls.take i).map (· ++ ("\n" : Str))).map V.str) (LcP.start hD rfl) (fun i H3 _ p3 => SqL.of (p3.2.get0 hL1)) (fun i x H3 hx q3 => ?_) fun H3 q3 => ?_⟩, ?_⟩
    · rw [List.getElem?_map] at hx
      cases e : ls[i]? with
      | none => rw [e] at hx; cases hx
      | some w =>
        rw [e] at hx
        cases hx
        have hw := hL3 w (List.mem_of_getElem? e)
        refine ⟨rfl, by rw [nl1]; exact Nat.le_trans (show w.length + 1 ≤ 10000 by omega) (sl rfl), q3.step hD Kp.refl (by simp) ?_ ?_⟩
        · rw [List.take_add_one, e]; simp
        · simp; exact Nat.lt_of_le_of_lt (Nat.min_le_right _ _) (Nat.lt_of_lt_of_le (show ls.length < 100 by omega) (sl rfl))
    · have hD3 := q3.1
      simp only [List.length_map, List.take_length] at hD3
      have hw1 : ∀ w ∈ ls.map (· ++ ("\n" : Str)), w.length ≤ 2001 := fun w hw => by
        obtain ⟨v, hv, rfl⟩ := List.mem_map.mp hw
        rw [app_len, nl1]; have := hL3 v hv; omega
      have hsum := sum_le 2001 _ hw1
      have hj := join0_le 2001 hw1
      rw [List.length_map] at hj hsum
      exact ⟨_, SqL.of hD3 |> Or.inl, by rw [List.length_map, nl0]; omega, _, rfl, Nat.le_trans hj (by omega), q3.2⟩
    rintro σ H3 ⟨text, rfl, ht, k3⟩
    have K3 := K2.trans k3
    refine ⟨a, ns, 1, rfl, SqL.keepU K3 ha, fun c1 => ⟨c1, rfl, fun H4 p4 hp4 P4 k4 => ⟨p4, L, ls, rfl, P4, ⟨k4.get0 (k3.get0 hL1), hL2, hL3⟩, fun H5 bent hb P5 k5 => ?_⟩⟩⟩
    refine ⟨bent, rfl, by omega, fun v1 H6 r1 k6 => ⟨bent, rfl, by omega, fun v2 H7 r2 k7 => ?_⟩⟩
    have o1 := dueDt_ok (splS 10 bent) bent
    refine ⟨v1, v2, _, _, rfl, r1.keep k7, r2, Nat.le_trans o1.1 (by decide), o1.2, fun b H8 hb8 k8 => ?_⟩
    have eb : b = true := hb8.mpr rfl
    subst eb
    refine brF ⟨text, rfl, ht, fun v3 H9 r3 k9 => ⟨text, rfl, ht, fun v4 H10 r4 k10 => ?_⟩⟩
    have o2 := dueDt_ok (splS 10 text) text
    have r3' := r3.keep k10
    refine ⟨v4, v3, _, _, rfl, r4, r3', Nat.le_trans o2.1 (by decide), o2.2, fun b H11 hb11 k11 => ?_⟩
    have eb : b = true := hb11.mpr rfl
    subst eb
    refine brF ?_
    have r3'' := r3'.keep k11
    have r4' := r4.keep k11
    cases e : dueGo [] (splS 10 text) with
    | bad n =>
      rw [e] at r3''
      cases r3'' with
      | tup h1 h2 =>
        cases h2 with
        | cons h3 h4 =>
          cases h3
          exact ⟨_, _, .inr (SqT.of h1), atI_nat (j := 0) rfl, rfl, brT (hk _)⟩
    | ok rows =>
      rw [e] at r3'' r4' o2
      have r5 := r3''
      cases r3'' with
      | tup h1 h2 =>
        cases h2 with
        | cons h3 h4 =>
          cases h3
          cases r4' with
          | tup g1 g2 =>
            cases g2 with
            | cons g3 g4 =>
              cases g4 with
              | cons g5 g6 =>
                cases g6 with
                | cons g7 g8 =>
                  cases g7
                  refine ⟨_, _, .inr (SqT.of h1), atI_nat (j := 0) rfl, rfl, brF ⟨_, _, .inr (SqT.of g1), atI_nat (j := 2) rfl, text, rfl, ht, fun v6 H12 r6 k12 => ?_⟩⟩
                  rw [e] at r6
                  refine ⟨v6, _, _, _, rfl, r6, r5.keep k12, Nat.le_trans o2.1 (by decide), o2.2, fun b H13 hb13 k13 => ?_⟩
                  have eb : b = true := hb13.mpr rfl
                  subst eb
                  exact hk _
end
end LW
set_option Elab.async false
set_option linter.all false
set_option maxRecDepth 100000
set_option maxHeartbeats 0
namespace LW
open PySem PySem.Spec PyProof.Rows L2 U
/-! the head -/
def d__law_cell : DA := { ad := fun K => He.ga K "_law_cell", name := "_law_cell", qual := "_law_cell", params := defArgs s__law_cell, body := defBody s__law_cell, scope := defScope s__law_cell }
def d__law_pool : DA := { ad := fun K => He.ga K "_law_pool", name := "_law_pool", qual := "_law_pool", params := defArgs s__law_pool, body := defBody s__law_pool, scope := defScope s__law_pool }
def d__law_take : DA := { ad := fun K => He.ga K "_law_take", name := "_law_take", qual := "_law_take", params := defArgs s__law_take, body := defBody s__law_take, scope := defScope s__law_take }
def d__law_same : DA := { ad := fun K => He.ga K "_law_same", name := "_law_same", qual := "_law_same", params := defArgs s__law_same, body := defBody s__law_same, scope := defScope s__law_same }
def d_is_name : DA := { ad := fun K => He.ga K "is_name", name := "is_name", qual := "is_name", params := defArgs s_is_name, body := defBody s_is_name, scope := defScope s_is_name }
def d_is_number : DA := { ad := fun K => He.ga K "is_number", name := "is_number", qual := "is_number", params := defArgs s_is_number, body := defBody s_is_number, scope := defScope s_is_number }
def d__law_is_title : DA := { ad := fun K => He.ga K "_law_is_title", name := "_law_is_title", qual := "_law_is_title", params := defArgs s__law_is_title, body := defBody s__law_is_title, scope := defScope s__law_is_title }
def d__law_is_number : DA := { ad := fun K => He.ga K "_law_is_number", name := "_law_is_number", qual := "_law_is_number", params := defArgs s__law_is_number, body := defBody s__law_is_number, scope := defScope s__law_is_number }
def d_condition_of : DA := { ad := fun K => He.ga K "condition_of", name := "condition_of", qual := "condition_of", params := defArgs s_condition_of, body := defBody s_condition_of, scope := defScope s_condition_of }
def d_conditions_of : DA := { ad := fun K => He.ga K "conditions_of", name := "conditions_of", qual := "conditions_of", params := defArgs s_conditions_of, body := defBody s_conditions_of, scope := defScope s_conditions_of }
def d_line_of : DA := { ad := fun K => He.ga K "line_of", name := "line_of", qual := "line_of", params := defArgs s_line_of, body := defBody s_line_of, scope := defScope s_line_of }
def d_lines_of : DA := { ad := fun K => He.ga K "lines_of", name := "lines_of", qual := "lines_of", params := defArgs s_lines_of, body := defBody s_lines_of, scope := defScope s_lines_of }
abbrev sx_BadLine : Stmt := inClass (top 22) 0
def dX_BadLine : DX := ⟨"BadLine", "BadLine.__init__", defArgs sx_BadLine, defBody sx_BadLine, defScope sx_BadLine⟩
def d_book_lines : DA := { ad := fun K => He.ga K "book_lines", name := "book_lines", qual := "book_lines", params := defArgs s_book_lines, body := defBody s_book_lines, scope := defScope s_book_lines }
def d__law_condition : DA := { ad := fun K => He.ga K "_law_condition", name := "_law_condition", qual := "_law_condition", params := defArgs s__law_condition, body := defBody s__law_condition, scope := defScope s__law_condition }
def d__law_line : DA := { ad := fun K => He.ga K "_law_line", name := "_law_line", qual := "_law_line", params := defArgs s__law_line, body := defBody s__law_line, scope := defScope s__law_line }
def d__law_due : DA := { ad := fun K => He.ga K "_law_due", name := "_law_due", qual := "_law_due", params := defArgs s__law_due, body := defBody s__law_due, scope := defScope s__law_due }
def d_RuleBook___init__ : DA := { ad := fun K => He.ma K (He.ga K "RuleBook") "__init__", name := "__init__", qual := "RuleBook.__init__", params := defArgs s_RuleBook___init__, body := defBody s_RuleBook___init__, scope := defScope s_RuleBook___init__ }
def d_RuleBook_text : DA := { ad := fun K => propGet K "RuleBook" "text", name := "text", qual := "RuleBook.text", params := defArgs s_RuleBook_text, body := defBody s_RuleBook_text, scope := defScope s_RuleBook_text }
def d__law_told : DA := { ad := fun K => He.ga K "_law_told", name := "_law_told", qual := "_law_told", params := defArgs s__law_told, body := defBody s__law_told, scope := defScope s__law_told }
def d__law_name : DA := { ad := fun K => He.ga K "_law_name", name := "_law_name", qual := "_law_name", params := defArgs s__law_name, body := defBody s__law_name, scope := defScope s__law_name }
def d__law_drawn_line : DA := { ad := fun K => He.ga K "_law_drawn_line", name := "_law_drawn_line", qual := "_law_drawn_line", params := defArgs s__law_drawn_line, body := defBody s__law_drawn_line, scope := defScope s__law_drawn_line }
def d__law_drawn_lines : DA := { ad := fun K => He.ga K "_law_drawn_lines", name := "_law_drawn_lines", qual := "_law_drawn_lines", params := defArgs s__law_drawn_lines, body := defBody s__law_drawn_lines, scope := defScope s__law_drawn_lines }
def d__law_bent : DA := { ad := fun K => He.ga K "_law_bent", name := "_law_bent", qual := "_law_bent", params := defArgs s__law_bent, body := defBody s__law_bent, scope := defScope s__law_bent }
def d__law_bent_text : DA := { ad := fun K => He.ga K "_law_bent_text", name := "_law_bent_text", qual := "_law_bent_text", params := defArgs s__law_bent_text, body := defBody s__law_bent_text, scope := defScope s__law_bent_text }
def d_law : DA := { ad := fun K => He.ga K "law", name := "law", qual := "law", params := defArgs s_law, body := defBody s_law, scope := defScope s_law }
def facts : Facts := ⟨[.free "len", .glo "_law_cell", .free "abs", .free "int", .glo "_law_pool", .glo "_law_take", .free "isinstance", .free "tuple", .free "all", .free "range", .free "list", .free "dict", .free "bool", .free "str", .glo "_law_same", .int "LONGEST_NAME" 8, .str "STREET" "street", .str "LETTERS" "abcdefghijklmnopqrstuvwxyz", .str "DIGITS" "0123456789", .glo "is_name", .int "LONGEST_NUMBER" 6, .glo "is_number", .glo "_law_is_title", .glo "_law_is_number", .glo "NAMED", .glo "NUMBERED", .glo "condition_of", .glo "conditions_of", .str "EVERYBODY" "*", .int "MOST_CONDITIONS" 12, .glo "line_of", .glo "lines_of", .int "MOST_LINES" 40, .glo "BadLine", .noat "BadLine" "line", .free "super", .glo "book_lines", .glo "_law_condition", .free "min", .glo "_law_line", .glo "_law_due", .cls "RuleBook", .noat "RuleBook" "lines", .noat "RuleBook" "_text", .glo "RuleBook", .mkr "RuleBook", .exm "BadLine" "BadLine" true, .glo "TooLarge", .glo "BadNumber", .glo "BadName", .glo "RidesError", .glo "_law_told", .glo "_law_name", .glo "_law_drawn_line", .glo "_law_drawn_lines", .glo "_law_bent", .glo "_law_bent_text", .glo "law"],
  [.tup "NAMED" [.str "done", .str "waits"], .tup "NUMBERED" [.str "bikes", .str "free"], .prop "RuleBook" "text", .ki "BadLine" "TooLarge" false, .ki "BadLine" "BadNumber" false, .ki "BadLine" "BadName" false, .ki "BadLine" "RidesError" true, .cau "BadLine" "line"],
  [d__law_cell, d__law_pool, d__law_take, d__law_same, d_is_name, d_is_number, d__law_is_title, d__law_is_number, d_condition_of, d_conditions_of, d_line_of, d_lines_of, d_book_lines, d__law_condition, d__law_line, d__law_due, d_RuleBook___init__, d_RuleBook_text, d__law_told, d__law_name, d__law_drawn_line, d__law_drawn_lines, d__law_bent, d__law_bent_text, d_law],
  [dX_BadLine],
  "/claim/cut.py"⟩
abbrev P0 : Program := PySem.Challenge.rw_manyrides_k79_a_book_reads_back.prog
theorem told {w : World} {K : PySem.W.Frag} {h base : Heap} {mg : Str → Option Value} {fd : FuncData} (KX : K.In h) (G : h.Ns mainGlobals mg) (c : facts.Says K)
    (F_law : FunD K "law" "law" (defArgs s_law) (defBody s_law) (defScope s_law) [] [] (He.ga K "law") fd) : FnOk P0 w K mg base CX0 13 (He.ga K "law") fd ["script"] (sp_law K) := by
  obtain ⟨fd__law_cell, F__law_cell⟩ := c.def_ 0 (d := d__law_cell) rfl
  have B__law_cell : Binds K fd__law_cell ["script", "k"] [] := FunD.bindsN F__law_cell fun _ _ _ _ _ _ us hl => match us, hl with | [_, _], _ => rfl
  have O__law_cell := ok__law_cell (P := P0) (w := w) (mg := mg) (base := base) F__law_cell (He.free_ok KX G (c.fact 0 (f := .free "len") rfl))
  have C__law_cell : Cal P0 w K mg base CX0 1 "_law_cell" ["script", "k"] (sp__law_cell K) := ⟨_, fd__law_cell, (He.glo_ok KX G (c.fact 1 (f := .glo "_law_cell") rfl)), F__law_cell.kp, B__law_cell, O__law_cell⟩
  obtain ⟨fd__law_pool, F__law_pool⟩ := c.def_ 1 (d := d__law_pool) rfl
  have B__law_pool : Binds K fd__law_pool ["cell"] [] := FunD.bindsN F__law_pool fun _ _ _ _ _ _ us hl => match us, hl with | [_], _ => rfl
  have O__law_pool := ok__law_pool (P := P0) (w := w) (mg := mg) (base := base) F__law_pool (He.free_ok KX G (c.fact 2 (f := .free "abs") rfl)) (He.free_ok KX G (c.fact 3 (f := .free "int") rfl))
  have C__law_pool : Cal P0 w K mg base CX0 1 "_law_pool" ["cell"] (sp__law_pool K) := ⟨_, fd__law_pool, (He.glo_ok KX G (c.fact 4 (f := .glo "_law_pool") rfl)), F__law_pool.kp, B__law_pool, O__law_pool⟩
  obtain ⟨fd__law_take, F__law_take⟩ := c.def_ 2 (d := d__law_take) rfl
  have B__law_take : Binds K fd__law_take ["pool", "limit"] [] := FunD.bindsN F__law_take fun _ _ _ _ _ _ us hl => match us, hl with | [_, _], _ => rfl
  have O__law_take := ok__law_take (P := P0) (w := w) (mg := mg) (base := base) F__law_take (He.free_ok KX G (c.fact 3 (f := .free "int") rfl))
  have C__law_take : Cal P0 w K mg base CX0 1 "_law_take" ["pool", "limit"] (sp__law_take K) := ⟨_, fd__law_take, (He.glo_ok KX G (c.fact 5 (f := .glo "_law_take") rfl)), F__law_take.kp, B__law_take, O__law_take⟩
  obtain ⟨fd__law_same, F__law_same⟩ := c.def_ 3 (d := d__law_same) rfl
  have B__law_same : Binds K fd__law_same ["actual", "expected"] [] := FunD.bindsN F__law_same fun _ _ _ _ _ _ us hl => match us, hl with | [_, _], _ => rfl
  have CN__law_same : ∀ n, Cal P0 w K mg base CX0 n "_law_same" ["actual", "expected"] (sp_same K n) := fun n => by
    induction n with
    | zero => exact ⟨_, fd__law_same, (He.glo_ok KX G (c.fact 14 (f := .glo "_law_same") rfl)), F__law_same.kp, B__law_same, fun _ _ _ _ h => h.elim, fun _ _ _ _ _ _ _ _ _ _ _ _ _ h => h.elim⟩
    | succ n ih => exact ⟨_, fd__law_same, (He.glo_ok KX G (c.fact 14 (f := .glo "_law_same") rfl)), F__law_same.kp, B__law_same, ok__law_same F__law_same (He.free_ok KX G (c.fact 6 (f := .free "isinstance") rfl)) (He.free_ok KX G (c.fact 7 (f := .free "tuple") rfl)) (He.free_ok KX G (c.fact 0 (f := .free "len") rfl)) (He.free_ok KX G (c.fact 8 (f := .free "all") rfl)) (He.free_ok KX G (c.fact 9 (f := .free "range") rfl)) ih (He.free_ok KX G (c.fact 10 (f := .free "list") rfl)) (He.free_ok KX G (c.fact 11 (f := .free "dict") rfl)) (He.free_ok KX G (c.fact 3 (f := .free "int") rfl)) (He.free_ok KX G (c.fact 12 (f := .free "bool") rfl)) (He.free_ok KX G (c.fact 13 (f := .free "str") rfl))⟩
  have C__law_same := CN__law_same 12
  obtain ⟨fd_is_name, F_is_name⟩ := c.def_ 4 (d := d_is_name) rfl
  have B_is_name : Binds K fd_is_name ["word"] [] := FunD.bindsN F_is_name fun _ _ _ _ _ _ us hl => match us, hl with | [_], _ => rfl
  have O_is_name := ok_is_name (P := P0) (w := w) (mg := mg) (base := base) F_is_name (He.free_ok KX G (c.fact 0 (f := .free "len") rfl)) (He.int_ok KX G (c.fact 15 (f := .int "LONGEST_NAME" 8) rfl)) (He.str_ok KX G (c.fact 16 (f := .str "STREET" "street") rfl)) (He.str_ok KX G (c.fact 17 (f := .str "LETTERS" "abcdefghijklmnopqrstuvwxyz") rfl)) (He.free_ok KX G (c.fact 8 (f := .free "all") rfl)) (He.str_ok KX G (c.fact 18 (f := .str "DIGITS" "0123456789") rfl))
  have C_is_name : Cal P0 w K mg base CX0 1 "is_name" ["word"] (sp_is_name K) := ⟨_, fd_is_name, (He.glo_ok KX G (c.fact 19 (f := .glo "is_name") rfl)), F_is_name.kp, B_is_name, O_is_name⟩
  obtain ⟨fd_is_number, F_is_number⟩ := c.def_ 5 (d := d_is_number) rfl
  have B_is_number : Binds K fd_is_number ["word"] [] := FunD.bindsN F_is_number fun _ _ _ _ _ _ us hl => match us, hl with | [_], _ => rfl
  have O_is_number := ok_is_number (P := P0) (w := w) (mg := mg) (base := base) F_is_number (He.free_ok KX G (c.fact 0 (f := .free "len") rfl)) (He.int_ok KX G (c.fact 20 (f := .int "LONGEST_NUMBER" 6) rfl)) (He.free_ok KX G (c.fact 8 (f := .free "all") rfl)) (He.str_ok KX G (c.fact 18 (f := .str "DIGITS" "0123456789") rfl))
  have C_is_number : Cal P0 w K mg base CX0 1 "is_number" ["word"] (sp_is_number K) := ⟨_, fd_is_number, (He.glo_ok KX G (c.fact 21 (f := .glo "is_number") rfl)), F_is_number.kp, B_is_number, O_is_number⟩
  obtain ⟨fd__law_is_title, F__law_is_title⟩ := c.def_ 6 (d := d__law_is_title) rfl
  have B__law_is_title : Binds K fd__law_is_title ["word"] [] := FunD.bindsN F__law_is_title fun _ _ _ _ _ _ us hl => match us, hl with | [_], _ => rfl
  have O__law_is_title := ok__law_is_title (P := P0) (w := w) (mg := mg) (base := base) F__law_is_title (He.free_ok KX G (c.fact 0 (f := .free "len") rfl))
  have C__law_is_title : Cal P0 w K mg base CX0 1 "_law_is_title" ["word"] (sp__law_is_title K) := ⟨_, fd__law_is_title, (He.glo_ok KX G (c.fact 22 (f := .glo "_law_is_title") rfl)), F__law_is_title.kp, B__law_is_title, O__law_is_title⟩
  obtain ⟨fd__law_is_number, F__law_is_number⟩ := c.def_ 7 (d := d__law_is_number) rfl
  have B__law_is_number : Binds K fd__law_is_number ["word"] [] := FunD.bindsN F__law_is_number fun _ _ _ _ _ _ us hl => match us, hl with | [_], _ => rfl
  have O__law_is_number := ok__law_is_number (P := P0) (w := w) (mg := mg) (base := base) F__law_is_number (He.free_ok KX G (c.fact 0 (f := .free "len") rfl))
  have C__law_is_number : Cal P0 w K mg base CX0 1 "_law_is_number" ["word"] (sp__law_is_number K) := ⟨_, fd__law_is_number, (He.glo_ok KX G (c.fact 23 (f := .glo "_law_is_number") rfl)), F__law_is_number.kp, B__law_is_number, O__law_is_number⟩
  obtain ⟨fd_condition_of, F_condition_of⟩ := c.def_ 8 (d := d_condition_of) rfl
  have B_condition_of : Binds K fd_condition_of ["words"] [] := FunD.bindsN F_condition_of fun _ _ _ _ _ _ us hl => match us, hl with | [_], _ => rfl
  have O_condition_of := ok_condition_of (P := P0) (w := w) (mg := mg) (base := base) F_condition_of C_is_name (He.glo_ok KX G (c.fact 24 (f := .glo "NAMED") rfl)) (fun H => He.tupB_ok (c.more 0 (f := .tup "NAMED" [.str "done", .str "waits"]) rfl) H) (He.free_ok KX G (c.fact 0 (f := .free "len") rfl)) (He.glo_ok KX G (c.fact 25 (f := .glo "NUMBERED") rfl)) (fun H => He.tupB_ok (c.more 1 (f := .tup "NUMBERED" [.str "bikes", .str "free"]) rfl) H) C_is_number (He.free_ok KX G (c.fact 3 (f := .free "int") rfl))
  have C_condition_of : Cal P0 w K mg base CX0 2 "condition_of" ["words"] (sp_condition_of K) := ⟨_, fd_condition_of, (He.glo_ok KX G (c.fact 26 (f := .glo "condition_of") rfl)), F_condition_of.kp, B_condition_of, O_condition_of⟩
  obtain ⟨fd_conditions_of, F_conditions_of⟩ := c.def_ 9 (d := d_conditions_of) rfl
  have B_conditions_of : Binds K fd_conditions_of ["words"] [] := FunD.bindsN F_conditions_of fun _ _ _ _ _ _ us hl => match us, hl with | [_], _ => rfl
  have O_conditions_of := ok_conditions_of (P := P0) (w := w) (mg := mg) (base := base) F_conditions_of (He.free_ok KX G (c.fact 0 (f := .free "len") rfl)) (He.glo_ok KX G (c.fact 25 (f := .glo "NUMBERED") rfl)) (fun H => He.tupB_ok (c.more 1 (f := .tup "NUMBERED" [.str "bikes", .str "free"]) rfl) H) C_condition_of (He.free_ok KX G (c.fact 7 (f := .free "tuple") rfl))
  have C_conditions_of : Cal P0 w K mg base CX0 3 "conditions_of" ["words"] (sp_conditions_of K) := ⟨_, fd_conditions_of, (He.glo_ok KX G (c.fact 27 (f := .glo "conditions_of") rfl)), F_conditions_of.kp, B_conditions_of, O_conditions_of⟩
  obtain ⟨fd_line_of, F_line_of⟩ := c.def_ 10 (d := d_line_of) rfl
  have B_line_of : Binds K fd_line_of ["line"] [] := FunD.bindsN F_line_of fun _ _ _ _ _ _ us hl => match us, hl with | [_], _ => rfl
  have O_line_of := ok_line_of (P := P0) (w := w) (mg := mg) (base := base) F_line_of (He.free_ok KX G (c.fact 0 (f := .free "len") rfl)) C_is_name (He.str_ok KX G (c.fact 28 (f := .str "EVERYBODY" "*") rfl)) C_conditions_of (He.int_ok KX G (c.fact 29 (f := .int "MOST_CONDITIONS" 12) rfl))
  have C_line_of : Cal P0 w K mg base CX0 4 "line_of" ["line"] (sp_line_of K) := ⟨_, fd_line_of, (He.glo_ok KX G (c.fact 30 (f := .glo "line_of") rfl)), F_line_of.kp, B_line_of, O_line_of⟩
  obtain ⟨fd_lines_of, F_lines_of⟩ := c.def_ 11 (d := d_lines_of) rfl
  have B_lines_of : Binds K fd_lines_of ["text"] [] := FunD.bindsN F_lines_of fun _ _ _ _ _ _ us hl => match us, hl with | [_], _ => rfl
  have O_lines_of := ok_lines_of (P := P0) (w := w) (mg := mg) (base := base) F_lines_of 
  have C_lines_of : Cal P0 w K mg base CX0 1 "lines_of" ["text"] (sp_lines_of K) := ⟨_, fd_lines_of, (He.glo_ok KX G (c.fact 31 (f := .glo "lines_of") rfl)), F_lines_of.kp, B_lines_of, O_lines_of⟩
  have X_BadLine : Exc1 P0 w K mg "BadLine" "line" isIntV := by
    obtain ⟨i1, i2, i3, i4⟩ := c.exc (P := P0) 0 (d := dX_BadLine) rfl (by decide +kernel)
    refine ⟨⟨_, _, _, _, _, _, _, rfl, (He.glo_ok KX G (c.fact 33 (f := .glo "BadLine") rfl)), i1, ⟨⟨_, _, _, _, _, _, _, _, _, rfl, fun _ _ _ => ⟨_, rfl⟩, fun _ _ _ => rfl, fun _ _ _ => rfl⟩, fun _ _ _ => rfl, fun _ _ _ _ _ _ us hl => match us, hl with | [_, _], _ => rfl, ⟨_, rfl, rfl⟩, rfl, rfl, rfl, rfl, by decide +kernel, by decide +kernel, rfl, rfl, rfl, by decide +kernel, by decide +kernel⟩, He.noat_ok (c.fact 34 (f := .noat "BadLine" "line") rfl), ?_, i2, i3, i4⟩, He.free_ok KX G (c.fact 35 (f := .free "super") rfl)⟩
    intro v u _ _ A E L cda cc m s Q _ _ h
    exact Calls.Constant_str (h _ _)
  obtain ⟨fd_book_lines, F_book_lines⟩ := c.def_ 12 (d := d_book_lines) rfl
  have B_book_lines : Binds K fd_book_lines ["text"] [] := FunD.bindsN F_book_lines fun _ _ _ _ _ _ us hl => match us, hl with | [_], _ => rfl
  have O_book_lines := ok_book_lines (P := P0) (w := w) (mg := mg) (base := base) F_book_lines C_lines_of C_line_of (He.free_ok KX G (c.fact 0 (f := .free "len") rfl)) (He.int_ok KX G (c.fact 32 (f := .int "MOST_LINES" 40) rfl)) X_BadLine (He.free_ok KX G (c.fact 7 (f := .free "tuple") rfl))
  have C_book_lines : Cal P0 w K mg base (L2.CX P0 w) 5 "book_lines" ["text"] (sp_book_lines K) := ⟨_, fd_book_lines, (He.glo_ok KX G (c.fact 36 (f := .glo "book_lines") rfl)), F_book_lines.kp, B_book_lines, O_book_lines⟩
  obtain ⟨fd__law_condition, F__law_condition⟩ := c.def_ 13 (d := d__law_condition) rfl
  have B__law_condition : Binds K fd__law_condition ["words"] [] := FunD.bindsN F__law_condition fun _ _ _ _ _ _ us hl => match us, hl with | [_], _ => rfl
  have O__law_condition := ok__law_condition (P := P0) (w := w) (mg := mg) (base := base) F__law_condition C__law_is_title (He.free_ok KX G (c.fact 0 (f := .free "len") rfl)) C__law_is_number (He.free_ok KX G (c.fact 3 (f := .free "int") rfl))
  have C__law_condition : Cal P0 w K mg base CX0 2 "_law_condition" ["words"] (sp__law_condition K) := ⟨_, fd__law_condition, (He.glo_ok KX G (c.fact 37 (f := .glo "_law_condition") rfl)), F__law_condition.kp, B__law_condition, O__law_condition⟩
  obtain ⟨fd__law_line, F__law_line⟩ := c.def_ 14 (d := d__law_line) rfl
  have B__law_line : Binds K fd__law_line ["line"] [] := FunD.bindsN F__law_line fun _ _ _ _ _ _ us hl => match us, hl with | [_], _ => rfl
  have O__law_line := ok__law_line (P := P0) (w := w) (mg := mg) (base := base) F__law_line (He.free_ok KX G (c.fact 0 (f := .free "len") rfl)) C__law_is_title (He.free_ok KX G (c.fact 9 (f := .free "range") rfl)) C__law_condition (He.free_ok KX G (c.fact 38 (f := .free "min") rfl)) (He.free_ok KX G (c.fact 7 (f := .free "tuple") rfl))
  have C__law_line : Cal P0 w K mg base CX0 3 "_law_line" ["line"] (sp__law_line K) := ⟨_, fd__law_line, (He.glo_ok KX G (c.fact 39 (f := .glo "_law_line") rfl)), F__law_line.kp, B__law_line, O__law_line⟩
  obtain ⟨fd__law_due, F__law_due⟩ := c.def_ 15 (d := d__law_due) rfl
  have B__law_due : Binds K fd__law_due ["text"] [] := FunD.bindsN F__law_due fun _ _ _ _ _ _ us hl => match us, hl with | [_], _ => rfl
  have O__law_due := ok__law_due (P := P0) (w := w) (mg := mg) (base := base) F__law_due C__law_line (He.free_ok KX G (c.fact 0 (f := .free "len") rfl)) (He.free_ok KX G (c.fact 7 (f := .free "tuple") rfl))
  have C__law_due : Cal P0 w K mg base CX0 4 "_law_due" ["text"] (sp__law_due K) := ⟨_, fd__law_due, (He.glo_ok KX G (c.fact 40 (f := .glo "_law_due") rfl)), F__law_due.kp, B__law_due, O__law_due⟩
  obtain ⟨fd_RuleBook___init__, F_RuleBook___init__⟩ := c.def_ 16 (d := d_RuleBook___init__) rfl
  have B_RuleBook___init__ : Binds K fd_RuleBook___init__ ["self", "text"] [] := FunD.bindsN F_RuleBook___init__ fun _ _ _ _ _ _ us hl => match us, hl with | [_, _], _ => rfl
  have O_RuleBook___init__ := ok_RuleBook___init__ (P := P0) (w := w) (mg := mg) (base := base) F_RuleBook___init__ (He.cls_ok (c.fact 41 (f := .cls "RuleBook") rfl)) (He.noat_ok (c.fact 42 (f := .noat "RuleBook" "lines") rfl)) C_book_lines (He.noat_ok (c.fact 43 (f := .noat "RuleBook" "_text") rfl))
  have M_RuleBook : Mkr P0 w K mg base (L2.CX P0 w) 6 "RuleBook" ["self", "text"] (sp_RuleBook___init__ K) := ⟨_, fd_RuleBook___init__, (He.glo_ok KX G (c.fact 44 (f := .glo "RuleBook") rfl)), He.mkr_ok (c.fact 45 (f := .mkr "RuleBook") rfl), B_RuleBook___init__, O_RuleBook___init__⟩
  obtain ⟨fd_RuleBook_text, F_RuleBook_text⟩ := c.def_ 17 (d := d_RuleBook_text) rfl
  have B_RuleBook_text : Binds K fd_RuleBook_text ["self"] [] := FunD.bindsN F_RuleBook_text fun _ _ _ _ _ _ us hl => match us, hl with | [_], _ => rfl
  have O_RuleBook_text := ok_RuleBook_text (P := P0) (w := w) (mg := mg) (base := base) F_RuleBook_text (He.cls_ok (c.fact 41 (f := .cls "RuleBook") rfl)) (He.noat_ok (c.fact 43 (f := .noat "RuleBook" "_text") rfl))
  have pr_text : Prp P0 w K mg base CX0 1 "RuleBook" "text" (sp_RuleBook_text K) := ⟨_, _, fd_RuleBook_text, ["self"], He.cls_ok (c.fact 41 (f := .cls "RuleBook") rfl), propB_ok (c.more 2 (f := .prop "RuleBook" "text") rfl), B_RuleBook_text, O_RuleBook_text⟩
  obtain ⟨fd__law_told, F__law_told⟩ := c.def_ 18 (d := d__law_told) rfl
  have B__law_told : Binds K fd__law_told ["text"] [] := FunD.bindsN F__law_told fun _ _ _ _ _ _ us hl => match us, hl with | [_], _ => rfl
  have O__law_told := ok__law_told (P := P0) (w := w) (mg := mg) (base := base) F__law_told (He.glo_ok KX G (c.fact 33 (f := .glo "BadLine") rfl)) (He.exm_ok (c.fact 46 (f := .exm "BadLine" "BadLine" true) rfl)) M_RuleBook (kiB_ok (c.more 3 (f := .ki "BadLine" "TooLarge" false) rfl)) (He.free_ok KX G (c.fact 6 (f := .free "isinstance") rfl)) (He.glo_ok KX G (c.fact 47 (f := .glo "TooLarge") rfl)) (kiB_ok (c.more 4 (f := .ki "BadLine" "BadNumber" false) rfl)) (He.glo_ok KX G (c.fact 48 (f := .glo "BadNumber") rfl)) (kiB_ok (c.more 5 (f := .ki "BadLine" "BadName" false) rfl)) (He.glo_ok KX G (c.fact 49 (f := .glo "BadName") rfl)) (kiB_ok (c.more 6 (f := .ki "BadLine" "RidesError" true) rfl)) (He.glo_ok KX G (c.fact 50 (f := .glo "RidesError") rfl)) (cauB_ok (c.more 7 (f := .cau "BadLine" "line") rfl)) pr_text (He.cls_ok (c.fact 41 (f := .cls "RuleBook") rfl)) (He.noat_ok (c.fact 42 (f := .noat "RuleBook" "lines") rfl))
  have C__law_told : Cal P0 w K mg base (L2.CX P0 w) 8 "_law_told" ["text"] (sp__law_told K) := ⟨_, fd__law_told, (He.glo_ok KX G (c.fact 51 (f := .glo "_law_told") rfl)), F__law_told.kp, B__law_told, O__law_told⟩
  obtain ⟨fd__law_name, F__law_name⟩ := c.def_ 19 (d := d__law_name) rfl
  have B__law_name : Binds K fd__law_name ["pool"] [] := FunD.bindsN F__law_name fun _ _ _ _ _ _ us hl => match us, hl with | [_], _ => rfl
  have O__law_name := ok__law_name (P := P0) (w := w) (mg := mg) (base := base) F__law_name C__law_take (He.free_ok KX G (c.fact 9 (f := .free "range") rfl))
  have C__law_name : Cal P0 w K mg base CX0 2 "_law_name" ["pool"] (sp__law_name K) := ⟨_, fd__law_name, (He.glo_ok KX G (c.fact 52 (f := .glo "_law_name") rfl)), F__law_name.kp, B__law_name, O__law_name⟩
  obtain ⟨fd__law_drawn_line, F__law_drawn_line⟩ := c.def_ 20 (d := d__law_drawn_line) rfl
  have B__law_drawn_line : Binds K fd__law_drawn_line ["pool"] [] := FunD.bindsN F__law_drawn_line fun _ _ _ _ _ _ us hl => match us, hl with | [_], _ => rfl
  have O__law_drawn_line := ok__law_drawn_line (P := P0) (w := w) (mg := mg) (base := base) F__law_drawn_line C__law_take C__law_name (He.free_ok KX G (c.fact 9 (f := .free "range") rfl)) (He.free_ok KX G (c.fact 38 (f := .free "min") rfl)) (He.free_ok KX G (c.fact 3 (f := .free "int") rfl)) (He.free_ok KX G (c.fact 13 (f := .free "str") rfl))
  have C__law_drawn_line : Cal P0 w K mg base CX0 3 "_law_drawn_line" ["pool"] (sp__law_drawn_line K) := ⟨_, fd__law_drawn_line, (He.glo_ok KX G (c.fact 53 (f := .glo "_law_drawn_line") rfl)), F__law_drawn_line.kp, B__law_drawn_line, O__law_drawn_line⟩
  obtain ⟨fd__law_drawn_lines, F__law_drawn_lines⟩ := c.def_ 21 (d := d__law_drawn_lines) rfl
  have B__law_drawn_lines : Binds K fd__law_drawn_lines ["pool"] [] := FunD.bindsN F__law_drawn_lines fun _ _ _ _ _ _ us hl => match us, hl with | [_], _ => rfl
  have O__law_drawn_lines := ok__law_drawn_lines (P := P0) (w := w) (mg := mg) (base := base) F__law_drawn_lines C__law_take (He.free_ok KX G (c.fact 9 (f := .free "range") rfl)) C__law_drawn_line
  have C__law_drawn_lines : Cal P0 w K mg base CX0 4 "_law_drawn_lines" ["pool"] (sp__law_drawn_lines K) := ⟨_, fd__law_drawn_lines, (He.glo_ok KX G (c.fact 54 (f := .glo "_law_drawn_lines") rfl)), F__law_drawn_lines.kp, B__law_drawn_lines, O__law_drawn_lines⟩
  obtain ⟨fd__law_bent, F__law_bent⟩ := c.def_ 22 (d := d__law_bent) rfl
  have B__law_bent : Binds K fd__law_bent ["pool", "line"] [] := FunD.bindsN F__law_bent fun _ _ _ _ _ _ us hl => match us, hl with | [_, _], _ => rfl
  have O__law_bent := ok__law_bent (P := P0) (w := w) (mg := mg) (base := base) F__law_bent C__law_take (He.free_ok KX G (c.fact 0 (f := .free "len") rfl))
  have C__law_bent : Cal P0 w K mg base CX0 2 "_law_bent" ["pool", "line"] (sp__law_bent K) := ⟨_, fd__law_bent, (He.glo_ok KX G (c.fact 55 (f := .glo "_law_bent") rfl)), F__law_bent.kp, B__law_bent, O__law_bent⟩
  obtain ⟨fd__law_bent_text, F__law_bent_text⟩ := c.def_ 23 (d := d__law_bent_text) rfl
  have B__law_bent_text : Binds K fd__law_bent_text ["pool", "lines"] [] := FunD.bindsN F__law_bent_text fun _ _ _ _ _ _ us hl => match us, hl with | [_, _], _ => rfl
  have O__law_bent_text := ok__law_bent_text (P := P0) (w := w) (mg := mg) (base := base) F__law_bent_text (He.free_ok KX G (c.fact 10 (f := .free "list") rfl)) (He.free_ok KX G (c.fact 9 (f := .free "range") rfl)) C__law_take (He.free_ok KX G (c.fact 0 (f := .free "len") rfl)) C__law_bent
  have C__law_bent_text : Cal P0 w K mg base CX0 3 "_law_bent_text" ["pool", "lines"] (sp__law_bent_text K) := ⟨_, fd__law_bent_text, (He.glo_ok KX G (c.fact 56 (f := .glo "_law_bent_text") rfl)), F__law_bent_text.kp, B__law_bent_text, O__law_bent_text⟩
  exact ok_law (P := P0) (w := w) (mg := mg) (base := base) F_law C__law_drawn_lines C__law_pool C__law_cell C__law_bent_text C__law_same C__law_due C__law_told
theorem start_ {K : PySem.W.Frag} {h : Heap} {mg : Str → Option Value} {f : Addr} (KX : K.In h) (G : h.Ns mainGlobals mg) (hfa : mg ("law" : Str) = some (.ref f)) (c : facts.Says K) :
    f = He.ga K "law" ∧ ∃ fd, FunD K "law" "law" (defArgs s_law) (defBody s_law) (defScope s_law) [] [] (He.ga K "law") fd := by
  have e := hfa.symm.trans (He.glo_ok KX G (c.fact 57 (f := .glo "law") rfl))
  cases e
  exact ⟨rfl, c.def_ 24 (d := d_law) rfl⟩
abbrev R : PySem.W.OpenRow := PySem.W.OpenLaw.row PySem.Challenge.rw_manyrides_k79_a_book_reads_back
abbrev qv : Program := PySem.W.view R.prog [52]
def nm0 : List Str := ["__name__", "__name__", "LETTERS", "DIGITS", "STREET", "LONGEST_NAME", "LONGEST_NUMBER", "is_name", "is_number", "lines_of", "NUMBERED", "NAMED", "condition_of", "conditions_of", "written_condition", "holds", "RidesError", "BadName", "UnknownStation", "BadNumber", "TooLarge", "BadLine", "MOST_LINES", "MOST_CONDITIONS", "EVERYBODY", "line_of", "book_lines", "written_line", "met_who", "check_book_size", "check_book_stations"]
def nm1 : List Str := ["speakers", "is_let", "RuleBook", "_law_cell", "_law_pool", "_law_take", "_law_same", "_law_name", "_law_drawn_line", "_law_drawn_lines", "_law_bent", "_law_bent_text", "_law_is_title", "_law_is_number", "_law_condition", "_law_line", "_law_due", "_law_told"]
def names : List Str := nm0 ++ nm1
abbrev hk : PySem.W.Hook := hookU 5 facts
def ob (s : PySem.W.SharedT) : AlU := facts.obsG 5 (HandSHeadRun.getT s)
theorem ob_eq (s : PySem.W.SharedT) : ob s = hk.obs s.abs := obsU_eq (HandSHeadRun.getT_eq s)
theorem run (w : World) : HandSHeadRun.RunEq R qv hk ob 3000 names w := by
  intro os
  kernel_rfl
end LW
open PySem PySem.W PySem.Calls PyProof.Rows
theorem PySem.Challenge.cw_manyrides_k79_a_book_reads_back_holds : PySem.Challenge.rw_manyrides_k79_a_book_reads_back.Holds := by
  w_on; o_law
  refine HandSHeadRun.head_any (r := LW.R) (q := LW.qv) (H := LW.hk) (ob := LW.ob) (M := 3000) (loose := LW.names) (d := HandSHeadRun.topDef LW.R.prog 52) (kwd := []) LW.ob_eq
    (by kernel_rfl) (fun s => by kernel_rfl) LW.run (by kernel_rfl) (by kernel_rfl) (by kernel_rfl) (by rfl) (by first | assumption | decide +kernel) (by decide +kernel) ⟨rfl, rfl, rfl, rfl, rfl, by decide +kernel⟩ ?hw ?hc
  case hw => w_witness2
  case hc =>
    refine L2.walk_ofE (l := PySem.Challenge.rw_manyrides_k79_a_book_reads_back) (n := 63) (k := 13) (x := "script") (CX := C8.CX0) rfl (by decide) (by kernel_rfl) ⟨rfl, by decide, by decide⟩ ?F (fun _ _ _ _ z => z)
    intro w mg fa h Y G hmg0
    obtain ⟨K, KX, c⟩ := Y
    have hmg : mg ("law" : PySem.Str) = some (.ref fa) := by
      have e : (HandSHeadRun.topDef LW.R.prog 52).name = ("law" : PySem.Str) := by kernel_rfl
      rw [← e]
      exact hmg0
    obtain ⟨rfl, fd, F⟩ := LW.start_ KX G hmg c
    have b := L2.FunD.bindsA (ps := ["script"]) F fun _ _ _ _ _ _ us hl => match us, hl with | [_], _ => rfl
    exact ⟨K, fd, LW.sp_law K, KX, fun s v => b s [v] rfl, fun H a ns hl _ hS => ⟨a, ns, rfl, hS, fun _ => rfl⟩, fun base _ _ => LW.told (w := w) (base := base) KX G c F⟩

import PyProof.Rows.All
import Wide.All
import OpenK.AllK
import Wide.FinOn
import HandS.ForMost
import HandS.ForExc
import HandS.Wide
import HandS.Defaults
import HandS.HeadEnd
import HandS.HeadHook2
import HandS.Head2
import HandS.IsInst
import HandS.Deep
import HandS.Style
import HandS.FStr
import HandS.RaiseMore
import HandS.Codes
import HandS.Walk
import KE.GoesEnum
import KE.KUnpackStar
import HandS.TupAny
import HandS.Zip
import HandS.More
import KE.KCallOwn
import HandS.HeadHook1
import Lean
import PySem.Challenge.RW_strangerlots_k62_rounds_in_a_house
set_option Elab.async false
set_option linter.all false
set_option maxRecDepth 100000
set_option maxHeartbeats 4000000
namespace U
open PySem PySem.Spec PyProof.Rows L2

/-! ### names, tests, branches: readings that compute -/
def uVar (i : Nat) : TE := fun σ H Q => match σ[i]? with
  | some (some v) => Q v H
  | _ => False
section
variable {X : Cx}
theorem pv (i : Nat) {x : Str} {pos : Pos} (hN : X.N[i]? = some x := by rfl) (hv : Vis X.env.scope x := by first | exact Or.inl rfl | exact Or.inr (Or.inl rfl) | exact Or.inr (Or.inr rfl)) (hd : (x == ("__debug__" : Str)) = false := by decide)
    (hcd : (x == ("__classdict__" : Str)) = false := by decide) : PE X (.Name x pos) (uVar i) := by
  refine ⟨fun pins s σ H Q I h => ?_⟩
  refine (pe_var (i := i) hN hv hd hcd).run pins s σ H Q I ?_
  have h : (match σ[i]? with | some (some v) => Q v H | _ => False) := h
  cases e : σ[i]? with
  | none => rw [e] at h; exact h.elim
  | some o =>
    rw [e] at h
    cases o with
    | none => exact h.elim
    | some v => exact ⟨v, e, h⟩
end
/-- by a truth value -/
@[irreducible] def brn (b : Bool) (A B : Prop) : Prop := match b with
  | true => A
  | false => B
theorem brn_e {b : Bool} {A B : Prop} (h : brn b A B) : (b = true → A) ∧ (b = false → B) := by
  unfold brn at h
  cases b with
  | true => exact ⟨fun _ => h, fun z => (by cases z)⟩
  | false => exact ⟨fun z => (by cases z), fun _ => h⟩
theorem brn_i {b : Bool} {A B : Prop} (h1 : b = true → A) (h2 : b = false → B) : brn b A B := by
  unfold brn
  cases b with
  | true => exact h1 rfl
  | false => exact h2 rfl
theorem brn_t {b : Bool} {A B : Prop} (e : b = true) (h : A) : brn b A B := brn_i (fun _ => h) fun z => by rw [e] at z; cases z
theorem brn_f {b : Bool} {A B : Prop} (e : b = false) (h : B) : brn b A B := brn_i (fun z => by rw [e] at z; cases z) fun _ => h
theorem brn_d {p : Prop} [Decidable p] {A B : Prop} (h1 : p → A) (h2 : ¬ p → B) : brn (decide p) A B := brn_i (fun z => h1 (of_decide_eq_true z)) fun z => h2 (of_decide_eq_false z)
theorem brn_nd {p : Prop} [Decidable p] {A B : Prop} (h1 : p → B) (h2 : ¬ p → A) : brn (!decide p) A B := brn_i (fun z => h2 (by simpa using z)) fun z => h1 (by simpa using z)
/-- a bool's reading as a test -/
def uB (x : V) (Q : Bool → Prop) : Prop := match x with
  | .bl b => Q b
  | _ => False
theorem uB_ex {x : V} {Q : Bool → Prop} (h : uB x Q) : ∃ k, x = .bl k ∧ Q k := by
  cases x with
  | bl b => exact ⟨b, rfl, h⟩
  | _ => exact h.elim
def uTest (t : TE) : TT := fun σ H Q => t σ H fun x H' => uB x fun k => Q k H'
/-- a value's truth: bools, ints, None at once; texts and objects by what is known -/
@[irreducible] def uTruO (K : PySem.W.Frag) (x : V) (H : Hp) (Q : Bool → Prop) : Prop := ∃ k, TruV K x H k ∧ Q k
theorem uTruO_i {K : PySem.W.Frag} {x : V} {H : Hp} {Q : Bool → Prop} {k : Bool} (h : TruV K x H k) (q : Q k) : uTruO K x H Q := by
  unfold uTruO
  exact ⟨k, h, q⟩
def uTru (K : PySem.W.Frag) (x : V) (H : Hp) (Q : Bool → Prop) : Prop := match x with
  | .bl b => Q b
  | .non => Q false
  | .int i => Q (i != 0)
  | x => uTruO K x H Q
theorem uTru_ex {K : PySem.W.Frag} {x : V} {H : Hp} {Q : Bool → Prop} (h : uTru K x H Q) : ∃ k, TruV K x H k ∧ Q k := by
  cases x with
  | bl b => exact ⟨b, rfl, h⟩
  | non => exact ⟨false, rfl, h⟩
  | int i => exact ⟨_, rfl, h⟩
  | _ =>
    have h : uTruO K _ H Q := h
    unfold uTruO at h
    exact h
section
variable {X : Cx} {a b c e : Expr} {ta tb : TE} {pos : Pos} {tA tB' : TT} {rest : List Expr}
theorem thnP {t : TT} {e : Expr} (h : PT X e t) {t' : TT} (k : ∀ σ H Q, t' σ H Q → t σ H Q) : PT X e t' := ⟨fun pins s σ H Q I q => h.run pins s σ H Q I (k _ _ _ q)⟩
theorem pe_is {t : TE} {e : Expr} (h : PE X e t) {t' : TE} (k : ∀ σ H Q, t' σ H Q → t σ H Q) : PE X e t' := ⟨fun pins s σ H Q I q => h.run pins s σ H Q I (k _ _ _ q)⟩
theorem ps_is {t : TS} {st : Stmt} (h : PS X st t) {t' : TS} (k : ∀ D σ H, t' D σ H → t D σ H) : PS X st t' := ⟨fun pins s σ H D I q => h.run pins s σ H D I (k _ _ _ q)⟩
/-- any expression as a test, by its value's truth -/
def tTrue (K : PySem.W.Frag) (ta : TE) : TT := fun σ H Q => ta σ H fun x H' => uTru K x H' fun k => Q k H'
theorem pt_truth (ha : PE X a ta) (he : ∀ whole, isTrue a X.env whole = (do let v ← whole; standAt a.pos; holding [v] (truthy v)) := by intro _; rfl) : PT X a (tTrue X.K ta) := by
  refine ⟨fun pins s σ H Q I h => ?_⟩
  refine isTrue_plain (thn (ha.run pins s σ H _ I h) fun v s1 ⟨x, H1, I1, r1, q1⟩ => ?_) (he _)
  obtain ⟨k, e, q⟩ := uTru_ex q1
  exact tru_ok pins s1 σ H1 x v Q I1 r1 ⟨k, e, q⟩
theorem pt_cmp {op : CmpOp} {r : R2} (ho : OpR X (compareOp op) r) (ha : PE X a ta) (hb : PE X b tb) (hm : behindInMarks op b = false) : PT X (.Compare a [op] [b] pos) (uTest (tOp r ta tb)) := by
  refine ⟨fun pins s σ H Q I h => ?_⟩
  refine wpAny_isTrue_Compare1 (thn (ha.run pins s σ H _ I h) fun v s1 ⟨x, H1, I1, r1, q1⟩ => thn (hb.run pins s1 σ H1 _ I1 q1) fun u s2 ⟨y, H2, I2, r2, q2⟩ =>
    thn (ho pins s2 σ H2 x y v u _ I2 r1 r2 q2) fun c s3 ⟨z, H3, I3, r3, q3⟩ => ?_) hm
  obtain ⟨k, e, q3⟩ := uB_ex q3
  subst e
  cases r3
  exact wpAny_truthy_bool ⟨H3, I3, q3⟩
/-- and, or as tests -/
def uAnd (t u : TT) : TT := fun σ H Q => t σ H fun c H1 => brn c (u σ H1 Q) (Q false H1)
def uOr (t u : TT) : TT := fun σ H Q => t σ H fun c H1 => brn c (Q true H1) (u σ H1 Q)
theorem pw_and (ha : PT X a tA) (hb : PW X (.BoolOp .And (b :: rest) pos) tB') : PW X (.BoolOp .And (a :: b :: rest) pos) (uAnd tA tB') := by
  refine ⟨fun wh pins s σ H Q I h => ?_⟩
  refine isTrue_and (thn (ha.run pins s σ H _ I h) fun c s1 ⟨H1, I1, q1⟩ => ?_)
  have q1 := brn_e q1
  cases c with
  | true => exact hb.run wh pins s1 σ H1 Q I1 (q1.1 rfl)
  | false => exact ⟨H1, I1, q1.2 rfl⟩
theorem pw_or (ha : PT X a tA) (hb : PW X (.BoolOp .Or (b :: rest) pos) tB') : PW X (.BoolOp .Or (a :: b :: rest) pos) (uOr tA tB') := by
  refine ⟨fun wh pins s σ H Q I h => ?_⟩
  refine isTrue_or (thn (ha.run pins s σ H _ I h) fun c s1 ⟨H1, I1, q1⟩ => ?_)
  have q1 := brn_e q1
  cases c with
  | false => exact hb.run wh pins s1 σ H1 Q I1 (q1.2 rfl)
  | true => exact ⟨H1, I1, q1.1 rfl⟩
/-- .. as values: the first ones by their truth (bools), the last one whatever it is -/
def uAndV (ta tb : TE) : TE := fun σ H Q => ta σ H fun x H1 => uB x fun c => brn c (tb σ H1 Q) (Q (.bl false) H1)
def uOrV (ta tb : TE) : TE := fun σ H Q => ta σ H fun x H1 => uB x fun c => brn c (Q (.bl true) H1) (tb σ H1 Q)
def uNotV (ta : TE) : TE := fun σ H Q => ta σ H fun x H1 => uB x fun c => Q (.bl (!c)) H1
theorem pe_and (ha : PE X a ta) (hb : PE X (.BoolOp .And (b :: rest) pos) tb) : PE X (.BoolOp .And (a :: b :: rest) pos) (uAndV ta tb) := by
  refine ⟨fun pins s σ H Q I h => ?_⟩
  refine BoolOp_and (thn (ha.run pins s σ H _ I h) fun v s1 ⟨x, H1, I1, r1, q1⟩ => ?_)
  obtain ⟨c, rfl, q1⟩ := uB_ex q1
  have q1 := brn_e q1
  cases r1
  refine wpAny_truthy_bool ?_
  cases c with
  | true => exact hb.run pins s1 σ H1 Q I1 (q1.1 rfl)
  | false => exact ⟨.bl false, H1, I1, rfl, q1.2 rfl⟩
theorem pe_or (ha : PE X a ta) (hb : PE X (.BoolOp .Or (b :: rest) pos) tb) : PE X (.BoolOp .Or (a :: b :: rest) pos) (uOrV ta tb) := by
  refine ⟨fun pins s σ H Q I h => ?_⟩
  refine BoolOp_or (thn (ha.run pins s σ H _ I h) fun v s1 ⟨x, H1, I1, r1, q1⟩ => ?_)
  obtain ⟨c, rfl, q1⟩ := uB_ex q1
  have q1 := brn_e q1
  cases r1
  refine wpAny_truthy_bool ?_
  cases c with
  | false => exact hb.run pins s1 σ H1 Q I1 (q1.2 rfl)
  | true => exact ⟨.bl true, H1, I1, rfl, q1.1 rfl⟩
theorem pe_not (ha : PE X a ta) : PE X (.UnaryOp .Not a pos) (uNotV ta) := by
  refine ⟨fun pins s σ H Q I h => ?_⟩
  refine UnaryOp_ (thn (ha.run pins s σ H _ I h) fun v s1 ⟨x, H1, I1, r1, q1⟩ => ?_)
  obtain ⟨c, rfl, q1⟩ := uB_ex q1
  cases r1
  exact not_of (wpAny_truthy_bool ⟨.bl (!c), H1, I1, rfl, q1⟩)
def uIf (t : TT) (ta tb : TE) : TE := fun σ H Q => t σ H fun c H1 => brn c (ta σ H1 Q) (tb σ H1 Q)
theorem pe_if {c : Expr} (hc : PT X c tA) (ha : PE X a ta) (hb : PE X b tb) : PE X (.IfExp c a b pos) (uIf tA ta tb) := by
  refine ⟨fun pins s σ H Q I h => ?_⟩
  refine wpAny_IfExp (thn (hc.run pins s σ H _ I h) fun d s1 ⟨H1, I1, q1⟩ => ?_)
  have q1 := brn_e q1
  cases d with
  | true => exact ha.run pins s1 σ H1 Q I1 (q1.1 rfl)
  | false => exact hb.run pins s1 σ H1 Q I1 (q1.2 rfl)
def uIfS (c : TT) (t u : TS) : TS := fun D σ H => c σ H fun b H1 => brn b (t D σ H1) (u D σ H1)
theorem ps_if {c : Expr} {a b : List Stmt} {tc : TT} {t u : TS} (hc : PT X c tc) (ha : PSs X a t) (hb : PSs X b u) : PS X (.If c a b pos) (uIfS tc t u) := by
  refine ⟨fun pins s σ H D I h => ?_⟩
  refine wpAny_If (thn (hc.run pins s σ H _ I h) fun d s1 ⟨H1, I1, q1⟩ => ?_)
  have q1 := brn_e q1
  cases d with
  | true => exact ha.run pins s1 σ H1 D I1 (q1.1 rfl)
  | false => exact hb.run pins s1 σ H1 D I1 (q1.2 rfl)
/-- a chain of two comparisons -/
def uChain (r r' : R2) (ta tb tc : TE) : TE := fun σ H Q => ta σ H fun x H1 => tb σ H1 fun y H2 => r x y H2 fun z H3 => uB z fun k => brn k (tc σ H3 fun w' H4 => r' y w' H4 Q) (Q (.bl false) H3)
theorem pe_chain {op op' : CmpOp} {r r' : R2} {tc : TE} (ho : OpR X (compareOp op) r) (ho' : OpR X (compareOp op') r') (ha : PE X a ta) (hb : PE X b tb) (hc : PE X c tc)
    (hm : lastMarks [op, op'] [b, c] = false := by with_unfolding_all rfl) : PE X (.Compare a [op, op'] [b, c] pos) (uChain r r' ta tb tc) := by
  refine ⟨fun pins s σ H Q I h => ?_⟩
  refine Compare_chain (thn (ha.run pins s σ H _ I h) fun v s1 ⟨x, H1, I1, r1, q1⟩ => chain_link (thn (hb.run pins s1 σ H1 _ I1 q1) fun u s2 ⟨y, H2, I2, r2, q2⟩ =>
    thn (ho pins s2 σ H2 x y v u _ I2 r1 r2 q2) fun d s3 ⟨z, H3, I3, r3, q3⟩ => ?_)) hm
  obtain ⟨k, e, q3⟩ := uB_ex q3
  subst e
  have q3 := brn_e q3
  cases r3
  refine wpAny_truthy_bool ?_
  cases k with
  | false => exact ite_ff ⟨.bl false, H3, I3, rfl, q3.2 rfl⟩
  | true => exact ite_tt (chain_last (thn (hc.run pins s3 σ H3 _ I3 (q3.1 rfl)) fun w' s4 ⟨z', H4, I4, r4, q4⟩ => ho' pins s4 σ H4 y z' u w' Q I4 r2 r4 q4))
theorem pt_chain {op op' : CmpOp} {r r' : R2} {tc : TE} (ho : OpR X (compareOp op) r) (ho' : OpR X (compareOp op') r') (ha : PE X a ta) (hb : PE X b tb) (hc : PE X c tc)
    (hm : lastMarks [op, op'] [b, c] = false := by with_unfolding_all rfl) : PT X (.Compare a [op, op'] [b, c] pos) (uTest (uChain r r' ta tb tc)) := by
  refine ⟨fun pins s σ H Q I h => ?_⟩
  refine isTrue_chain (thn (ha.run pins s σ H _ I h) fun v s1 ⟨x, H1, I1, r1, q1⟩ => test_link (thn (hb.run pins s1 σ H1 _ I1 q1) fun u s2 ⟨y, H2, I2, r2, q2⟩ =>
    thn (ho pins s2 σ H2 x y v u _ I2 r1 r2 q2) fun d s3 ⟨z, H3, I3, r3, q3⟩ => ?_)) hm
  obtain ⟨k, e2, q3⟩ := uB_ex q3
  subst e2
  have q3 := brn_e q3
  cases r3
  refine wpAny_truthy_bool ?_
  cases k with
  | false =>
    obtain ⟨k', e', q'⟩ := uB_ex (q3.2 rfl)
    cases e'
    exact ite_ff ⟨H3, I3, q'⟩
  | true =>
    refine ite_tt (test_last (thn (hc.run pins s3 σ H3 _ I3 (q3.1 rfl)) fun w' s4 ⟨z', H4, I4, r4, q4⟩ => thn (ho' pins s4 σ H4 y z' u w' _ I4 r2 r4 q4) fun d' s5 ⟨z2, H5, I5, r5, q5⟩ => ?_))
    obtain ⟨k2, e2, q5⟩ := uB_ex q5
    subst e2
    cases r5
    exact wpAny_truthy_bool ⟨H5, I5, q5⟩
end

/-! ### operators on ints and texts, by the values -/
@[irreducible] def cond (C A : Prop) : Prop := C ∧ A
theorem cond_i {C A : Prop} (h : C) (q : A) : cond C A := by
  unfold cond
  exact ⟨h, q⟩
theorem cond_e {C A : Prop} (h : cond C A) : C ∧ A := by
  unfold cond at h
  exact h
/-- a new object -/
@[irreducible] def new (H : Hp) (o : HO) (Q : VK) : Prop := ∀ p, H p = none → Q (.ref p) (upd H p o)
theorem new_i {H : Hp} {o : HO} {Q : VK} (h : ∀ p, H p = none → Q (.ref p) (upd H p o)) : new H o Q := by
  unfold new
  exact h
theorem new_e {H : Hp} {o : HO} {Q : VK} (h : new H o Q) : ∀ p, H p = none → Q (.ref p) (upd H p o) := by
  unfold new at h
  exact h
def gI2 (C : Int → Int → Prop) (f : Int → Int → V) : R2 := fun x y H Q => match x, y with
  | .int i, .int j => cond (C i j) (Q (f i j) H)
  | _, _ => False
def gI (f : Int → Int → V) : R2 := fun x y H Q => match x, y with
  | .int i, .int j => Q (f i j) H
  | _, _ => False
section
variable {X : Cx}
theorem OpR.is {f : Value → Value → Sem Value} {r r' : R2} (h : OpR X f r) (k : ∀ x y H Q, r' x y H Q → r x y H Q) : OpR X f r' := fun pins s σ H x y v u Q I rx ry q => h pins s σ H x y v u Q I rx ry (k _ _ _ _ q)
theorem op_gI {f : Value → Value → Sem Value} {g : Int → Int → V} (h : OpR X f (rI0 g)) : OpR X f (gI g) := OpR.is h fun x y H Q q => by
  cases x with
  | int i => cases y with
    | int j => exact ⟨i, j, rfl, rfl, q⟩
    | _ => exact q.elim
  | _ => cases y <;> exact q.elim
theorem op_gI2 {f : Value → Value → Sem Value} {C : Int → Int → Prop} {g : Int → Int → V} (h : OpR X f (rI C g)) : OpR X f (gI2 C g) := OpR.is h fun x y H Q q => by
  cases x with
  | int i => cases y with
    | int j => exact ⟨i, j, rfl, rfl, (cond_e q).1, (cond_e q).2⟩
    | _ => exact q.elim
  | _ => cases y <;> exact q.elim
theorem u_sub : OpR X (binaryOp .Sub) (gI fun i j => .int (i - j)) := op_gI op_sub
theorem u_mul : OpR X (binaryOp .Mult) (gI2 CMul fun i j => .int (i * j)) := op_gI2 op_mul
theorem u_fdiv : OpR X (binaryOp .FloorDiv) (gI2 CDiv fun i j => .int (i / j)) := op_gI2 op_fdiv
theorem u_mod : OpR X (binaryOp .Mod) (gI2 (fun _ j => 0 < j) fun i j => .int (i % j)) := op_gI2 op_mod
theorem u_pow : OpR X (binaryOp .Pow) (gI2 CPow fun i j => .int (i ^ j.toNat)) := op_gI2 op_pow
theorem u_lt : OpR X (compareOp .Lt) (gI fun i j => .bl (decide (i < j))) := op_gI op_lt
theorem u_le : OpR X (compareOp .LtE) (gI fun i j => .bl (decide (i ≤ j))) := op_gI op_le
theorem u_gt : OpR X (compareOp .Gt) (gI fun i j => .bl (decide (j < i))) := op_gI op_gt
theorem u_ge : OpR X (compareOp .GtE) (gI fun i j => .bl (decide (j ≤ i))) := op_gI op_ge
/-- + : ints, texts, lists -/
@[irreducible] def catL (a b : Addr) (H : Hp) (Q : VK) : Prop := ∃ xs zs, H a = some (.lst xs) ∧ H b = some (.lst zs) ∧ xs.length + zs.length ≤ sizeLine ∧ new H (.lst (xs ++ zs)) Q
theorem catL_i {a b : Addr} {H : Hp} {Q : VK} {xs zs : List V} (h1 : H a = some (.lst xs)) (h2 : H b = some (.lst zs)) (h3 : xs.length + zs.length ≤ sizeLine) (q : new H (.lst (xs ++ zs)) Q) : catL a b H Q := by
  unfold catL
  exact ⟨xs, zs, h1, h2, h3, q⟩
@[irreducible] def catS (i j : Str) (H : Hp) (Q : VK) : Prop := i.length + j.length ≤ sizeLine ∧ Q (.str (i ++ j)) H
def gAdd : R2 := fun x y H Q => match x, y with
  | .int i, .int j => Q (.int (i + j)) H
  | .int i, .bl k => Q (.int (i + b2i k)) H
  | .str i, .str j => catS i j H Q
  | .ref a, .ref b => catL a b H Q
  | _, _ => False
theorem u_add : OpR X (binaryOp .Add) gAdd := by
  intro pins s σ H x y v u Q I rx ry h
  cases x with
  | int i => cases y with
    | int j => exact op_add pins s σ H _ _ v u Q I rx ry ⟨i, j, rfl, rfl, h⟩
    | bl k => exact op_add_ib pins s σ H _ _ v u Q I rx ry ⟨i, k, rfl, rfl, h⟩
    | _ => exact h.elim
  | str i => cases y with
    | str j =>
      have h : catS i j H Q := h
      unfold catS at h
      exact op_add_str pins s σ H _ _ v u Q I rx ry ⟨i, j, rfl, rfl, h.1, h.2⟩
    | _ => exact h.elim
  | ref a => cases y with
    | ref b =>
      have h : catL a b H Q := h
      unfold catL at h
      obtain ⟨xs, zs, h1, h2, h3, q⟩ := h
      exact op_cat pins s σ H _ _ v u Q I rx ry ⟨a, b, xs, zs, rfl, rfl, h1, h2, h3, new_e q⟩
    | _ => exact h.elim
  | _ => cases y <;> exact h.elim
/-- ==, != of plain values -/
def gEq (ne : Bool) : R2 := fun x y H Q => match x, y with
  | .int i, .int j => Q (.bl (ne ^^ decide (i = j))) H
  | .str i, .str j => Q (.bl (ne ^^ decide (i = j))) H
  | .bl i, .bl j => Q (.bl (ne ^^ decide (i = j))) H
  | .non, .non => Q (.bl (ne ^^ true)) H
  | .non, .int _ => Q (.bl ne) H
  | .int _, .non => Q (.bl ne) H
  | .non, .str _ => Q (.bl ne) H
  | .str _, .non => Q (.bl ne) H
  | .non, .bl _ => Q (.bl ne) H
  | .bl _, .non => Q (.bl ne) H
  | .int _, .str _ => Q (.bl ne) H
  | .str _, .int _ => Q (.bl ne) H
  | .bl _, .str _ => Q (.bl ne) H
  | .str _, .bl _ => Q (.bl ne) H
  | _, _ => False
theorem gEq_ok {ne : Bool} {x y : V} {H : Hp} {Q : VK} (h : gEq ne x y H Q) : scal x y = true ∧ Q (.bl (ne ^^ decide (x = y))) H := by
  cases x <;> cases y <;> first
    | exact h.elim
    | exact ⟨rfl, by simpa using h⟩
    | exact ⟨rfl, by simpa [gEq] using h⟩
theorem u_eq : OpR X (compareOp .Eq) (gEq false) := OpR.is op_eq fun x y H Q q => by
  obtain ⟨h1, h2⟩ := gEq_ok q
  exact ⟨h1, by simpa using h2⟩
theorem u_ne : OpR X (compareOp .NotEq) (gEq true) := OpR.is op_ne fun x y H Q q => by
  obtain ⟨h1, h2⟩ := gEq_ok q
  exact ⟨h1, by simpa using h2⟩
def gIsN (ne : Bool) : R2 := fun x y H Q => match y with
  | .non => (match x with
    | .non => Q (.bl (!ne)) H
    | _ => Q (.bl ne) H)
  | _ => False
theorem u_isN : OpR X (compareOp .Is) (gIsN false) := OpR.is op_isN fun x y H Q q => by
  cases y <;> first | exact q.elim | exact ⟨rfl, by cases x <;> exact q⟩
theorem u_notN : OpR X (compareOp .IsNot) (gIsN true) := OpR.is op_notN fun x y H Q q => by
  cases y <;> first | exact q.elim | exact ⟨rfl, by cases x <;> exact q⟩
def gNeg : V → Hp → VK → Prop := fun x H Q => match x with
  | .int i => Q (.int (-i)) H
  | _ => False
theorem u_neg : UnR X (unaryOp .USub) gNeg := by
  intro pins s σ H x v Q I rx h
  cases x with
  | int i => exact un_neg pins s σ H _ v Q I rx ⟨i, rfl, h⟩
  | _ => exact h.elim
end
end U

set_option Elab.async false
set_option linter.all false
set_option maxRecDepth 100000
set_option maxHeartbeats 4000000
namespace U
open PySem PySem.Spec PyProof.Rows L2

/-! ### defs and their promises -/
def FdAt (K : PySem.W.Frag) (f : Addr) (fd : FuncData) : Prop := ∃ (oc : Value) (od : Option Addr) (osl : Array (Option Value)), K.lookup f = some ⟨oc, od, .func fd, osl⟩
/-- a call's room: no repr is at work above it -/
structure Rm (k : Nat) (A : Around) : Prop where
  rm : Room k A
  gd : A.guards = some []
theorem Rm.mono {j k : Nat} {A : Around} (r : Rm k A) (h : j ≤ k) : Rm j A := ⟨r.rm.mono h, r.gd⟩
theorem Rm.deeper {k : Nat} {A : Around} (r : Rm (k + 1) A) (env : Env) : Rm k (A.deeper env) := ⟨r.rm.deeper env, r.gd⟩
theorem Rm.make {k : Nat} {A : Around} (r : Rm (k + 1) A) (C : Addr) (us : List Value) (kw : List (Str × Value)) : Rm k (A.under (.builtin "type.__call__" ⟨.ref C :: us, kw⟩)) :=
  ⟨r.rm.make C us kw, by
    have e : (Code.builtin "type.__call__" ⟨.ref C :: us, kw⟩).isGuard = false := by
      simp [Code.isGuard, guardIds]
    have h := r.gd
    simp only [Around.under, Code.guards, e, pushGuards, h]
    rfl⟩
/-- what the function keeps -/
structure Fk (P : Program) (w : World) (K : PySem.W.Frag) (mg : Str → Option Value) (base : Heap) (k : Nat) (f : Addr) (fd : FuncData) (ps : List Str) (sp : Sp) : Prop where
  len : ∀ vs H Q E, sp vs H Q E → vs.length = ps.length
  run : ∀ (A : Around) (outer : List Env) (s : Shared) (H : Hp) (args : Args) (us : List Value) (vs : List V) (Q : VK) (E : XK), Rm k A → Env0 P w K mg base A outer s H → BindsTo s fd args (ps.zip us) → Vals vs us → sp vs H Q E →
    codeAny (model P w) A (.call (.ref f) args) (CR (L2.CX P w) outer P w H s Q E) s
/-- the def at f keeps the promise -/
def Df (P : Program) (w : World) (K : PySem.W.Frag) (mg : Str → Option Value) (base : Heap) (k : Nat) (f : Addr) (ps : List Str) (sp : Sp) : Prop := ∀ fd, FdAt K f fd → Fk P w K mg base k f fd ps sp
/-- how it is called by places; dvs fill up -/
def Bd (K : PySem.W.Frag) (f : Addr) (ps : List Str) (dvs : List V) : Prop := PySem.W.keepIn K (.ref f) = true ∧ ∃ fd ds, FdAt K f fd ∧ Vals dvs ds ∧ Binds K fd ps ds
theorem FdAt.det {K : PySem.W.Frag} {f : Addr} {fd fd' : FuncData} (h : FdAt K f fd) (h' : FdAt K f fd') : fd = fd' := by
  obtain ⟨a, b, c, e⟩ := h
  obtain ⟨a', b', c', e'⟩ := h'
  rw [e] at e'
  simp only [Option.some.injEq, Obj.mk.injEq, Data.func.injEq] at e'
  exact e'.2.2.1
section
variable {P : Program} {w : World} {K : PySem.W.Frag} {mg : Str → Option Value} {base : Heap}
theorem Df.mono {j k : Nat} {f : Addr} {ps : List Str} {sp : Sp} (F : Df P w K mg base j f ps sp) (h : j ≤ k) : Df P w K mg base k f ps sp := fun fd a => ⟨(F fd a).len, fun A outer s H args us vs Q E hr => (F fd a).run A outer s H args us vs Q E (hr.mono h)⟩
/-- a def of the text, by its body -/
theorem df_of {st : Stmt} {x qual : Str} {dvs : List V} {kws : List (Str × V)} {f : Addr} {N ps : List Str} {k : Nat} {sp : Sp} (F : ∃ fd, FunD K x qual (defArgs st) (defBody st) (defScope st) dvs kws f fd) (S : FnScope N ps (defScope st)) (len : ∀ vs H Q E, sp vs H Q E → vs.length = ps.length)
    (hbody : ∀ (cdv : Value) (A : Around) (outer : List Env) (s : Shared) (H : Hp) (vs : List V) (Q : VK) (E : XK), Rm k (A.deeper (envOfC qual (defScope st) s.heap.objs.size f cdv)) → sp vs H Q E →
      Takes (cxOf (L2.CX P w) P w K mg base N qual (defScope st) f cdv A outer s H E) (fun cls d _ H' => E cls d H') → PassesOwn (model P w) (cxOf (L2.CX P w) P w K mg base N qual (defScope st) f cdv A outer s H E).A (cxOf (L2.CX P w) P w K mg base N qual (defScope st) f cdv A outer s H E).env (cxOf (L2.CX P w) P w K mg base N qual (defScope st) f cdv A outer s H E).xe →
      ∃ t, PSs (cxOf (L2.CX P w) P w K mg base N qual (defScope st) f cdv A outer s H E) (defBody st) t ∧ t { nx := fun _ H' => Q .non H', rt := Q } (start N vs) H) : Df P w K mg base (k + 1) f ps sp := by
  intro fd a
  obtain ⟨fd', F⟩ := F
  obtain ⟨oc, od, dV, kV, doc, pm, an, cdv, ct, osl, e1, lk, hcd, _, _⟩ := id F.ex
  have e : fd = fd' := a.det ⟨oc, od, osl, lk⟩
  subst e
  rw [e1] at lk ⊢
  refine ⟨len, fun A outer s H args us vs Q E hr e0 hb r hsp => ?_⟩
  have hl := len _ _ _ _ hsp
  have KX : K.In s.heap := e0.mod.kin.keeps fun b o q => (e0.bs b o q).1
  have lim : s.heap.NoLimit := e0.mod.nolimit.keeps fun b o q => (e0.bs b o q).1
  have par : ∀ y ∈ ps.zip us, (defScope st).names.lookup y.1 = some .local ∨ ((defScope st).names.lookup y.1 = some .cell ∧ ((cellsFrom (s.heap.objs.size + 1) (defScope st).names []).lookup y.1).isSome = true) := by
    rintro ⟨n, v⟩ hy
    rcases S.par n (List.of_mem_zip hy).1 with q | q
    · exact .inl q
    · exact .inr ⟨q, PySem.W.cellsFrom_some _ _ _ (.inl q)⟩
  refine codeAny_call_function hr.rm.depth (KX _ _ lk) rfl S.co S.gen rfl (PySem.W.codeRec_of KX hcd) (hb _ _ _ _ ?_)
  refine wpAny_newFunctionEnv_cells S.kind par fun env he s1 x1 => ?_
  subst he
  refine ⟨lim.keeps x1.toInCall.keep, codeAny_func ?_⟩
  obtain ⟨t, ht, hq⟩ := hbody cdv A outer s H vs Q E (hr.deeper _) hsp (takes_of rfl rfl rfl rfl) (passes_of rfl)
  have J := inv_start (CX := L2.CX P w) (E := E) S hr.rm.hd e0 hl r x1
  refine wpAny_mono (ht.run [] s1 (start N vs) H _ J hq) (fun fl s' hs => ?_) fun _ _ z => z
  cases fl with
  | ret u =>
    obtain ⟨v, σ', H', J', rv, q⟩ := hs
    exact ⟨v, H', J'.os, J'.bare, J'.base, J'.hok, rv, q⟩
  | next =>
    obtain ⟨σ', H', J', q⟩ := hs
    exact ⟨V.non, H', J'.os, J'.bare, J'.base, J'.hok, rfl, q⟩
  | brk => exact (show False from hs.elim fun _ z => z.elim fun _ z => z.2).elim
  | cont => exact (show False from hs.elim fun _ z => z.elim fun _ z => z.2).elim
theorem bd_of {x qual : Str} {params : Arguments} {body : List Stmt} {scope : Scope} {f : Addr} {ps : List Str} (F : ∃ fd, FunD K x qual params body scope [] [] f fd)
    (h : ∀ (kV doc pm : Value) (an : Option Addr) (cdv ct : Value) (us : List Value), us.length = ps.length → bindArgs (PySem.W.fnOf x qual params body scope .none kV doc pm an cdv ct) ⟨us, []⟩ = pure (ps.zip us)) : Bd K f ps [] := by
  obtain ⟨fd, F⟩ := F
  obtain ⟨oc, od, dV, kV, doc, pm, an, cdv, ct, osl, e1, lk, _⟩ := id F.ex
  exact ⟨F.kp, fd, [], ⟨oc, od, osl, lk⟩, .nil, F.bindsN h⟩
end
/-! ### calls -/
def uCall (sp : Sp) (W : WX) (t : TA) : TE := fun σ H Q => t σ H fun vs H1 => sp vs H1 Q (WE W σ)
def uCallD (sp : Sp) (dvs : List V) (W : WX) (t : TA) : TE := fun σ H Q => t σ H fun vs H1 => sp (vs ++ dvs) H1 Q (WE W σ)
/-- x is an instance of C that has no attribute m of its own -/
@[irreducible] def insAt (C a : Addr) (m : Str) (H : Hp) (A : Prop) : Prop := (∃ dx fs, H a = some (.ins C dx fs) ∧ fs.lookup m = none) ∧ A
theorem insAt_i {C a dx : Addr} {m : Str} {H : Hp} {A : Prop} {fs : List (Str × V)} (h : H a = some (.ins C dx fs)) (hl : fs.lookup m = none) (q : A) : insAt C a m H A := by
  unfold insAt
  exact ⟨⟨dx, fs, h, hl⟩, q⟩
def uMeth (C : Addr) (m : Str) (sp : Sp) (dvs : List V) (W : WX) (ta : TE) (t : TA) : TE := fun σ H Q => ta σ H fun x H1 => match x with
  | .ref a => insAt C a m H1 (t σ H1 fun vs H2 => sp (x :: (vs ++ dvs)) H2 Q (WE W σ))
  | _ => False
/-- a new instance and its own dict -/
@[irreducible] def newI (C : Addr) (H : Hp) (Q : Addr → Hp → Prop) : Prop := ∀ x dx, H x = none → H dx = none → dx ≠ x → Q x (upd (upd H dx (.own x)) x (.ins C dx []))
theorem newI_i {C : Addr} {H : Hp} {Q : Addr → Hp → Prop} (h : ∀ x dx, H x = none → H dx = none → dx ≠ x → Q x (upd (upd H dx (.own x)) x (.ins C dx []))) : newI C H Q := by
  unfold newI
  exact h
def uMake (C : Addr) (sp : Sp) (dvs : List V) (W : WX) (t : TA) : TE := fun σ H Q => t σ H fun vs H1 => newI C H1 fun x H2 => sp (.ref x :: (vs ++ dvs)) H2 (fun v H3 => v = .non ∧ Q (.ref x) H3) (WE W σ)
section
variable {X : Cx} {k j : Nat} {f C : Addr} {ps : List Str} {sp : Sp} {dvs : List V} {W : WX} {x m : Str} {p pos apos : Pos} {e o : Expr} {es : List Expr} {ta : TE} {t : TA}
theorem run_f {fd : FuncData} {ds : List Value} {pins : List (Addr × Obj)} {σ : L2.St} {H : Hp} {s : Shared} {Q : VK} {us : List Value} {vs : List V} (F : Fk X.prog X.w X.K X.mg X.base k f fd ps sp) (hr : Rm k X.A) (hb : Binds X.K fd ps ds) (hd : Vals dvs ds) (tk : Takes X W)
    (I : Inv X pins σ H s) (r : Vals vs us) (h : sp (vs ++ dvs) H Q (WE W σ)) : wpAny (model X.prog X.w) X.A (call (.ref f) us) (EP X pins σ Q) X.xe s := by
  have r2 : Vals (vs ++ dvs) (us ++ ds) := r.append hd
  have hl : (us ++ ds).length = ps.length := by rw [← r2.length]; exact F.len _ _ _ _ h
  refine wpAny_call (codeAny_mono (F.run X.A X.stack s H ⟨us, []⟩ (us ++ ds) (vs ++ dvs) Q (WE W σ) hr I.env0 (hb s us I.kIn hl) r2 h) fun r s' hq => ?_)
  cases r with
  | error e => exact passAt tk σ pins H s e s' I hq
  | ok fl =>
    cases fl with
    | ret u => exact I.after hq
    | next => exact False.elim hq
    | brk => exact False.elim hq
    | cont => exact False.elim hq
theorem pe_callD (tk : Takes X W) (F : Df X.prog X.w X.K X.mg X.base k f ps sp) (B : Bd X.K f ps dvs) (hr : Rm j X.A) (hk : k ≤ j) (hg : Gl X x) (hm : X.mg x = some (.ref f))
    (ha : PA X (e :: es) t) (hdb : (x == ("__debug__" : Str)) = false := by decide) (he : starEach (e :: es) X.env = (false, eval e X.env) :: starEach es X.env := by rfl) (hpl : (backTo pos (starEach es X.env)).any (·.1) = false := by rfl) :
    PE X (.Call (.Name x p) (e :: es) [] pos) (uCallD sp dvs W t) := by
  obtain ⟨hkp, fd, ds, a, hd, hb⟩ := B
  refine ⟨fun pins s σ H Q I h => ?_⟩
  refine wpAny_Call_Name_kw (ld_glob I hg hm ?_ hdb)
  refine PySem.W.callWith_K (h₀ := X.base) I.ok.mod.kin hkp (thn (ha.run pos pins s σ H _ I h) fun us s1 ⟨vs, H1, I1, r, q⟩ => ⟨I1.kIn, ?_⟩) he hpl
  exact run_f (F fd a) (hr.mono hk) hb hd tk I1 r q
theorem pe_call (tk : Takes X W) (F : Df X.prog X.w X.K X.mg X.base k f ps sp) (B : Bd X.K f ps []) (hr : Rm j X.A) (hk : k ≤ j) (hg : Gl X x) (hm : X.mg x = some (.ref f))
    (ha : PA X (e :: es) t) (hdb : (x == ("__debug__" : Str)) = false := by decide) (he : starEach (e :: es) X.env = (false, eval e X.env) :: starEach es X.env := by rfl) (hpl : (backTo pos (starEach es X.env)).any (·.1) = false := by rfl) :
    PE X (.Call (.Name x p) (e :: es) [] pos) (uCall sp W t) := by
  refine ⟨fun pins s σ H Q I h => (pe_callD (dvs := []) tk F B hr hk hg hm ha hdb he hpl).run pins s σ H Q I ?_⟩
  have e0 : (fun (vs : List V) (H1 : Hp) => sp (vs ++ []) H1 Q (WE W σ)) = fun vs H1 => sp vs H1 Q (WE W σ) := by
    funext vs H1
    rw [List.append_nil]
  show t σ H (fun vs H1 => sp (vs ++ []) H1 Q (WE W σ))
  rw [e0]
  exact h
theorem pe_call0 (tk : Takes X W) (F : Df X.prog X.w X.K X.mg X.base k f ps sp) (B : Bd X.K f ps dvs) (hr : Rm j X.A) (hk : k ≤ j) (hg : Gl X x) (hm : X.mg x = some (.ref f))
    (hdb : (x == ("__debug__" : Str)) = false := by decide) : PE X (.Call (.Name x p) [] [] pos) (uCallD sp dvs W tNil) := by
  obtain ⟨hkp, fd, ds, a, hd, hb⟩ := B
  refine ⟨fun pins s σ H Q I h => ?_⟩
  refine wpAny_Call_Name_kw (ld_glob I hg hm ?_ hdb)
  exact PySem.W.callWith_K0 I.kIn hkp (run_f (us := []) (F fd a) (hr.mono hk) hb hd tk I .nil h)
theorem uMeth_e {A : Addr → Hp → Prop} {v : V} {H : Hp} (h : (match v with
  | .ref a => A a H
  | _ => False)) : ∃ a, v = .ref a ∧ A a H := by
  cases v with
  | ref a => exact ⟨a, rfl, h⟩
  | _ => exact h.elim
theorem pe_meth {pl : Sem Bool} (tk : Takes X W) (he : PE X o ta) (c : Cls X.K C) (hm : Meth X.K C m f) (F : Df X.prog X.w X.K X.mg X.base k f ps sp) (B : Bd X.K f ps dvs) (hr : Rm j X.A) (hk : k ≤ j) (ha : PA X (e :: es) t)
    (hst : starEach (e :: es) X.env = (false, eval e X.env) :: starEach es X.env := by rfl) (hpl : (backTo pos (starEach es X.env)).any (·.1) = false := by rfl)
    (ht : eval (.Call (.Attribute o m apos) (e :: es) [] pos) X.env = (do
      let ov ← eval o X.env
      standAt apos.atName
      let (f, first) ← holding [ov] (getMethod ov m pl)
      callWith pos f first (backTo pos (starEach (e :: es) X.env)) (backToKw pos (keywordEach [] X.env))) := by rfl) :
    PE X (.Call (.Attribute o m apos) (e :: es) [] pos) (uMeth C m sp dvs W ta t) := by
  obtain ⟨hkp, fd, ds, a, hd, hb⟩ := B
  refine ⟨fun pins s σ H Q I h => ?_⟩
  refine PySem.W.methodCall_KW (pl := pl) (thn (he.run pins s σ H _ I h) fun u s1 ⟨x, H1, I1, rx, h1⟩ => ?_) ht
  obtain ⟨a', rfl, h2⟩ := uMeth_e (A := fun a H1 => insAt C a m H1 (t σ H1 fun vs H2 => sp (x :: (vs ++ dvs)) H2 Q (WE W σ))) h1
  unfold insAt at h2
  obtain ⟨⟨dx, fs, ea, l⟩, q⟩ := h2
  obtain rfl : u = Value.ref a' := rx
  refine getmeth_ok I1 ea c hm l ?_
  refine PySem.W.callWith_K (first := [.ref a']) (h₀ := X.base) I.ok.mod.kin hm.kp (thn (ha.run pos pins s1 σ H1 _ I1 q) fun us s2 ⟨vs, H2, I2, r, q2⟩ => ⟨I2.kIn, ?_⟩) hst hpl
  exact run_f (us := .ref a' :: us) (vs := .ref a' :: vs) (F fd a) (hr.mono hk) hb hd tk I2 (.cons rfl r) q2
theorem pe_meth0 {pl : Sem Bool} (tk : Takes X W) (he : PE X o ta) (c : Cls X.K C) (hm : Meth X.K C m f) (F : Df X.prog X.w X.K X.mg X.base k f ps sp) (B : Bd X.K f ps dvs) (hr : Rm j X.A) (hk : k ≤ j)
    (ht : eval (.Call (.Attribute o m apos) [] [] pos) X.env = (do
      let ov ← eval o X.env
      standAt apos.atName
      let (f, first) ← holding [ov] (getMethod ov m pl)
      callWith pos f first (backTo pos (starEach [] X.env)) (backToKw pos (keywordEach [] X.env))) := by rfl) :
    PE X (.Call (.Attribute o m apos) [] [] pos) (uMeth C m sp dvs W ta tNil) := by
  obtain ⟨hkp, fd, ds, a, hd, hb⟩ := B
  refine ⟨fun pins s σ H Q I h => ?_⟩
  refine PySem.W.methodCall_KW (pl := pl) (thn (he.run pins s σ H _ I h) fun u s1 ⟨x, H1, I1, rx, h1⟩ => ?_) ht
  obtain ⟨a', rfl, h2⟩ := uMeth_e (A := fun a H1 => insAt C a m H1 (tNil σ H1 fun vs H2 => sp (x :: (vs ++ dvs)) H2 Q (WE W σ))) h1
  unfold insAt at h2
  obtain ⟨⟨dx, fs, ea, l⟩, q⟩ := h2
  obtain rfl : u = Value.ref a' := rx
  refine getmeth_ok I1 ea c hm l ?_
  exact PySem.W.callWith_K0 (first := [.ref a']) I1.kIn hm.kp (run_f (us := [.ref a']) (vs := [.ref a']) (F fd a) (hr.mono hk) hb hd tk I1 (.cons rfl .nil) q)
theorem run_mk {fd : FuncData} {ds : List Value} {pins : List (Addr × Obj)} {σ : L2.St} {H : Hp} {s : Shared} {Q : VK} {us : List Value} {vs : List V} (M : Mk X.K C f) (F : Fk X.prog X.w X.K X.mg X.base k f fd ps sp) (hr : Rm (k + 1) X.A) (hb : Binds X.K fd ps ds) (hd : Vals dvs ds)
    (tk : Takes X W) (I : Inv X pins σ H s) (r : Vals vs us)
    (h : ∀ x dx, H x = none → H dx = none → dx ≠ x → sp (.ref x :: (vs ++ dvs)) (upd (upd H dx (.own x)) x (.ins C dx [])) (fun v H2 => v = .non ∧ Q (.ref x) H2) (WE W σ)) :
    wpAny (model X.prog X.w) X.A (call (.ref C) us) (EP X pins σ Q) X.xe s := by
  have hq := h (s.heap.objs.size + 1) s.heap.objs.size (I.hok.fresh (Nat.le_succ _)) (I.hok.fresh (Nat.le_refl _)) (Nat.ne_of_lt (Nat.lt_succ_self _))
  have I2 := Inv.made (C := C) I
  have r2 : Vals (V.ref (s.heap.objs.size + 1) :: (vs ++ dvs)) (Value.ref (s.heap.objs.size + 1) :: (us ++ ds)) := .cons rfl (r.append hd)
  have hl : (Value.ref (s.heap.objs.size + 1) :: us ++ ds).length = ps.length := by
    have e := r2.length
    rw [F.len _ _ _ _ hq] at e
    exact e.symm
  refine wpAny_call (make_map (f := f) I.kIn M.makes M.init (beq_iff_eq.mp M.fn) (codeAny_mono (F.run _ X.stack _ _ ⟨Value.ref (s.heap.objs.size + 1) :: us, []⟩ (Value.ref (s.heap.objs.size + 1) :: (us ++ ds)) _ _ (WE W σ) (hr.make C us [])
    (I2.env0.make C us []) (hb _ (Value.ref (s.heap.objs.size + 1) :: us) I2.kIn hl) r2 hq) fun r s' hq' => ?_))
  cases r with
  | error e => exact passAt tk σ pins _ _ e s' I2 hq'
  | ok fl =>
    cases fl with
    | ret u =>
      obtain ⟨v, H', I3, rv, ev, q3⟩ := I2.after hq'
      subst ev
      exact ⟨rv, ⟨V.ref (s.heap.objs.size + 1), H', I3, rfl, q3⟩⟩
    | next => exact False.elim hq'
    | brk => exact False.elim hq'
    | cont => exact False.elim hq'
theorem pe_make (tk : Takes X W) (M : Mk X.K C f) (F : Df X.prog X.w X.K X.mg X.base k f ps sp) (B : Bd X.K f ps dvs) (hr : Rm j X.A) (hk : k + 1 ≤ j) (hg : Gl X x) (hm : X.mg x = some (.ref C))
    (ha : PA X (e :: es) t) (hdb : (x == ("__debug__" : Str)) = false := by decide) (he : starEach (e :: es) X.env = (false, eval e X.env) :: starEach es X.env := by rfl) (hpl : (backTo pos (starEach es X.env)).any (·.1) = false := by rfl) :
    PE X (.Call (.Name x p) (e :: es) [] pos) (uMake C sp dvs W t) := by
  obtain ⟨hkp, fd, ds, a, hd, hb⟩ := B
  refine ⟨fun pins s σ H Q I h => ?_⟩
  refine wpAny_Call_Name_kw (ld_glob I hg hm ?_ hdb)
  refine PySem.W.callWith_K (h₀ := X.base) I.ok.mod.kin M.kp (thn (ha.run pos pins s σ H _ I h) fun us s1 ⟨vs, H1, I1, r, q⟩ => ⟨I1.kIn, ?_⟩) he hpl
  unfold newI at q
  exact run_mk M (F fd a) (hr.mono hk) hb hd tk I1 r q
end

/-! ### sequences read: lists, tuples -/
def SqA (K : PySem.W.Frag) (H : Hp) (a : Addr) (xs : List V) : Prop := SqL K H a xs ∨ SqT K H a xs
theorem SqA.l {K : PySem.W.Frag} {H : Hp} {a : Addr} {xs : List V} (h : H a = some (.lst xs)) : SqA K H a xs := .inl (SqL.of h)
theorem SqA.t {K : PySem.W.Frag} {H : Hp} {a : Addr} {xs : List V} (h : H a = some (.tup xs)) : SqA K H a xs := .inr (SqT.of h)
/-- by an option -/
def opt {α : Type} (o : Option α) (A : α → Prop) : Prop := match o with
  | some v => A v
  | none => False
theorem opt_i {α : Type} {o : Option α} {A : α → Prop} {v : α} (e : o = some v) (h : A v) : opt o A := by
  rw [e]; exact h
theorem opt_e {α : Type} {o : Option α} {A : α → Prop} (h : opt o A) : ∃ v, o = some v ∧ A v := by
  cases o with
  | some v => exact ⟨v, rfl, h⟩
  | none => exact h.elim
/-- the item at i -/
@[irreducible] def ixO (K : PySem.W.Frag) (p : Addr) (i : Int) (H : Hp) (Q : VK) : Prop := ∃ xs, SqA K H p xs ∧ opt (atI xs i) fun v => Q v H
theorem ixO_i {K : PySem.W.Frag} {p : Addr} {i : Int} {H : Hp} {Q : VK} {xs : List V} (h : SqA K H p xs) (q : opt (atI xs i) fun v => Q v H) : ixO K p i H Q := by
  unfold ixO
  exact ⟨xs, h, q⟩
@[irreducible] def ixS (z : Str) (i : Int) (H : Hp) (Q : VK) : Prop := cond (z.length ≤ sizeLine) (opt (atI z.cps.toList i) fun c => Q (.str ⟨#[c]⟩) H)
def gIx (K : PySem.W.Frag) : R2 := fun x y H Q => match x, y with
  | .ref p, .int i => ixO K p i H Q
  | .str z, .int i => ixS z i H Q
  | _, _ => False
section
variable {X : Cx}
theorem u_ix : IxR X (gIx X.K) := by
  intro value slice pins s σ H x y v u Q I rx ry h hs
  cases x with
  | ref p => cases y with
    | int i =>
      have h : ixO X.K p i H Q := h
      unfold ixO at h
      obtain ⟨xs, hx, q⟩ := h
      obtain ⟨w, a, q⟩ := opt_e q
      rcases hx with hx | hx
      · exact ix_list value slice pins s σ H _ _ v u Q I rx ry ⟨p, xs, i, w, rfl, rfl, hx, a, q⟩ hs
      · exact ix_tup value slice pins s σ H _ _ v u Q I rx ry ⟨p, xs, i, w, rfl, rfl, hx, a, q⟩ hs
    | _ => exact h.elim
  | str z => cases y with
    | int i =>
      have h : ixS z i H Q := h
      unfold ixS at h
      obtain ⟨hx, q⟩ := cond_e h
      obtain ⟨c, a, q⟩ := opt_e q
      exact ix_str value slice pins s σ H _ _ v u Q I rx ry ⟨z, i, c, rfl, rfl, hx, a, q⟩ hs
    | _ => exact h.elim
  | _ => cases y <;> exact h.elim
end
theorem pe_ix' {X : Cx} {a b : Expr} {ta tb : TE} {pos : Pos} (ha : PE X a ta) (hb : PE X b tb) (hs : PlainIx b := by exact fun _ _ => rfl) : PE X (.Subscript a b pos) (tOp (gIx X.K) ta tb) := pe_ix u_ix ha hb hs
/-- l[i] = v -/
@[irreducible] def setO (p : Addr) (k : Int) (v : V) (H : Hp) (Q : Hp → Prop) : Prop := ∃ xs, H p = some (.lst xs) ∧ opt (ixN xs.length k) fun j => Q (upd H p (.lst (xs.set j v)))
theorem setO_i {p : Addr} {k : Int} {v : V} {H : Hp} {Q : Hp → Prop} {xs : List V} (h : H p = some (.lst xs)) (q : opt (ixN xs.length k) fun j => Q (upd H p (.lst (xs.set j v)))) : setO p k v H Q := by
  unfold setO
  exact ⟨xs, h, q⟩
def gSet : V → V → V → Hp → (Hp → Prop) → Prop := fun o i v H Q => match o, i with
  | .ref p, .int k => setO p k v H Q
  | _, _ => False
theorem u_set {X : Cx} : PSet X gSet := by
  intro pins s σ H o i v ov iv u Q I ro ri rv h
  cases o with
  | ref p => cases i with
    | int k =>
      have h : setO p k v H Q := h
      unfold setO at h
      obtain ⟨xs, hx, q⟩ := h
      obtain ⟨j, a, q⟩ := opt_e q
      exact set_list pins s σ H _ _ v ov iv u Q I ro ri rv ⟨p, xs, k, j, rfl, rfl, hx, a, q⟩
    | _ => exact h.elim
  | _ => cases i <;> exact h.elim
theorem ps_setIx {X : Cx} {o i e : Expr} {to ti te : TE} {pos p2 : Pos} (he : PE X e te) (ho : PE X o to) (hi : PE X i ti)
    (ha : ∀ v, assign (.Subscript o i p2) X.env v = (do
      let ov ← holding [v] (eval o X.env)
      let iv ← holding [v, ov] (eval i X.env)
      standAt p2
      holding [v, ov, iv] (setItem ov iv v)
      release [v, ov, iv] []) := by intro _; rfl) (hs : swapsWithSole [.Subscript o i p2] e pos.line X.env = pure false := by rfl) (hw : swappedStores [.Subscript o i p2] e X.env = pure none := by rfl)
    (h1 : (assignEach [.Subscript o i p2] X.env).map (·.2) = [assign (.Subscript o i p2) X.env] := by rfl) : PS X (.Assign [.Subscript o i p2] e pos) (tAsg te (gSub to ti gSet)) := ps_asg he (pg_sub ho hi u_set ha) hs hw h1
/-! ### slices -/
def uPart (t : TE) : TO := fun σ H Q => t σ H fun x H1 => match x with
  | .int i => Q (some i) H1
  | _ => False
theorem po_some {X : Cx} {e : Expr} {te : TE} (h : PE X e te) : PO X (some e) (uPart te) := by
  have h2 := L2.po_some h
  refine ⟨fun pins s σ H Q I q => h2.run pins s σ H Q I ?_⟩
  have q : te σ H fun x H1 => (match x with
    | .int i => Q (some i) H1
    | _ => False) := q
  have e : (fun (x : V) (H1 : Hp) => (match x with
    | .int i => Q (some i) H1
    | _ => False)) = fun x H1 => ∃ i, x = .int i ∧ Q (some i) H1 := by
    funext x H1
    apply propext
    constructor
    · intro z
      cases x with
      | int i => exact ⟨i, rfl, z⟩
      | _ => exact z.elim
    · rintro ⟨i, rfl, z⟩
      exact z
  rw [e] at q
  exact q
@[irreducible] def slO (K : PySem.W.Frag) (p : Addr) (lo hi : Option Int) (H : Hp) (Q : VK) : Prop :=
  (∃ xs, SqL K H p xs ∧ new H (.lst (cutV xs lo hi)) Q) ∨ rSlT K (.ref p) lo hi H Q
theorem slO_l {K : PySem.W.Frag} {p : Addr} {lo hi : Option Int} {H : Hp} {Q : VK} {xs : List V} (h : SqL K H p xs) (q : new H (.lst (cutV xs lo hi)) Q) : slO K p lo hi H Q := by
  unfold slO
  exact .inl ⟨xs, h, q⟩
@[irreducible] def slS (z : Str) (lo hi : Option Int) (H : Hp) (Q : VK) : Prop := z.length ≤ sizeLine ∧ Q (.str (cutS z lo hi)) H
def gSl (K : PySem.W.Frag) : V → Option Int → Option Int → Hp → VK → Prop := fun x lo hi H Q => match x with
  | .ref p => slO K p lo hi H Q
  | .str z => slS z lo hi H Q
  | _ => False
theorem u_sl {X : Cx} : SlR X (gSl X.K) := by
  intro pins s σ H x v vl vu lo hi sl Q I rx hs pl pu h
  cases x with
  | ref p =>
    have h : slO X.K p lo hi H Q := h
    unfold slO at h
    rcases h with ⟨xs, hx, q⟩ | q
    · exact sl_list pins s σ H _ v vl vu lo hi sl Q I rx hs pl pu ⟨p, xs, rfl, hx, new_e q⟩
    · exact sl_tup pins s σ H _ v vl vu lo hi sl Q I rx hs pl pu q
  | str z =>
    have h : slS z lo hi H Q := h
    unfold slS at h
    exact sl_str pins s σ H _ v vl vu lo hi sl Q I rx hs pl pu ⟨z, rfl, h.1, h.2⟩
  | _ => exact h.elim
/-! ### displays -/
def uTup (t : TA) : TE := fun σ H Q => t σ H fun xs H1 => cond (xs.length ≤ sizeLine) (new H1 (.tup xs) Q)
def uLst (t : TA) : TE := fun σ H Q => t σ H fun xs H1 => cond (xs.length ≤ sizeLine) (new H1 (.lst xs) Q)
section
variable {X : Cx} {e : Expr} {es : List Expr} {te : TE} {t : TA} {pos : Pos}
theorem pe_tup {x1} (h : PA X es t) : PE X (.Tuple es x1 pos) (uTup t) := by
  refine ⟨fun pins s σ H Q I q => ?_⟩
  refine wpAny_Tuple_spliced (thn (h.run pos pins s σ H _ I q) fun us s1 ⟨xs, H1, I1, r, q1⟩ => ?_)
  obtain ⟨z, q⟩ := cond_e q1
  refine ⟨by rw [← r.length]; exact z, ?_⟩
  have hf : H1 s1.heap.objs.size = none := I1.hok.fresh (Nat.le_refl _)
  refine ⟨.ref s1.heap.objs.size, upd H1 s1.heap.objs.size (.tup xs), I1.laid (t' := s1.toks) (fun b u e => Heap.get?_push_of_some _ e) (Nat.le_refl _) ?_, rfl, new_e q _ hf⟩
  exact ⟨z, us, r, ⟨_, Heap.get?_push_size _ rfl, rfl, _, rfl⟩⟩
theorem pe_lst (h : PA X es t) : PE X (.List es pos) (uLst t) := by
  refine ⟨fun pins s σ H Q I q => ?_⟩
  refine wpAny_List_spliced (thn (h.run pos pins s σ H _ I q) fun us s1 ⟨xs, H1, I1, r, q1⟩ => ?_)
  obtain ⟨z, q⟩ := cond_e q1
  refine ⟨by rw [← r.length]; exact z, ?_⟩
  have hf : H1 s1.heap.objs.size = none := I1.hok.fresh (Nat.le_refl _)
  refine ⟨.ref s1.heap.objs.size, upd H1 s1.heap.objs.size (.lst xs), I1.laid (t' := s1.toks) (fun b u e => Heap.get?_push_of_some _ e) (Nat.le_refl _) ?_, rfl, new_e q _ hf⟩
  exact ⟨z, us, 0, r, Heap.get?_push_size _ rfl⟩
end
/-! ### built-ins by name -/
theorem CallR.is {X : Cx} {f : Value} {r r' : List V → Hp → VK → Prop} (h : CallR X f r) (k : ∀ vs H Q, r' vs H Q → r vs H Q) : CallR X f r' := fun pins s σ H xs us Q I rx q => h pins s σ H xs us Q I rx (k _ _ _ q)
@[irreducible] def lenO (K : PySem.W.Frag) (p : Addr) (H : Hp) (Q : VK) : Prop := ∃ xs, SqA K H p xs ∧ Q (.int (xs.length : Int)) H
theorem lenO_i {K : PySem.W.Frag} {p : Addr} {H : Hp} {Q : VK} {xs : List V} (h : SqA K H p xs) (q : Q (.int (xs.length : Int)) H) : lenO K p H Q := by
  unfold lenO
  exact ⟨xs, h, q⟩
def gLen (K : PySem.W.Frag) : List V → Hp → VK → Prop := fun vs H Q => match vs with
  | [.str z] => cond (z.length ≤ sizeLine) (Q (.int (z.length : Int)) H)
  | [.ref p] => lenO K p H Q
  | _ => False
def gAbs : List V → Hp → VK → Prop := fun vs H Q => match vs with
  | [.int i] => Q (.int (if i < 0 then -i else i)) H
  | _ => False
def gInt : List V → Hp → VK → Prop := fun vs H Q => match vs with
  | [.int i] => Q (.int i) H
  | [.bl k] => Q (.int (if k then 1 else 0)) H
  | _ => False
def gMax : List V → Hp → VK → Prop := fun vs H Q => match vs with
  | [.int i, .int j] => Q (.int (max i j)) H
  | _ => False
def gMin : List V → Hp → VK → Prop := fun vs H Q => match vs with
  | [.int i, .int j] => Q (.int (min i j)) H
  | _ => False
@[irreducible] def listO (K : PySem.W.Frag) (p : Addr) (H : Hp) (Q : VK) : Prop := ∃ xs, SqA K H p xs ∧ new H (.lst xs) Q
theorem listO_i {K : PySem.W.Frag} {p : Addr} {H : Hp} {Q : VK} {xs : List V} (h : SqA K H p xs) (q : new H (.lst xs) Q) : listO K p H Q := by
  unfold listO
  exact ⟨xs, h, q⟩
def gList (K : PySem.W.Frag) : List V → Hp → VK → Prop := fun vs H Q => match vs with
  | [.ref p] => listO K p H Q
  | _ => False
@[irreducible] def tupO (K : PySem.W.Frag) (p : Addr) (H : Hp) (Q : VK) : Prop := (∃ xs, SqL K H p xs ∧ new H (.tup xs) Q) ∨ (∃ xs, SqT K H p xs ∧ Q (.ref p) H)
theorem tupO_l {K : PySem.W.Frag} {p : Addr} {H : Hp} {Q : VK} {xs : List V} (h : SqL K H p xs) (q : new H (.tup xs) Q) : tupO K p H Q := by
  unfold tupO
  exact .inl ⟨xs, h, q⟩
theorem tupO_t {K : PySem.W.Frag} {p : Addr} {H : Hp} {Q : VK} {xs : List V} (h : SqT K H p xs) (q : Q (.ref p) H) : tupO K p H Q := by
  unfold tupO
  exact .inr ⟨xs, h, q⟩
def gTuple (K : PySem.W.Frag) : List V → Hp → VK → Prop := fun vs H Q => match vs with
  | [.ref p] => tupO K p H Q
  | _ => False
section
variable {X : Cx}
theorem c_len : CallR X (.builtin "len") (gLen X.K) := CallR.is call_len fun vs H Q q => by
  match vs, q with
  | [.str z], q => exact ⟨.str z, z.length, rfl, ⟨(cond_e q).1, rfl⟩, (cond_e q).2⟩
  | [.ref p], q =>
    have q : lenO X.K p H Q := q
    unfold lenO at q
    obtain ⟨xs, h, q⟩ := q
    exact ⟨.ref p, xs.length, rfl, h.elim (fun h => .inl ⟨xs, h, rfl⟩) (fun h => .inr ⟨xs, h, rfl⟩), q⟩
theorem c_abs : CallR X (.builtin "abs") gAbs := CallR.is call_abs fun vs H Q q => by
  match vs, q with
  | [.int i], q => exact ⟨i, rfl, q⟩
theorem c_int : CallR X (.type "int") gInt := CallR.is call_int1 fun vs H Q q => by
  match vs, q with
  | [.int i], q => exact .inl ⟨i, rfl, q⟩
  | [.bl k], q => exact .inr ⟨k, rfl, q⟩
theorem c_max (hc : X.calm = true) : CallR X (.builtin "max") gMax := CallR.is (call_max2 hc) fun vs H Q q => by
  match vs, q with
  | [.int i, .int j], q =>
    refine ⟨i, j, rfl, ?_⟩
    have e : (if j > i then j else i) = max i j := by
      split <;> omega
    rw [e]
    exact q
theorem c_min (hc : X.calm = true) : CallR X (.builtin "min") gMin := CallR.is (call_min2 hc) fun vs H Q q => by
  match vs, q with
  | [.int i, .int j], q =>
    refine ⟨i, j, rfl, ?_⟩
    have e : (if j < i then j else i) = min i j := by
      split <;> omega
    rw [e]
    exact q
theorem c_list : CallR X (.type "list") (gList X.K) := CallR.is call_list_of fun vs H Q q => by
  match vs, q with
  | [.ref p], q =>
    have q : listO X.K p H Q := q
    unfold listO at q
    obtain ⟨xs, h, q⟩ := q
    exact ⟨p, xs, rfl, h, new_e q⟩
theorem c_tuple : CallR X (.type "tuple") (gTuple X.K) := CallR.is call_tuple_of fun vs H Q q => by
  match vs, q with
  | [.ref p], q =>
    have q : tupO X.K p H Q := q
    unfold tupO at q
    rcases q with ⟨xs, h, q⟩ | ⟨xs, h, q⟩
    · exact ⟨p, xs, rfl, .inl ⟨h, new_e q⟩⟩
    · exact ⟨p, xs, rfl, .inr ⟨h, q⟩⟩
end
/-! ### methods of lists -/
theorem MtR.is {X : Cx} {id : String} {r r' : V → List V → Hp → VK → Prop} (h : MtR X id r) (k : ∀ x vs H Q, r' x vs H Q → r x vs H Q) : MtR X id r' := fun pins s σ H x xs v us Q I rx ru q => h pins s σ H x xs v us Q I rx ru (k _ _ _ _ q)
@[irreducible] def isL (K : PySem.W.Frag) (T : String) (x : V) (H : Hp) (A : Prop) : Prop := tyV K T x H ∧ A
theorem isL_l {K : PySem.W.Frag} {p : Addr} {H : Hp} {A : Prop} {xs : List V} (h : SqL K H p xs) (a : A) : isL K "list" (.ref p) H A := by
  unfold isL
  exact ⟨.inl ⟨rfl, xs, h⟩, a⟩
theorem isL_s {K : PySem.W.Frag} {z : Str} {H : Hp} {A : Prop} (a : A) : isL K "str" (.str z) H A := by
  unfold isL
  exact ⟨rfl, a⟩
def uBM (K : PySem.W.Frag) (T : String) (r : V → List V → Hp → VK → Prop) (to : TE) (t : TA) : TE := fun σ H Q => to σ H fun x H1 => isL K T x H1 (t σ H1 fun xs H2 => r x xs H2 Q)
@[irreducible] def appO (l : Addr) (y : V) (H : Hp) (Q : VK) : Prop := ∃ xs, H l = some (.lst xs) ∧ xs.length < sizeLine ∧ Q .non (upd H l (.lst (xs ++ [y])))
theorem appO_i {l : Addr} {y : V} {H : Hp} {Q : VK} {xs : List V} (h : H l = some (.lst xs)) (hz : xs.length < sizeLine) (q : Q .non (upd H l (.lst (xs ++ [y])))) : appO l y H Q := by
  unfold appO
  exact ⟨xs, h, hz, q⟩
def gApp : V → List V → Hp → VK → Prop := fun x vs H Q => match x, vs with
  | .ref l, [y] => appO l y H Q
  | _, _ => False
section
variable {X : Cx} {o e : Expr} {es : List Expr} {to te : TE} {t : TA} {pos apos : Pos} {T : String} {id : String} {name : Str} {r : V → List V → Hp → VK → Prop}
theorem isL_e {K : PySem.W.Frag} {T : String} {x : V} {H : Hp} {A : Prop} (h : isL K T x H A) : tyV K T x H ∧ A := by
  unfold isL at h
  exact h
theorem u_bm (hb : PE X e (tBM X.K T r to t)) : PE X e (uBM X.K T r to t) := by
  refine pe_is hb fun σ H Q q => ?_
  have q : to σ H fun x H1 => isL X.K T x H1 (t σ H1 fun xs H2 => r x xs H2 Q) := q
  have e : (fun (x : V) (H1 : Hp) => isL X.K T x H1 (t σ H1 fun xs H2 => r x xs H2 Q)) = fun x H1 => tyV X.K T x H1 ∧ t σ H1 fun xs H2 => r x xs H2 Q := by
    funext x H1
    unfold isL
    rfl
  rw [e] at q
  exact q
theorem m_append : MtR X "list.append" gApp := MtR.is mt_append fun x vs H Q q => by
  cases x with
  | ref l =>
    match vs, q with
    | [y], q =>
      have q : appO l y H Q := q
      unfold appO at q
      obtain ⟨xs, h, hz, q⟩ := q
      exact ⟨l, xs, y, rfl, rfl, h, hz, q⟩
  | _ => exact q.elim
end
/-! ### what a loop walks -/
@[irreducible] def seqIt (K : PySem.W.Frag) (a : Addr) (H : Hp) (R : It → Hp → Prop) : Prop := (∃ xs, SqL K H a xs ∧ R (Itl K a) H) ∨ (∃ xs, SqT K H a xs ∧ R (Itt K a) H)
theorem seqIt_l {K : PySem.W.Frag} {a : Addr} {H : Hp} {R : It → Hp → Prop} {xs : List V} (h : SqL K H a xs) (q : R (Itl K a) H) : seqIt K a H R := by
  unfold seqIt
  exact .inl ⟨xs, h, q⟩
theorem seqIt_t {K : PySem.W.Frag} {a : Addr} {H : Hp} {R : It → Hp → Prop} {xs : List V} (h : SqT K H a xs) (q : R (Itt K a) H) : seqIt K a H R := by
  unfold seqIt
  exact .inr ⟨xs, h, q⟩
def iSeq (K : PySem.W.Frag) (tl : TE) : TI := fun σ H R => tl σ H fun x H1 => match x with
  | .ref a => seqIt K a H1 R
  | .str z => R (Its z) H1
  | _ => False
section
variable {X : Cx} {tg : Expr}
/-- a known value walked, by a rule for names -/
theorem pi_seq {l : Expr} {tl : TE} (hl : PE X l tl) : PI X tg l (iSeq X.K tl) := by
  refine ⟨fun pins s σ H R I h => ?_⟩
  refine thn (hl.run pins s σ H _ I h) fun v s1 ⟨x, H1, I1, r1, q1⟩ => ?_
  cases x with
  | ref a =>
    have q1 : seqIt X.K a H1 R := q1
    unfold seqIt at q1
    cases r1
    rcases q1 with ⟨xs, hq, q⟩ | ⟨xs, hq, q⟩
    · obtain ⟨its, rv, p, hz⟩ := I1.list hq
      refine wpAny_pyIter_list p.isList ?_
      refine ⟨s1.heap.objs.size, [s1.heap.objs.size], _, _, H1, rfl, I1.kept (t' := s1.toks) fun b o e => Heap.get?_push_of_some _ e, turn_list a _, ⟨_, Heap.get?_push_size _ rfl, rfl, rfl⟩, fun b hb => ?_, q⟩
      have e : b = s1.heap.objs.size := by simpa using hb
      subst e
      exact I1.fpOk (Nat.le_refl _) (I1.hok.fresh (Nat.le_refl _))
    · obtain ⟨its, rv, p, hz⟩ := I1.tuple hq
      refine wpAny_pyIter_tuple (show s1.heap.IsTuple a its.toArray from p) ?_
      refine ⟨s1.heap.objs.size, [s1.heap.objs.size], _, _, H1, rfl, I1.kept (t' := s1.toks) fun b o e => Heap.get?_push_of_some _ e, turn_tuple a _, ⟨_, Heap.get?_push_size _ rfl, rfl, rfl⟩, fun b hb => ?_, q⟩
      have e : b = s1.heap.objs.size := by simpa using hb
      subst e
      exact I1.fpOk (Nat.le_refl _) (I1.hok.fresh (Nat.le_refl _))
  | str z =>
    have q : R (Its z) H1 := q1
    obtain ⟨t, rfl⟩ := r1
    cases ha : z.cps.all (· < 128)
    · exact wpAny_pyIter_wide ha (pi_one (tk := s1.toks) I1 _ (turn_str _ z t "str_iterator" (.inr rfl)) ⟨_, Heap.get?_push_size _ rfl, rfl, rfl⟩ q)
    · exact wpAny_pyIter_ascii ha (pi_one (tk := s1.toks) I1 _ (turn_str _ z t "str_ascii_iterator" (.inl rfl)) ⟨_, Heap.get?_push_size _ rfl, rfl, rfl⟩ q)
  | _ => exact q1.elim
end
end U

set_option Elab.async false
set_option linter.all false
set_option maxRecDepth 100000
set_option maxHeartbeats 4000000
namespace U
open PySem PySem.Spec PyProof.Rows L2
theorem upd_at {H : Hp} {a b : Addr} {o u : HO} (h : b ≠ a) (e : H b = some u) : upd H a o b = some u := by rw [upd_ne h]; exact e
/-- all but p is as it was -/
def But (p : Addr) (H H' : Hp) : Prop := ∀ a o, a ≠ p → H a = some o → H' a = some o
theorem But.refl (p : Addr) (H : Hp) : But p H H := fun _ _ _ h => h
theorem But.trans {p : Addr} {H H1 H2 : Hp} (a : But p H H1) (b : But p H1 H2) : But p H H2 := fun x o n h => b x o n (a x o n h)
theorem But.set {p : Addr} {H H' : Hp} {o : HO} (b : But p H H') : But p H (upd H' p o) := fun a u n h => by rw [upd_ne n]; exact b a u n h
theorem But.new {p q : Addr} {H H' : Hp} {o : HO} (b : But p H H') (hq : H' q = none) : But p H (upd H' q o) := fun a u n h => upd_at (ne_of_none (b a u n h) hq) (b a u n h)
theorem Same.but {H H' : Hp} (p : Addr) (s : Same H H') : But p H H' := fun a o _ h => s a o h
theorem Same.new {H H' : Hp} {q : Addr} {o : HO} (b : Same H H') (hq : H' q = none) : Same H (upd H' q o) := fun a u h => upd_at (ne_of_none (b a u h) hq) (b a u h)
/-- F is not at p: p may change -/
theorem Same.mut {F H : Hp} {p : Addr} {o : HO} (s : Same F H) (fp : F p = none) : Same F (upd H p o) := fun a u h => upd_at (ne_of_none h fp) (s a u h)
theorem Same.via {F H H' : Hp} {p : Addr} (s : Same F H) (fp : F p = none) (b : But p H H') : Same F H' := fun a u h => b a u (ne_of_none h fp) (s a u h)
theorem Same.sqa {K : PySem.W.Frag} {H H' : Hp} {a : Addr} {xs : List V} (e : Same H H') (h : SqA K H a xs) : SqA K H' a xs := by
  rcases h with h | h
  · exact .inl (e.seq h)
  · rcases h with (h | ⟨o, h⟩) | h
    · exact .inr (.inl (.inl (e _ _ h)))
    · exact .inr (.inl (.inr ⟨o, e _ _ h⟩))
    · exact .inr (.inr h)
/-! ### the pen: what draws -/
structure Pen (K : PySem.W.Frag) (F H : Hp) (p : Addr) (b : Int) : Prop where
  fr : Same F H
  fp : F p = none
  at_ : ∃ (l : Addr) (ns : List Int) (sp r : Int), H p = some (.lst [.ref l, .int sp, .int r]) ∧ SqL K F l (ns.map V.int) ∧ ns.length ≤ 63 ∧ 0 ≤ sp ∧ sp ≤ b ∧ 0 ≤ r
theorem Pen.mono {K : PySem.W.Frag} {F H : Hp} {p : Addr} {b c : Int} (P : Pen K F H p b) (h : b ≤ c) : Pen K F H p c := by
  obtain ⟨fr, fp, l, ns, sp, r, h1, h2, h3, h4, h5, h6⟩ := P
  exact ⟨fr, fp, l, ns, sp, r, h1, h2, h3, h4, by omega, h6⟩
/-- another heap in which all stands -/
theorem Pen.same {K : PySem.W.Frag} {F H H' : Hp} {p : Addr} {b : Int} (P : Pen K F H p b) (s : Same H H') : Pen K F H' p b := by
  obtain ⟨fr, fp, l, ns, sp, r, h1, h⟩ := P
  exact ⟨fr.trans s, fp, l, ns, sp, r, s _ _ h1, h⟩
/-- something new is frozen -/
theorem Pen.grow {K : PySem.W.Frag} {F H : Hp} {p t : Addr} {b : Int} {o : HO} (P : Pen K F H p b) (h : H t = some o) (n : t ≠ p) (ft : F t = none) : Pen K (upd F t o) H p b := by
  obtain ⟨fr, fp, l, ns, sp, r, h1, h2, h3⟩ := P
  refine ⟨fun a u e => ?_, by rw [upd_ne n.symm]; exact fp, l, ns, sp, r, h1, Same.seq (Same.new (Same.refl F) ft) h2, h3⟩
  by_cases ea : a = t
  · rw [ea, upd_same] at e
    cases e
    rw [ea]
    exact h
  · rw [upd_ne ea] at e
    exact fr a u e
end U
namespace U
open PySem PySem.Spec PyProof.Rows L2
/-! ### == of data -/
@[irreducible] def eqO (K : PySem.W.Frag) (ne : Bool) (x y : V) (H : Hp) (Q : VK) : Prop := ∃ d e, Dp K H x d ∧ Dp K H y e ∧ SeqAt.shaped d = true ∧ SeqAt.shaped e = true ∧ Q (.bl (ne ^^ PyData.eqv d e)) H
theorem eqO_i {K : PySem.W.Frag} {ne : Bool} {x y : V} {H : Hp} {Q : VK} {d e : PyData} (h1 : Dp K H x d) (h2 : Dp K H y e) (h3 : SeqAt.shaped d = true) (h4 : SeqAt.shaped e = true) (q : Q (.bl (ne ^^ PyData.eqv d e)) H) : eqO K ne x y H Q := by
  unfold eqO
  exact ⟨d, e, h1, h2, h3, h4, q⟩
theorem u_eqD {X : Cx} (hu : X.A.units + 64 < cLine) : OpR X (compareOp .Eq) (eqO X.K false) := OpR.is (op_eqD hu) fun x y H Q q => by
  unfold eqO at q
  obtain ⟨d, e, h1, h2, h3, h4, q⟩ := q
  exact ⟨d, e, h1, h2, h3, h4, by simpa using q⟩
theorem u_neD {X : Cx} (hu : X.A.units + 64 < cLine) : OpR X (compareOp .NotEq) (eqO X.K true) := OpR.is (op_neD hu) fun x y H Q q => by
  unfold eqO at q
  obtain ⟨d, e, h1, h2, h3, h4, q⟩ := q
  exact ⟨d, e, h1, h2, h3, h4, by simpa using q⟩
end U

set_option Elab.async false
set_option linter.all false
set_option maxRecDepth 100000
set_option maxHeartbeats 4000000
namespace U
open PySem PySem.Spec PyProof.Rows L2
/-! ### data: what is told by it stays -/
theorem Same.sqt {K : PySem.W.Frag} {H H' : Hp} {a : Addr} {xs : List V} (e : Same H H') (h : SqT K H a xs) : SqT K H' a xs := by
  rcases h with (h | ⟨o, h⟩) | h
  · exact .inl (.inl (e _ _ h))
  · exact .inl (.inr ⟨o, e _ _ h⟩)
  · exact .inr h
mutual
theorem dp_same {K : PySem.W.Frag} {H H' : Hp} (e : Same H H') : ∀ {v : V} {d : PyData}, Dp K H v d → Dp K H' v d
  | _, _, .non => .non
  | _, _, .bl b => .bl b
  | _, _, .int i => .int i
  | _, _, .str x => .str x
  | _, _, .lst h a => .lst (Same.seq e h) (dpAll_same e a)
  | _, _, .tup h a => .tup (Same.sqt e h) (dpAll_same e a)
theorem dpAll_same {K : PySem.W.Frag} {H H' : Hp} (e : Same H H') : ∀ {vs : List V} {ds : List PyData}, DpAll K H vs ds → DpAll K H' vs ds
  | _, _, .nil => .nil
  | _, _, .cons h a => .cons (dp_same e h) (dpAll_same e a)
end
theorem dpAll_ints {K : PySem.W.Frag} {H : Hp} : ∀ ns : List Int, DpAll K H (ns.map V.int) (ns.map PyData.int)
  | [] => .nil
  | n :: r => .cons (.int n) (dpAll_ints r)
theorem dpAll_strs {K : PySem.W.Frag} {H : Hp} : ∀ ns : List Str, DpAll K H (ns.map V.str) (ns.map PyData.str)
  | [] => .nil
  | n :: r => .cons (.str n) (dpAll_strs r)
theorem dpAll_len {K : PySem.W.Frag} {H : Hp} : ∀ {vs : List V} {ds : List PyData}, DpAll K H vs ds → vs.length = ds.length
  | _, _, .nil => rfl
  | _, _, .cons _ a => congrArg Nat.succ (dpAll_len a)
theorem dpAll_get {K : PySem.W.Frag} {H : Hp} : ∀ {vs : List V} {ds : List PyData} {i : Nat} {v : V}, DpAll K H vs ds → vs[i]? = some v → ∃ d, ds[i]? = some d ∧ Dp K H v d
  | _, _, i, _, .nil, e => by simp at e
  | _, _, 0, _, .cons h _, e => by
    simp at e
    subst e
    exact ⟨_, rfl, h⟩
  | _, _, i + 1, _, .cons _ a, e => by
    obtain ⟨d, e1, e2⟩ := dpAll_get (i := i) a (by simpa using e)
    exact ⟨d, by simpa using e1, e2⟩
theorem dpAll_app {K : PySem.W.Frag} {H : Hp} : ∀ {vs ws : List V} {ds es : List PyData}, DpAll K H vs ds → DpAll K H ws es → DpAll K H (vs ++ ws) (ds ++ es)
  | _, _, _, _, .nil, b => b
  | _, _, _, _, .cons h a, b => .cons h (dpAll_app a b)
theorem dpAll_take {K : PySem.W.Frag} {H : Hp} : ∀ {vs : List V} {ds : List PyData} (n : Nat), DpAll K H vs ds → DpAll K H (vs.take n) (ds.take n)
  | _, _, 0, _ => .nil
  | _, _, _ + 1, .nil => .nil
  | _, _, n + 1, .cons h a => .cons h (dpAll_take n a)
theorem dpAll_drop {K : PySem.W.Frag} {H : Hp} : ∀ {vs : List V} {ds : List PyData} (n : Nat), DpAll K H vs ds → DpAll K H (vs.drop n) (ds.drop n)
  | _, _, 0, a => a
  | _, _, _ + 1, .nil => .nil
  | _, _, n + 1, .cons _ a => dpAll_drop n a

/-! ### good data: no bools, no dicts, texts of signs, numbers not too long -/
mutual
def noB : PyData → Bool
  | .none => true
  | .bool _ => false
  | .int i => decide (i.natAbs.log2 < 1920)
  | .str x => x.cps.all (· < 0x110000)
  | .list xs => noBs xs
  | .tuple xs => noBs xs
  | .dict _ => false
def noBs : List PyData → Bool
  | [] => true
  | x :: xs => noB x && noBs xs
end
theorem noBs_iff : ∀ {xs : List PyData}, noBs xs = true ↔ ∀ x ∈ xs, noB x = true
  | [] => by simp [noBs]
  | x :: xs => by
    simp only [noBs, Bool.and_eq_true, List.mem_cons, forall_eq_or_imp]
    exact and_congr Iff.rfl noBs_iff
mutual
theorem noB_lay : ∀ {d : PyData}, noB d = true → d.canLay0 = true
  | .none, _ => rfl
  | .int _, _ => rfl
  | .str x, h => h
  | .list xs, h => noBs_lay (xs := xs) (by simpa [noB] using h)
  | .tuple xs, h => noBs_lay (xs := xs) (by simpa [noB] using h)
  | .bool _, h => by simp [noB] at h
  | .dict _, h => by simp [noB] at h
theorem noBs_lay : ∀ {xs : List PyData}, noBs xs = true → PyData.canLayAll0 xs = true
  | [], _ => rfl
  | x :: xs, h => by
    have h2 : noB x = true ∧ noBs xs = true := by simpa [noBs] using h
    simp [PyData.canLayAll0, noB_lay h2.1, noBs_lay h2.2]
end
mutual
theorem noB_sho : ∀ {d : PyData}, noB d = true → d.showable = true
  | .none, _ => rfl
  | .int i, h => h
  | .str x, h => rfl
  | .list xs, h => noBs_sho (xs := xs) (by simpa [noB] using h)
  | .tuple xs, h => noBs_sho (xs := xs) (by simpa [noB] using h)
  | .bool _, h => by simp [noB] at h
  | .dict _, h => by simp [noB] at h
theorem noBs_sho : ∀ {xs : List PyData}, noBs xs = true → PyData.showableAll xs = true
  | [], _ => rfl
  | x :: xs, h => by
    have h2 : noB x = true ∧ noBs xs = true := by simpa [noBs] using h
    simp [PyData.showableAll, noB_sho h2.1, noBs_sho h2.2]
end
mutual
theorem noB_dict : ∀ {d : PyData}, noB d = true → d.hasDict = false
  | .none, _ => by simp only [PyData.hasDict]
  | .int i, h => by simp only [PyData.hasDict]
  | .str x, h => by simp only [PyData.hasDict]
  | .list xs, h => by
    simp only [PyData.hasDict]
    exact noBs_dict (xs := xs) (by simpa [noB] using h)
  | .tuple xs, h => by
    simp only [PyData.hasDict]
    exact noBs_dict (xs := xs) (by simpa [noB] using h)
  | .bool _, h => by simp [noB] at h
  | .dict _, h => by simp [noB] at h
theorem noBs_dict : ∀ {xs : List PyData}, noBs xs = true → PyData.hasDictAll xs = false
  | [], _ => by simp only [PyData.hasDictAll]
  | x :: xs, h => by
    have h2 : noB x = true ∧ noBs xs = true := by simpa [noBs] using h
    simp [PyData.hasDictAll, noB_dict h2.1, noBs_dict h2.2]
end
mutual
/-- == of such data is equality -/
theorem noB_eqv : ∀ {d e : PyData}, noB d = true → noB e = true → (PyData.eqv d e = true ↔ d = e)
  | .none, e, _, h => by cases e <;> simp_all [PyData.eqv, noB]
  | .int i, e, _, h => by cases e <;> simp_all [PyData.eqv, noB]
  | .str x, e, _, h => by cases e <;> simp_all [PyData.eqv, noB]
  | .list xs, e, g, h => by
    cases e with
    | list ys =>
      have q := noBs_eqv (xs := xs) (ys := ys) (by simpa [noB] using g) (by simpa [noB] using h)
      simpa [PyData.eqv] using q
    | _ => simp_all [PyData.eqv, noB]
  | .tuple xs, e, g, h => by
    cases e with
    | tuple ys =>
      have q := noBs_eqv (xs := xs) (ys := ys) (by simpa [noB] using g) (by simpa [noB] using h)
      simpa [PyData.eqv] using q
    | _ => simp_all [PyData.eqv, noB]
  | .bool _, _, h, _ => by simp [noB] at h
  | .dict _, _, h, _ => by simp [noB] at h
theorem noBs_eqv : ∀ {xs ys : List PyData}, noBs xs = true → noBs ys = true → (PyData.eqvAll xs ys = true ↔ xs = ys)
  | [], ys, _, h => by cases ys <;> simp [PyData.eqvAll]
  | x :: xs, [], _, _ => by simp [PyData.eqvAll]
  | x :: xs, y :: ys, g, h => by
    have g2 : noB x = true ∧ noBs xs = true := by simpa [noBs] using g
    have h2 : noB y = true ∧ noBs ys = true := by simpa [noBs] using h
    have q1 := noB_eqv g2.1 h2.1
    have q2 := noBs_eqv g2.2 h2.2
    simp [PyData.eqvAll, q1, q2]
end
theorem dAll_le {n : Nat} : ∀ {xs : List PyData}, PyData.depthAll xs ≤ n ↔ ∀ x ∈ xs, x.depth ≤ n
  | [] => by simp [PyData.depthAll]
  | x :: xs => by
    simp only [PyData.depthAll, List.mem_cons, forall_eq_or_imp]
    rw [Nat.max_le]
    exact and_congr Iff.rfl dAll_le
/-- good, at most n deep -/
def Good (n : Nat) (d : PyData) : Prop := noB d = true ∧ d.depth ≤ n
theorem Good.non {n : Nat} : Good n .none := ⟨rfl, Nat.zero_le _⟩
theorem Good.int {n : Nat} {i : Int} (h : i.natAbs.log2 < 1920) : Good n (.int i) := ⟨by simp [noB, h], Nat.zero_le _⟩
theorem Good.str {n : Nat} {x : Str} (h : x.cps.all (· < 0x110000) = true) : Good n (.str x) := ⟨by simpa [noB] using h, Nat.zero_le _⟩
theorem Good.list {n : Nat} {xs : List PyData} (h : ∀ x ∈ xs, Good n x) : Good (n + 1) (.list xs) :=
  ⟨by
    show noB (.list xs) = true
    rw [noB]
    exact noBs_iff.mpr fun x hx => (h x hx).1, by
    show PyData.depthAll xs + 1 ≤ n + 1
    exact Nat.succ_le_succ (dAll_le.mpr fun x hx => (h x hx).2)⟩
theorem Good.tuple {n : Nat} {xs : List PyData} (h : ∀ x ∈ xs, Good n x) : Good (n + 1) (.tuple xs) :=
  ⟨by
    show noB (.tuple xs) = true
    rw [noB]
    exact noBs_iff.mpr fun x hx => (h x hx).1, by
    show PyData.depthAll xs + 1 ≤ n + 1
    exact Nat.succ_le_succ (dAll_le.mpr fun x hx => (h x hx).2)⟩
theorem Good.mono {n m : Nat} {d : PyData} (h : Good n d) (l : n ≤ m) : Good m d := ⟨h.1, Nat.le_trans h.2 l⟩
theorem Good.shaped {n : Nat} {d : PyData} (h : Good n d) (l : n ≤ 64 := by decide) : SeqAt.shaped d = true := by
  unfold SeqAt.shaped
  rw [noB_lay h.1, decide_eq_true (Nat.le_trans h.2 l)]
  rfl
theorem Good.eqv {n m : Nat} {d e : PyData} (h : Good n d) (g : Good m e) : PyData.eqv d e = true ↔ d = e := noB_eqv h.1 g.1
theorem Good.eqv' {n m : Nat} {d e : PyData} {p : Prop} [Decidable p] (h : Good n d) (g : Good m e) (q : d = e ↔ p) : PyData.eqv d e = decide p := by
  rw [Bool.eq_iff_iff, h.eqv g, q, decide_eq_true_eq]
theorem small_log {i : Int} (h : i.natAbs < 2 ^ 1000) : i.natAbs.log2 < 1920 := by
  by_cases h0 : i.natAbs = 0
  · rw [h0]; decide
  · have := (Nat.log2_lt h0).mpr h
    omega
theorem Good.ints {ns : List Int} (h : ∀ n ∈ ns, n.natAbs.log2 < 1920) : Good 1 (.list (ns.map .int)) := Good.list fun x hx => by
  obtain ⟨n, hn, rfl⟩ := List.mem_map.mp hx
  exact Good.int (h n hn)
theorem map_int_inj : ∀ {ns ms : List Int}, ns.map PyData.int = ms.map PyData.int ↔ ns = ms := by
  intro ns ms
  exact ⟨fun h => (List.map_inj_right (fun _ _ q => by injection q)).mp h, fun h => by rw [h]⟩
theorem map_str_inj : ∀ {ns ms : List Str}, ns.map PyData.str = ms.map PyData.str ↔ ns = ms := by
  intro ns ms
  exact ⟨fun h => (List.map_inj_right (fun _ _ q => by injection q)).mp h, fun h => by rw [h]⟩
/-- == with the empty list -/
theorem eqv_nil {ds : List PyData} : PyData.eqv (.list ds) (.list []) = ds.isEmpty := by
  cases ds <;> simp [PyData.eqv, PyData.eqvAll]
theorem eqO_nil {K : PySem.W.Frag} {ne : Bool} {a b : Addr} {H : Hp} {Q : VK} {xs : List V} {ds : List PyData} (h1 : SqL K H a xs) (h2 : DpAll K H xs ds) (h3 : SqL K H b []) (g : SeqAt.shaped (.list ds) = true) (q : Q (.bl (ne ^^ xs.isEmpty)) H) : eqO K ne (.ref a) (.ref b) H Q := by
  refine eqO_i (.lst h1 h2) (.lst h3 .nil) g rfl ?_
  rw [eqv_nil]
  have e : ds.isEmpty = xs.isEmpty := by
    have := dpAll_len h2
    cases xs <;> cases ds <;> simp_all
  rw [e]
  exact q
theorem eqO_nilI {K : PySem.W.Frag} {ne : Bool} {a b : Addr} {H : Hp} {Q : VK} {ns : List Int} (h1 : SqL K H a (ns.map V.int)) (h3 : SqL K H b []) (q : Q (.bl (ne ^^ ns.isEmpty)) H) : eqO K ne (.ref a) (.ref b) H Q :=
  eqO_nil h1 (dpAll_ints ns) h3 (PySem.W.ke_shaped_ints ns) (by
    have e : (ns.map V.int).isEmpty = ns.isEmpty := by cases ns <;> rfl
    rw [e]; exact q)
/-! ### repr of data -/
/-- can be shown: no dict in it, numbers not too long, at most n deep (bools may stand in it) -/
def Sh (n : Nat) (d : PyData) : Prop := d.showable = true ∧ d.hasDict = false ∧ d.depth ≤ n
theorem Good.sh {n : Nat} {d : PyData} (h : Good n d) : Sh n d := ⟨noB_sho h.1, noB_dict h.1, h.2⟩
theorem shAll_of : ∀ {xs : List PyData}, (∀ x ∈ xs, x.showable = true) → PyData.showableAll xs = true
  | [], _ => by simp only [PyData.showableAll]
  | x :: xs, h => by
    rw [PyData.showableAll, h x (List.mem_cons_self ..), shAll_of (xs := xs) fun y hy => h y (List.mem_cons_of_mem _ hy)]
    rfl
theorem hasDictAll_of : ∀ {xs : List PyData}, (∀ x ∈ xs, x.hasDict = false) → PyData.hasDictAll xs = false
  | [], _ => by simp only [PyData.hasDictAll]
  | x :: xs, h => by
    rw [PyData.hasDictAll, h x (List.mem_cons_self ..), hasDictAll_of (xs := xs) fun y hy => h y (List.mem_cons_of_mem _ hy)]
    rfl
theorem Sh.list {n : Nat} {xs : List PyData} (h : ∀ x ∈ xs, Sh n x) : Sh (n + 1) (.list xs) :=
  ⟨shAll_of fun x hx => (h x hx).1, by
    simp only [PyData.hasDict]
    exact hasDictAll_of fun x hx => (h x hx).2.1, Nat.succ_le_succ (dAll_le.mpr fun x hx => (h x hx).2.2)⟩
theorem Sh.tuple {n : Nat} {xs : List PyData} (h : ∀ x ∈ xs, Sh n x) : Sh (n + 1) (.tuple xs) :=
  ⟨shAll_of fun x hx => (h x hx).1, by
    simp only [PyData.hasDict]
    exact hasDictAll_of fun x hx => (h x hx).2.1, Nat.succ_le_succ (dAll_le.mpr fun x hx => (h x hx).2.2)⟩
theorem Sh.bool {n : Nat} {b : Bool} : Sh n (.bool b) := ⟨rfl, by simp only [PyData.hasDict], Nat.zero_le _⟩
theorem Sh.mono {n m : Nat} {d : PyData} (h : Sh n d) (l : n ≤ m) : Sh m d := ⟨h.1, h.2.1, Nat.le_trans h.2.2 l⟩
@[irreducible] def repO (K : PySem.W.Frag) (x : V) (H : Hp) (Q : VK) : Prop := ∃ d n, Dp K H x d ∧ Sh n d ∧ n ≤ 20 ∧ d.shown.length ≤ sizeLine ∧ Q (.str d.shown) H
theorem repO_i {K : PySem.W.Frag} {x : V} {H : Hp} {Q : VK} {d : PyData} {n : Nat} (h : Dp K H x d) (g : Sh n d) (hn : n ≤ 20) (z : d.shown.length ≤ sizeLine) (q : Q (.str d.shown) H) : repO K x H Q := by
  unfold repO
  exact ⟨d, n, h, g, hn, z, q⟩
def gRep (K : PySem.W.Frag) : List V → Hp → VK → Prop := fun vs H Q => match vs with
  | [x] => repO K x H Q
  | _ => False
theorem c_repr {X : Cx} {k : Nat} (hr : Rm k X.A) : CallR X (.builtin "repr") (gRep X.K) := by
  intro pins s σ H xs us Q I r h
  match xs, h with
  | [x], h =>
    obtain ⟨u, rfl, rx⟩ := vals1 r
    have h : repO X.K x H Q := h
    unfold repO at h
    obtain ⟨d, n, hd, g, hn, z, q⟩ := h
    obtain ⟨as, rd⟩ := Dp.reads I d x u hd rx
    have hu : X.A.units + (d.depth + 1) < cLine := by
      have h1 := hr.rm.units
      have h2 := g.2.2
      omega
    cases hd with
    | non =>
      obtain rfl : u = Value.none := rx
      exact PySem.P.repr_of_none ⟨.str _, H, I.tok _, ⟨_, rfl⟩, by simpa [PyData.shown] using q⟩
    | bl b =>
      obtain rfl : u = Value.bool b := rx
      exact PySem.P.repr_of_bool ⟨.str _, H, I.tok _, ⟨_, rfl⟩, by simpa [PyData.shown] using q⟩
    | int i =>
      obtain ⟨t, rfl⟩ := rx
      have hz : i.natAbs.log2 < 1920 := of_decide_eq_true g.1
      exact PySem.P.repr_of_int hz ⟨.str _, H, I.tok _, ⟨_, rfl⟩, by simpa [PyData.shown] using q⟩
    | str x =>
      obtain ⟨t, rfl⟩ := rx
      have hz : (reprText x).length ≤ sizeLine := by simpa [PyData.shown] using z
      exact PySem.P.repr_of_str ⟨.str _, H, I.tok _, ⟨_, rfl⟩, by simpa [PyData.shown] using q⟩ hz
    | lst h1 h2 =>
      obtain rfl : u = Value.ref _ := rx
      exact repr_of_reads' rd g.1 (fun w => by rw [g.2.1] at w; cases w) hr.gd hu (fun b o e => e) (fun h' t tk k => ⟨.str _, H, I.kept k, ⟨t, rfl⟩, q⟩) z
    | tup h1 h2 =>
      obtain rfl : u = Value.ref _ := rx
      exact repr_of_reads' rd g.1 (fun w => by rw [g.2.1] at w; cases w) hr.gd hu (fun b o e => e) (fun h' t tk k => ⟨.str _, H, I.kept k, ⟨t, rfl⟩, q⟩) z
end U

set_option Elab.async false
set_option linter.all false
set_option maxRecDepth 100000
set_option maxHeartbeats 4000000
namespace U
open PySem PySem.Spec PyProof.Rows L2
/-! ### heaps as letters: what is told of the next one -/
/-- the next heap: all stays, something new -/
structure Ext (H H' : Hp) : Prop where
  s : Same H H'
theorem Ext.refl {H : Hp} : Ext H H := ⟨Same.refl H⟩
theorem Ext.trans {H H1 H2 : Hp} (a : Ext H H1) (b : Ext H1 H2) : Ext H H2 := ⟨a.s.trans b.s⟩
/-- p is not there yet -/
structure Nw (H : Hp) (p : Addr) : Prop where
  n : H p = none
theorem ne_nw {H : Hp} {a b : Addr} {o : HO} (hb : Nw H b) (h : H a = some o) : a ≠ b := ne_of_none h hb.n
theorem ne_wn {H : Hp} {a b : Addr} {o : HO} (hb : Nw H a) (h : H b = some o) : a ≠ b := (ne_of_none h hb.n).symm
theorem new_h {H : Hp} {o : HO} {Q : VK} (h : ∀ p H', Nw H p → Ext H H' → H' p = some o → Q (.ref p) H') : new H o Q :=
  new_i fun p hp => h p _ ⟨hp⟩ ⟨Same.new (Same.refl H) hp⟩ upd_same
theorem setO_h {p : Addr} {k : Int} {v : V} {H : Hp} {Q : Hp → Prop} {xs : List V} (h : H p = some (.lst xs)) (q : opt (ixN xs.length k) fun j => ∀ H', But p H H' → H' p = some (.lst (xs.set j v)) → Q H') : setO p k v H Q := by
  obtain ⟨j, e, q⟩ := opt_e q
  exact setO_i h (opt_i e (q _ (But.set (But.refl p H)) upd_same))
theorem appO_h {l : Addr} {y : V} {H : Hp} {Q : VK} {xs : List V} (h : H l = some (.lst xs)) (hz : xs.length < sizeLine) (q : ∀ H', But l H H' → H' l = some (.lst (xs ++ [y])) → Q .non H') : appO l y H Q :=
  appO_i h hz (q _ (But.set (But.refl l H)) upd_same)
theorem same_at {H H' : Hp} {a : Addr} {o : HO} (s : Ext H H') (h : H a = some o) : H' a = some o := s.s a o h
theorem fz_at {H H' : Hp} {a : Addr} {o : HO} (s : Same H H') (h : H a = some o) : H' a = some o := s a o h
theorem but_at {p : Addr} {H H' : Hp} {a : Addr} {o : HO} (s : But p H H') (n : a ≠ p) (h : H a = some o) : H' a = some o := s a o n h
theorem same_seq {K : PySem.W.Frag} {H H' : Hp} {a : Addr} {xs : List V} (s : Same H H') (h : SqL K H a xs) : SqL K H' a xs := Same.seq s h
theorem same_sqt {K : PySem.W.Frag} {H H' : Hp} {a : Addr} {xs : List V} (s : Same H H') (h : SqT K H a xs) : SqT K H' a xs := Same.sqt s h
theorem same_sqa {K : PySem.W.Frag} {H H' : Hp} {a : Addr} {xs : List V} (s : Same H H') (h : SqA K H a xs) : SqA K H' a xs := Same.sqa s h
theorem ext_seq {K : PySem.W.Frag} {H H' : Hp} {a : Addr} {xs : List V} (s : Ext H H') (h : SqL K H a xs) : SqL K H' a xs := Same.seq s.s h
theorem ext_sqt {K : PySem.W.Frag} {H H' : Hp} {a : Addr} {xs : List V} (s : Ext H H') (h : SqT K H a xs) : SqT K H' a xs := Same.sqt s.s h
theorem ext_sqa {K : PySem.W.Frag} {H H' : Hp} {a : Addr} {xs : List V} (s : Ext H H') (h : SqA K H a xs) : SqA K H' a xs := Same.sqa s.s h
theorem ext_fz {F H H' : Hp} (s : Ext H H') (h : Same F H) : Same F H' := h.trans s.s
theorem ext_but {p : Addr} {H H1 H2 : Hp} (s : Ext H1 H2) (b : But p H H1) : But p H H2 := b.trans (Same.but p s.s)
theorem but_but {p : Addr} {H H1 H2 : Hp} (s : But p H1 H2) (b : But p H H1) : But p H H2 := b.trans s
theorem but_lc {p D : Addr} {H1 G H5 H7 : Hp} (b : But D H5 H7) (n : Nw G D) (B0 : But p H1 G) (B5 : But p H1 H5) : But p H1 H7 := fun a o h e => b a o (ne_nw n (B0 a o h e)) (B5 a o h e)
theorem but_fz {F H H' : Hp} {p : Addr} (b : But p H H') (fp : F p = none) (s : Same F H) : Same F H' := Same.via s fp b
theorem ext_no {H H' : Hp} {a : Addr} (s : Ext H H') (h : H' a = none) : H a = none := by
  cases e : H a with
  | none => rfl
  | some o => rw [s.s a o e] at h; cases h
theorem fz_no {H H' : Hp} {a : Addr} (s : Same H H') (h : H' a = none) : H a = none := by
  cases e : H a with
  | none => rfl
  | some o => rw [s a o e] at h; cases h
theorem seq_fz {K : PySem.W.Frag} {H H' : Hp} {a : Addr} {xs : List V} (h : SqL K H a xs) (s : Same H H') : SqL K H' a xs := Same.seq s h
theorem sqt_fz {K : PySem.W.Frag} {H H' : Hp} {a : Addr} {xs : List V} (h : SqT K H a xs) (s : Same H H') : SqT K H' a xs := Same.sqt s h
theorem sqa_fz {K : PySem.W.Frag} {H H' : Hp} {a : Addr} {xs : List V} (h : SqA K H a xs) (s : Same H H') : SqA K H' a xs := Same.sqa s h
theorem fz_nw {F H : Hp} {a : Addr} (n : Nw H a) (s : Same F H) : F a = none := fz_no s n.n
theorem dp_fz {K : PySem.W.Frag} {H H' : Hp} {v : V} {d : PyData} (h : Dp K H v d) (s : Same H H') : Dp K H' v d := dp_same s h
theorem dpAll_fz {K : PySem.W.Frag} {H H' : Hp} {v : List V} {d : List PyData} (h : DpAll K H v d) (s : Same H H') : DpAll K H' v d := dpAll_same s h
theorem same_refl {H : Hp} : Same H H := Same.refl H
theorem same_trans {H H1 H2 : Hp} (a : Same H H1) (b : Same H1 H2) : Same H H2 := a.trans b
theorem same_via {F H H' : Hp} {p : Addr} (s : Same F H) (fp : F p = none) (b : But p H H') : Same F H' := Same.via s fp b
theorem but_refl {p : Addr} {H : Hp} : But p H H := But.refl p H
theorem but_same {p : Addr} {H H' : Hp} (s : Same H H') : But p H H' := Same.but p s
theorem but_trans {p : Addr} {H H1 H2 : Hp} (a : But p H H1) (b : But p H1 H2) : But p H H2 := a.trans b
/-- a place that was not there is another one -/
theorem ne_new {H : Hp} {a b : Addr} {o : HO} (h : H a = some o) (hb : H b = none) : a ≠ b := ne_of_none h hb
theorem ne_kind {H : Hp} {a b : Addr} {o u : HO} (h : H a = some o) (hb : H b = some u) (n : o ≠ u) : a ≠ b := fun e => n (by rw [e, hb] at h; exact (Option.some.inj h).symm)
/-- kept over a change at p, when p came later -/
theorem but_old {p : Addr} {F H H' : Hp} (s : Same F H) (fp : F p = none) (b : But p H H') : Same F H' := Same.via s fp b
theorem brn_eq {p : Prop} [Decidable p] {A B : Prop} (h1 : p → A) (h2 : ¬ p → B) : brn (false ^^ decide p) A B := by
  rw [Bool.false_xor]; exact brn_d h1 h2
theorem brn_ne {p : Prop} [Decidable p] {A B : Prop} (h1 : p → B) (h2 : ¬ p → A) : brn (true ^^ decide p) A B := by
  rw [Bool.true_xor]; exact brn_nd h1 h2
/-! ### a frozen part within the heap: it grows by new places alone -/
structure Gr (F H F' H' : Hp) : Prop where
  ff : Same F F'
  fh : Same F' H'
  out : ∀ a, H a ≠ none → F a = none → F' a = none
  dom : ∀ a, H a ≠ none → H' a ≠ none
theorem Gr.refl {F H : Hp} (s : Same F H) : Gr F H F H := ⟨Same.refl F, s, fun _ _ h => h, fun _ h => h⟩
theorem Gr.trans {F H F1 H1 F2 H2 : Hp} (a : Gr F H F1 H1) (b : Gr F1 H1 F2 H2) : Gr F H F2 H2 :=
  ⟨a.ff.trans b.ff, b.fh, fun x h f => b.out x (a.dom x h) (a.out x h f), fun x h => b.dom x (a.dom x h)⟩
theorem dom_same {H H' : Hp} (s : Same H H') : ∀ a, H a ≠ none → H' a ≠ none := fun a h => by
  cases e : H a with
  | none => exact (h e).elim
  | some o => rw [s a o e]; exact fun z => by cases z
theorem dom_but {p : Addr} {H H' : Hp} {o : HO} (b : But p H H') (hp : H' p = some o) : ∀ a, H a ≠ none → H' a ≠ none := fun a h => by
  by_cases ea : a = p
  · rw [ea, hp]; exact fun z => by cases z
  · cases e : H a with
    | none => exact (h e).elim
    | some o => rw [b a o ea e]; exact fun z => by cases z
theorem Gr.more {F H F' H' : Hp} (s : Same F H) (h : Same H H') (e : F' = F) : Gr F H F' H' := by
  subst e
  exact ⟨Same.refl _, s.trans h, fun _ _ f => f, dom_same h⟩
theorem Gr.but {F H H' : Hp} {p : Addr} {o : HO} (s : Same F H) (fp : F p = none) (b : But p H H') (hp : H' p = some o) : Gr F H F H' := ⟨Same.refl F, Same.via s fp b, fun _ _ f => f, dom_but b hp⟩
/-- a new thing, frozen -/
theorem Gr.frz {F H H' : Hp} {t : Addr} {o : HO} (s : Same F H) (h0 : Ext H H') (ht0 : Nw H t) (e : H' t = some o) : Gr F H (upd F t o) H' := by
  have h := h0.s
  have ht := ht0.n
  have ft : F t = none := by
    cases z : F t with
    | none => rfl
    | some u => rw [s t u z] at ht; cases ht
  refine ⟨Same.new (Same.refl F) ft, fun a u q => ?_, fun a ha fa => ?_, dom_same h⟩
  · by_cases ea : a = t
    · rw [ea, upd_same] at q; cases q; rw [ea]; exact e
    · rw [upd_ne ea] at q; exact h a u (s a u q)
  · have na : a ≠ t := fun z => ha (by rw [z]; exact ht)
    rw [upd_ne na]; exact fa
/-- a thing made since H is frozen now -/
theorem Gr.late {F H F' H' : Hp} {t : Addr} {o : HO} (g : Gr F H F' H') (ht0 : Nw H t) (ft : F' t = none) (e : H' t = some o) : Gr F H (upd F' t o) H' := by
  have ht := ht0.n
  refine ⟨g.ff.trans (Same.new (Same.refl F') ft), fun a u q => ?_, fun a ha fa => ?_, g.dom⟩
  · by_cases ea : a = t
    · rw [ea, upd_same] at q; cases q; rw [ea]; exact e
    · rw [upd_ne ea] at q; exact g.fh a u q
  · have na : a ≠ t := fun z => ha (by rw [z]; exact ht)
    rw [upd_ne na]; exact g.out a ha fa
theorem Gr.same {F H F' H' H2 : Hp} (g : Gr F H F' H') (s : Same H' H2) : Gr F H F' H2 := ⟨g.ff, g.fh.trans s, g.out, fun a h => dom_same s a (g.dom a h)⟩
theorem Gr.none {F H F' H' : Hp} {a : Addr} {o : HO} (g : Gr F H F' H') (h : H a = some o) (f : F a = none) : F' a = none := g.out a (by rw [h]; exact fun z => by cases z) f
theorem Pen.gr {K : PySem.W.Frag} {F H F' H' : Hp} {p : Addr} {b : Int} (P : Pen K F H p b) (g : Gr F H F' H') (k : ∀ o, H p = some o → H' p = some o) : Pen K F' H' p b := by
  obtain ⟨fr, fp, l, ns, sp, r, h1, h2, h⟩ := P
  exact ⟨g.fh, g.none h1 fp, l, ns, sp, r, k _ h1, Same.seq g.ff h2, h⟩
theorem Pen.ext {K : PySem.W.Frag} {F H H' : Hp} {p : Addr} {b : Int} (s : Ext H H') (P : Pen K F H p b) : Pen K F H' p b := P.same s.s
theorem ne_pen {K : PySem.W.Frag} {F H : Hp} {a p : Addr} {b : Int} (n : Nw H a) (P : Pen K F H p b) : a ≠ p := by
  obtain ⟨_, _, l, ns, sp, r, h1, _⟩ := P
  exact ne_wn n h1
theorem Pen.but {K : PySem.W.Frag} {F H H' : Hp} {p q : Addr} {b : Int} (P : Pen K F H p b) (s : But q H H') (n : p ≠ q) (hq : F q = none := by assumption) : Pen K F H' p b := by
  obtain ⟨fr, fp, l, ns, sp, r, h1, h⟩ := P
  exact ⟨Same.via fr hq s, fp, l, ns, sp, r, s _ _ n h1, h⟩
theorem Pen.fz {K : PySem.W.Frag} {F H : Hp} {p : Addr} {b : Int} (P : Pen K F H p b) : Same F H := P.fr
theorem pen_dom {K : PySem.W.Frag} {F H H1 : Hp} {p : Addr} {b : Int} (P : Pen K F H1 p b) (B : But p H H1) : ∀ a, H a ≠ none → H1 a ≠ none := by
  obtain ⟨_, _, l, ns, sp, r, h1, h2, h⟩ := P
  exact dom_but B h1
/-- what was drawn into a new thing at t, which is frozen now -/
theorem pen_end {K : PySem.W.Frag} {F H H1 H2 : Hp} {p t : Addr} {b b' : Int} {o : HO} (P : Pen K F H p b) (P' : Pen K F H1 p b') (B : But p H H1) (nt : Nw H1 t) (e : Ext H1 H2) (ht : H2 t = some o) :
    Pen K (upd F t o) H2 p b' ∧ But p H H2 ∧ Gr F H (upd F t o) H2 := by
  have d := pen_dom P' B
  have ft : F t = none := fz_no P'.fr nt.n
  have tp : t ≠ p := by
    obtain ⟨_, _, l, ns, sp, r, h1, h2, h⟩ := P'
    exact ne_wn nt h1
  have htn : Nw H t := ⟨by
    cases z : H t with
    | none => rfl
    | some u => exact (d t (by rw [z]; exact fun q => by cases q) nt.n).elim⟩
  have g : Gr F H F H2 := ⟨Same.refl F, P'.fr.trans e.s, fun _ _ f => f, fun a ha => dom_same e.s a (d a ha)⟩
  exact ⟨(P'.same e.s).grow ht tp ft, B.trans (Same.but p e.s), g.late htn ft ht⟩
theorem Pen.some {K : PySem.W.Frag} {F H : Hp} {p : Addr} {b : Int} (P : Pen K F H p b) : ∃ o, H p = some o := by
  obtain ⟨_, _, l, ns, sp, r, h1, _⟩ := P
  exact ⟨_, h1⟩
end U

set_option Elab.async false
set_option linter.all false
set_option maxRecDepth 100000
set_option maxHeartbeats 4000000
namespace U
open PySem PySem.Spec PyProof.Rows L2
section
variable {X : Cx} {tg : Expr}
/-! ### ranges -/
theorem pi_is {l : Expr} {t : TI} (h : PI X tg l t) {t' : TI} (k : ∀ σ H R, t' σ H R → t σ H R) : PI X tg l t' := ⟨fun pins s σ H R I q => h.run pins s σ H R I (k _ _ _ q)⟩
def uRng1 (ta : TA) : TI := fun σ H R => ta σ H fun vs H1 => match vs with
  | [.int j] => cond (-(2 ^ 62) ≤ j ∧ j < 2 ^ 62) (R (Itr 0 j.toNat) H1)
  | _ => False
def uRng2 (ta : TA) : TI := fun σ H R => ta σ H fun vs H1 => match vs with
  | [.int i, .int j] => cond (-(2 ^ 62) ≤ i ∧ i < 2 ^ 62 ∧ -(2 ^ 62) ≤ j ∧ j < 2 ^ 62) (R (Itr i (j - i).toNat) H1)
  | _ => False
theorem ta_fun {ta : TA} {σ : L2.St} {H : Hp} {A B : List V → Hp → Prop} (h : ta σ H A) (e : A = B) : ta σ H B := by rw [← e]; exact h
theorem pi_rng1 {a : Expr} {ta : TA} {p pos : Pos} (hg : Gl X "range") (hm : X.mg "range" = none) (ha : PA X [a] ta) (hs : starEach [a] X.env = [(false, eval a X.env)] := by rfl) : PI X tg (.Call (.Name "range" p) [a] [] pos) (uRng1 ta) :=
  pi_is (pi_range1 hg hm ha hs) fun σ H R q => ta_fun q <| by
    funext vs H1
    apply propext
    constructor
    · intro z
      match vs, z with
      | [.int j], z => exact ⟨j, rfl, (cond_e z).1.1, (cond_e z).1.2, (cond_e z).2⟩
    · rintro ⟨j, rfl, h1, h2, z⟩
      exact cond_i ⟨h1, h2⟩ z
theorem pi_rng2 {a b : Expr} {ta : TA} {p pos : Pos} (hg : Gl X "range") (hm : X.mg "range" = none) (ha : PA X [a, b] ta) (hs : starEach [a, b] X.env = [(false, eval a X.env), (false, eval b X.env)] := by rfl) (hs2 : starEach [b] X.env = [(false, eval b X.env)] := by rfl) : PI X tg (.Call (.Name "range" p) [a, b] [] pos) (uRng2 ta) :=
  pi_is (pi_range2 hg hm ha hs hs2) fun σ H R q => ta_fun q <| by
    funext vs H1
    apply propext
    constructor
    · intro z
      match vs, z with
      | [.int i, .int j], z => exact ⟨i, j, rfl, (cond_e z).1, (cond_e z).2⟩
    · rintro ⟨i, j, rfl, h1, z⟩
      exact cond_i h1 z
/-! ### a slot's own operator -/
def uAug (i : Nat) (te : TE) (r : R2) : TS := fun D σ H => match σ[i]? with
  | some (some x) => te σ H fun y H1 => r x y H1 fun z H2 => D.nx (σ.set i (some z)) H2
  | _ => False
theorem ps_augI {i : Nat} {x : Str} {e : Expr} {te : TE} {pos pos' : Pos} (hN : X.N.Nodup) (hi : X.N[i]? = some x) (hx : Loc X.env.scope x) (he : PE X e te) (hf : X.fn x = true ∨ X.env.scope.names.lookup x = some .local := by first | exact .inl rfl | exact .inr rfl | assumption) :
    PS X (.AugAssign (.Name x pos') .Add e pos) (uAug i te (gI fun i j => .int (i + j))) := by
  refine ps_is (ps_aug hN hi hx he ip_add hf) fun D σ H q => ?_
  have q : (match σ[i]? with
    | some (some x) => te σ H fun y H1 => gI (fun i j => .int (i + j)) x y H1 fun z H2 => D.nx (σ.set i (some z)) H2
    | _ => False) := q
  cases e : σ[i]? with
  | none => rw [e] at q; exact q.elim
  | some o =>
    rw [e] at q
    cases o with
    | none => exact q.elim
    | some v =>
      refine ⟨v, e, ?_⟩
      have q : te σ H fun y H1 => gI (fun i j => .int (i + j)) v y H1 fun z H2 => D.nx (σ.set i (some z)) H2 := q
      have e2 : (fun (y : V) (H1 : Hp) => gI (fun i j => .int (i + j)) v y H1 fun z H2 => D.nx (σ.set i (some z)) H2) = fun y H1 => ipI (fun i j => i + j) v y H1 fun z H2 => D.nx (σ.set i (some z)) H2 := by
        funext y H1
        apply propext
        constructor
        · intro z
          cases v with
          | int a => cases y with
            | int b => exact ⟨a, b, rfl, rfl, z⟩
            | _ => exact z.elim
          | _ => cases y <;> exact z.elim
        · rintro ⟨a, b, rfl, rfl, z⟩
          exact z
      rw [e2] at q
      exact q
/-! ### constants -/
theorem pe_constG {x : Str} {z : Int} {pos : Pos} (hg : Gl X x) (hm : ∃ t, X.mg x = some (.int z t)) (hd : (x == ("__debug__" : Str)) = false := by decide) : PE X (.Name x pos) (tC (.int z)) := by
  obtain ⟨t, hm⟩ := hm
  exact pe_glob hg hm ⟨t, rfl⟩ hd
theorem pe_constS {x : Str} {z : Str} {pos : Pos} (hg : Gl X x) (hm : ∃ t, X.mg x = some (.str z t)) (hd : (x == ("__debug__" : Str)) = false := by decide) : PE X (.Name x pos) (tC (.str z)) := by
  obtain ⟨t, hm⟩ := hm
  exact pe_glob hg hm ⟨t, rfl⟩ hd
/-! ### fields -/
@[irreducible] def fldO (C a : Addr) (f : Str) (H : Hp) (Q : VK) : Prop := ∃ dx fs v, H a = some (.ins C dx fs) ∧ fs.lookup f = some v ∧ Q v H
theorem fldO_i {C a dx : Addr} {f : Str} {H : Hp} {Q : VK} {fs : List (Str × V)} {v : V} (h : H a = some (.ins C dx fs)) (e : fs.lookup f = some v) (q : Q v H) : fldO C a f H Q := by
  unfold fldO
  exact ⟨dx, fs, v, h, e, q⟩
def uFld (C : Addr) (f : Str) (ta : TE) : TE := fun σ H Q => ta σ H fun x H1 => match x with
  | .ref a => fldO C a f H1 Q
  | _ => False
theorem pe_fldU {C : Addr} {e : Expr} {f : Str} {ta : TE} {pos : Pos} (c : Cls X.K C) (n : NoAttr X.K C f) (he : PE X e ta) (hb : attributeBase e f X.env (eval e X.env) = eval e X.env := by rfl) : PE X (.Attribute e f pos) (uFld C f ta) := by
  refine ⟨fun pins s σ H Q I h => ?_⟩
  refine attr_of hb (thn (he.run pins s σ H _ I h) fun u s1 ⟨x, H1, I1, rx, q⟩ => ?_)
  obtain ⟨a, rfl, q⟩ := uMeth_e (A := fun a H1 => fldO C a f H1 Q) q
  unfold fldO at q
  obtain ⟨dx, fs, v, ea, l, q⟩ := q
  obtain rfl : u = Value.ref a := rx
  exact getattr_ok I1 ea c n l fun u' s2 I2 ru => ⟨v, H1, I2, ru, q⟩
@[irreducible] def setF (C a : Addr) (f : Str) (y : V) (H : Hp) (Q : Hp → Prop) : Prop := ∃ dx fs, H a = some (.ins C dx fs) ∧ fs.length < 1000 ∧ Q (upd H a (.ins C dx (putF f y fs)))
theorem setF_h {C a dx : Addr} {f : Str} {y : V} {H : Hp} {Q : Hp → Prop} {fs fs' : List (Str × V)} (h : H a = some (.ins C dx fs)) (hl : fs.length < 1000) (e : putF f y fs = fs') (q : ∀ H', But a H H' → H' a = some (.ins C dx fs') → Q H') : setF C a f y H Q := by
  unfold setF
  refine ⟨dx, fs, h, hl, ?_⟩
  rw [e]
  exact q _ (But.set (But.refl a H)) upd_same
def uSetF (C : Addr) (f : Str) (ta tv : TE) : TS := fun D σ H => tv σ H fun y H1 => ta σ H1 fun x H2 => match x with
  | .ref a => setF C a f y H2 (D.nx σ)
  | _ => False
theorem ps_fldU {C : Addr} {o value : Expr} {f : Str} {ta tv : TE} {pos pos' : Pos} (c : Cls X.K C) (n : NoAttr X.K C f) (ha : PE X o ta) (hv : PE X value tv) (hs : swapsWith value (some (.Attribute o f pos')) pos.line X.env = pure false := by rfl) : PS X (.Assign [.Attribute o f pos'] value pos) (uSetF C f ta tv) := by
  refine ⟨fun pins s σ H D I h => ?_⟩
  refine plainObj_wpAny_Assign_Attribute (thn (hv.run pins s σ H _ I h) fun u s1 ⟨y, H1, I1, ry, q⟩ => thn (ha.run pins s1 σ H1 _ I1 q) fun ov s2 ⟨x, H2, I2, rx, q⟩ => ?_) hs
  obtain ⟨a, rfl, q⟩ := uMeth_e (A := fun a H1 => setF C a f y H1 (D.nx σ)) q
  unfold setF at q
  obtain ⟨dx, fs, ea, l, q⟩ := q
  obtain rfl : ov = Value.ref a := rx
  exact setattr_ok I2 ea c n l ry fun s3 I3 => ⟨σ, _, I3, q⟩
/-! ### in -/
@[irreducible] def inO (K : PySem.W.Frag) (ne : Bool) (x y : V) (H : Hp) (Q : VK) : Prop :=
  (∃ (c : Nat) (z : Str), x = .str ⟨#[c]⟩ ∧ y = .str z ∧ Q (.bl (ne ^^ decide (c ∈ z.cps.toList))) H) ∨ (∃ d ds, Dp K H x d ∧ Dp K H y (.list ds) ∧ SeqAt.shaped d = true ∧ SeqAt.shaped (.list ds) = true ∧ Q (.bl (ne ^^ ds.any fun z => PyData.eqv z d)) H)
theorem inO_s {K : PySem.W.Frag} {ne : Bool} {H : Hp} {Q : VK} {c : Nat} {z : Str} (q : Q (.bl (ne ^^ decide (c ∈ z.cps.toList))) H) : inO K ne (.str ⟨#[c]⟩) (.str z) H Q := by
  unfold inO
  exact .inl ⟨c, z, rfl, rfl, q⟩
theorem inO_d {K : PySem.W.Frag} {ne : Bool} {x y : V} {H : Hp} {Q : VK} {d : PyData} {ds : List PyData} (h1 : Dp K H x d) (h2 : Dp K H y (.list ds)) (h3 : SeqAt.shaped d = true) (h4 : SeqAt.shaped (.list ds) = true) (q : Q (.bl (ne ^^ ds.any fun z => PyData.eqv z d)) H) : inO K ne x y H Q := by
  unfold inO
  exact .inr ⟨d, ds, h1, h2, h3, h4, q⟩
theorem u_in (hu : X.A.units + 65 < cLine) : OpR X (compareOp .In) (inO X.K false) := by
  intro pins s σ H x y v u Q I rx ry h
  unfold inO at h
  rcases h with ⟨c, z, rfl, rfl, q⟩ | ⟨d, ds, h1, h2, h3, h4, q⟩
  · exact op_in_sign pins s σ H _ _ v u Q I rx ry ⟨c, z, rfl, rfl, by simpa using q⟩
  · exact op_inD hu pins s σ H _ _ v u Q I rx ry ⟨d, ds, h1, h2, h3, h4, by simpa using q⟩
theorem u_notin (hu : X.A.units + 65 < cLine) : OpR X (compareOp .NotIn) (inO X.K true) := by
  intro pins s σ H x y v u Q I rx ry h
  unfold inO at h
  rcases h with ⟨c, z, rfl, rfl, q⟩ | ⟨d, ds, h1, h2, h3, h4, q⟩
  · exact op_notIn_sign pins s σ H _ _ v u Q I rx ry ⟨c, z, rfl, rfl, by simpa using q⟩
  · exact op_notInD hu pins s σ H _ _ v u Q I rx ry ⟨d, ds, h1, h2, h3, h4, by simpa using q⟩
theorem Rm.units65 {k : Nat} {A : Around} (r : Rm k A) : A.units + 65 < cLine := by
  have := r.rm.un
  omega
def gIsB (ne : Bool) : R2 := fun x y H Q => match x, y with
  | .bl a, .bl b => Q (.bl (ne ^^ decide (a = b))) H
  | _, _ => False
theorem gIsB_ex {ne : Bool} {x y : V} {H : Hp} {Q : VK} (h : gIsB ne x y H Q) : ∃ a b, x = .bl a ∧ y = .bl b ∧ Q (.bl (ne ^^ decide (a = b))) H := by
  cases x <;> cases y <;> first
    | exact h.elim
    | exact ⟨_, _, rfl, rfl, h⟩
theorem u_isB : OpR X (compareOp .Is) (gIsB false) := OpR.is op_isBl fun x y H Q q => by
  obtain ⟨a, b, e1, e2, q⟩ := gIsB_ex q
  exact ⟨a, b, e1, e2, by simpa using q⟩
theorem u_notB : OpR X (compareOp .IsNot) (gIsB true) := OpR.is op_notBl fun x y H Q q => by
  obtain ⟨a, b, e1, e2, q⟩ := gIsB_ex q
  exact ⟨a, b, e1, e2, by simpa using q⟩
/-! ### isinstance -/
@[irreducible] def isiO (K : PySem.W.Frag) (x : V) (T : String) (H : Hp) (Q : VK) : Prop := ∃ t b, TyX K H x t ∧ PySem.W.kitOne K t (.type T) = some b ∧ Q (.bl b) H
theorem isiO_i {K : PySem.W.Frag} {x : V} {T : String} {H : Hp} {Q : VK} {t : Value} {b : Bool} (h : TyX K H x t) (e : PySem.W.kitOne K t (.type T) = some b) (q : Q (.bl b) H) : isiO K x T H Q := by
  unfold isiO
  exact ⟨t, b, h, e, q⟩
@[irreducible] def isiTO (K : PySem.W.Frag) (x : V) (tp : Addr) (H : Hp) (Q : VK) : Prop := ∃ (A B : String) (t : Value) (b : Bool), H tp = some (.tup [.ty A, .ty B]) ∧ TyX K H x t ∧ PySem.W.kitAny K t [.type A, .type B] = some b ∧ Q (.bl b) H
theorem isiTO_i {K : PySem.W.Frag} {x : V} {tp : Addr} {H : Hp} {Q : VK} {A B : String} {t : Value} {b : Bool} (h : H tp = some (.tup [.ty A, .ty B])) (k : TyX K H x t) (e : PySem.W.kitAny K t [.type A, .type B] = some b) (q : Q (.bl b) H) : isiTO K x tp H Q := by
  unfold isiTO
  exact ⟨A, B, t, b, h, k, e, q⟩
def gIsi (K : PySem.W.Frag) : List V → Hp → VK → Prop := fun vs H Q => match vs with
  | [x, .ty T] => isiO K x T H Q
  | [x, .ref tp] => isiTO K x tp H Q
  | _ => False
theorem c_isi : CallR X (.builtin "isinstance") (gIsi X.K) := by
  intro pins s σ H xs us Q I r h
  match xs, h with
  | [x, .ty T], h =>
    have h : isiO X.K x T H Q := h
    unfold isiO at h
    obtain ⟨t, b, k, e, q⟩ := h
    exact call_isi pins s σ H _ us Q I r ⟨x, .ty T, t, .type T, b, rfl, .ty T, k, e, q⟩
  | [x, .ref tp], h =>
    have h : isiTO X.K x tp H Q := h
    unfold isiTO at h
    obtain ⟨A, B, t, b, h1, k, e, q⟩ := h
    exact call_isiT pins s σ H _ us Q I r ⟨x, tp, [.ty A, .ty B], t, [.type A, .type B], b, rfl, h1, .cons (.ty A) (.cons (.ty B) .nil), k, e, q⟩
theorem tyx_l {K : PySem.W.Frag} {H : Hp} {a : Addr} {xs : List V} (h : SqL K H a xs) : TyX K H (.ref a) (.type "list") := by
  rcases h with (h | ⟨o, h⟩) | ⟨o, its, n, h1, h2, _⟩
  · exact .base (.lst h)
  · exact .base (.frz h)
  · exact .kList h1 h2
theorem tyx_t {K : PySem.W.Frag} {H : Hp} {a : Addr} {xs : List V} (h : SqT K H a xs) : TyX K H (.ref a) (.type "tuple") := by
  rcases h with (h | ⟨o, h⟩) | ⟨o, its, n, h1, h2, _⟩
  · exact .base (.tup h)
  · exact .fTuple h
  · exact .kTuple h1 h2
section
variable {K : PySem.W.Frag} {H : Hp} {Q : VK}
theorem isi_int_int {i : Int} (q : Q (.bl true) H) : isiO K (.int i) "int" H Q := isiO_i (.base (.int i)) (b := true) (by rfl) q
theorem isi_int_bool {i : Int} (q : Q (.bl false) H) : isiO K (.int i) "bool" H Q := isiO_i (.base (.int i)) (b := false) (by kernel_rfl) q
theorem isi_bl_int {i : Bool} (q : Q (.bl true) H) : isiO K (.bl i) "int" H Q := isiO_i (.base (.bl i)) (b := true) (by kernel_rfl) q
theorem isi_bl_bool {i : Bool} (q : Q (.bl true) H) : isiO K (.bl i) "bool" H Q := isiO_i (.base (.bl i)) (b := true) (by rfl) q
theorem isi_str_int {i : Str} (q : Q (.bl false) H) : isiO K (.str i) "int" H Q := isiO_i (.base (.str i)) (b := false) (by kernel_rfl) q
theorem isi_str_bool {i : Str} (q : Q (.bl false) H) : isiO K (.str i) "bool" H Q := isiO_i (.base (.str i)) (b := false) (by kernel_rfl) q
theorem isi_str_str {i : Str} (q : Q (.bl true) H) : isiO K (.str i) "str" H Q := isiO_i (.base (.str i)) (b := true) (by rfl) q
theorem isi_int_str {i : Int} (q : Q (.bl false) H) : isiO K (.int i) "str" H Q := isiO_i (.base (.int i)) (b := false) (by kernel_rfl) q
theorem isi_bl_str {i : Bool} (q : Q (.bl false) H) : isiO K (.bl i) "str" H Q := isiO_i (.base (.bl i)) (b := false) (by kernel_rfl) q
theorem isi_non_str (q : Q (.bl false) H) : isiO K .non "str" H Q := isiO_i (.base .non) (b := false) (by kernel_rfl) q
theorem isi_non_int (q : Q (.bl false) H) : isiO K .non "int" H Q := isiO_i (.base .non) (b := false) (by kernel_rfl) q
theorem isi_non_bool (q : Q (.bl false) H) : isiO K .non "bool" H Q := isiO_i (.base .non) (b := false) (by kernel_rfl) q
theorem isi_non_list (q : Q (.bl false) H) : isiO K .non "list" H Q := isiO_i (.base .non) (b := false) (by kernel_rfl) q
theorem isi_int_list {i : Int} (q : Q (.bl false) H) : isiO K (.int i) "list" H Q := isiO_i (.base (.int i)) (b := false) (by kernel_rfl) q
theorem isi_str_list {i : Str} (q : Q (.bl false) H) : isiO K (.str i) "list" H Q := isiO_i (.base (.str i)) (b := false) (by kernel_rfl) q
theorem isi_bl_list {i : Bool} (q : Q (.bl false) H) : isiO K (.bl i) "list" H Q := isiO_i (.base (.bl i)) (b := false) (by kernel_rfl) q
theorem isi_non_tuple (q : Q (.bl false) H) : isiO K .non "tuple" H Q := isiO_i (.base .non) (b := false) (by kernel_rfl) q
theorem isi_int_tuple {i : Int} (q : Q (.bl false) H) : isiO K (.int i) "tuple" H Q := isiO_i (.base (.int i)) (b := false) (by kernel_rfl) q
theorem isi_str_tuple {i : Str} (q : Q (.bl false) H) : isiO K (.str i) "tuple" H Q := isiO_i (.base (.str i)) (b := false) (by kernel_rfl) q
theorem isi_bl_tuple {i : Bool} (q : Q (.bl false) H) : isiO K (.bl i) "tuple" H Q := isiO_i (.base (.bl i)) (b := false) (by kernel_rfl) q
theorem isi_l_list {a : Addr} {xs : List V} (h : SqL K H a xs) (q : Q (.bl true) H) : isiO K (.ref a) "list" H Q := isiO_i (tyx_l h) (b := true) (by rfl) q
theorem isi_l_tuple {a : Addr} {xs : List V} (h : SqL K H a xs) (q : Q (.bl false) H) : isiO K (.ref a) "tuple" H Q := isiO_i (tyx_l h) (b := false) (by kernel_rfl) q
theorem isi_l_int {a : Addr} {xs : List V} (h : SqL K H a xs) (q : Q (.bl false) H) : isiO K (.ref a) "int" H Q := isiO_i (tyx_l h) (b := false) (by kernel_rfl) q
theorem isi_l_bool {a : Addr} {xs : List V} (h : SqL K H a xs) (q : Q (.bl false) H) : isiO K (.ref a) "bool" H Q := isiO_i (tyx_l h) (b := false) (by kernel_rfl) q
theorem isi_l_str {a : Addr} {xs : List V} (h : SqL K H a xs) (q : Q (.bl false) H) : isiO K (.ref a) "str" H Q := isiO_i (tyx_l h) (b := false) (by kernel_rfl) q
theorem isi_t_list {a : Addr} {xs : List V} (h : SqT K H a xs) (q : Q (.bl false) H) : isiO K (.ref a) "list" H Q := isiO_i (tyx_t h) (b := false) (by kernel_rfl) q
theorem isi_t_tuple {a : Addr} {xs : List V} (h : SqT K H a xs) (q : Q (.bl true) H) : isiO K (.ref a) "tuple" H Q := isiO_i (tyx_t h) (b := true) (by rfl) q
theorem isi_t_int {a : Addr} {xs : List V} (h : SqT K H a xs) (q : Q (.bl false) H) : isiO K (.ref a) "int" H Q := isiO_i (tyx_t h) (b := false) (by kernel_rfl) q
theorem isi_t_bool {a : Addr} {xs : List V} (h : SqT K H a xs) (q : Q (.bl false) H) : isiO K (.ref a) "bool" H Q := isiO_i (tyx_t h) (b := false) (by kernel_rfl) q
theorem isi_t_str {a : Addr} {xs : List V} (h : SqT K H a xs) (q : Q (.bl false) H) : isiO K (.ref a) "str" H Q := isiO_i (tyx_t h) (b := false) (by kernel_rfl) q
theorem isiT_l {a tp : Addr} {xs : List V} (h : H tp = some (.tup [.ty "list", .ty "tuple"])) (k : SqL K H a xs) (q : Q (.bl true) H) : isiTO K (.ref a) tp H Q := isiTO_i h (tyx_l k) (b := true) (by rfl) q
theorem isiT_t {a tp : Addr} {xs : List V} (h : H tp = some (.tup [.ty "list", .ty "tuple"])) (k : SqT K H a xs) (q : Q (.bl true) H) : isiTO K (.ref a) tp H Q := isiTO_i h (tyx_t k) (b := true) (by kernel_rfl) q
end
/-! ### texts and lists: calls -/
def gStr : List V → Hp → VK → Prop := fun vs H Q => match vs with
  | [.str a] => Q (.str a) H
  | [.int i] => cond (i.natAbs.log2 < 1920) (Q (.str (toString i)) H)
  | _ => False
@[irreducible] def allO (K : PySem.W.Frag) (all : Bool) (a : Addr) (H : Hp) (Q : VK) : Prop := ∃ bs : List Bool, SqL K H a (bs.map V.bl) ∧ Q (.bl (if all then bs.all id else bs.any id)) H
theorem allO_i {K : PySem.W.Frag} {all : Bool} {a : Addr} {H : Hp} {Q : VK} {bs : List Bool} (h : SqL K H a (bs.map V.bl)) (q : Q (.bl (if all then bs.all id else bs.any id)) H) : allO K all a H Q := by
  unfold allO
  exact ⟨bs, h, q⟩
def gAll (K : PySem.W.Frag) (all : Bool) : List V → Hp → VK → Prop := fun vs H Q => match vs with
  | [.ref a] => allO K all a H Q
  | _ => False
@[irreducible] def joinO (K : PySem.W.Frag) (z : Str) (p : Addr) (H : Hp) (Q : VK) : Prop := ∃ ys : List Str, SqA K H p (ys.map V.str) ∧ (ys.map (·.length)).sum + ys.length * z.length ≤ 16777216 ∧ Q (.str (Str.join z ys)) H
theorem joinO_i {K : PySem.W.Frag} {z : Str} {p : Addr} {H : Hp} {Q : VK} {ys : List Str} (h : SqA K H p (ys.map V.str)) (hz : (ys.map (·.length)).sum + ys.length * z.length ≤ 16777216) (q : Q (.str (Str.join z ys)) H) : joinO K z p H Q := by
  unfold joinO
  exact ⟨ys, h, hz, q⟩
def gJoin (K : PySem.W.Frag) : V → List V → Hp → VK → Prop := fun x vs H Q => match x, vs with
  | .str z, [.ref p] => joinO K z p H Q
  | _, _ => False
@[irreducible] def clrO (l : Addr) (H : Hp) (Q : VK) : Prop := ∃ xs, H l = some (.lst xs) ∧ Q .non (upd H l (.lst []))
theorem clrO_h {l : Addr} {H : Hp} {Q : VK} {xs : List V} (h : H l = some (.lst xs)) (q : ∀ H', But l H H' → H' l = some (.lst []) → Q .non H') : clrO l H Q := by
  unfold clrO
  exact ⟨xs, h, q _ (But.set (But.refl l H)) upd_same⟩
def gClr : V → List V → Hp → VK → Prop := fun x vs H Q => match x, vs with
  | .ref l, [] => clrO l H Q
  | _, _ => False
@[irreducible] def indO (K : PySem.W.Frag) (a : Addr) (y : V) (H : Hp) (Q : VK) : Prop := ∃ (d : PyData) (ds : List PyData) (j : Nat) (z : PyData), Dp K H (V.ref a) (.list ds) ∧ Dp K H y d ∧
  SeqAt.shaped (.list ds) = true ∧ SeqAt.shaped d = true ∧ ds[j]? = some z ∧ PyData.eqv z d = true ∧ (∀ (m : Nat) (z' : PyData), m < j → ds[m]? = some z' → PyData.eqv z' d = false) ∧ Q (.int (j : Nat)) H
def gInd (K : PySem.W.Frag) : V → List V → Hp → VK → Prop := fun x vs H Q => match x, vs with
  | .ref a, [y] => indO K a y H Q
  | _, _ => False
def uBM0 (K : PySem.W.Frag) (T : String) (r : V → List V → Hp → VK → Prop) (to : TE) : TE := fun σ H Q => to σ H fun x H1 => isL K T x H1 (r x [] H1 Q)
theorem u_bm0 {K : PySem.W.Frag} {e : Expr} {T : String} {r : V → List V → Hp → VK → Prop} {to : TE} (hb : PE X e (tBM0 K T r to)) : PE X e (uBM0 K T r to) := by
  refine pe_is hb fun σ H Q q => ?_
  have q : to σ H fun x H1 => isL K T x H1 (r x [] H1 Q) := q
  have e : (fun (x : V) (H1 : Hp) => isL K T x H1 (r x [] H1 Q)) = fun x H1 => tyV K T x H1 ∧ r x [] H1 Q := by
    funext x H1
    unfold isL
    rfl
  rw [e] at q
  exact q
theorem c_str : CallR X (.type "str") gStr := by
  intro pins s σ H xs us Q I r h
  match xs, h with
  | [.str a], h => exact SkE.call_str_str pins s σ H _ us Q I r ⟨a, rfl, h⟩
  | [.int i], h => exact call_str_int pins s σ H _ us Q I r ⟨i, rfl, (cond_e h).1, (cond_e h).2⟩
theorem c_all (hc : X.calm = true) : CallR X (.builtin "all") (gAll X.K true) := CallR.is (cr_all hc) fun vs H Q q => by
  match vs, q with
  | [.ref a], q =>
    have q : allO X.K true a H Q := q
    unfold allO at q
    obtain ⟨bs, h, q⟩ := q
    exact ⟨a, bs, rfl, h, q⟩
theorem c_any (hc : X.calm = true) : CallR X (.builtin "any") (gAll X.K false) := CallR.is (cr_any hc) fun vs H Q q => by
  match vs, q with
  | [.ref a], q =>
    have q : allO X.K false a H Q := q
    unfold allO at q
    obtain ⟨bs, h, q⟩ := q
    exact ⟨a, bs, rfl, h, q⟩
theorem m_join : MtR X "str.join" (gJoin X.K) := MtR.is mt_join fun x vs H Q q => by
  cases x with
  | str z =>
    match vs, q with
    | [.ref p], q =>
      have q : joinO X.K z p H Q := q
      unfold joinO at q
      obtain ⟨ys, h, hz, q⟩ := q
      exact ⟨z, p, ys, rfl, rfl, h, hz, by rw [TL.join_eq]; exact q⟩
  | _ => exact q.elim
theorem m_clear : MtR X "list.clear" gClr := MtR.is mt_clear fun x vs H Q q => by
  cases x with
  | ref l =>
    match vs, q with
    | [], q =>
      have q : clrO l H Q := q
      unfold clrO at q
      obtain ⟨xs, h, q⟩ := q
      exact ⟨l, xs, rfl, rfl, h, q⟩
  | _ => exact q.elim
theorem m_index (hu : X.A.units + 65 < cLine) : MtR X "list.index" (gInd X.K) := MtR.is (mt_indexD hu) fun x vs H Q q => by
  cases x with
  | ref a =>
    match vs, q with
    | [y], q =>
      have q : indO X.K a y H Q := q
      unfold indO at q
      obtain ⟨d, ds, j, z, h⟩ := q
      exact ⟨a, y, d, ds, j, z, rfl, rfl, h⟩
  | _ => exact q.elim
/-! ### f-texts -/
def uFmt (te : TE) : TE := fun σ H Q => te σ H fun x H1 => match x with
  | .str y => cond (y.length ≤ sizeLine) (Q (.str y) H1)
  | .int i => cond (i.natAbs.log2 < 1920) (Q (.str (toString i)) H1)
  | _ => False
theorem pe_fmtU {e : Expr} {te : TE} {pos : Pos} (he : PE X e te) : PE X (.FormattedValue e (-1) none pos) (uFmt te) := by
  refine pe_is (pe_fmt he) fun σ H Q q => ?_
  have q : te σ H fun x H1 => (match x with
    | .str y => cond (y.length ≤ sizeLine) (Q (.str y) H1)
    | .int i => cond (i.natAbs.log2 < 1920) (Q (.str (toString i)) H1)
    | _ => False) := q
  have e : (fun (x : V) (H1 : Hp) => (match x with
    | .str y => cond (y.length ≤ sizeLine) (Q (.str y) H1)
    | .int i => cond (i.natAbs.log2 < 1920) (Q (.str (toString i)) H1)
    | _ => False)) = fun x H1 => (∃ y : Str, x = .str y ∧ y.length ≤ sizeLine ∧ Q (.str y) H1) ∨ ∃ i : Int, x = .int i ∧ i.natAbs.log2 < 1920 ∧ Q (.str (toString i)) H1 := by
    funext x H1
    apply propext
    constructor
    · intro z
      cases x with
      | str y => exact .inl ⟨y, rfl, (cond_e z).1, (cond_e z).2⟩
      | int i => exact .inr ⟨i, rfl, (cond_e z).1, (cond_e z).2⟩
      | _ => exact z.elim
    · rintro (⟨y, rfl, h1, h2⟩ | ⟨i, rfl, h1, h2⟩)
      · exact cond_i h1 h2
      · exact cond_i h1 h2
  rw [e] at q
  exact q
def uJs : List TE → Str → L2.St → Hp → (Str → Hp → Prop) → Prop
  | [], acc, _, H, Q => Q acc H
  | t :: ts, acc, σ, H, Q => t σ H fun x H1 => match x with
    | .str y => cond ((acc ++ y).length ≤ sizeLine) (uJs ts (acc ++ y) σ H1 Q)
    | _ => False
theorem uJs_eq : ∀ (ts : List TE) (acc : Str) (σ : L2.St) (H : Hp) (Q : Str → Hp → Prop), uJs ts acc σ H Q = tJs ts acc σ H Q
  | [], acc, σ, H, Q => rfl
  | t :: ts, acc, σ, H, Q => by
    show (t σ H fun x H1 => _) = t σ H fun x H1 => _
    congr 1
    funext x H1
    apply propext
    constructor
    · intro z
      cases x with
      | str y =>
        have z : cond ((acc ++ y).length ≤ sizeLine) (uJs ts (acc ++ y) σ H1 Q) := z
        exact ⟨y, rfl, (cond_e z).1, by rw [← uJs_eq]; exact (cond_e z).2⟩
      | _ => exact z.elim
    · rintro ⟨y, rfl, h1, h2⟩
      exact cond_i h1 (by rw [uJs_eq]; exact h2)
theorem pe_joinedU {v1 v2 : Expr} {rest : List Expr} {ts : List TE} {pos : Pos} (h : PJ X (v1 :: v2 :: rest) ts) : PE X (.JoinedStr (v1 :: v2 :: rest) pos) (fun σ H Q => uJs ts Str.empty σ H fun out H1 => Q (.str out) H1) :=
  pe_is (pe_joined h) fun σ H Q q => by
    show tJs ts Str.empty σ H fun out H1 => Q (.str out) H1
    rw [← uJs_eq]
    exact q
end
end U

set_option Elab.async false
set_option linter.all false
set_option maxRecDepth 100000
set_option maxHeartbeats 4000000
namespace U
open PySem PySem.Spec PyProof.Rows L2
/-! ### cuts -/
theorem cutV_to {xs : List V} {i : Int} (h : 0 ≤ i) : cutV xs none (some i) = xs.take i.toNat := by
  obtain ⟨k, rfl⟩ := Int.eq_ofNat_of_zero_le h
  unfold cutV
  rw [HT.sIx_none, HT.sIx_nat, List.drop_zero, Nat.sub_zero, Int.toNat_natCast]
  by_cases hk : k ≤ xs.length
  · rw [Nat.min_eq_left hk]
  · rw [Nat.min_eq_right (by omega), List.take_of_length_le (Nat.le_refl _), List.take_of_length_le (by omega)]
theorem cutV_from {xs : List V} {i : Int} (h : 0 ≤ i) : cutV xs (some i) none = xs.drop i.toNat := by
  obtain ⟨k, rfl⟩ := Int.eq_ofNat_of_zero_le h
  unfold cutV
  rw [HT.sIx_none, HT.sIx_nat, Int.toNat_natCast]
  by_cases hk : k ≤ xs.length
  · rw [Nat.min_eq_left hk, List.take_of_length_le (by rw [List.length_drop]; omega)]
  · rw [Nat.min_eq_right (by omega), List.drop_of_length_le (Nat.le_refl _), List.drop_of_length_le (by omega)]
    simp
/-- a text by its signs -/
abbrev tx (l : List Nat) : Str := ⟨l.toArray⟩
theorem tx_inj {a b : List Nat} : tx a = tx b ↔ a = b := by simp [tx]
theorem tx_app {a b : List Nat} : (tx a ++ tx b : Str) = tx (a ++ b) := by
  show (⟨a.toArray ++ b.toArray⟩ : Str) = _
  simp [tx]
theorem tx_len {a : List Nat} : (tx a).length = a.length := rfl
theorem tx_tl {a : List Nat} : TL.tl (tx a) = a := rfl
theorem tx_cps {a : List Nat} : (tx a).cps.toList = a := rfl
theorem str_tx (z : Str) : ∃ l, z = tx l := ⟨z.cps.toList, rfl⟩
theorem cutS_to {l : List Nat} {i : Int} (h : 0 ≤ i) : cutS (tx l) none (some i) = tx (l.take i.toNat) := by
  obtain ⟨k, rfl⟩ := Int.eq_ofNat_of_zero_le h
  unfold cutS
  rw [HT.sIx_none, HT.sIx_nat, Nat.sub_zero, Int.toNat_natCast]
  show tx _ = tx _
  rw [tx_inj, tx_cps, List.drop_zero, tx_len]
  by_cases hk : k ≤ l.length
  · rw [Nat.min_eq_left hk]
  · rw [Nat.min_eq_right (by omega), List.take_of_length_le (Nat.le_refl _), List.take_of_length_le (by omega)]
theorem cutS_from {l : List Nat} {i : Int} (h : 0 ≤ i) : cutS (tx l) (some i) none = tx (l.drop i.toNat) := by
  obtain ⟨k, rfl⟩ := Int.eq_ofNat_of_zero_le h
  unfold cutS
  rw [HT.sIx_none, HT.sIx_nat, Int.toNat_natCast]
  show tx _ = tx _
  rw [tx_inj, tx_cps, tx_len]
  by_cases hk : k ≤ l.length
  · rw [Nat.min_eq_left hk, List.take_of_length_le (by rw [List.length_drop]; omega)]
  · rw [Nat.min_eq_right (by omega), List.drop_of_length_le (Nat.le_refl _), List.drop_of_length_le (by omega)]
    simp
theorem cutS_mid {l : List Nat} {i j : Int} (h : 0 ≤ i) (hj : 0 ≤ j) : cutS (tx l) (some i) (some j) = tx ((l.drop i.toNat).take (j.toNat - i.toNat)) := by
  obtain ⟨a, rfl⟩ := Int.eq_ofNat_of_zero_le h
  obtain ⟨b, rfl⟩ := Int.eq_ofNat_of_zero_le hj
  unfold cutS
  rw [HT.sIx_nat, HT.sIx_nat, Int.toNat_natCast, Int.toNat_natCast]
  show tx _ = tx _
  rw [tx_inj, tx_cps, tx_len]
  by_cases ha : a ≤ l.length
  · rw [Nat.min_eq_left ha]
    by_cases hb : b ≤ l.length
    · rw [Nat.min_eq_left hb]
    · rw [Nat.min_eq_right (by omega), List.take_of_length_le (by rw [List.length_drop]; omega), List.take_of_length_le (by rw [List.length_drop]; omega)]
  · rw [show min a l.length = l.length from Nat.min_eq_right (by omega), List.drop_of_length_le (Nat.le_refl _), List.drop_of_length_le (show l.length ≤ a by omega)]
    simp
theorem cutS_len (z : Str) (lo hi : Option Int) : (cutS z lo hi).length ≤ z.length := by
  unfold cutS
  show (List.take _ _).toArray.size ≤ _
  rw [List.size_toArray, List.length_take, List.length_drop]
  have : z.cps.toList.length = z.length := by simp [Str.length]
  omega
theorem join_tx0 : ∀ (ls : List (List Nat)), Str.join (tx []) (ls.map tx) = tx ls.flatten
  | [] => rfl
  | [a] => by simp [Str.join]
  | a :: b :: r => by
    show tx a ++ tx [] ++ Str.join (tx []) ((b :: r).map tx) = _
    rw [join_tx0 (b :: r), tx_app, tx_app, List.append_nil]
    rfl
/-! ### items -/
theorem atI_nat {α : Type} {xs : List α} {i : Int} (h0 : 0 ≤ i) (h1 : i < xs.length) : atI xs i = xs[i.toNat]? := by
  unfold atI ixN
  rw [if_pos h0, if_pos h1]
  rfl
theorem atI_neg {α : Type} {xs : List α} {i : Int} (h0 : i < 0) (h1 : -(xs.length : Int) ≤ i) : atI xs i = xs[(i + xs.length).toNat]? := by
  unfold atI ixN
  rw [if_neg (by omega), if_pos h1]
  rfl
theorem opt_at {α : Type} {xs : List α} {i : Int} {A : α → Prop} (h0 : 0 ≤ i) (h1 : i < xs.length) (h : ∀ v, xs[i.toNat]? = some v → A v) : opt (atI xs i) A := by
  rw [atI_nat h0 h1]
  have hl : i.toNat < xs.length := by omega
  exact opt_i (List.getElem?_eq_getElem hl) (h _ (List.getElem?_eq_getElem hl))
theorem opt_last {α : Type} {xs : List α} {i : Int} {A : α → Prop} (h0 : i < 0) (h1 : -(xs.length : Int) ≤ i) (h : ∀ v, xs[(i + xs.length).toNat]? = some v → A v) : opt (atI xs i) A := by
  rw [atI_neg h0 h1]
  have hl : (i + xs.length).toNat < xs.length := by omega
  exact opt_i (List.getElem?_eq_getElem hl) (h _ (List.getElem?_eq_getElem hl))
theorem opt_map {α β : Type} {f : α → β} {xs : List α} {i : Int} {A : β → Prop} (h0 : 0 ≤ i) (h1 : i < xs.length) (h : ∀ v, xs[i.toNat]? = some v → A (f v)) : opt (atI (xs.map f) i) A :=
  opt_at h0 (by rw [List.length_map]; exact h1) fun v e => by
    rw [List.getElem?_map] at e
    obtain ⟨u, e1, e2⟩ := Option.map_eq_some_iff.mp e
    rw [← e2]
    exact h u e1
/-- an item of a short written row, whichever it is -/
theorem opt_any {α : Type} {xs : List α} {i : Int} {A : α → Prop} (h0 : 0 ≤ i) (h1 : i < xs.length) (h : ∀ v ∈ xs, A v) : opt (atI xs i) A :=
  opt_at h0 h1 fun v e => h v (List.mem_of_getElem? e)
/-- the signs of a text read by an index -/
theorem ixS_i {l : List Nat} {i : Int} {H : Hp} {Q : VK} (hz : (tx l).length ≤ sizeLine) (h : opt (atI l i) fun c => Q (.str (tx [c])) H) : ixS (tx l) i H Q := by
  unfold ixS
  exact cond_i hz h
theorem catS_i {a b : List Nat} {H : Hp} {Q : VK} (hz : (tx a).length + (tx b).length ≤ sizeLine) (h : Q (.str (tx (a ++ b))) H) : catS (tx a) (tx b) H Q := by
  unfold catS
  rw [tx_app]
  exact ⟨hz, h⟩
theorem slS_to {l : List Nat} {i : Int} {H : Hp} {Q : VK} (hz : (tx l).length ≤ sizeLine) (h : 0 ≤ i) (q : Q (.str (tx (l.take i.toNat))) H) : slS (tx l) none (some i) H Q := by
  unfold slS
  rw [cutS_to h]
  exact ⟨hz, q⟩
theorem slS_from {l : List Nat} {i : Int} {H : Hp} {Q : VK} (hz : (tx l).length ≤ sizeLine) (h : 0 ≤ i) (q : Q (.str (tx (l.drop i.toNat))) H) : slS (tx l) (some i) none H Q := by
  unfold slS
  rw [cutS_from h]
  exact ⟨hz, q⟩
theorem slS_mid {l : List Nat} {i j : Int} {H : Hp} {Q : VK} (hz : (tx l).length ≤ sizeLine) (h : 0 ≤ i) (hj : 0 ≤ j) (q : Q (.str (tx ((l.drop i.toNat).take (j.toNat - i.toNat)))) H) : slS (tx l) (some i) (some j) H Q := by
  unfold slS
  rw [cutS_mid h hj]
  exact ⟨hz, q⟩
theorem tx_small {l : List Nat} (h : l.length ≤ 10000) : (tx l).length ≤ sizeLine := Nat.le_trans h (by decide)
theorem tx_small2 {a b : List Nat} (h : a.length + b.length ≤ 10000) : (tx a).length + (tx b).length ≤ sizeLine := Nat.le_trans h (by decide)
theorem lst_small {n : Nat} (h : n ≤ 10000) : n ≤ sizeLine := Nat.le_trans h (by decide)
theorem lst_small1 {n : Nat} (h : n ≤ 10000) : n < sizeLine := Nat.lt_of_le_of_lt h (by decide)
end U
namespace U
open PySem PySem.Spec PyProof.Rows L2
/-- the signs as texts of one sign -/
abbrev sg (c : Nat) : Str := tx [c]
theorem join_sg (l : List Nat) : Str.join (tx []) (l.map sg) = tx l := by
  have h := join_tx0 (l.map fun c => [c])
  rw [List.map_map] at h
  have e : ∀ l : List Nat, (l.map fun c => [c]).flatten = l := by
    intro l
    induction l with
    | nil => rfl
    | cons a r ih => simp_all
  rw [e l] at h
  exact h
theorem sum_sg : ∀ (l : List Nat), ((l.map sg).map fun z => z.length).sum = l.length
  | [] => rfl
  | a :: r => by
    rw [List.map_cons, List.map_cons, List.sum_cons, sum_sg r, List.length_cons]
    show 1 + _ = _
    omega
/-- small letters alone -/
def Lets (l : List Nat) : Prop := ∀ c ∈ l, 97 ≤ c ∧ c < 123
def abcL : List Nat := [97, 98, 99, 100, 101, 102, 103, 104, 105, 106, 107, 108, 109, 110, 111, 112, 113, 114, 115, 116, 117, 118, 119, 120, 121, 122]
theorem abcL_lets : Lets abcL := by
  have h : ∀ c ∈ abcL, 97 ≤ c ∧ c < 123 := by decide
  exact h
theorem abcL_len : abcL.length = 26 := rfl
theorem abc_tx : Str.ofString "abcdefghijklmnopqrstuvwxyz" = tx abcL := by decide +kernel
theorem nil_tx : Str.ofString "" = tx [] := by decide +kernel
theorem Lets.app {a b : List Nat} (ha : Lets a) (hb : Lets b) : Lets (a ++ b) := fun c h => (List.mem_append.mp h).elim (ha c) (hb c)
theorem Lets.take {a : List Nat} (ha : Lets a) {n : Nat} : Lets (a.take n) := fun c h => ha c (List.mem_of_mem_take h)
theorem Lets.drop {a : List Nat} (ha : Lets a) {n : Nat} : Lets (a.drop n) := fun c h => ha c (List.mem_of_mem_drop h)
theorem Lets.one {c : Nat} (h : 97 ≤ c ∧ c < 123) : Lets [c] := fun d hd => by
  rw [List.mem_singleton.mp hd]; exact h
theorem Lets.get {a : List Nat} (ha : Lets a) {i : Nat} {c : Nat} (h : a[i]? = some c) : 97 ≤ c ∧ c < 123 := ha c (List.mem_of_getElem? h)
end U

set_option Elab.async false
set_option linter.all false
set_option maxRecDepth 100000
set_option maxHeartbeats 4000000
namespace U
open PySem PySem.Spec PyProof.Rows L2
/-! ### comprehensions -/
theorem takes_no {X : Cx} : Takes X (fun _ _ _ _ => False) := fun _ _ h => by
  obtain ⟨_, _, _, _, _, _, _, _, _, _, _, _, _, _, _, _, w⟩ := h
  exact w.elim
@[irreducible] def wipeO (e A : Prop) : Prop := e ∧ A
theorem wipeO_i {e A : Prop} (h : e) (a : A) : wipeO e A := by
  unfold wipeO
  exact ⟨h, a⟩
/-- a turn's value goes to the new list -/
@[irreducible] def lcEnd (D : Addr) (N : Hp → Prop) (y : V) (H : Hp) : Prop := ∃ acc, H D = some (.lst acc) ∧ acc.length < sizeLine ∧ N (upd H D (.lst (acc ++ [y])))
theorem lcEnd_i {D : Addr} {N : Hp → Prop} {y : V} {H : Hp} {acc : List V} (h : H D = some (.lst acc)) (hz : acc.length < sizeLine) (q : ∀ H', But D H H' → H' D = some (.lst (acc ++ [y])) → N H') : lcEnd D N y H := by
  unfold lcEnd
  exact ⟨acc, h, hz, q _ (But.set (But.refl D H)) upd_same⟩
theorem brnIf {b : Bool} {A B : Prop} : brn b A B = if b = true then A else B := by
  unfold brn
  cases b <;> rfl
section
variable {J : It} {n : Nat} {G : Hp → Prop} {Y : Nat → Hp → V → Hp → Prop}
theorem lc_go (w : Walk J n G Y) {g : TG} {tt : TT} {te : TE} {vs : List Nat} {σ : L2.St} {H1 : Hp} {Q : Addr → Hp → Prop} (Pv : Addr → Nat → Hp → Prop)
    (h0 : ∀ D H', Nw H1 D → Ext H1 H' → H' D = some (.lst []) → Pv D 0 H') (hG : ∀ D i H, Nw H1 D → i ≤ n → Pv D i H → G H)
    (hs : ∀ D i x H H', Nw H1 D → i < n → Pv D i H → Y i H x H' → g x (wipe σ vs) H' fun σ2 H2 => wipeO (wipe σ2 vs = wipe σ vs) (tt σ2 H2 fun b H3 => brn b (te σ2 H3 fun y H4 => lcEnd D (Pv D (i + 1)) y H4) (Pv D (i + 1) H3)))
    (hd : ∀ D H, Nw H1 D → Pv D n H → Q D H) :
    ∀ D, H1 D = none → ∃ W : Nat → Nat → Hp → Prop, (∃ m, W 0 m (upd H1 D (.lst []))) ∧ ∀ i m H, W i m H →
      (J.stop i H ∧ Q D H) ∨ (J.go i H ∧ ∃ Nx : Hp → Prop, (∀ H', Nx H' → ∃ m', m' < m ∧ W (i + 1) m' H') ∧ ∀ x H', J.yld i H x H' → g x (wipe σ vs) H' fun σ2 H2 => wipe σ2 vs = wipe σ vs ∧ tt σ2 H2 fun b H3 =>
        if b = true then te σ2 H3 fun y H4 => ∃ acc, H4 D = some (.lst acc) ∧ acc.length < sizeLine ∧ Nx (upd H4 D (.lst (acc ++ [y]))) else Nx H3) := by
  intro D hD
  have nD : Nw H1 D := ⟨hD⟩
  refine lc_it w (Qd := fun H => Q D H) (Pv D) (h0 D _ nD ⟨Same.new (Same.refl H1) hD⟩ upd_same) (fun i H hi p => hG D i H nD hi p) (fun i x H H' hi p y => ?_) (fun H p => hd D H nD p)
  have q := hs D i x H H' nD hi p y
  unfold wipeO lcEnd at q
  simp only [brnIf] at q
  exact q
end
section
variable {X : Cx} {a b e o : Expr} {ta tb te to : TE} {t : TA} {pos : Pos} {tg : Expr}
theorem pe_ixK (K : PySem.W.Frag) (h : X.K = K) (ha : PE X a ta) (hb : PE X b tb) (hs : PlainIx b := by exact fun _ _ => rfl) : PE X (.Subscript a b pos) (tOp (gIx K) ta tb) := by subst h; exact pe_ix' ha hb hs
theorem pt_truthK (K : PySem.W.Frag) (h : X.K = K) (ha : PE X a ta) (he : ∀ whole, isTrue a X.env whole = (do let v ← whole; standAt a.pos; holding [v] (truthy v)) := by intro _; rfl) : PT X a (tTrue K ta) := by subst h; exact pt_truth ha he
theorem u_slK (K : PySem.W.Frag) (h : X.K = K) : SlR X (gSl K) := by subst h; exact u_sl
theorem c_lenK (K : PySem.W.Frag) (h : X.K = K) : CallR X (.builtin "len") (gLen K) := by subst h; exact c_len
theorem c_listK (K : PySem.W.Frag) (h : X.K = K) : CallR X (.type "list") (gList K) := by subst h; exact c_list
theorem c_tupleK (K : PySem.W.Frag) (h : X.K = K) : CallR X (.type "tuple") (gTuple K) := by subst h; exact c_tuple
theorem c_isiK (K : PySem.W.Frag) (h : X.K = K) : CallR X (.builtin "isinstance") (gIsi K) := by subst h; exact c_isi
theorem c_allK (K : PySem.W.Frag) (h : X.K = K) (hc : X.calm = true) : CallR X (.builtin "all") (gAll K true) := by subst h; exact c_all hc
theorem c_anyK (K : PySem.W.Frag) (h : X.K = K) (hc : X.calm = true) : CallR X (.builtin "any") (gAll K false) := by subst h; exact c_any hc
theorem c_reprK {k : Nat} (K : PySem.W.Frag) (h : X.K = K) (hr : Rm k X.A) : CallR X (.builtin "repr") (gRep K) := by subst h; exact c_repr hr
theorem u_eqDK (K : PySem.W.Frag) (h : X.K = K) (hu : X.A.units + 65 < cLine) : OpR X (compareOp .Eq) (eqO K false) := by subst h; exact u_eqD (by omega)
theorem u_neDK (K : PySem.W.Frag) (h : X.K = K) (hu : X.A.units + 65 < cLine) : OpR X (compareOp .NotEq) (eqO K true) := by subst h; exact u_neD (by omega)
theorem u_inK (K : PySem.W.Frag) (h : X.K = K) (hu : X.A.units + 65 < cLine) : OpR X (compareOp .In) (inO K false) := by subst h; exact u_in hu
theorem u_notinK (K : PySem.W.Frag) (h : X.K = K) (hu : X.A.units + 65 < cLine) : OpR X (compareOp .NotIn) (inO K true) := by subst h; exact u_notin hu
theorem m_joinK (K : PySem.W.Frag) (h : X.K = K) : MtR X "str.join" (gJoin K) := by subst h; exact m_join
theorem m_indexK (K : PySem.W.Frag) (h : X.K = K) (hu : X.A.units + 65 < cLine) : MtR X "list.index" (gInd K) := by subst h; exact m_index hu
theorem pi_seqK (K : PySem.W.Frag) (h : X.K = K) {l : Expr} {tl : TE} (hl : PE X l tl) : PI X tg l (iSeq K tl) := by subst h; exact pi_seq hl
theorem u_bmK (K : PySem.W.Frag) (h : X.K = K) {T : String} {r : V → List V → Hp → VK → Prop} (hb : PE X e (tBM X.K T r to t)) : PE X e (uBM K T r to t) := by subst h; exact u_bm hb
theorem u_bm0K (K : PySem.W.Frag) (h : X.K = K) {T : String} {r : V → List V → Hp → VK → Prop} (hb : PE X e (tBM0 X.K T r to)) : PE X e (uBM0 K T r to) := by subst h; exact u_bm0 hb
end
/-! ### while -/
def uWhile (c : TT) (tb : TS) : TS := fun D σ H => ∃ W : Nat → L2.St → Hp → Prop, (∃ m, W m σ H) ∧ ∀ m σ H, W m σ H →
  c σ H fun b H1 => brn b (tb { D with nx := fun σ' H' => ∃ m', m' < m ∧ W m' σ' H', ct := fun σ' H' => ∃ m', m' < m ∧ W m' σ' H', bk := D.nx } σ H1) (D.nx σ H1)
theorem ps_whileU {X : Cx} {c : Expr} {body : List Stmt} {tc : TT} {tb : TS} {pos : Pos} (hp : PassesOwn (model X.prog X.w) X.A X.env X.xe) (hc : PT X c tc) (hb : PSs X body tb) : PS X (.While c body [] pos) (uWhile tc tb) := by
  refine ⟨fun pins s σ H D I h => ?_⟩
  obtain ⟨W, ⟨m0, w0⟩, turn⟩ := h
  refine wpAny_While (codeAny_whileLoop (fun n s' => ∃ σ' H', Inv X pins σ' H' s' ∧ W n σ' H') ?_ m0 ⟨σ, H, I, w0⟩)
  rintro n s1 ⟨σ1, H1, I1, w1⟩
  refine wpAny_passesOwn hp (thn (hc.run pins s1 σ1 H1 _ I1 (turn n σ1 H1 w1)) fun b s2 ⟨H2, I2, q2⟩ => ?_)
  have q2 := brn_e q2
  cases b with
  | true =>
    rw [if_pos rfl]
    refine wpAny_passesOwn hp (thn (hb.run pins s2 σ1 H2 _ I2 (q2.1 rfl)) fun f s3 q3 => ?_)
    cases f with
    | next =>
      obtain ⟨σ3, H3, I3, m', hm, w3⟩ := q3
      exact ⟨m', hm, σ3, H3, I3, w3⟩
    | cont =>
      obtain ⟨σ3, H3, I3, m', hm, w3⟩ := q3
      exact ⟨m', hm, σ3, H3, I3, w3⟩
    | brk => exact q3
    | ret v => exact q3
  | false =>
    rw [if_neg (by simp)]
    exact wpAny_passesOwn hp (wpAny_execs_nil ⟨σ1, H2, I2, q2.2 rfl⟩)
/-- what was a list or a tuple still is the same -/
structure Keep (K : PySem.W.Frag) (a : Addr) (H H' : Hp) : Prop where
  l : ∀ ys, SqL K H a ys → SqL K H' a ys
  t : ∀ ys, SqT K H a ys → SqT K H' a ys
theorem Same.keep {K : PySem.W.Frag} {a : Addr} {H H' : Hp} (s : Same H H') : Keep K a H H' := ⟨fun _ h => Same.seq s h, fun _ h => Same.sqt s h⟩
theorem Ext.keep {K : PySem.W.Frag} {a : Addr} {H H' : Hp} (s : Ext H H') : Keep K a H H' := Same.keep s.s
/-- kept since it is frozen -/
theorem Keep.a {K : PySem.W.Frag} {a : Addr} {H H' : Hp} {xs : List V} (k : Keep K a H H') (h : SqA K H a xs) : SqA K H' a xs := h.elim (fun z => .inl (k.l _ z)) fun z => .inr (k.t _ z)
/-- a for over a list or a tuple -/
theorem for_sqa {K : PySem.W.Frag} {a : Addr} {xs : List V} {g : TG} {tb : TS} {D : Ends} {σ : L2.St} {H : Hp} (hx : SqA K H a xs) (Pv : Nat → L2.St → Hp → Prop) (h0 : Pv 0 σ H) (hk : ∀ i σ H', Pv i σ H' → (SqL K H a xs → SqL K H' a xs) ∧ (SqT K H a xs → SqT K H' a xs))
    (hs : ∀ i x σ H, xs[i]? = some x → Pv i σ H → g x σ H fun σ2 H2 => tb { D with nx := Pv (i + 1), ct := Pv (i + 1), bk := D.nx } σ2 H2) (hd : ∀ σ H, Pv xs.length σ H → D.nx σ H) :
    seqIt K a H fun J H1 => ∃ W : Nat → Nat → L2.St → Hp → Prop, (∃ m, W 0 m σ H1) ∧ ∀ i m σ H, W i m σ H →
      (J.stop i H ∧ D.nx σ H) ∨ (J.go i H ∧ ∃ N : L2.St → Hp → Prop, (∀ σ' H', N σ' H' → ∃ m', m' < m ∧ W (i + 1) m' σ' H') ∧ ∀ x H', J.yld i H x H' → g x σ H' fun σ2 H2 => tb { D with nx := N, ct := N, bk := D.nx } σ2 H2) := by
  rcases hx with hx | hx
  · exact seqIt_l hx (for_list Pv h0 (fun i σ H' _ p => (hk i σ H' p).1 hx) hs hd)
  · exact seqIt_t hx (for_tup Pv h0 (fun i σ H' _ p => (hk i σ H' p).2 hx) hs hd)
theorem keep_ext {K : PySem.W.Frag} {a : Addr} {xs : List V} {H H' : Hp} (s : Ext H H') : (SqL K H a xs → SqL K H' a xs) ∧ (SqT K H a xs → SqT K H' a xs) := ⟨fun h => Same.seq s.s h, fun h => Same.sqt s.s h⟩
/-- a comprehension over a list or a tuple -/
theorem lc_sqa {K : PySem.W.Frag} {a : Addr} {xs : List V} {H1 : Hp} (hx : SqA K H1 a xs) {g : TG} {tt : TT} {te : TE} {vs : List Nat} {σ : L2.St} {Q : Addr → Hp → Prop} (Pv : Addr → Nat → Hp → Prop)
    (h0 : ∀ D H', Nw H1 D → Ext H1 H' → H' D = some (.lst []) → Pv D 0 H') (hG : ∀ D i H, Nw H1 D → Pv D i H → (SqL K H1 a xs → SqL K H a xs) ∧ (SqT K H1 a xs → SqT K H a xs))
    (hs : ∀ D i x H, Nw H1 D → xs[i]? = some x → Pv D i H → g x (wipe σ vs) H fun σ2 H2 => wipeO (wipe σ2 vs = wipe σ vs) (tt σ2 H2 fun b H3 => brn b (te σ2 H3 fun y H4 => lcEnd D (Pv D (i + 1)) y H4) (Pv D (i + 1) H3)))
    (hd : ∀ D H, Nw H1 D → Pv D xs.length H → Q D H) :
    seqIt K a H1 fun J H1 => ∀ D, H1 D = none → ∃ W : Nat → Nat → Hp → Prop, (∃ m, W 0 m (upd H1 D (.lst []))) ∧ ∀ i m H, W i m H →
      (J.stop i H ∧ Q D H) ∨ (J.go i H ∧ ∃ Nx : Hp → Prop, (∀ H', Nx H' → ∃ m', m' < m ∧ W (i + 1) m' H') ∧ ∀ x H', J.yld i H x H' → g x (wipe σ vs) H' fun σ2 H2 => wipe σ2 vs = wipe σ vs ∧ tt σ2 H2 fun b H3 =>
        if b = true then te σ2 H3 fun y H4 => ∃ acc, H4 D = some (.lst acc) ∧ acc.length < sizeLine ∧ Nx (upd H4 D (.lst (acc ++ [y]))) else Nx H3) := by
  rcases hx with hx | hx
  · refine seqIt_l hx (lc_go walk_list Pv h0 (fun D i H n _ p => (hG D i H n p).1 hx) (fun D i x H H' n hi p y => ?_) hd)
    obtain ⟨rfl, hy⟩ := y
    exact hs D i x _ n hy p
  · refine seqIt_t hx (lc_go walk_tup Pv h0 (fun D i H n _ p => (hG D i H n p).2 hx) (fun D i x H H' n hi p y => ?_) hd)
    obtain ⟨rfl, hy⟩ := y
    exact hs D i x _ n hy p
end U

set_option Elab.async false
set_option linter.all false
set_option maxRecDepth 100000
set_option maxHeartbeats 4000000
namespace U
open PySem PySem.Spec PyProof.Rows L2
/-! ### the plain picture: trees, words, deeds -/
/-- a tree: the parent of each place, none for the root -/
abbrev Tr := List (Option Nat)
def pV : Option Nat → V
  | none => .non
  | some j => .int j
def pD : Option Nat → PyData
  | none => .none
  | some j => .int j
structure TreeOk (T : Tr) : Prop where
  pos : 0 < T.length
  root : T[0]? = some none
  up : ∀ k, 0 < k → k < T.length → ∃ j, j < k ∧ T[k]? = some (some j)
theorem TreeOk.one : TreeOk [none] := ⟨by decide, rfl, fun k h0 h1 => by have : k < 1 := h1; omega⟩
theorem TreeOk.snoc {T : Tr} (h : TreeOk T) {j : Nat} (hj : j < T.length) : TreeOk (T ++ [some j]) := by
  refine ⟨by simp, ?_, fun k h0 h1 => ?_⟩
  · rw [List.getElem?_append_left h.pos]
    exact h.root
  · by_cases hk : k < T.length
    · obtain ⟨i, h2, h3⟩ := h.up k h0 hk
      exact ⟨i, h2, by rw [List.getElem?_append_left hk]; exact h3⟩
    · have e : k = T.length := by
        rw [List.length_append] at h1
        have : [some j].length = 1 := rfl
        omega
      subst e
      exact ⟨j, hj, by rw [List.getElem?_append_right (Nat.le_refl _), Nat.sub_self]; rfl⟩
/-- the places above k, the nearest first -/
def ups (T : Tr) (k : Nat) : List Nat := match T[k]? with
  | some (some j) => if j < k then j :: ups T j else []
  | _ => []
termination_by k
theorem ups_root {T : Tr} {k : Nat} (h : T[k]? = some none) : ups T k = [] := by
  rw [ups, h]
theorem ups_up {T : Tr} {k j : Nat} (h : T[k]? = some (some j)) (hj : j < k) : ups T k = j :: ups T j := by
  rw [ups, h]
  simp [hj]
theorem TreeOk.case {T : Tr} (h : TreeOk T) {k : Nat} (hk : k < T.length) : (k = 0 ∧ T[k]? = some none) ∨ (0 < k ∧ ∃ j, j < k ∧ T[k]? = some (some j)) := by
  by_cases h0 : k = 0
  · subst h0; exact .inl ⟨rfl, h.root⟩
  · exact .inr ⟨by omega, h.up k (by omega) hk⟩
theorem ups_lt {T : Tr} (h : TreeOk T) : ∀ (k : Nat), k < T.length → ∀ j ∈ ups T k, j < k := by
  intro k
  induction k using Nat.strongRecOn with
  | _ k ih =>
    intro hk j hj
    rcases h.case hk with ⟨rfl, e⟩ | ⟨h0, i, hi, e⟩
    · rw [ups_root e] at hj; cases hj
    · rw [ups_up e hi] at hj
      rcases List.mem_cons.mp hj with rfl | hj
      · exact hi
      · exact Nat.lt_trans (ih i hi (by omega) j hj) hi
theorem ups_len {T : Tr} (h : TreeOk T) : ∀ (k : Nat), k < T.length → (ups T k).length ≤ k := by
  intro k
  induction k using Nat.strongRecOn with
  | _ k ih =>
    intro hk
    rcases h.case hk with ⟨rfl, e⟩ | ⟨h0, i, hi, e⟩
    · rw [ups_root e]; exact Nat.le_refl _
    · rw [ups_up e hi, List.length_cons]
      have := ih i hi (by omega)
      omega
/-- the first letter above that is not k's own, if there is one -/
def deed (T : Tr) (s : List Nat) (k : Nat) : List Nat := match (ups T k).find? (fun j => decide (s[j]? ≠ s[k]?)) with
  | some j => s.set k (s.getD j 0)
  | none => s
theorem deed_len {T : Tr} {s : List Nat} {k : Nat} : (deed T s k).length = s.length := by
  unfold deed
  split
  · exact List.length_set ..
  · rfl
theorem set_lets {s : List Nat} {k c : Nat} (h : Lets s) (hc : 97 ≤ c ∧ c < 123) : Lets (s.set k c) := fun d hd => by
  rcases List.mem_or_eq_of_mem_set hd with hd | rfl
  · exact h d hd
  · exact hc
theorem deed_lets {T : Tr} {s : List Nat} {k : Nat} (h : TreeOk T) (hs : s.length = T.length) (hk : k < T.length) (hl : Lets s) : Lets (deed T s k) := by
  unfold deed
  split
  · rename_i j hj
    have hm := List.mem_of_find?_eq_some hj
    have hj2 : j < s.length := by have := ups_lt h k hk j hm; omega
    refine set_lets hl ?_
    rw [List.getD_eq_getElem?_getD, List.getElem?_eq_getElem hj2]
    exact hl _ (List.getElem_mem hj2)
  · exact hl
theorem take_drop_set {s : List Nat} {k c : Nat} (h : k < s.length) : s.take k ++ [c] ++ s.drop (k + 1) = s.set k c := by
  rw [List.set_eq_take_append_cons_drop, if_pos h, List.append_assoc]
  rfl
/-- a row of deeds -/
def led (T : Tr) (s : List Nat) (row : List Nat) : List Nat := row.foldl (deed T) s
theorem led_snoc {T : Tr} {s row : List Nat} {k : Nat} : led T s (row ++ [k]) = deed T (led T s row) k := by
  unfold led
  rw [List.foldl_append]
  rfl
theorem led_app {T : Tr} {s row r2 : List Nat} : led T s (row ++ r2) = led T (led T s row) r2 := by
  unfold led
  rw [List.foldl_append]
/-- a fit word for the tree -/
structure Wd (T : Tr) (s : List Nat) : Prop where
  len : s.length = T.length
  lets : Lets s
theorem Wd.deed {T : Tr} {s : List Nat} {k : Nat} (w : Wd T s) (h : TreeOk T) (hk : k < T.length) : Wd T (deed T s k) := ⟨by rw [deed_len]; exact w.len, deed_lets h w.len hk w.lets⟩
theorem Wd.led {T : Tr} (h : TreeOk T) : ∀ {row s : List Nat}, Wd T s → (∀ k ∈ row, k < T.length) → Wd T (led T s row)
  | [], s, w, _ => w
  | k :: r, s, w, hr => Wd.led h (row := r) (w.deed h (hr k (List.mem_cons_self ..))) fun j hj => hr j (List.mem_cons_of_mem _ hj)
/-- a row as values -/
abbrev iV (l : List Nat) : List V := l.map fun k => V.int (k : Nat)
theorem iV_app {a : List Nat} {k : Nat} : iV (a ++ [k]) = iV a ++ [V.int (k : Nat)] := by rw [iV, List.map_append]; rfl
theorem iV_len {a : List Nat} : (iV a).length = a.length := List.length_map ..
abbrev iD (l : List Nat) : List PyData := l.map fun k => PyData.int (k : Nat)
/-- a search as far as i -/
theorem find_hit {l : List Nat} {q : Nat → Bool} {i x : Nat} (hx : l[i]? = some x) (h : ∀ j y, j < i → l[j]? = some y → q y = false) (hq : q x = true) : l.find? q = some x := by
  induction l generalizing i with
  | nil => simp at hx
  | cons a r ih =>
    cases i with
    | zero =>
      simp at hx
      subst hx
      rw [List.find?_cons_of_pos hq]
    | succ i =>
      have ha := h 0 a (by omega) rfl
      rw [List.find?_cons_of_neg (by rw [ha]; exact Bool.false_ne_true)]
      exact ih (by simpa using hx) fun j y hj hy => h (j + 1) y (by omega) (by simpa using hy)
theorem find_none {l : List Nat} {q : Nat → Bool} (h : ∀ j y, j < l.length → l[j]? = some y → q y = false) : l.find? q = none := by
  rw [List.find?_eq_none]
  intro x hx
  obtain ⟨j, hj, e⟩ := List.getElem_of_mem hx
  rw [h j x hj (by rw [← e]; exact List.getElem?_eq_getElem hj)]
  exact Bool.false_ne_true
theorem deed_hit {T : Tr} {s : List Nat} {k i o c : Nat} (hx : (ups T k)[i]? = some o) (h : ∀ j y, j < i → (ups T k)[j]? = some y → s[y]? = s[k]?) (hq : s[o]? ≠ s[k]?) (hc : s[o]? = some c) : deed T s k = s.set k c := by
  unfold deed
  rw [find_hit (q := fun j => decide (s[j]? ≠ s[k]?)) hx (fun j y hj hy => decide_eq_false (fun z => z (h j y hj hy))) (decide_eq_true hq)]
  show s.set k (s.getD o 0) = _
  rw [List.getD_eq_getElem?_getD, hc]
  rfl
theorem deed_none {T : Tr} {s : List Nat} {k : Nat} (h : ∀ j y, j < (ups T k).length → (ups T k)[j]? = some y → s[y]? = s[k]?) : deed T s k = s := by
  unfold deed
  rw [find_none (q := fun j => decide (s[j]? ≠ s[k]?)) fun j y hj hy => decide_eq_false (fun z => z (h j y hj hy))]
theorem tx1_inj {a b : Nat} : (tx [a] = tx [b]) ↔ a = b := by
  rw [tx_inj]
  simp
end U

set_option Elab.async false
set_option linter.all false
set_option maxRecDepth 100000
set_option maxHeartbeats 4000000
namespace U
open PySem PySem.Spec PyProof.Rows L2
/-! ### rounds: again and again -/
def rep {α : Type} (f : α → α) : Nat → α → α
  | 0, s => s
  | n + 1, s => f (rep f n s)
theorem rep_succ {α : Type} {f : α → α} {n : Nat} {s : α} : rep f (n + 1) s = f (rep f n s) := rfl
theorem rep_add {α : Type} {f : α → α} : ∀ (m n : Nat) (s : α), rep f (m + n) s = rep f m (rep f n s)
  | 0, n, s => by rw [Nat.zero_add]; rfl
  | m + 1, n, s => by
    rw [show m + 1 + n = (m + n) + 1 by omega, rep_succ, rep_add m n s]
    rfl
theorem rep_per {α : Type} {f : α → α} {j p : Nat} {s : α} (h : rep f (j + p) s = rep f j s) : ∀ q r : Nat, rep f (j + (q * p + r)) s = rep f (j + r) s
  | 0, r => by rw [Nat.zero_mul, Nat.zero_add]
  | q + 1, r => by
    have e : j + ((q + 1) * p + r) = (q * p + r) + (j + p) := by rw [Nat.succ_mul]; omega
    rw [e, rep_add, h, ← rep_add, show q * p + r + j = j + (q * p + r) by omega, rep_per h q r]
theorem rep_mod {α : Type} {f : α → α} {j p n : Nat} {s : α} (h : rep f (j + p) s = rep f j s) (hn : j ≤ n) : rep f (j + (n - j) % p) s = rep f n s := by
  have e : (n - j) = (n - j) / p * p + (n - j) % p := by rw [Nat.mul_comm]; exact (Nat.div_add_mod _ _).symm
  have q := rep_per h ((n - j) / p) ((n - j) % p)
  rw [← e, show j + (n - j) = n by omega] at q
  exact q.symm
/-! ### few words: a list without doubles is no longer than what it is drawn from -/
theorem nodup_le {α : Type} [DecidableEq α] : ∀ {l m : List α}, l.Nodup → (∀ x ∈ l, x ∈ m) → l.length ≤ m.length
  | [], m, _, _ => Nat.zero_le _
  | x :: r, m, hn, hs => by
    have hx : x ∈ m := hs x (List.mem_cons_self ..)
    have hn2 := List.nodup_cons.mp hn
    have h := nodup_le (l := r) (m := m.erase x) hn2.2 fun y hy => by
      have hne : y ≠ x := fun e => hn2.1 (e ▸ hy)
      exact (List.mem_erase_of_ne hne).mpr (hs y (List.mem_cons_of_mem _ hy))
    rw [List.length_erase_of_mem hx] at h
    have hp : 0 < m.length := List.length_pos_of_mem hx
    rw [List.length_cons]
    omega
theorem nodup_one {α : Type} (x : α) : [x].Nodup := List.nodup_cons.mpr ⟨by simp, List.nodup_nil⟩
/-- all words of n letters out of L -/
def words (L : List Nat) : Nat → List (List Nat)
  | 0 => [[]]
  | n + 1 => (words L n).flatMap fun w => L.map fun c => c :: w
theorem words_len {L : List Nat} : ∀ n, (words L n).length = L.length ^ n
  | 0 => rfl
  | n + 1 => by
    rw [words, List.length_flatMap]
    have e : ((words L n).map fun w => (L.map fun c => c :: w).length) = (words L n).map fun _ => L.length := by
      refine List.map_congr_left fun w _ => ?_
      rw [List.length_map]
    rw [e, List.map_const', List.sum_replicate_nat, words_len n, Nat.pow_succ]
theorem mem_words {L : List Nat} : ∀ {w : List Nat}, (∀ c ∈ w, c ∈ L) → w ∈ words L w.length
  | [], _ => List.mem_singleton.mpr rfl
  | c :: r, h => by
    rw [List.length_cons, words]
    refine List.mem_flatMap.mpr ⟨r, mem_words fun d hd => h d (List.mem_cons_of_mem _ hd), ?_⟩
    exact List.mem_map.mpr ⟨c, h c (List.mem_cons_self ..), rfl⟩
/-- words with the same first letter, out of the letters of s -/
theorem few_words {l : List (List Nat)} {s : List Nat} {c n : Nat} (hn : l.Nodup) (h : ∀ w ∈ l, w.length = n + 1 ∧ w[0]? = some c ∧ ∀ d ∈ w, d ∈ s) : l.length ≤ s.length ^ n := by
  have h2 : l.length ≤ ((words s n).map fun w => c :: w).length := nodup_le hn fun w hw => by
    obtain ⟨h1, h2, h3⟩ := h w hw
    cases w with
    | nil => cases h1
    | cons a r =>
      have e : a = c := by simpa using h2
      subst e
      refine List.mem_map.mpr ⟨r, ?_, rfl⟩
      have e2 : r.length = n := by simpa using h1
      rw [← e2]
      exact mem_words fun d hd => h3 d (List.mem_cons_of_mem _ hd)
  rw [List.length_map, words_len] at h2
  exact h2
/-! ### deeds keep the root's letter and bring no new ones -/
theorem ups_zero {T : Tr} (h : TreeOk T) : ups T 0 = [] := ups_root h.root
theorem deed_zero {T : Tr} {s : List Nat} (h : TreeOk T) : deed T s 0 = s := by
  unfold deed
  rw [ups_zero h]
  rfl
theorem deed_first {T : Tr} {s : List Nat} {k : Nat} (h : TreeOk T) : (deed T s k)[0]? = s[0]? := by
  by_cases hk : k = 0
  · subst hk; rw [deed_zero h]
  · unfold deed
    split
    · rw [List.getElem?_set]
      simp [hk]
    · rfl
theorem deed_old {T : Tr} {s : List Nat} {k : Nat} (h : TreeOk T) (hs : s.length = T.length) (hk : k < T.length) : ∀ c ∈ deed T s k, c ∈ s := by
  intro c hc
  unfold deed at hc
  split at hc
  · rename_i j hj
    have hm := List.mem_of_find?_eq_some hj
    have hj2 : j < s.length := by have := ups_lt h k hk j hm; omega
    rcases List.mem_or_eq_of_mem_set hc with hc | rfl
    · exact hc
    · rw [List.getD_eq_getElem?_getD, List.getElem?_eq_getElem hj2]
      exact List.getElem_mem hj2
  · exact hc
theorem led_first {T : Tr} (h : TreeOk T) : ∀ {row s : List Nat}, (led T s row)[0]? = s[0]?
  | [], s => rfl
  | k :: r, s => by
    show (led T (deed T s k) r)[0]? = _
    rw [led_first h, deed_first h]
theorem led_len {T : Tr} : ∀ {row s : List Nat}, (led T s row).length = s.length
  | [], s => rfl
  | k :: r, s => by
    show (led T (deed T s k) r).length = _
    rw [led_len, deed_len]
theorem led_old {T : Tr} (h : TreeOk T) : ∀ {row s : List Nat}, s.length = T.length → (∀ k ∈ row, k < T.length) → ∀ c ∈ led T s row, c ∈ s
  | [], s, _, _, c, hc => hc
  | k :: r, s, hs, hr, c, hc => deed_old h hs (hr k (List.mem_cons_self ..)) c (led_old h (row := r) (by rw [deed_len]; exact hs) (fun j hj => hr j (List.mem_cons_of_mem _ hj)) c hc)
theorem take_succ_of {α : Type} {l : List α} {j : Nat} {y : α} (h : l[j]? = some y) : l.take (j + 1) = l.take j ++ [y] := by
  rw [List.take_add_one, h]
  rfl
theorem led_take {T : Tr} {s row : List Nat} {j y : Nat} (h : row[j]? = some y) : led T s (row.take (j + 1)) = deed T (led T s (row.take j)) y := by
  rw [take_succ_of h, led_snoc]
theorem take_iV {row : List Nat} : row.take (iV row).length = row := by rw [iV_len, List.take_length]
/-- n rounds -/
def rnd (T : Tr) (row : List Nat) (n : Nat) (s : List Nat) : List Nat := rep (fun z => led T z row) n s
theorem rnd_succ {T : Tr} {row : List Nat} {n : Nat} {s : List Nat} : rnd T row (n + 1) s = led T (rnd T row n s) row := rfl
theorem rnd_len {T : Tr} {row : List Nat} {s : List Nat} : ∀ {n : Nat}, (rnd T row n s).length = s.length
  | 0 => rfl
  | n + 1 => by rw [rnd_succ, led_len, rnd_len]
theorem rnd_first {T : Tr} {row : List Nat} {s : List Nat} (h : TreeOk T) : ∀ {n : Nat}, (rnd T row n s)[0]? = s[0]?
  | 0 => rfl
  | n + 1 => by rw [rnd_succ, led_first h, rnd_first h]
theorem rnd_old {T : Tr} {row : List Nat} {s : List Nat} (h : TreeOk T) (hs : s.length = T.length) (hr : ∀ k ∈ row, k < T.length) : ∀ {n : Nat}, ∀ c ∈ rnd T row n s, c ∈ s
  | 0, c, hc => hc
  | n + 1, c, hc => rnd_old h hs hr (n := n) c (led_old h (by rw [rnd_len]; exact hs) hr c hc)
theorem Wd.rnd {T : Tr} {row : List Nat} {s : List Nat} (h : TreeOk T) (w : Wd T s) (hr : ∀ k ∈ row, k < T.length) : ∀ {n : Nat}, Wd T (rnd T row n s)
  | 0 => w
  | n + 1 => (Wd.rnd h w hr (n := n)).led h hr
/-- the words of the rounds up to n -/
def met (T : Tr) (row s : List Nat) (n : Nat) : List (List Nat) := (List.range (n + 1)).map fun i => rnd T row i s
theorem met_len {T : Tr} {row s : List Nat} {n : Nat} : (met T row s n).length = n + 1 := by rw [met, List.length_map, List.length_range]
theorem met_succ {T : Tr} {row s : List Nat} {n : Nat} : met T row s (n + 1) = met T row s n ++ [rnd T row (n + 1) s] := by
  rw [met, List.range_succ, List.map_append]
  rfl
theorem met_get {T : Tr} {row s : List Nat} {n i : Nat} (h : i ≤ n) : (met T row s n)[i]? = some (rnd T row i s) := by
  rw [met, List.getElem?_map, List.getElem?_range (by omega)]
  rfl
theorem met_few {T : Tr} {row s : List Nat} {n : Nat} (h : TreeOk T) (w : Wd T s) (h8 : T.length ≤ 8) (hr : ∀ k ∈ row, k < T.length) (hn : (met T row s n).Nodup) : n + 1 ≤ 2097152 := by
  have hp := h.pos
  obtain ⟨m, hm⟩ : ∃ m, T.length = m + 1 := ⟨T.length - 1, by omega⟩
  have hs0 : 0 < s.length := by rw [w.len]; exact hp
  have q := few_words (s := s) (c := s[0]) (n := m) hn fun z hz => by
    obtain ⟨i, _, rfl⟩ := List.mem_map.mp hz
    exact ⟨by rw [rnd_len, w.len, hm], by rw [rnd_first h]; exact List.getElem?_eq_getElem hs0, rnd_old h w.len hr⟩
  rw [met_len, w.len, hm] at q
  have h7 : m ≤ 7 := by omega
  have e : (m + 1) ^ m ≤ 2097152 := by
    have hh : m = 0 ∨ m = 1 ∨ m = 2 ∨ m = 3 ∨ m = 4 ∨ m = 5 ∨ m = 6 ∨ m = 7 := by omega
    rcases hh with rfl | rfl | rfl | rfl | rfl | rfl | rfl | rfl <;> decide
  omega
end U

set_option Elab.async false
set_option linter.all false
set_option maxRecDepth 100000
set_option maxHeartbeats 4000000
namespace U
open PySem PySem.Spec PyProof.Rows L2
/-! ### lists of words -/
abbrev wV (ws : List (List Nat)) : List V := ws.map fun w => V.str (tx w)
abbrev wD (ws : List (List Nat)) : List PyData := ws.map fun w => PyData.str (tx w)
theorem wV_app {a : List (List Nat)} {k : List Nat} : wV (a ++ [k]) = wV a ++ [V.str (tx k)] := by rw [wV, List.map_append]; rfl
theorem wV_len {a : List (List Nat)} : (wV a).length = a.length := List.length_map ..
theorem dp_ws {K : PySem.W.Frag} {H : Hp} : ∀ ws : List (List Nat), DpAll K H (wV ws) (wD ws)
  | [] => .nil
  | w :: r => .cons (.str _) (dp_ws r)
theorem dp_is {K : PySem.W.Frag} {H : Hp} : ∀ l : List Nat, DpAll K H (iV l) (iD l)
  | [] => .nil
  | w :: r => .cons (.int _) (dp_is r)
/-- signs that a text can hold -/
def Sgs (l : List Nat) : Prop := ∀ c ∈ l, c < 1114112
theorem Lets.sgs {l : List Nat} (h : Lets l) : Sgs l := fun c hc => by have := h c hc; omega
theorem good_w {l : List Nat} (h : Sgs l) {n : Nat} : Good n (.str (tx l)) := Good.str (by
  rw [← Array.all_toList]
  exact List.all_eq_true.mpr fun c hc => decide_eq_true (h c hc))
theorem good_ws {ws : List (List Nat)} (h : ∀ w ∈ ws, Sgs w) {n : Nat} : Good (n + 1) (.list (wD ws)) := Good.list fun x hx => by
  obtain ⟨w, hw, rfl⟩ := List.mem_map.mp hx
  exact good_w (h w hw)
theorem eqv_w {a b : List Nat} (ha : Sgs a) (hb : Sgs b) : PyData.eqv (.str (tx a)) (.str (tx b)) = decide (a = b) :=
  Good.eqv' (n := 0) (m := 0) (good_w ha) (good_w hb) (by
    constructor
    · intro h
      injection h with h
      exact tx_inj.mp h
    · intro h; rw [h])
theorem inO_w {K : PySem.W.Frag} {ne : Bool} {a : Addr} {H : Hp} {Q : VK} {w : List Nat} {ws : List (List Nat)} (h : SqL K H a (wV ws)) (hw : Sgs w) (hs : ∀ w ∈ ws, Sgs w) (q : Q (.bl (ne ^^ decide (w ∈ ws))) H) : inO K ne (.str (tx w)) (.ref a) H Q := by
  refine inO_d (.str (tx w)) (.lst h (dp_ws ws)) (good_w (n := 0) hw).shaped (good_ws (n := 0) hs).shaped ?_
  have e : ((wD ws).any fun z => PyData.eqv z (.str (tx w))) = decide (w ∈ ws) := by
    rw [Bool.eq_iff_iff, List.any_eq_true, decide_eq_true_eq]
    constructor
    · rintro ⟨x, hx, e⟩
      obtain ⟨v, hv, rfl⟩ := List.mem_map.mp hx
      rw [eqv_w (hs v hv) hw] at e
      rw [← of_decide_eq_true e]
      exact hv
    · intro hm
      exact ⟨_, List.mem_map.mpr ⟨w, hm, rfl⟩, by rw [eqv_w hw hw]; exact decide_eq_true rfl⟩
  rw [e]
  exact q
theorem indO_w {K : PySem.W.Frag} {a : Addr} {H : Hp} {Q : VK} {w : List Nat} {ws : List (List Nat)} {j : Nat} (h : SqL K H a (wV ws)) (hw : Sgs w) (hs : ∀ w ∈ ws, Sgs w) (hj : ws[j]? = some w) (hn : ∀ m v, m < j → ws[m]? = some v → v ≠ w) (q : Q (.int (j : Nat)) H) : indO K a (.str (tx w)) H Q := by
  unfold indO
  refine ⟨_, _, j, .str (tx w), .lst h (dp_ws ws), .str (tx w), (good_ws (n := 0) hs).shaped, (good_w (n := 0) hw).shaped, by rw [List.getElem?_map, hj]; rfl, by rw [eqv_w hw hw]; exact decide_eq_true rfl, fun m z hm hz => ?_, q⟩
  rw [List.getElem?_map] at hz
  obtain ⟨v, hv, rfl⟩ := Option.map_eq_some_iff.mp hz
  rw [eqv_w (hs v (List.mem_of_getElem? hv)) hw]
  exact decide_eq_false (hn m v hm hv)
/-- the first place of w -/
theorem first_at {α : Type} [DecidableEq α] {w : α} : ∀ {ws : List α}, w ∈ ws → ∃ j : Nat, ws[j]? = some w ∧ ∀ (m : Nat) (v : α), m < j → ws[m]? = some v → v ≠ w
  | x :: r, h => by
    by_cases e : x = w
    · subst e
      exact ⟨0, rfl, fun m v hm => by omega⟩
    · have h2 : w ∈ r := (List.mem_cons.mp h).elim (fun z => (e z.symm).elim) id
      obtain ⟨j, h3, h4⟩ := first_at h2
      refine ⟨j + 1, by simpa using h3, fun m v hm hv => ?_⟩
      cases m with
      | zero =>
        simp at hv
        rw [← hv]
        exact e
      | succ m => exact h4 m v (by omega) (by simpa using hv)
theorem good_sgs {L : List Nat} (h : Sgs L) {n : Nat} : Good (n + 1) (.list ((L.map sg).map PyData.str)) := Good.list fun x hx => by
  obtain ⟨z, hz, rfl⟩ := List.mem_map.mp hx
  obtain ⟨c, hc, rfl⟩ := List.mem_map.mp hz
  exact good_w (fun d hd => by rw [List.mem_singleton.mp hd]; exact h c hc)
theorem eqO_nilC {K : PySem.W.Frag} {ne : Bool} {a b : Addr} {H : Hp} {Q : VK} {L : List Nat} (h1 : SqL K H a ((L.map sg).map V.str)) (hs : Sgs L) (h3 : SqL K H b []) (q : Q (.bl (ne ^^ L.isEmpty)) H) : eqO K ne (.ref a) (.ref b) H Q :=
  eqO_nil h1 (dpAll_strs _) h3 (good_sgs (n := 0) hs).shaped (by
    have e : ((L.map sg).map V.str).isEmpty = L.isEmpty := by cases L <;> rfl
    rw [e]; exact q)
end U

set_option Elab.async false
set_option linter.all false
set_option maxRecDepth 100000
set_option maxHeartbeats 4000000
namespace U
open PySem PySem.Spec PyProof.Rows L2
/-! ### entries: a deed, or rounds of a row -/
inductive Ent where
  | deed (k : Nat)
  | rounds (row : List Nat) (n : Nat)
def entD (lst : Bool) : Ent → PyData
  | .deed k => .tuple [.str "deed", .int (k : Nat)]
  | .rounds row n => .tuple [.str "rounds", if lst then .list (iD row) else .tuple (iD row), .int (n : Nat)]
structure RowOk (T : Tr) (row : List Nat) : Prop where
  lt : ∀ k ∈ row, k < T.length
  few : row.length ≤ 40
def EntOk (T : Tr) : Ent → Prop
  | .deed k => k < T.length
  | .rounds row n => RowOk T row ∧ n ≤ 10 ^ 30
def entW (T : Tr) (s : List Nat) : Ent → List Nat
  | .deed k => deed T s k
  | .rounds row n => rnd T row n s
/-- the word behind entries -/
def behind (T : Tr) (s : List Nat) (es : List Ent) : List Nat := es.foldl (entW T) s
theorem behind_snoc {T : Tr} {s : List Nat} {es : List Ent} {e : Ent} : behind T s (es ++ [e]) = entW T (behind T s es) e := by
  unfold behind
  rw [List.foldl_append]
  rfl
theorem behind_app {T : Tr} {s : List Nat} {es fs : List Ent} : behind T s (es ++ fs) = behind T (behind T s es) fs := by
  unfold behind
  rw [List.foldl_append]
theorem behind_take {T : Tr} {s : List Nat} {es : List Ent} {j : Nat} {e : Ent} (h : es[j]? = some e) : behind T s (es.take (j + 1)) = entW T (behind T s (es.take j)) e := by
  rw [take_succ_of h, behind_snoc]
theorem Wd.ent {T : Tr} {s : List Nat} {e : Ent} (w : Wd T s) (h : TreeOk T) (he : EntOk T e) : Wd T (entW T s e) := by
  cases e with
  | deed k => exact w.deed h he
  | rounds row n => exact w.rnd h he.1.lt
theorem Wd.behind {T : Tr} (h : TreeOk T) : ∀ {es : List Ent} {s : List Nat}, Wd T s → (∀ e ∈ es, EntOk T e) → Wd T (behind T s es)
  | [], s, w, _ => w
  | e :: r, s, w, he => Wd.behind h (es := r) (w.ent h (he e (List.mem_cons_self ..))) fun f hf => he f (List.mem_cons_of_mem _ hf)
/-! ### data taken apart -/
theorem dp_tup {K : PySem.W.Frag} {H : Hp} {v : V} {ds : List PyData} (h : Dp K H v (.tuple ds)) : ∃ a xs, v = .ref a ∧ SqT K H a xs ∧ DpAll K H xs ds := by
  cases h with
  | tup h1 h2 => exact ⟨_, _, rfl, h1, h2⟩
theorem dp_lst {K : PySem.W.Frag} {H : Hp} {v : V} {ds : List PyData} (h : Dp K H v (.list ds)) : ∃ a xs, v = .ref a ∧ SqL K H a xs ∧ DpAll K H xs ds := by
  cases h with
  | lst h1 h2 => exact ⟨_, _, rfl, h1, h2⟩
theorem dp_int {K : PySem.W.Frag} {H : Hp} {v : V} {i : Int} (h : Dp K H v (.int i)) : v = .int i := by
  cases h; rfl
theorem dp_str {K : PySem.W.Frag} {H : Hp} {v : V} {i : Str} (h : Dp K H v (.str i)) : v = .str i := by
  cases h; rfl
theorem dp_non {K : PySem.W.Frag} {H : Hp} {v : V} (h : Dp K H v .none) : v = .non := by
  cases h; rfl
theorem dpAll_cons {K : PySem.W.Frag} {H : Hp} {vs : List V} {d : PyData} {ds : List PyData} (h : DpAll K H vs (d :: ds)) : ∃ v r, vs = v :: r ∧ Dp K H v d ∧ DpAll K H r ds := by
  cases h with
  | cons h1 h2 => exact ⟨_, _, rfl, h1, h2⟩
theorem dpAll_nil {K : PySem.W.Frag} {H : Hp} {vs : List V} (h : DpAll K H vs []) : vs = [] := by
  cases h; rfl
theorem dpAll_is {K : PySem.W.Frag} {H : Hp} : ∀ {l : List Nat} {vs : List V}, DpAll K H vs (iD l) → vs = iV l
  | [], vs, h => dpAll_nil h
  | k :: r, vs, h => by
    obtain ⟨v, rr, rfl, h1, h2⟩ := dpAll_cons h
    rw [dp_int h1, dpAll_is h2]
    rfl
theorem dpAll_ws {K : PySem.W.Frag} {H : Hp} : ∀ {l : List (List Nat)} {vs : List V}, DpAll K H vs (wD l) → vs = wV l
  | [], vs, h => dpAll_nil h
  | k :: r, vs, h => by
    obtain ⟨v, rr, rfl, h1, h2⟩ := dpAll_cons h
    rw [dp_str h1, dpAll_ws h2]
    rfl
theorem ent_deed {K : PySem.W.Frag} {H : Hp} {v : V} {b : Bool} {k : Nat} (h : Dp K H v (entD b (.deed k))) : ∃ a, v = .ref a ∧ SqT K H a [.str "deed", .int (k : Nat)] := by
  obtain ⟨a, xs, rfl, h1, h2⟩ := dp_tup h
  obtain ⟨v1, r1, rfl, e1, h2⟩ := dpAll_cons h2
  obtain ⟨v2, r2, rfl, e2, h2⟩ := dpAll_cons h2
  cases dpAll_nil h2
  cases dp_str e1
  cases dp_int e2
  exact ⟨a, rfl, h1⟩
theorem ent_rounds {K : PySem.W.Frag} {H : Hp} {v : V} {b : Bool} {row : List Nat} {n : Nat} (h : Dp K H v (entD b (.rounds row n))) : ∃ a r, v = .ref a ∧ SqT K H a [.str "rounds", .ref r, .int (n : Nat)] ∧ SqA K H r (iV row) ∧ (b = true → SqL K H r (iV row)) ∧ (b = false → SqT K H r (iV row)) := by
  obtain ⟨a, xs, rfl, h1, h2⟩ := dp_tup h
  obtain ⟨v1, r1, rfl, e1, h2⟩ := dpAll_cons h2
  obtain ⟨v2, r2, rfl, e2, h2⟩ := dpAll_cons h2
  obtain ⟨v3, r3, rfl, e3, h2⟩ := dpAll_cons h2
  cases dpAll_nil h2
  cases dp_str e1
  cases dp_int e3
  cases b with
  | true =>
    obtain ⟨r, ys, rfl, h3, h4⟩ := dp_lst e2
    rw [dpAll_is h4] at h3
    exact ⟨a, r, rfl, h1, .inl h3, fun _ => h3, fun z => Bool.noConfusion z⟩
  | false =>
    obtain ⟨r, ys, rfl, h3, h4⟩ := dp_tup e2
    rw [dpAll_is h4] at h3
    exact ⟨a, r, rfl, h1, .inr h3, fun z => Bool.noConfusion z, fun _ => h3⟩
theorem dp_deed {K : PySem.W.Frag} {H : Hp} {a : Addr} {b : Bool} {k : Nat} (h : SqT K H a [.str "deed", .int (k : Nat)]) : Dp K H (.ref a) (entD b (.deed k)) := .tup h (.cons (.str _) (.cons (.int _) .nil))
theorem dp_roundsL {K : PySem.W.Frag} {H : Hp} {a r : Addr} {row : List Nat} {n : Nat} (h : SqT K H a [.str "rounds", .ref r, .int (n : Nat)]) (hr : SqL K H r (iV row)) : Dp K H (.ref a) (entD true (.rounds row n)) := .tup h (.cons (.str _) (.cons (.lst hr (dp_is row)) (.cons (.int _) .nil)))
theorem dp_roundsT {K : PySem.W.Frag} {H : Hp} {a r : Addr} {row : List Nat} {n : Nat} (h : SqT K H a [.str "rounds", .ref r, .int (n : Nat)]) (hr : SqT K H r (iV row)) : Dp K H (.ref a) (entD false (.rounds row n)) := .tup h (.cons (.str _) (.cons (.tup hr (dp_is row)) (.cons (.int _) .nil)))
theorem dp_ext {K : PySem.W.Frag} {H H' : Hp} (e : Ext H H') {v : V} {d : PyData} (h : Dp K H v d) : Dp K H' v d := dp_same e.s h
theorem dpAll_ext {K : PySem.W.Frag} {H H' : Hp} (e : Ext H H') {v : List V} {d : List PyData} (h : DpAll K H v d) : DpAll K H' v d := dpAll_same e.s h
theorem deed_ne_rounds : (Str.ofString "rounds" = Str.ofString "deed") = False := by
  apply propext
  constructor
  · intro h
    exact absurd h (by decide +kernel)
  · exact False.elim
/-- how many of the deeds change the word -/
def went (T : Tr) : List Nat → List Nat → Nat
  | _, [] => 0
  | s, k :: r => (if deed T s k ≠ s then 1 else 0) + went T (deed T s k) r
theorem went_snoc {T : Tr} {k : Nat} : ∀ {row s : List Nat}, went T s (row ++ [k]) = went T s row + if deed T (led T s row) k ≠ led T s row then 1 else 0
  | [], s => by
    show (if deed T s k ≠ s then 1 else 0) + 0 = 0 + _
    rw [Nat.add_comm]
    rfl
  | j :: r, s => by
    show (if deed T s j ≠ s then 1 else 0) + went T (deed T s j) (r ++ [k]) = (if deed T s j ≠ s then 1 else 0) + went T (deed T s j) r + _
    rw [went_snoc (row := r), Nat.add_assoc]
    rfl
theorem went_take {T : Tr} {s row : List Nat} {j y : Nat} (h : row[j]? = some y) : went T s (row.take (j + 1)) = went T s (row.take j) + if deed T (led T s (row.take j)) y ≠ led T s (row.take j) then 1 else 0 := by
  rw [take_succ_of h, went_snoc]
end U

set_option Elab.async false
set_option linter.all false
set_option maxRecDepth 100000
set_option maxHeartbeats 4000000
namespace U
open PySem PySem.Spec PyProof.Rows L2
/-! ### enumerate of one thing, a list or a tuple -/
theorem meets_enum1 {v : Value} {o : Obj} {H : Heap → Prop} (B : Begins v o H) :
    Meets (Builtin.«enumerate.__new__» ⟨[.type "enumerate", v], []⟩) (fun _ R s => H s.heap ∧
      R (.ok (.ret (.ref (s.heap.push o).objs.size))) { s with heap := (s.heap.push o).push { cls := .type "enumerate", data := .fields #[.none, .bool false, .ref s.heap.objs.size, rawInt 0, .none, .none] } }) :=
  .of_wp fun prog w A R s h => by
    obtain ⟨hp, g, d, tk, os⟩ := s; obtain ⟨h1, h⟩ := h
    have hsub := sub_enumerate
    have q1 : ∀ {A' : Around} {E : Value → Shared → Prop} {Q : Value → Shared → Prop}, Q (.ref hp.objs.size) ⟨hp.push o, g, d, tk, os⟩ → wpAny (model prog w) A' (pyIter v) Q E ⟨hp, g, d, tk, os⟩ :=
      fun q => B.iter prog w _ _ ⟨hp, g, d, tk, os⟩ _ h1 q
    wp_walk using q1
    refine wpAny_stack_any fun st => wpAny_pure ?_
    split
    · rename_i c _ _ _ _ _
      cases (c == Value.type "enumerate")
      · wp_walk using q1
        exact ⟨_, rfl, h⟩
      · wp_walk using q1
        exact ⟨_, rfl, h⟩
    · wp_walk using q1
      exact ⟨_, rfl, h⟩
theorem enum1_begins {prog : Program} {w : World} {A : Around} {E : Value → Shared → Prop} {s : Shared} {v : Value} {o : Obj} {H : Heap → Prop} {Q : Value → Shared → Prop} (B : Begins v o H) (h1 : H s.heap)
    (h : ∀ h', IsEnum h' (s.heap.objs.size + 1) s.heap.objs.size 0 .none → h'.get? s.heap.objs.size = some o → h'.objs.size = s.heap.objs.size + 2 →
      (∀ b o, s.heap.get? b = some o → h'.get? b = some o) → Q (.ref (s.heap.objs.size + 1)) { s with heap := h' }) :
    wpAny (model prog w) A (call (.type "enumerate") [v]) Q E s := by
  refine callType_new F.called_enumerate (by decide) (F.typeCall_enumerate_1 _) (F.newCall_enumerate_1 _) (fun obj => F.args_object_init_2 obj _) F.entry_enumerate_new (meets_enum1 B) ⟨h1, ?_⟩
  have hz : (s.heap.push o).objs.size = s.heap.objs.size + 1 := Heap.size_push ..
  show _ ∧ _
  rw [hz]
  have he : IsEnum ((s.heap.push o).push { cls := .type "enumerate", data := .fields #[.none, .bool false, .ref s.heap.objs.size, rawInt 0, .none, .none] }) (s.heap.objs.size + 1) s.heap.objs.size 0 .none := by
    have := Heap.get?_push_size (s.heap.push o) (o := { cls := .type "enumerate", data := .fields #[.none, .bool false, .ref s.heap.objs.size, rawInt 0, .none, .none] }) rfl
    rw [hz] at this; exact this
  refine ⟨⟨_, he, rfl⟩, h _ he (Heap.get?_push_of_some _ (Heap.get?_push_size _ B.free)) (by rw [Heap.size_push, hz]) fun b o x => Heap.get?_push_of_some _ (Heap.get?_push_of_some _ x)⟩
/-- the tuple at a, each item in a new pair -/
def IteT (K : PySem.W.Frag) (a : Addr) : It :=
  ⟨fun i H => ∃ (xs : List V) (x : V), SqT K H a xs ∧ xs[i]? = some x, fun i H v H' => ∃ T x, v = .ref T ∧ H T = none ∧ H' = upd H T (.tup [.int (i : Nat), x]) ∧ ∀ xs, SqT K H a xs → xs[i]? = some x, fun i H => ∃ xs : List V, SqT K H a xs ∧ xs.length ≤ i⟩
end U
namespace U
open PySem PySem.Spec PyProof.Rows L2
theorem turn_enumT {P : Program} {w : World} {K : PySem.W.Frag} {elts : List Expr} {kk : Nat} {tpos : Pos} (a e it : Addr) :
    Turn P w K (.Tuple elts kk tpos) (IteT K a) [e, it] e (fun i h => (∃ old, IsEnum h e it ((i : Nat) : Int) old) ∧ h.IsTupleIter it a i ∧ e ≠ it ∧ e ≠ a ∧ a ≠ it) where
  mem := by simp
  obj := fun i h st b hb => by
    obtain ⟨⟨old, he⟩, ⟨o, ho, hc, hd⟩, _⟩ := st
    have e' : b = e ∨ b = it := by simpa using hb
    rcases e' with z | z
    · rw [z]; exact ⟨_, he, fun v q => nomatch q⟩
    · rw [z]; exact ⟨o, ho, fun v q => by rw [hd] at q; cases q⟩
  keep := fun i h h' st k => let ⟨⟨old, he⟩, hi, hne⟩ := st; ⟨⟨old, k e (by simp) _ he⟩, hi.at fun o q => k it (by simp) o q, hne⟩
  item := by
    intro X hP hw hK hc i pins s σ H E I hf st hg
    subst hP hw hK
    obtain ⟨⟨old, he⟩, hit, hne, hea, hai⟩ := st
    obtain ⟨xs, x, hq, hx⟩ := hg
    obtain ⟨its, rv, p, hz⟩ := I.tuple hq
    obtain ⟨u, hu, ru⟩ := rv.get hx
    have p2 : s.heap.IsTuple a its.toArray := p
    have hel : e < s.heap.objs.size := Heap.lt_size he
    have hil : it < s.heap.objs.size := by obtain ⟨_, q, _⟩ := hit; exact Heap.lt_size q
    have hilt : i < its.toArray.size := by
      have := (List.getElem?_eq_some_iff.mp hu).1
      simpa using this
    refine wpAny_pyNext_enum_itemD (Draws.tuple (A := X.A.in1) (show X.A.in1.handled = none from I.ok.hd hc) it a hai its.toArray) he ⟨hit, p2⟩ hilt hne (by simp [hne, hea]) fun x' h' tk hPx ho hst' hT hsz hk => ?_
    obtain ⟨hit', p'⟩ := hst'
    have ex : x' = u := by
      have q2 : its.toArray[i]? = some u := by simpa using hu
      rw [hPx] at q2
      exact Option.some.inj q2
    subst ex
    refine ⟨_, rfl, wpAny_letOwnedTupleGo_enum (s := { s with heap := h', toks := tk + 1 }) ho fun h'' he' sb => ?_⟩
    have hT2 : h''.get? s.heap.objs.size = some { cls := .type "tuple", data := .seq #[.int i tk, x'] } := (sb.2 _ (Nat.ne_of_gt hel)).trans hT
    have new : ObjOk X.prog X.w (upd H s.heap.objs.size (.tup [.int (i : Nat), x])) h'' s.heap.objs.size (.tup [.int (i : Nat), x]) :=
      ⟨by show 2 ≤ sizeLine; decide, [.int i tk, x'], .cons ⟨_, rfl⟩ (.cons ru .nil), ⟨_, hT2, rfl, _, rfl⟩⟩
    have I1 : Inv X pins σ (upd H s.heap.objs.size (.tup [.int (i : Nat), x])) { s with heap := h'', toks := tk + 1 } :=
      I.turnedNew (ch := [e, it]) (fun b ob hb q => (sb.2 b (fun z => hb (by simp [z]))).trans (hk b ob (fun z => hb (by simp [z])) (fun z => hb (by simp [z])) q)) hf (Nat.le_refl _) new
    refine ⟨.ref s.heap.objs.size, _, I1, rfl, ⟨_, x, rfl, I.hok.fresh (Nat.le_refl _), rfl, fun ys hy => by rw [I.tuple_inj hy hq]; exact hx⟩, ⟨⟨x', ?_⟩, hit'.at fun o q => (sb.2 it (Ne.symm hne)).trans q, hne, hea, hai⟩, fun b hb => ?_⟩
    · have e1 : ((i + 1 : Nat) : Int) = (i : Int) + 1 := by omega
      rw [e1]; exact he'
    · have hb' : b < s.heap.objs.size := by
        have e' : b = e ∨ b = it := by simpa using hb
        rcases e' with z | z
        · rw [z]; exact hel
        · rw [z]; exact hil
      rw [upd_ne (Nat.ne_of_lt hb')]
      exact (hf b hb).1
  done := by
    intro X hP hw hK hc i pins s σ H E I hf st hg
    subst hP hw hK
    obtain ⟨⟨old, he⟩, hit, hne, hea, hai⟩ := st
    obtain ⟨xs, hq, hx⟩ := hg
    obtain ⟨its, rv, p, hz⟩ := I.tuple hq
    obtain ⟨f0, f1, f2, f3, f4, f5⟩ := hf it (by simp)
    have hl := rv.length
    have p2 : s.heap.IsTuple a its.toArray := p
    have hx0 : its.toArray[i]? = none := by simp; omega
    have hh1 : X.A.in1.handled = none := I.ok.hd hc
    have hT : s.TypeIs (.ref e) "enumerate" := ⟨_, he, rfl⟩
    unfold pyNext
    refine wpAny_bind (wpAny_attempt (wpAny_callSpecial?_slot (name := Str.ofString "__next__") hT F.slot_enumerate_next
      (wpAny_call_entry F.slot_enumerate_next hT F.entry_enumerate_next ?_ (F.args_enumerate_next_1 _))))
    show wpAny _ _ (field (.ref e) 2 >>= _) _ _ _
    refine wpAny_bind (wpAny_field he rfl (x := .ref it) rfl ?_)
    refine wpAny_bind (wpAny_nextOf_tuple_end hh1 hit p2 hx0 fun h' x eb hx' => ?_)
    obtain ⟨o, ho, hco⟩ := hx'
    refine wpAny_bind (wpAny_isInstance (T := "StopIteration") (b := true) ⟨o, ho, hco⟩ isSubtype_stop ?_)
    exact wpAny_pure ⟨rfl, I.turned (t' := s.toks) (fun b o hb q => eb b o hb q) f0 f1 f3 f4 f5⟩
  self := fun A i s Q E st h => let ⟨⟨_, he⟩, _⟩ := st; wpAny_pyIter_enum he h
@[irreducible] def seqEn (K : PySem.W.Frag) (a : Addr) (H : Hp) (R : It → Hp → Prop) : Prop := (∃ xs, SqL K H a xs ∧ R (Ite K a) H) ∨ (∃ xs, SqT K H a xs ∧ R (IteT K a) H)
def uEnum (K : PySem.W.Frag) (ta : TA) : TI := fun σ H R => ta σ H fun vs H1 => match vs with
  | [.ref a] => seqEn K a H1 R
  | _ => False
theorem pi_enumA {X : Cx} {e : Expr} {ta : TA} {p pos tpos : Pos} {elts : List Expr} {kk : Nat} (K : PySem.W.Frag) (hK : X.K = K) (hg : Gl X "enumerate") (hm : X.mg "enumerate" = none) (ha : PA X [e] ta) (hs : starEach [e] X.env = [(false, eval e X.env)] := by rfl) :
    PI X (.Tuple elts kk tpos) (.Call (.Name "enumerate" p) [e] [] pos) (uEnum K ta) := by
  subst hK
  refine ⟨fun pins s σ H R I h => ?_⟩
  refine Call_ (ld_blt I hg hm boot_enumerate (PyProof.Rows.callWith_type1 (thn (ha.run pos pins s σ H _ I h) fun us s1 ⟨vs, H1, I1, r1, q1⟩ => ?_) hs rfl))
  match vs, q1, r1 with
  | [.ref a], q1, r1 =>
    have q1 : seqEn X.K a H1 R := q1
    unfold seqEn at q1
    obtain ⟨u, rfl, ru⟩ := vals1 r1
    obtain rfl : u = Value.ref a := ru
    rcases q1 with ⟨xs, hq, q⟩ | ⟨xs, hq, q⟩
    · obtain ⟨its, rv, p', hz⟩ := I1.list hq
      refine call_enumerate_list p'.isList fun h' he hit hsz hk => wpAny_pyIter_enum he ?_
      have I2 : Inv X pins σ H1 { s1 with heap := h' } := I1.kept (t' := s1.toks) hk
      refine ⟨s1.heap.objs.size + 1, [s1.heap.objs.size + 1, s1.heap.objs.size], _, _, H1, rfl, I2, turn_enum a (s1.heap.objs.size + 1) s1.heap.objs.size, ⟨⟨.none, he⟩, hit, Nat.succ_ne_self _⟩, fun b hb => ?_, q⟩
      have e' : b = s1.heap.objs.size + 1 ∨ b = s1.heap.objs.size := by simpa using hb
      have hle : s1.heap.objs.size ≤ b := by
        rcases e' with z | z
        · rw [z]; exact Nat.le_add_right _ _
        · rw [z]; exact Nat.le_refl _
      exact I1.fpOk hle (I1.hok.fresh hle)
    · obtain ⟨its, rv, p', hz⟩ := I1.tuple hq
      have p2 : s1.heap.IsTuple a its.toArray := p'
      have hal : a < s1.heap.objs.size := by obtain ⟨_, q, _⟩ := p2; exact Heap.lt_size q
      refine enum1_begins (begins_tuple a its.toArray) p2 fun h' he hit hsz hk => wpAny_pyIter_enum he ?_
      have I2 : Inv X pins σ H1 { s1 with heap := h' } := I1.kept (t' := s1.toks) hk
      refine ⟨s1.heap.objs.size + 1, [s1.heap.objs.size + 1, s1.heap.objs.size], _, _, H1, rfl, I2, turn_enumT a (s1.heap.objs.size + 1) s1.heap.objs.size, ⟨⟨.none, he⟩, ⟨_, hit, rfl, rfl⟩, Nat.succ_ne_self _, Nat.ne_of_gt (Nat.lt_succ_of_lt hal), Nat.ne_of_lt hal⟩, fun b hb => ?_, q⟩
      have e' : b = s1.heap.objs.size + 1 ∨ b = s1.heap.objs.size := by simpa using hb
      have hle : s1.heap.objs.size ≤ b := by
        rcases e' with z | z
        · rw [z]; exact Nat.le_add_right _ _
        · rw [z]; exact Nat.le_refl _
      exact I1.fpOk hle (I1.hok.fresh hle)
theorem walk_enumL {K : PySem.W.Frag} {a : Addr} {xs : List V} : Walk (Ite K a) xs.length (fun H => SqL K H a xs) (YPair (fun i => some (.int (i : Nat))) (fun i => xs[i]?)) := walk_enum
theorem walk_enumT {K : PySem.W.Frag} {a : Addr} {xs : List V} : Walk (IteT K a) xs.length (fun H => SqT K H a xs) (YPair (fun i => some (.int (i : Nat))) (fun i => xs[i]?)) :=
  ⟨fun i _ hi q => ⟨xs, xs[i], q, by simp [hi]⟩, fun _ q => ⟨xs, q, Nat.le_refl _⟩, fun i _ _ _ _ q y => by
    obtain ⟨T, x, e1, e2, e3, h⟩ := y
    exact ⟨T, _, x, e1, e2, e3, rfl, h xs q⟩⟩
/-- a for over enumerate of a list or a tuple -/
theorem for_en {K : PySem.W.Frag} {a : Addr} {xs : List V} {g : TG} {tb : TS} {D : Ends} {σ : L2.St} {H : Hp} (hx : SqA K H a xs) (Pv : Nat → L2.St → Hp → Prop) (h0 : Pv 0 σ H) (hk : ∀ i σ H', Pv i σ H' → (SqL K H a xs → SqL K H' a xs) ∧ (SqT K H a xs → SqT K H' a xs))
    (hs : ∀ i x T σ H H', xs[i]? = some x → Pv i σ H → Nw H T → Ext H H' → H' T = some (.tup [.int (i : Nat), x]) → g (.ref T) σ H' fun σ2 H2 => tb { D with nx := Pv (i + 1), ct := Pv (i + 1), bk := D.nx } σ2 H2) (hd : ∀ σ H, Pv xs.length σ H → D.nx σ H) :
    seqEn K a H fun J H1 => ∃ W : Nat → Nat → L2.St → Hp → Prop, (∃ m, W 0 m σ H1) ∧ ∀ i m σ H, W i m σ H →
      (J.stop i H ∧ D.nx σ H) ∨ (J.go i H ∧ ∃ N : L2.St → Hp → Prop, (∀ σ' H', N σ' H' → ∃ m', m' < m ∧ W (i + 1) m' σ' H') ∧ ∀ x H', J.yld i H x H' → g x σ H' fun σ2 H2 => tb { D with nx := N, ct := N, bk := D.nx } σ2 H2) := by
  have step : ∀ i x σ H H', i < xs.length → Pv i σ H → YPair (fun i => some (V.int (i : Nat))) (fun i => xs[i]?) i H x H' → g x σ H' fun σ2 H2 => tb { D with nx := Pv (i + 1), ct := Pv (i + 1), bk := D.nx } σ2 H2 := by
    rintro i x σ H H' hi p ⟨T, u, v, rfl, hT, rfl, e1, e2⟩
    cases e1
    exact hs i v T σ H _ e2 p ⟨hT⟩ ⟨Same.new (Same.refl H) hT⟩ upd_same
  unfold seqEn
  rcases hx with hx | hx
  · exact .inl ⟨xs, hx, for_it walk_enumL Pv h0 (fun i σ H' _ p => (hk i σ H' p).1 hx) step hd⟩
  · exact .inr ⟨xs, hx, for_it walk_enumT Pv h0 (fun i σ H' _ p => (hk i σ H' p).2 hx) step hd⟩
/-! ### targets -/
def uGNil : TGs := fun vs σ H Q => match vs with
  | [] => Q σ H
  | _ => False
def uGCons (t : TG) (u : TGs) : TGs := fun vs σ H Q => match vs with
  | v :: r => t v σ H fun σ' H' => u r σ' H' Q
  | [] => False
@[irreducible] def unpO (K : PySem.W.Frag) (a : Addr) (n : Nat) (H : Hp) (A : List V → Prop) : Prop := ∃ xs, SqT K H a xs ∧ xs.length = n ∧ A xs
theorem unpO_i {K : PySem.W.Frag} {a : Addr} {n : Nat} {H : Hp} {A : List V → Prop} {xs : List V} (h : SqT K H a xs) (e : xs.length = n) (q : A xs) : unpO K a n H A := by
  unfold unpO
  exact ⟨xs, h, e, q⟩
def uGTup (K : PySem.W.Frag) (n : Nat) (t : TGs) : TG := fun v σ H Q => match v with
  | .ref a => unpO K a n H fun xs => t xs σ H Q
  | _ => False
section
variable {X : Cx} {pos : Pos}
theorem pgs_nilU : PGs X [] uGNil := by
  refine ⟨fun pins s σ H vs us Q I r h => ?_⟩
  match vs, h with
  | [], h => exact pgs_nil.run pins s σ H [] us Q I r ⟨rfl, h⟩
theorem pgs_consU {e : Expr} {es : List Expr} {t : TG} {u : TGs} (h1 : PG X e t) (h2 : PGs X es u) (hs : (assignEach (e :: es) X.env).map (·.2) = assign e X.env :: (assignEach es X.env).map (·.2) := by rfl) : PGs X (e :: es) (uGCons t u) := by
  refine ⟨fun pins s σ H vs us Q I r h => ?_⟩
  match vs, h with
  | v :: w, h => exact (pgs_cons h1 h2 hs).run pins s σ H (v :: w) us Q I r ⟨v, w, rfl, h⟩
theorem pg_tupU {es : List Expr} {k : Nat} {t : TGs} {n : Nat} (K : PySem.W.Frag) (hK : X.K = K) (hc : X.calm = true) (h : PGs X es t)
    (hn : (assignEach es X.env).length = n := by rfl) (hst : (assignEach es X.env).findIdx? (·.1) = none := by rfl) : PG X (.Tuple es k pos) (uGTup K n t) := by
  subst hK
  refine ⟨fun pins s σ H v u Q I r hw => (pg_tup hc h hn hst).run pins s σ H v u Q I r ?_⟩
  obtain ⟨a, rfl, hw⟩ := uMeth_e (A := fun a H => unpO X.K a n H fun xs => t xs σ H Q) hw
  have hw : unpO X.K a n H fun xs => t xs σ H Q := hw
  unfold unpO at hw
  obtain ⟨xs, h1, h2, h3⟩ := hw
  exact ⟨a, xs, rfl, h1, h2, h3⟩
end
end U

set_option Elab.async false
set_option linter.all false
set_option maxRecDepth 100000
set_option maxHeartbeats 4000000
namespace U
open PySem PySem.Spec PyProof.Rows L2
/-! ### plain values, trees as they come -/
/-- a value that is no object -/
def Flat : V → Prop
  | .int _ => True
  | .bl _ => True
  | .str _ => True
  | .non => True
  | _ => False
def isW : V → Bool
  | .int _ => true
  | _ => false
/-- a value that is told: no object, a list or a tuple -/
def Known (K : PySem.W.Frag) (H : Hp) (x : V) : Prop := Flat x ∨ ∃ a xs, x = .ref a ∧ SqA K H a xs
/-- a whole number from 0 below k -/
def inRg (k : Int) : V → Bool
  | .int i => decide (0 ≤ i) && decide (i < k)
  | _ => false
/-- may this stand at place k of a tree -/
def mayB (k : Nat) (v : V) : Bool := if k = 0 then decide (v = .non) else inRg k v
theorem mayB_ok {T : Tr} (h : TreeOk T) {k : Nat} {o : Option Nat} (e : T[k]? = some o) : mayB k (pV o) = true := by
  have hk := (List.getElem?_eq_some_iff.mp e).1
  rcases h.case hk with ⟨rfl, e2⟩ | ⟨h0, j, hj, e2⟩
  · rw [e] at e2; cases e2
    simp [mayB, pV]
  · rw [e] at e2; cases e2
    unfold mayB
    rw [if_neg (by omega)]
    show (decide ((0 : Int) ≤ (j : Nat)) && decide (((j : Nat) : Int) < k)) = true
    rw [decide_eq_true (show (0 : Int) ≤ (j : Nat) by omega), decide_eq_true (show ((j : Nat) : Int) < k by omega)]
    rfl
theorem pV_flat (o : Option Nat) : Flat (pV o) := by
  cases o <;> exact True.intro
theorem pV_get {T : Tr} {k : Nat} {v : V} (h : (T.map pV)[k]? = some v) : ∃ o, T[k]? = some o ∧ v = pV o := by
  rw [List.getElem?_map] at h
  obtain ⟨o, h1, h2⟩ := Option.map_eq_some_iff.mp h
  exact ⟨o, h1, h2.symm⟩
theorem dp_pV {K : PySem.W.Frag} {H : Hp} : ∀ T : Tr, DpAll K H (T.map pV) (T.map pD)
  | [] => .nil
  | none :: r => .cons .non (dp_pV r)
  | some j :: r => .cons (.int _) (dp_pV r)
theorem Same.fz_sqt {K : PySem.W.Frag} {F H : Hp} {a : Addr} {xs : List V} (s : Same F H) (h : SqT K F a xs) : SqT K H a xs := Same.sqt s h
/-- the first place of things that does not fit a tree of at most eight places -/
def firstW (xs : List V) : Option Nat := (List.range xs.length).find? fun i => decide (i = 8) || !mayB i (xs.getD i .non)
theorem firstW_hit {xs : List V} {i : Nat} (hi : i < xs.length) (h : ∀ j, j < i → (decide (j = 8) || !mayB j (xs.getD j .non)) = false) (hq : (decide (i = 8) || !mayB i (xs.getD i .non)) = true) : firstW xs = some i := by
  unfold firstW
  refine find_hit (i := i) (by rw [List.getElem?_range hi]) (fun j y hj hy => ?_) hq
  rw [List.getElem?_range (by omega)] at hy
  cases hy
  exact h j hj
theorem firstW_none {xs : List V} (h : ∀ j, j < xs.length → (decide (j = 8) || !mayB j (xs.getD j .non)) = false) : firstW xs = none := by
  unfold firstW
  refine find_none fun j y hj hy => ?_
  rw [List.length_range] at hj
  rw [List.getElem?_range hj] at hy
  cases hy
  exact h j hj
theorem firstW_ok {T : Tr} (h : TreeOk T) (h8 : T.length ≤ 8) : firstW (T.map pV) = none := firstW_none fun j hj => by
  rw [List.length_map] at hj
  have e : (T.map pV).getD j .non = pV T[j] := by
    rw [List.getD_eq_getElem?_getD, List.getElem?_map, List.getElem?_eq_getElem hj]
    rfl
  rw [e, mayB_ok h (List.getElem?_eq_getElem hj), decide_eq_false (by omega)]
  rfl
theorem known_pV {K : PySem.W.Frag} {H : Hp} {o : Option Nat} : Known K H (pV o) := .inl (pV_flat o)
theorem Known.ext {K : PySem.W.Frag} {H H' : Hp} {x : V} (e : Ext H H') (h : Known K H x) : Known K H' x := h.elim .inl fun ⟨a, xs, e1, h⟩ => .inr ⟨a, xs, e1, ext_sqa e h⟩
theorem inRg_ok {n k : Nat} (h : k < n) : inRg (n : Int) (.int (k : Nat)) = true := by
  show (decide ((0 : Int) ≤ (k : Nat)) && decide (((k : Nat) : Int) < (n : Int))) = true
  rw [decide_eq_true (show (0 : Int) ≤ (k : Nat) by omega), decide_eq_true (show ((k : Nat) : Int) < (n : Int) by omega)]
  rfl
theorem mem_abc {c : Nat} : c ∈ abcL ↔ 97 ≤ c ∧ c < 123 := by
  constructor
  · intro h; exact abcL_lets c h
  · intro h
    have e : abcL = (List.range 26).map fun k => k + 97 := rfl
    rw [e]
    exact List.mem_map.mpr ⟨c - 97, List.mem_range.mpr (by omega), by omega⟩
/-- is it a small letter; are all of them -/
def letB (c : Nat) : Bool := decide (97 ≤ c ∧ c < 123)
def letsB (l : List Nat) : Bool := (l.map letB).all id
theorem letsB_ok {l : List Nat} : letsB l = true ↔ Lets l := by
  unfold letsB
  rw [List.all_eq_true]
  constructor
  · intro h c hc
    exact of_decide_eq_true (h _ (List.mem_map.mpr ⟨c, hc, rfl⟩))
  · intro h b hb
    obtain ⟨c, hc, rfl⟩ := List.mem_map.mp hb
    exact decide_eq_true (h c hc)
def wordB (n : Nat) (l : List Nat) : Bool := decide (l.length = n) && letsB l
theorem wordB_ok {T : Tr} {l : List Nat} (w : Wd T l) : wordB T.length l = true := by
  unfold wordB
  rw [decide_eq_true w.len, letsB_ok.mpr w.lets]
  rfl
/-- the letters above k, the nearest first -/
def seenL (T : Tr) (s : List Nat) (k : Nat) : List Nat := (ups T k).map fun j => s.getD j 0
/-- the first that is unlike the nearest -/
def farL : List Nat → Option Nat
  | [] => none
  | c :: r => r.find? fun d => decide (d ≠ c)
def letV : Option Nat → V
  | none => .non
  | some c => .str (tx [c])
theorem getD_some {s : List Nat} {j c : Nat} (h : s[j]? = some c) : s.getD j 0 = c := by
  rw [List.getD_eq_getElem?_getD, h]
  rfl
theorem find_map {f : Nat → Nat} {q : Nat → Bool} : ∀ l : List Nat, (l.map f).find? q = (l.find? fun x => q (f x)).map f
  | [] => rfl
  | a :: r => by
    rw [List.map_cons]
    by_cases h : q (f a) = true
    · rw [List.find?_cons_of_pos h, List.find?_cons_of_pos (p := fun x => q (f x)) h]
      rfl
    · rw [List.find?_cons_of_neg h, List.find?_cons_of_neg (p := fun x => q (f x)) h, find_map r]
theorem seenL_sgs {T : Tr} {s : List Nat} {k : Nat} (h : TreeOk T) (hs : s.length = T.length) (hk : k < T.length) (g : Sgs s) : Sgs (seenL T s k) := fun c hc => by
  obtain ⟨j, hj, rfl⟩ := List.mem_map.mp hc
  have hj2 : j < s.length := by have := ups_lt h k hk j hj; omega
  rw [List.getD_eq_getElem?_getD, List.getElem?_eq_getElem hj2]
  exact g _ (List.getElem_mem hj2)
theorem filter_head {q : Nat → Bool} : ∀ l : List Nat, (l.filter q).head? = l.find? q
  | [] => rfl
  | a :: r => by
    by_cases h : q a = true
    · rw [List.filter_cons_of_pos h, List.find?_cons_of_pos h]; rfl
    · rw [List.filter_cons_of_neg h, List.find?_cons_of_neg h, filter_head r]
/-- a deed by the letters seen -/
theorem deed_seen {T : Tr} {s : List Nat} {k c : Nat} (h : TreeOk T) (hs : s.length = T.length) (hk : k < T.length) (hc : s[k]? = some c) : deed T s k = match (seenL T s k).find? (fun d => decide (d ≠ c)) with
    | some d => s.set k d
    | none => s := by
  unfold deed seenL
  rw [find_map]
  have e : (ups T k).find? (fun j => decide (s[j]? ≠ s[k]?)) = (ups T k).find? (fun j => decide (s.getD j 0 ≠ c)) := by
    have q : ∀ l : List Nat, (∀ j ∈ l, j < s.length) → l.find? (fun j => decide (s[j]? ≠ s[k]?)) = l.find? (fun j => decide (s.getD j 0 ≠ c)) := by
      intro l
      induction l with
      | nil => intro _; rfl
      | cons a r ih =>
        intro hl
        have ha := hl a (List.mem_cons_self ..)
        have e1 : s[a]? = some (s.getD a 0) := by rw [List.getD_eq_getElem?_getD, List.getElem?_eq_getElem ha]; rfl
        have e2 : (s[a]? ≠ s[k]?) ↔ (s.getD a 0 ≠ c) := by rw [e1, hc]; simp
        rw [List.find?_cons, List.find?_cons, decide_eq_decide.mpr e2, ih fun j hj => hl j (List.mem_cons_of_mem _ hj)]
    exact q _ fun j hj => by have := ups_lt h k hk j hj; omega
  rw [e]
  cases (ups T k).find? (fun j => decide (s.getD j 0 ≠ c)) <;> rfl
end U

set_option Elab.async false
set_option linter.all false
set_option maxRecDepth 100000
set_option maxHeartbeats 4000000
namespace U
open PySem PySem.Spec PyProof.Rows L2
/-! ### a, .., *rest = a list or a tuple -/
section
variable {prog : Program} {w : World} {A : Around} {E : Value → Shared → Prop} {s : Shared}
theorem star_list {l : Addr} {items : Array Value} {i : Nat} {Q : List Value → Shared → Prop} (hl : s.heap.IsList l items) (hh : A.handled = none) (hi : i ≤ items.size) (hz : items.size ≤ 16384)
    (h : ∀ (h' : Heap) (tk : Nat), (∀ b o, s.heap.get? b = some o → h'.get? b = some o) → Q (items.toList.take i ++ [.ref h'.objs.size]) { s with heap := h'.push { cls := .type "list", data := .seq (items.toList.drop i).toArray }, toks := tk }) :
    wpAny (model prog w) A (unpackItems (.ref l) (i + 1) (some i)) Q E s := by
  have hlt : l ≠ s.heap.objs.size := by obtain ⟨o, ho, _⟩ := hl; exact Nat.ne_of_lt (Heap.lt_size ho)
  unfold unpackItems
  refine wpAny_bind ?_
  unfold notIterableAtAll
  refine wpAny_bind (wpAny_specialOf hl.typeIs slot_list_iter.lookup ?_)
  refine wpAny_pure ?_
  simp only [Bool.false_eq_true, if_false]
  refine wpAny_bind (wpAny_holding (wpAny_pyIter_list hl ?_))
  refine wpAny_bind (wpAny_holding (PySem.W.kun_draw hlt i 0 _ _ ⟨_, Heap.get?_push_size _ rfl, rfl, rfl⟩ (hl.push _) (by omega) fun h₁ hit₁ hs₁ => ?_))
  have hl₁ : h₁.IsList l items := (hl.push _).extBut hs₁.extBut hlt
  rw [Nat.zero_add] at hit₁
  have hit₁' := hit₁
  obtain ⟨oi, hoi, _⟩ := hit₁'
  have hl₁' := hl₁
  obtain ⟨ol, hol, _⟩ := hl₁'
  rw [List.drop_zero]
  have hfl : (items.toList.take i).length = i := by rw [List.length_take, Array.length_toList]; omega
  rw [if_neg (show ¬ ((items.toList.take i).length < i) by rw [hfl]; omega)]
  refine wpAny_bind (wpAny_holding (PySem.W.kun_collect (s := { s with heap := h₁ }) (T := "list_iterator") (.inr (.inr (.inl rfl))) (Walks.list (A := A.in1) hh s.heap.objs.size l hlt items) (fun j u st => st.1.typeIs) (k := i) (by omega) ⟨hit₁, hl₁⟩ (Heap.lt_size hoi) (Heap.lt_size hol) (fun h₂ tk hk => ?_) (by rw [sizeLine_eq]; omega)))
  have hrl : (items.toList.drop i).length = items.size - i := by rw [List.length_drop, Array.length_toList]
  show wpAny _ _ (if (items.toList.drop i).length < i + 1 - 1 - i then _ else _) _ _ _
  rw [if_neg (by omega)]
  show wpAny _ _ (newList ((items.toList.drop i).take ((items.toList.drop i).length - (i + 1 - 1 - i))) >>= fun d => pure (items.toList.take i ++ [d] ++ (items.toList.drop i).drop ((items.toList.drop i).length - (i + 1 - 1 - i)))) _ _ _
  have e0 : (items.toList.drop i).length - (i + 1 - 1 - i) = (items.toList.drop i).length := by omega
  rw [e0, List.take_length, List.drop_length]
  have he : Heap.ExtBut s.heap.objs.size s.heap h₂ := fun b o hb e => hk b o hb (hs₁.extBut b o hb (Heap.get?_push_of_some _ e))
  refine wpAny_bind (wpAny_newList (wpAny_pure ?_) (by rw [hrl, sizeLine_eq]; omega))
  rw [List.append_nil]
  exact h h₂ tk fun b o e => he b o (Nat.ne_of_lt (Heap.lt_size e)) e
theorem star_tuple {l : Addr} {items : Array Value} {i : Nat} {Q : List Value → Shared → Prop} (hl : IsTup s.heap l items) (hh : A.handled = none) (hi : i ≤ items.size) (hz : items.size ≤ 16384)
    (h : ∀ (h' : Heap) (tk : Nat), (∀ b o, s.heap.get? b = some o → h'.get? b = some o) → Q (items.toList.take i ++ [.ref h'.objs.size]) { s with heap := h'.push { cls := .type "list", data := .seq (items.toList.drop i).toArray }, toks := tk }) :
    wpAny (model prog w) A (unpackItems (.ref l) (i + 1) (some i)) Q E s := by
  have hlt : l ≠ s.heap.objs.size := by obtain ⟨o, ho, _⟩ := hl; exact Nat.ne_of_lt (Heap.lt_size ho)
  unfold unpackItems
  refine wpAny_bind ?_
  unfold notIterableAtAll
  refine wpAny_bind (wpAny_specialOf hl.typeIs slot_tuple_iter.lookup ?_)
  refine wpAny_pure ?_
  simp only [Bool.false_eq_true, if_false]
  refine wpAny_bind (wpAny_holding (iter_tuple hl ?_))
  refine wpAny_bind (wpAny_holding (draw_tuple hlt i 0 _ _ ⟨_, Heap.get?_push_size _ rfl, rfl, rfl⟩ (hl.push _) (by omega) fun h₁ hit₁ hs₁ => ?_))
  have hl₁ : IsTup h₁ l items := (hl.push _).extBut hs₁.extBut hlt
  rw [Nat.zero_add] at hit₁
  have hit₁' := hit₁
  obtain ⟨oi, hoi, _⟩ := hit₁'
  have hl₁' := hl₁
  obtain ⟨ol, hol, _⟩ := hl₁'
  rw [List.drop_zero]
  have hfl : (items.toList.take i).length = i := by rw [List.length_take, Array.length_toList]; omega
  rw [if_neg (show ¬ ((items.toList.take i).length < i) by rw [hfl]; omega)]
  refine wpAny_bind (wpAny_holding (PySem.W.kun_collect (s := { s with heap := h₁ }) (T := "tuple_iterator") (.inr (.inr (.inr rfl))) (Walks.tuple (A := A.in1) hh s.heap.objs.size l hlt items) (fun j u st => st.1.typeIs) (k := i) (by omega) ⟨hit₁, hl₁⟩ (Heap.lt_size hoi) (Heap.lt_size hol) (fun h₂ tk hk => ?_) (by rw [sizeLine_eq]; omega)))
  have hrl : (items.toList.drop i).length = items.size - i := by rw [List.length_drop, Array.length_toList]
  show wpAny _ _ (if (items.toList.drop i).length < i + 1 - 1 - i then _ else _) _ _ _
  rw [if_neg (by omega)]
  show wpAny _ _ (newList ((items.toList.drop i).take ((items.toList.drop i).length - (i + 1 - 1 - i))) >>= fun d => pure (items.toList.take i ++ [d] ++ (items.toList.drop i).drop ((items.toList.drop i).length - (i + 1 - 1 - i)))) _ _ _
  have e0 : (items.toList.drop i).length - (i + 1 - 1 - i) = (items.toList.drop i).length := by omega
  rw [e0, List.take_length, List.drop_length]
  have he : Heap.ExtBut s.heap.objs.size s.heap h₂ := fun b o hb e => hk b o hb (hs₁.extBut b o hb (Heap.get?_push_of_some _ e))
  refine wpAny_bind (wpAny_newList (wpAny_pure ?_) (by rw [hrl, sizeLine_eq]; omega))
  rw [List.append_nil]
  exact h h₂ tk fun b o e => he b o (Nat.ne_of_lt (Heap.lt_size e)) e
end
@[irreducible] def unsO (K : PySem.W.Frag) (a : Addr) (i : Nat) (H : Hp) (A : List V → Hp → Prop) : Prop := ∃ xs, SqA K H a xs ∧ i ≤ xs.length ∧ xs.length ≤ 10000 ∧ ∀ d, H d = none → A (xs.take i ++ [.ref d]) (upd H d (.lst (xs.drop i)))
theorem unsO_h {K : PySem.W.Frag} {a : Addr} {i : Nat} {H : Hp} {A : List V → Hp → Prop} {xs : List V} (h : SqA K H a xs) (hi : i ≤ xs.length) (hz : xs.length ≤ 10000) (q : ∀ d H', Nw H d → Ext H H' → H' d = some (.lst (xs.drop i)) → A (xs.take i ++ [.ref d]) H') : unsO K a i H A := by
  unfold unsO
  exact ⟨xs, h, hi, hz, fun d hd => q d _ ⟨hd⟩ ⟨Same.new (Same.refl H) hd⟩ upd_same⟩
def uGStar (K : PySem.W.Frag) (i : Nat) (t : TGs) : TG := fun v σ H Q => match v with
  | .ref a => unsO K a i H fun xs H1 => t xs σ H1 Q
  | _ => False
section
variable {X : Cx} {pos : Pos}
theorem pgs_starU {e : Expr} {es : List Expr} {t : TG} {u : TGs} {p : Pos} (h1 : PG X e t) (h2 : PGs X es u) (hs : (assignEach (.Starred e p :: es) X.env).map (·.2) = assign e X.env :: (assignEach es X.env).map (·.2) := by rfl) : PGs X (.Starred e p :: es) (uGCons t u) := by
  refine ⟨fun pins s σ H vs us Q I r h => ?_⟩
  match vs, h, r with
  | v :: w, h, .cons r rr =>
    rw [hs]
    refine assignInOrder_cons (thn (h1.run pins s σ H _ _ _ I r h) fun _ s1 ⟨σ1, H1, I1, q1⟩ => ?_)
    exact h2.run pins s1 σ1 H1 _ _ Q I1 rr q1
theorem pg_starU {es : List Expr} {k : Nat} {t : TGs} {i : Nat} (K : PySem.W.Frag) (hK : X.K = K) (hc : X.calm = true) (h : PGs X es t)
    (hn : (assignEach es X.env).length = i + 1 := by rfl) (hst : (assignEach es X.env).findIdx? (·.1) = some i := by rfl) : PG X (.Tuple es k pos) (uGStar K i t) := by
  subst hK
  refine ⟨fun pins s σ H v u Q I r hw => ?_⟩
  obtain ⟨a, rfl, hw⟩ := uMeth_e (A := fun a H => unsO X.K a i H fun xs H1 => t xs σ H1 Q) hw
  have hw : unsO X.K a i H fun xs H1 => t xs σ H1 Q := hw
  unfold unsO at hw
  obtain ⟨xs, hx, hi, hz, q⟩ := hw
  obtain rfl : u = Value.ref a := r
  rw [assign_Tuple]
  refine wpAny_bind (wpAny_standAt ?_)
  unfold unpack
  rw [hn, hst]
  have fin : ∀ (its : List Value), Vals xs its → ∀ (h' : Heap) (tk : Nat), (∀ b o, s.heap.get? b = some o → h'.get? b = some o) →
      wpAny (model X.prog X.w) X.A (assignInOrder ((assignEach es X.env).map (·.2)) (its.take i ++ [.ref h'.objs.size])) (fun _ s' => ∃ σ' H', Inv X pins σ' H' s' ∧ Q σ' H') X.xe { s with heap := h'.push { cls := .type "list", data := .seq (its.drop i).toArray }, toks := tk } := by
    intro its rv h' tk hk
    have I2 : Inv X pins σ H { s with heap := h', toks := tk } := I.kept (t' := tk) hk
    have hf : H h'.objs.size = none := I2.hok.fresh (Nat.le_refl _)
    have rd : Vals (xs.drop i) (its.drop i) := rv.drop i
    have hzz : (xs.drop i).length ≤ sizeLine := by rw [List.length_drop]; exact lst_small (by omega)
    have I3 : Inv X pins σ (upd H h'.objs.size (.lst (xs.drop i))) { s with heap := h'.push { cls := .type "list", data := .seq (its.drop i).toArray }, toks := tk } :=
      I2.laid (t' := tk) (fun b u e => Heap.get?_push_of_some _ e) (Nat.le_refl _) ⟨hzz, its.drop i, 0, rd, Heap.get?_push_size _ rfl⟩
    exact h.run pins _ σ _ _ _ Q I3 ((rv.take i).append (show Vals [V.ref h'.objs.size] [Value.ref h'.objs.size] from .cons rfl .nil)) (q _ hf)
  rcases hx with hx | hx
  · obtain ⟨its, rv, p, hz2⟩ := I.list hx
    have hl := rv.length
    exact wpAny_bind (wpAny_holding (star_list (i := i) p.isList (I.ok.hd hc) (by simp; omega) (by simp; omega) fun h' tk hk => fin its rv h' tk hk))
  · obtain ⟨its, rv, p, hz2⟩ := I.tuple hx
    have hl := rv.length
    exact wpAny_bind (wpAny_holding (star_tuple (i := i) p (I.ok.hd hc) (by simp; omega) (by simp; omega) fun h' tk hk => fin its rv h' tk hk))
end
end U

set_option Elab.async false
set_option linter.all false
set_option maxRecDepth 100000
set_option maxHeartbeats 4000000
namespace U
open PySem PySem.Spec PyProof.Rows L2
/-! ### dicts -/
theorem Rm.units1 {k : Nat} {A : Around} (r : Rm k A) : A.units + 1 < cLine := by
  have := r.units65
  omega
@[irreducible] def dgetO (a : Addr) (y : V) (H : Hp) (Q : VK) : Prop := ∃ v, DGet H a y (some v) ∧ Q v H
@[irreducible] def dinO (ne : Bool) (a : Addr) (y : V) (H : Hp) (Q : VK) : Prop := ∃ o, DGet H a y o ∧ Q (.bl (ne ^^ o.isSome)) H
@[irreducible] def dputO (a : Addr) (y v : V) (H : Hp) (Q : Hp → Prop) : Prop := ∃ H', DPut H a y v H' ∧ Q H'
theorem dgetO_s {a : Addr} {z : Str} {v : V} {H : Hp} {Q : VK} {kvs : List (Key × V)} (h : H a = some (.dK kvs)) (e : valV kvs (.inr z) = some v) (q : Q v H) : dgetO a (.str z) H Q := by
  unfold dgetO
  exact ⟨v, by rw [← e]; exact DGet.k (k := .inr z) h, q⟩
theorem dinO_s {ne : Bool} {a : Addr} {z : Str} {H : Hp} {Q : VK} {kvs : List (Key × V)} (h : H a = some (.dK kvs)) (q : Q (.bl (ne ^^ (valV kvs (.inr z)).isSome)) H) : dinO ne a (.str z) H Q := by
  unfold dinO
  exact ⟨_, DGet.k (k := .inr z) h, q⟩
theorem dputO_s {a : Addr} {z : Str} {v : V} {H : Hp} {Q : Hp → Prop} {kvs : List (Key × V)} (h : H a = some (.dK kvs)) (hl : kvs.length < sizeLine) (q : ∀ H', But a H H' → H' a = some (.dK (putK kvs (.inr z) v)) → Q H') : dputO a (.str z) v H Q := by
  unfold dputO
  exact ⟨_, DPut.k (k := .inr z) h hl, q _ (But.set (But.refl a H)) upd_same⟩
theorem dgetO_t {a b : Addr} {k : List Key} {v : V} {H : Hp} {Q : VK} {kvs : List (List Key × V)} (h : H a = some (.dT kvs)) (hb : H b = some (.tup (k.map kV))) (e : valV kvs k = some v) (q : Q v H) : dgetO a (.ref b) H Q := by
  unfold dgetO
  exact ⟨v, by rw [← e]; exact DGet.t h hb, q⟩
theorem dinO_t {ne : Bool} {a b : Addr} {k : List Key} {H : Hp} {Q : VK} {kvs : List (List Key × V)} (h : H a = some (.dT kvs)) (hb : H b = some (.tup (k.map kV))) (q : Q (.bl (ne ^^ (valV kvs k).isSome)) H) : dinO ne a (.ref b) H Q := by
  unfold dinO
  exact ⟨_, DGet.t h hb, q⟩
theorem dputO_t {a b : Addr} {k : List Key} {v : V} {H : Hp} {Q : Hp → Prop} {kvs : List (List Key × V)} (h : H a = some (.dT kvs)) (hb : H b = some (.tup (k.map kV))) (hl : kvs.length < sizeLine) (q : ∀ H', But a H H' → H' a = some (.dT (putK kvs k v)) → Q H') : dputO a (.ref b) v H Q := by
  unfold dputO
  exact ⟨_, DPut.t h hb hl, q _ (But.set (But.refl a H)) upd_same⟩
def uDGet (td ty : TE) : TE := fun σ H Q => td σ H fun x H1 => ty σ H1 fun y H2 => match x with
  | .ref a => dgetO a y H2 Q
  | _ => False
def uDIn (ne : Bool) (ty td : TE) : TE := fun σ H Q => ty σ H fun y H1 => td σ H1 fun x H2 => match x with
  | .ref a => dinO ne a y H2 Q
  | _ => False
def uDPut (td ty tv : TE) : TS := fun D σ H => tv σ H fun v H1 => td σ H1 fun x H2 => ty σ H2 fun y H3 => match x with
  | .ref a => dputO a y v H3 (D.nx σ)
  | _ => False
def uDNewK : TE := fun _ H Q => new H (.dK []) Q
def uDNewT : TE := fun _ H Q => new H (.dT []) Q
section
variable {X : Cx} {o i e value : Expr} {pos pos' : Pos} {td ty tv : TE}
theorem pe_dgetU (hu : X.A.units + 1 < cLine) (ho : PE X o td) (hi : PE X i ty) (hs : NoSl i) : PE X (.Subscript o i pos) (uDGet td ty) := by
  refine ⟨fun pins s σ H Q I h => ?_⟩
  refine subD_of PySem.F.slot_dict_getitem.lookup hs (thn (ho.run pins s σ H _ I h) fun u s1 ⟨x, H1, I1, rx, q1⟩ => thn (hi.run pins s1 σ H1 _ I1 q1) fun iv s2 ⟨y, H2, I2, ry, q2⟩ => ?_)
  obtain ⟨a, rfl, q2⟩ := uMeth_e (A := fun a H2 => dgetO a y H2 Q) q2
  unfold dgetO at q2
  obtain ⟨v, g, q2⟩ := q2
  obtain rfl : u = Value.ref a := rx
  exact ⟨dict_typeIs I2 g, d_getItem hu I2 g ry fun w' s3 I3 rw' => ⟨v, H2, I3, rw', q2⟩⟩
theorem pc_dinU (hu : X.A.units + 1 < cLine) (hi : PE X i ty) (ho : PE X o td) : PC X .In i o (uDIn false ty td) := by
  refine ⟨fun pins s σ H Q I h => ?_⟩
  refine thn (hi.run pins s σ H _ I h) fun iv s1 ⟨y, H1, I1, ry, q1⟩ => thn (ho.run pins s1 σ H1 _ I1 q1) fun u s2 ⟨x, H2, I2, rx, q2⟩ => ?_
  obtain ⟨a, rfl, q2⟩ := uMeth_e (A := fun a H2 => dinO false a y H2 Q) q2
  unfold dinO at q2
  obtain ⟨ov, g, q2⟩ := q2
  obtain rfl : u = Value.ref a := rx
  exact d_in hu I2 g ry fun s3 I3 => ⟨.bl ov.isSome, H2, I3, rfl, by simpa using q2⟩
theorem pc_dnotinU (hu : X.A.units + 1 < cLine) (hi : PE X i ty) (ho : PE X o td) : PC X .NotIn i o (uDIn true ty td) := by
  refine ⟨fun pins s σ H Q I h => ?_⟩
  refine thn (hi.run pins s σ H _ I h) fun iv s1 ⟨y, H1, I1, ry, q1⟩ => thn (ho.run pins s1 σ H1 _ I1 q1) fun u s2 ⟨x, H2, I2, rx, q2⟩ => ?_
  obtain ⟨a, rfl, q2⟩ := uMeth_e (A := fun a H2 => dinO true a y H2 Q) q2
  unfold dinO at q2
  obtain ⟨ov, g, q2⟩ := q2
  obtain rfl : u = Value.ref a := rx
  exact d_notIn hu I2 g ry fun s3 I3 => ⟨.bl (!ov.isSome), H2, I3, rfl, by simpa using q2⟩
theorem ps_dputU (hu : X.A.units + 1 < cLine) (ho : PE X o td) (hi : PE X i ty) (hv : PE X value tv) (hs : swapsWith value (some (.Subscript o i pos')) pos.line X.env = pure false := by rfl) :
    PS X (.Assign [.Subscript o i pos'] value pos) (uDPut td ty tv) := by
  refine ⟨fun pins s σ H D I h => ?_⟩
  refine wpAny_Assign_Subscript (thn (hv.run pins s σ H _ I h) fun r s1 ⟨v, H1, I1, rv, q1⟩ => thn (ho.run pins s1 σ H1 _ I1 q1) fun u s2 ⟨x, H2, I2, rx, q2⟩ => thn (hi.run pins s2 σ H2 _ I2 q2) fun iv s3 ⟨y, H3, I3, ry, q3⟩ => ?_) hs
  obtain ⟨a, rfl, q3⟩ := uMeth_e (A := fun a H2 => dputO a y v H2 (D.nx σ)) q3
  unfold dputO at q3
  obtain ⟨H4, g, q3⟩ := q3
  obtain rfl : u = Value.ref a := rx
  exact d_setItem hu I3 g ry rv fun s4 I4 => ⟨σ, H4, I4, q3⟩
theorem pe_dnewKU : PE X (.Dict [] [] pos) uDNewK := pe_is pe_dnewK fun σ H Q q => new_e q
theorem pe_dnewTU : PE X (.Dict [] [] pos) uDNewT := pe_is pe_dnewT fun σ H Q q => new_e q
/-- a comparison that is its own reading, as a value, as a test -/
theorem pe_pc {op : CmpOp} {a b : Expr} {t : TE} (h : PC X op a b t) (h1 : behindInMarks op b = false) : PE X (.Compare a [op] [b] pos) t := L2.pe_cmp h h1
theorem pt_pc {op : CmpOp} {a b : Expr} {t : TE} (h : PC X op a b t) (h1 : behindInMarks op b = false) : PT X (.Compare a [op] [b] pos) (uTest t) := thnP (L2.pt_cmp h h1) fun σ H Q q => by
  have q : t σ H fun x H' => uB x fun k => Q k H' := q
  have e : (fun (x : V) (H' : Hp) => uB x fun k => Q k H') = fun x H' => ∃ k, x = .bl k ∧ Q k H' := by
    funext x H'
    apply propext
    constructor
    · exact uB_ex
    · rintro ⟨k, rfl, z⟩
      exact z
  rw [e] at q
  exact q
end
/-! ### calls with keywords -/
/-- f called with n values by places and keywords ks -/
def BdK (K : PySem.W.Frag) (f : Addr) (ps : List Str) (n : Nat) (ks : List Str) (gV : List V → List V → List V) : Prop := PySem.W.keepIn K (.ref f) = true ∧ ∃ fd g, FdAt K f fd ∧ KBn K fd ps n ks g gV
theorem bdk_of {K : PySem.W.Frag} {x qual : Str} {params : Arguments} {body : List Stmt} {scope : Scope} {kws : List (Str × V)} {f : Addr} {ps : List Str} {n : Nat} {ks : List Str} {g : List Value → List Value → List Value} {gV : List V → List V → List V} (F : ∃ fd, FunD K x qual params body scope [] kws f fd)
    (hrel : ∀ {vs : List V} {us : List Value} {zs : List V} {ws : List Value}, Vals vs us → Vals zs ws → Vals (gV vs zs) (g us ws))
    (h : ∀ (kV doc pm : Value) (an : Option Addr) (cdv ct : Value) (us ws : List Value), us.length = n → ws.length = ks.length → bindArgs (PySem.W.fnOf x qual params body scope .none kV doc pm an cdv ct) ⟨us, ks.zip ws⟩ = pure (ps.zip (g us ws))) : BdK K f ps n ks gV := by
  obtain ⟨fd, F⟩ := F
  obtain ⟨oc, od, dV, kV, doc, pm, an, cdv, ct, osl, e1, lk, hcd, hD, hK⟩ := id F.ex
  refine ⟨F.kp, fd, g, ⟨oc, od, osl, lk⟩, ⟨fun s us ws X l1 l2 => ?_, hrel⟩⟩
  subst e1
  rcases hD with ⟨_, rfl⟩ | ⟨e, _⟩
  · exact BindsTo.of_eq (h kV doc pm an cdv ct us ws l1 l2)
  · exact absurd rfl e
/-- keyword-only defaults fill up -/
theorem bd_kw {K : PySem.W.Frag} {x qual : Str} {params : Arguments} {body : List Stmt} {scope : Scope} {kws : List (Str × V)} {f : Addr} {ps : List Str} (F : ∃ fd, FunD K x qual params body scope [] kws f fd) (n : Nat) (hk : kws ≠ []) (hn : n + kws.length = ps.length)
    (h : ∀ (D : Addr) (doc pm : Value) (an : Option Addr) (cdv ct : Value) (us ks : List Value), us.length = n → ks.length = kws.length →
      KwChain D ((kws.map (·.1)).zip ks) (bindArgs (PySem.W.fnOf x qual params body scope .none (.ref D) doc pm an cdv ct) ⟨us, []⟩) (ps.zip (us ++ ks))) : Bd K f ps (kws.map (·.2)) := by
  obtain ⟨fd, F⟩ := F
  obtain ⟨oc, od, dV, kV, doc, pm, an, cdv, ct, osl, e1, lk, _⟩ := id F.ex
  obtain ⟨ds, hd, hb⟩ := F.binds0 n hk hn h
  exact ⟨F.kp, fd, ds, ⟨oc, od, osl, lk⟩, hd, hb⟩
def uCallK (n m : Nat) (sp : Sp) (gV : List V → List V → List V) (W : WX) (t tk : TA) : TE := fun σ H Q => t σ H fun vs H1 => tk σ H1 fun zs H2 => cond (vs.length = n ∧ zs.length = m) (sp (gV vs zs) H2 Q (WE W σ))
def uMethK (C : Addr) (m : Str) (n l : Nat) (sp : Sp) (gV : List V → List V → List V) (W : WX) (ta : TE) (t tk : TA) : TE := fun σ H Q => ta σ H fun x H1 => match x with
  | .ref a => insAt C a m H1 (t σ H1 fun vs H2 => tk σ H2 fun zs H3 => cond (vs.length + 1 = n ∧ zs.length = l) (sp (gV (x :: vs) zs) H3 Q (WE W σ)))
  | _ => False
section
variable {X : Cx} {k j n : Nat} {f C : Addr} {ps ks : List Str} {sp : Sp} {W : WX} {x m : Str} {p pos apos : Pos} {e o : Expr} {es : List Expr} {kws : List Keyword} {ta : TE} {t tk' : TA} {gV : List V → List V → List V}
theorem run_fK {fd : FuncData} {g : List Value → List Value → List Value} {pins : List (Addr × Obj)} {σ : L2.St} {H : Hp} {s : Shared} {Q : VK} {us ws : List Value} {vs zs : List V} (F : Fk X.prog X.w X.K X.mg X.base k f fd ps sp) (hr : Rm k X.A) (hb : KBn X.K fd ps n ks g gV) (tk : Takes X W)
    (I : Inv X pins σ H s) (r : Vals vs us) (rz : Vals zs ws) (l1 : vs.length = n) (l2 : zs.length = ks.length) (h : sp (gV vs zs) H Q (WE W σ)) : wpAny (model X.prog X.w) X.A (call (.ref f) us (ks.zip ws)) (EP X pins σ Q) X.xe s := by
  have r2 := hb.rel r rz
  refine wpAny_call (codeAny_mono (F.run X.A X.stack s H ⟨us, ks.zip ws⟩ (g us ws) (gV vs zs) Q (WE W σ) hr I.env0 (hb.to s us ws I.kIn (r.length.symm.trans l1) (rz.length.symm.trans l2)) r2 h) fun r s' hq => ?_)
  cases r with
  | error e => exact passAt tk σ pins H s e s' I hq
  | ok fl =>
    cases fl with
    | ret u => exact I.after hq
    | next => exact False.elim hq
    | brk => exact False.elim hq
    | cont => exact False.elim hq
theorem pe_callKU (tk : Takes X W) (F : Df X.prog X.w X.K X.mg X.base k f ps sp) (B : BdK X.K f ps n ks gV) (hr : Rm j X.A) (hk : k ≤ j) (hg : Gl X x) (hm : X.mg x = some (.ref f))
    (ha : PA X (e :: es) t) (hkw : PK X kws tk') (hall : (backToKw pos (keywordEach kws X.env)).all (·.1.isSome) = true := by rfl) (hks : (backToKw pos (keywordEach kws X.env)).filterMap (·.1) = ks := by rfl)
    (hdb : (x == ("__debug__" : Str)) = false := by decide) (he : starEach (e :: es) X.env = (false, eval e X.env) :: starEach es X.env := by rfl)
    (hpl : ((backTo pos (starEach (e :: es) X.env)).any (·.1) || (backToKw pos (keywordEach kws X.env)).any (·.1.isNone)) = false := by rfl) :
    PE X (.Call (.Name x p) (e :: es) kws pos) (uCallK n ks.length sp gV W t tk') := by
  obtain ⟨hkp, fd, g, a, hb⟩ := B
  refine ⟨fun pins s σ H Q I h => ?_⟩
  refine wpAny_Call_Name_kw (ld_glob I hg hm ?_ hdb)
  refine PySem.W.callWith_KW (h₀ := X.base) I.ok.mod.kin hkp hall (thn (ha.run pos pins s σ H _ I h) fun us s1 ⟨vs, H1, I1, r, q⟩ => ?_) hpl he
  refine thn (hkw.run pos pins s1 σ H1 _ I1 q) fun ws s2 ⟨zs, H2, I2, rz, q2⟩ => ⟨I2.kIn, ?_⟩
  rw [hks]
  obtain ⟨⟨l1, l2⟩, q2⟩ := cond_e q2
  exact run_fK (F fd a) (hr.mono hk) hb tk I2 r rz l1 l2 q2
end
end U

set_option Elab.async false
set_option linter.all false
set_option maxRecDepth 100000
set_option maxHeartbeats 4000000
namespace U
open PySem PySem.Spec PyProof.Rows L2
/-! ### dicts of words: where each was met -/
theorem valV_app {κ : Type} [DecidableEq κ] {k : κ} : ∀ {a b : List (κ × V)}, valV (a ++ b) k = (valV a k).or (valV b k)
  | [], b => by rw [List.nil_append, valV_nil]; rfl
  | p :: r, b => by
    by_cases e : p.1 = k
    · rw [List.cons_append, valV_pos e, valV_pos e]; rfl
    · rw [List.cons_append, valV_neg e, valV_neg e, valV_app]
theorem putK_new {κ : Type} [DecidableEq κ] {k : κ} {v : V} {kvs : List (κ × V)} (h : valV kvs k = none) : putK kvs k v = kvs ++ [(k, v)] := by
  unfold putK
  rw [if_neg]
  rw [valV_any, h]
  exact Bool.false_ne_true
/-- f 0, .., f (i - 1), each with its place -/
def spots (f : Nat → List Nat) (i : Nat) : List (Key × V) := (List.range i).map fun j => (Sum.inr (tx (f j)), V.int (j : Nat))
def lst (f : Nat → List Nat) (i : Nat) : List (List Nat) := (List.range i).map f
theorem spots_succ {f : Nat → List Nat} {i : Nat} : spots f (i + 1) = spots f i ++ [(Sum.inr (tx (f i)), V.int (i : Nat))] := by
  rw [spots, List.range_succ, List.map_append]
  rfl
theorem lst_succ {f : Nat → List Nat} {i : Nat} : lst f (i + 1) = lst f i ++ [f i] := by
  rw [lst, List.range_succ, List.map_append]
  rfl
theorem lst_len {f : Nat → List Nat} {i : Nat} : (lst f i).length = i := by rw [lst, List.length_map, List.length_range]
theorem spots_len {f : Nat → List Nat} {i : Nat} : (spots f i).length = i := by rw [spots, List.length_map, List.length_range]
theorem lst_get {f : Nat → List Nat} {i j : Nat} (h : j < i) : (lst f i)[j]? = some (f j) := by
  rw [lst, List.getElem?_map, List.getElem?_range h]
  rfl
theorem mem_lst {f : Nat → List Nat} {i : Nat} {w : List Nat} : w ∈ lst f i ↔ ∃ j, j < i ∧ f j = w := by
  rw [lst, List.mem_map]
  constructor
  · rintro ⟨j, hj, e⟩; exact ⟨j, List.mem_range.mp hj, e⟩
  · rintro ⟨j, hj, e⟩; exact ⟨j, List.mem_range.mpr hj, e⟩
theorem spots_none {f : Nat → List Nat} {w : List Nat} : ∀ {i : Nat}, w ∉ lst f i → valV (spots f i) (.inr (tx w)) = none
  | 0, _ => rfl
  | i + 1, h => by
    rw [lst_succ, List.mem_append, List.mem_singleton, not_or] at h
    rw [spots_succ, valV_app, spots_none h.1, Option.none_or, valV_neg]
    · rfl
    · intro e
      injection e with e
      exact h.2 (tx_inj.mp e).symm
theorem spots_some {f : Nat → List Nat} {j : Nat} : ∀ {i : Nat}, (lst f i).Nodup → j < i → valV (spots f i) (.inr (tx (f j))) = some (.int (j : Nat))
  | 0, _, h => by omega
  | i + 1, hn, h => by
    rw [lst_succ, List.nodup_append] at hn
    rw [spots_succ, valV_app]
    by_cases e : j < i
    · rw [spots_some hn.1 e]; rfl
    · have e2 : j = i := by omega
      subst e2
      have hm : f j ∉ lst f j := fun hm => hn.2.2 _ hm _ (List.mem_singleton.mpr rfl) rfl
      rw [spots_none hm, Option.none_or, valV_pos rfl]
theorem lst_few {T : Tr} {row s : List Nat} {i : Nat} (h : TreeOk T) (w : Wd T s) (h8 : T.length ≤ 8) (hr : ∀ k ∈ row, k < T.length) (hn : (lst (fun j => rnd T row j s) i).Nodup) : i ≤ 2097152 := by
  cases i with
  | zero => omega
  | succ i => exact met_few h w h8 hr hn
end U

set_option Elab.async false
set_option linter.all false
set_option maxRecDepth 100000
set_option maxHeartbeats 4000000
namespace U
open PySem PySem.Spec PyProof.Rows L2
/-! ### a house -/
def hFs (tr kl pl : Addr) (b : Bool) : List (Str × V) := [("roots", .ref tr), ("kept", .ref kl), ("passed", .ref pl), ("busy", .bl b)]
theorem hl_roots {tr kl pl : Addr} {b : Bool} : List.lookup ("roots" : Str) (hFs tr kl pl b) = some (V.ref tr) := by rfl
theorem hl_kept {tr kl pl : Addr} {b : Bool} : List.lookup ("kept" : Str) (hFs tr kl pl b) = some (V.ref kl) := by rfl
theorem hl_passed {tr kl pl : Addr} {b : Bool} : List.lookup ("passed" : Str) (hFs tr kl pl b) = some (V.ref pl) := by rfl
theorem hl_busy {tr kl pl : Addr} {b : Bool} : List.lookup ("busy" : Str) (hFs tr kl pl b) = some (V.bl b) := by rfl
theorem hp_kept {tr kl pl q : Addr} {b : Bool} : putF ("kept" : Str) (V.ref q) (hFs tr kl pl b) = hFs tr q pl b := by rfl
theorem hp_passed {tr kl pl q : Addr} {b : Bool} : putF ("passed" : Str) (V.ref q) (hFs tr kl pl b) = hFs tr kl q b := by rfl
theorem hp_busy {tr kl pl : Addr} {b c : Bool} : putF ("busy" : Str) (V.bl c) (hFs tr kl pl b) = hFs tr kl pl c := by rfl
/-- the words passed -/
def passed (T : Tr) (s : List Nat) (es : List Ent) : List (List Nat) := (List.range (es.length + 1)).map fun i => behind T s (es.take i)
theorem passed_len {T : Tr} {s : List Nat} {es : List Ent} : (passed T s es).length = es.length + 1 := by rw [passed, List.length_map, List.length_range]
theorem passed_get {T : Tr} {s : List Nat} {es : List Ent} {i : Nat} (h : i ≤ es.length) : (passed T s es)[i]? = some (behind T s (es.take i)) := by
  rw [passed, List.getElem?_map, List.getElem?_range (by omega)]
  rfl
theorem passed_last {T : Tr} {s : List Nat} {es : List Ent} : (passed T s es)[es.length]? = some (behind T s es) := by
  rw [passed_get (Nat.le_refl _), List.take_length]
theorem passed_snoc {T : Tr} {s : List Nat} {es : List Ent} {e : Ent} : passed T s (es ++ [e]) = passed T s es ++ [entW T (behind T s es) e] := by
  rw [passed, List.length_append, show es.length + [e].length + 1 = (es.length + 1) + 1 from rfl, List.range_succ, List.map_append]
  congr 1
  · rw [passed]
    refine List.map_congr_left fun i hi => ?_
    have := List.mem_range.mp hi
    rw [List.take_append_of_le_length (by omega)]
  · show [behind T s ((es ++ [e]).take (es.length + 1))] = _
    rw [List.take_of_length_le (by rw [List.length_append]; exact Nat.le_refl _), behind_snoc]
theorem passed_take {T : Tr} {s : List Nat} {es : List Ent} {n : Nat} (h : n ≤ es.length) : (passed T s es).take (n + 1) = passed T s (es.take n) := by
  refine List.ext_getElem? fun i => ?_
  by_cases hi : i < n + 1
  · rw [List.getElem?_take_of_lt hi, passed_get (by omega), passed_get (by rw [List.length_take]; omega), List.take_take, Nat.min_eq_left (by omega)]
  · rw [List.getElem?_eq_none (by rw [List.length_take]; omega), List.getElem?_eq_none (by rw [passed_len, List.length_take]; omega)]
/-- the house at x: its own things are x, kl, pl; the rest is frozen -/
structure HouseAt (K : PySem.W.Frag) (C : Addr) (F H : Hp) (x kl pl : Addr) (T : Tr) (s : List Nat) (es : List Ent) : Prop where
  fr : Same F H
  at_ : ∃ (dx tr : Addr) (vs : List V), H x = some (.ins C dx (hFs tr kl pl false)) ∧ H kl = some (.lst vs) ∧ DpAll K F vs (es.map (entD false)) ∧ SqT K F tr (T.map pV)
  opl : H pl = some (.lst (wV (passed T s es)))
  fx : F x = none
  fk : F kl = none
  fp : F pl = none
  kx : kl ≠ x
  px : pl ≠ x
  kp : kl ≠ pl
  ok : TreeOk T
  t8 : T.length ≤ 8
  wd : Wd T s
  es_ : ∀ e ∈ es, EntOk T e
  few : es.length ≤ 40
/-- all stays but what is in M; M' is its own afterwards -/
def Stp (M : List Addr) (H : Hp) (M' : List Addr) (H' : Hp) : Prop := ∀ a o, a ∉ M → H a = some o → H' a = some o ∧ a ∉ M'
theorem Stp.trans {M M1 M2 : List Addr} {H H1 H2 : Hp} (a : Stp M H M1 H1) (b : Stp M1 H1 M2 H2) : Stp M H M2 H2 := fun x o n h => let ⟨h1, n1⟩ := a x o n h; b x o n1 h1
theorem nw_but {x a : Addr} {H H' : Hp} (b : But x H H') (n : a ≠ x) (h : Nw H' a) : Nw H a := ⟨by
  cases e : H a with
  | none => rfl
  | some o => have := b a o n e; rw [h.n] at this; cases this⟩
theorem nw_ext {a : Addr} {H H' : Hp} (b : Ext H H') (h : Nw H' a) : Nw H a := ⟨ext_no b h.n⟩
end U

set_option Elab.async false
set_option linter.all false
set_option maxRecDepth 100000
set_option maxHeartbeats 4000000
/-! FA: values without addresses, a store of cells, and what a store says of a heap -/
namespace Fn
open PySem PySem.Spec PyProof.Rows L2
open U (Ext Nw new new_i new_e cond cond_i cond_e)
inductive D where
  | p (x : PyData) | cell (n : Nat) | seq (tup : Bool) (xs : List D)
inductive Cell where
  | lst (xs : List PyData) | ins (c : Str) (fs : List (Str × D)) | box (sub : List Cell) | dic (kvs : List (Key × PyData)) | dcT (kvs : List (List Key × PyData)) | gone
abbrev Store := List Cell
abbrev Sl := List (Option D)
structure Exn where
  c : Str
  fs : List (Str × PyData)
inductive R (α : Type) where
  | ok (a : α) (M : Store) | ex (e : Exn) (M : Store) | no
def R.bind {α β : Type} (r : R α) (k : α → Store → R β) : R β := match r with
  | .ok a M => k a M
  | .ex e M => .ex e M
  | .no => .no
inductive SR where
  | nx (σ : Sl) (M : Store) | rt (d : D) (M : Store) | bk (σ : Sl) (M : Store) | ct (σ : Sl) (M : Store) | ex (e : Exn) (σ : Sl) (M : Store) | no
abbrev GE := Sl → Store → R D
abbrev GT := Sl → Store → R Bool
abbrev GA := Sl → Store → R (List D)
abbrev GS := Sl → Store → SR
def R.toS {α : Type} (r : R α) (σ : Sl) (k : α → Store → SR) : SR := match r with
  | .ok a M => k a M
  | .ex e M => .ex e σ M
  | .no => .no
/-- F: what is frozen; m: where the cells stand; w: whose an address is -/
structure Nu where
  F : Hp
  m : List Addr
  w : Addr → Option Nat
mutual
/-- data in a heap -/
inductive Vd (F : Hp) : V → PyData → Prop
  | non : Vd F .non .none
  | bl (b : Bool) : Vd F (.bl b) (.bool b)
  | int (i : Int) : Vd F (.int i) (.int i)
  | str (x : Str) : Vd F (.str x) (.str x)
  | lst {a : Addr} {vs : List V} {ds : List PyData} : Rd F a (.lst vs) → Vs F vs ds → Vd F (.ref a) (.list ds)
  | tup {a : Addr} {vs : List V} {ds : List PyData} : Rd F a (.tup vs) → Vs F vs ds → Vd F (.ref a) (.tuple ds)
inductive Vs (F : Hp) : List V → List PyData → Prop
  | nil : Vs F [] []
  | cons {v : V} {vs : List V} {d : PyData} {ds : List PyData} : Vd F v d → Vs F vs ds → Vs F (v :: vs) (d :: ds)
end
theorem Rd.same {F F' : Hp} (s : Same F F') {a : Addr} {o : HO} (h : Rd F a o) : Rd F' a o := h.elim (fun h => .inl (s _ _ h)) fun ⟨u, h⟩ => .inr ⟨u, s _ _ h⟩
mutual
theorem Vd.same {F F' : Hp} (s : Same F F') : ∀ {v : V} {d : PyData}, Vd F v d → Vd F' v d
  | _, _, .non => .non
  | _, _, .bl b => .bl b
  | _, _, .int i => .int i
  | _, _, .str x => .str x
  | _, _, .lst h a => .lst (Rd.same s h) (Vs.same s a)
  | _, _, .tup h a => .tup (Rd.same s h) (Vs.same s a)
theorem Vs.same {F F' : Hp} (s : Same F F') : ∀ {v : List V} {d : List PyData}, Vs F v d → Vs F' v d
  | _, _, .nil => .nil
  | _, _, .cons h a => .cons (Vd.same s h) (Vs.same s a)
end
mutual
theorem Vd.dp {K : PySem.W.Frag} {F : Hp} : ∀ {v : V} {d : PyData}, Vd F v d → Dp K F v d
  | _, _, .non => .non
  | _, _, .bl b => .bl b
  | _, _, .int i => .int i
  | _, _, .str x => .str x
  | _, _, .lst h a => .lst (.inl h) (Vs.dp a)
  | _, _, .tup h a => .tup (.inl h) (Vs.dp a)
theorem Vs.dp {K : PySem.W.Frag} {F : Hp} : ∀ {v : List V} {d : List PyData}, Vs F v d → DpAll K F v d
  | _, _, .nil => .nil
  | _, _, .cons h a => .cons (Vd.dp h) (Vs.dp a)
end
section
variable (K : PySem.W.Frag)
mutual
inductive Rep (F : Hp) (m : List Addr) : D → V → Prop
  | p {x : PyData} {v : V} : Vd F v x → Rep F m (.p x) v
  | cell {n : Nat} {a : Addr} : m[n]? = some a → Rep F m (.cell n) (.ref a)
  | seqL {xs : List D} {vs : List V} {a : Addr} : Rd F a (.lst vs) → Reps F m xs vs → Rep F m (.seq false xs) (.ref a)
  | seqT {xs : List D} {vs : List V} {a : Addr} : Rd F a (.tup vs) → Reps F m xs vs → Rep F m (.seq true xs) (.ref a)
inductive Reps (F : Hp) (m : List Addr) : List D → List V → Prop
  | nil : Reps F m [] []
  | cons {d : D} {v : V} {ds : List D} {vs : List V} : Rep F m d v → Reps F m ds vs → Reps F m (d :: ds) (v :: vs)
end
inductive FR (F : Hp) (m : List Addr) : List (Str × D) → List (Str × V) → Prop
  | nil : FR F m [] []
  | cons {k : Str} {d : D} {v : V} {ds : List (Str × D)} {vs : List (Str × V)} : Rep F m d v → FR F m ds vs → FR F m ((k, d) :: ds) ((k, v) :: vs)
inductive KR {κ : Type} (F : Hp) : List (κ × PyData) → List (κ × V) → Prop
  | nil : KR F [] []
  | cons {k : κ} {d : PyData} {v : V} {ds : List (κ × PyData)} {vs : List (κ × V)} : Vd F v d → KR F ds vs → KR F ((k, d) :: ds) ((k, v) :: vs)
/-- the cell stands at a, its own things are in S -/
inductive CR (F H : Hp) : List Addr → (Addr → Prop) → Cell → Addr → Prop
  | lst {m : List Addr} {S : Addr → Prop} {xs : List PyData} {vs : List V} {a : Addr} : S a → H a = some (.lst vs) → Vs F vs xs → CR F H m S (.lst xs) a
  | ins {m : List Addr} {S : Addr → Prop} {c : Str} {fs : List (Str × D)} {vs : List (Str × V)} {a dx : Addr} : S a → H a = some (.ins (He.ga K c) dx vs) → FR F m fs vs → CR F H m S (.ins c fs) a
  | box {m : List Addr} {S : Addr → Prop} {sub : List Cell} {a : Addr} (r : List Addr) (w : Addr → Option Nat) : r.length = sub.length → r[0]? = some a → (∀ x n, w x = some n → S x ∧ n < sub.length) →
      (∀ (n : Nat) (c : Cell) (b : Addr), sub[n]? = some c → r[n]? = some b → CR F H r (fun x => w x = some n) c b) → CR F H m S (.box sub) a
  | dic {m : List Addr} {S : Addr → Prop} {kvs : List (Key × PyData)} {vs : List (Key × V)} {a : Addr} : S a → H a = some (.dK vs) → KR F kvs vs → CR F H m S (.dic kvs) a
  | dcT {m : List Addr} {S : Addr → Prop} {kvs : List (List Key × PyData)} {vs : List (List Key × V)} {a : Addr} : S a → H a = some (.dT vs) → KR F kvs vs → CR F H m S (.dcT kvs) a
  | gone {m : List Addr} {S : Addr → Prop} {a : Addr} : CR F H m S .gone a
structure Rel (ν : Nu) (M : Store) (H : Hp) : Prop where
  same : Same ν.F H
  len : ν.m.length = M.length
  cel : ∀ (n : Nat) (c : Cell) (a : Addr), M[n]? = some c → ν.m[n]? = some a → CR K ν.F H ν.m (fun x => ν.w x = some n) c a
  off : ∀ x n, ν.w x = some n → ν.F x = none ∧ H x ≠ none ∧ n < M.length
end
structure Stp (ν : Nu) (H : Hp) (ν' : Nu) (H' : Hp) : Prop where
  ff : Same ν.F ν'.F
  fr : ∀ x o, H x = some o → ν.w x = none → H' x = some o ∧ ν'.F x = ν.F x ∧ ν'.w x = none
  mm : ∃ r, ν'.m = ν.m ++ r
def Sld (ν : Nu) (σ : Sl) (σV : L2.St) : Prop := σV.length = σ.length ∧ ∀ (i : Nat) (d : D), σ[i]? = some (some d) → ∃ v, σV[i]? = some (some v) ∧ Rep ν.F ν.m d v
theorem Stp.refl {ν : Nu} {H : Hp} : Stp ν H ν H := ⟨Same.refl _, fun _ _ h w => ⟨h, rfl, w⟩, [], by simp⟩
theorem Stp.trans {ν ν1 ν2 : Nu} {H H1 H2 : Hp} (a : Stp ν H ν1 H1) (b : Stp ν1 H1 ν2 H2) : Stp ν H ν2 H2 := by
  refine ⟨a.ff.trans b.ff, fun x o h w => ?_, ?_⟩
  · obtain ⟨h1, e1, w1⟩ := a.fr x o h w
    obtain ⟨h2, e2, w2⟩ := b.fr x o h1 w1
    exact ⟨h2, e2.trans e1, w2⟩
  · obtain ⟨r1, e1⟩ := a.mm
    obtain ⟨r2, e2⟩ := b.mm
    exact ⟨r1 ++ r2, by rw [e2, e1, List.append_assoc]⟩
theorem ix_app {α : Type} {l r : List α} {n : Nat} {a : α} (h : l[n]? = some a) : (l ++ r)[n]? = some a := by
  rw [List.getElem?_append_left (List.getElem?_eq_some_iff.mp h).1]; exact h
section
variable {K : PySem.W.Frag}
mutual
theorem Rep.mono {F F' : Hp} {m m' : List Addr} (s : Same F F') (e : ∃ r, m' = m ++ r) : ∀ {d : D} {v : V}, Rep F m d v → Rep F' m' d v
  | _, _, .p h => .p (Vd.same s h)
  | _, _, .cell h => .cell (by obtain ⟨r, rfl⟩ := e; exact ix_app h)
  | _, _, .seqL h a => .seqL (Rd.same s h) (Reps.mono s e a)
  | _, _, .seqT h a => .seqT (Rd.same s h) (Reps.mono s e a)
theorem Reps.mono {F F' : Hp} {m m' : List Addr} (s : Same F F') (e : ∃ r, m' = m ++ r) : ∀ {d : List D} {v : List V}, Reps F m d v → Reps F' m' d v
  | _, _, .nil => .nil
  | _, _, .cons h a => .cons (Rep.mono s e h) (Reps.mono s e a)
end
theorem FR.mono {F F' : Hp} {m m' : List Addr} (s : Same F F') (e : ∃ r, m' = m ++ r) : ∀ {d : List (Str × D)} {v : List (Str × V)}, FR F m d v → FR F' m' d v
  | _, _, .nil => .nil
  | _, _, .cons h a => .cons (h.mono s e) (FR.mono s e a)
theorem KR.mono {κ : Type} {F F' : Hp} (s : Same F F') : ∀ {d : List (κ × PyData)} {v : List (κ × V)}, KR F d v → KR F' d v
  | _, _, .nil => .nil
  | _, _, .cons h a => .cons (Vd.same s h) (KR.mono s a)
/-- a cell stands as long as its own things do -/
theorem CR.keep {F F' H H' : Hp} (s : Same F F') {m : List Addr} {S : Addr → Prop} {c : Cell} {a : Addr} (h : CR K F H m S c a) :
    ∀ {m' : List Addr} {S' : Addr → Prop}, (∃ r, m' = m ++ r) → (∀ x, S x → H x ≠ none → S' x ∧ H' x = H x) → CR K F' H' m' S' c a := by
  induction h with
  | lst h1 h2 h3 =>
    intro m' S' e k
    obtain ⟨k1, k2⟩ := k _ h1 (by rw [h2]; exact fun z => by cases z)
    exact .lst k1 (k2.trans h2) (Vs.same s h3)
  | ins h1 h2 h3 =>
    intro m' S' e k
    obtain ⟨k1, k2⟩ := k _ h1 (by rw [h2]; exact fun z => by cases z)
    exact .ins k1 (k2.trans h2) (h3.mono s e)
  | box r w h1 h2 h3 h4 ih =>
    intro m' S' e k
    refine .box r (fun x => if H x = none then none else w x) h1 h2 (fun x n hx => ?_) fun n c b e1 e2 => ih n c b e1 e2 ⟨[], by simp⟩ fun x hx hn => ?_
    · by_cases hn : H x = none
      · rw [if_pos hn] at hx; cases hx
      · rw [if_neg hn] at hx
        exact ⟨(k x (h3 x n hx).1 hn).1, (h3 x n hx).2⟩
    · refine ⟨?_, (k x (h3 x n hx).1 hn).2⟩
      show (if H x = none then none else w x) = some n
      rw [if_neg hn]
      exact hx
  | dic h1 h2 h3 =>
    intro m' S' e k
    obtain ⟨k1, k2⟩ := k _ h1 (by rw [h2]; exact fun z => by cases z)
    exact .dic k1 (k2.trans h2) (h3.mono s)
  | dcT h1 h2 h3 =>
    intro m' S' e k
    obtain ⟨k1, k2⟩ := k _ h1 (by rw [h2]; exact fun z => by cases z)
    exact .dcT k1 (k2.trans h2) (h3.mono s)
  | gone => intro m' S' e k; exact .gone
/-- cells whose content says nothing of other cells -/
def Cell.own : Cell → Bool
  | .ins _ _ => false
  | _ => true
theorem CR.own {F H : Hp} {m m' : List Addr} {S : Addr → Prop} {c : Cell} {a : Addr} (h : CR K F H m S c a) (o : c.own = true) : CR K F H m' S c a := by
  cases h with
  | lst h1 h2 h3 => exact .lst h1 h2 h3
  | ins h1 h2 h3 => cases o
  | box r w h1 h2 h3 h4 => exact .box r w h1 h2 h3 h4
  | dic h1 h2 h3 => exact .dic h1 h2 h3
  | dcT h1 h2 h3 => exact .dcT h1 h2 h3
  | gone => exact .gone
theorem Sld.mono {ν ν' : Nu} {H H' : Hp} {σ : Sl} {σV : L2.St} (h : Sld ν σ σV) (s : Stp ν H ν' H') : Sld ν' σ σV := ⟨h.1, fun i d e => by
  obtain ⟨v, e1, r⟩ := h.2 i d e
  exact ⟨v, e1, r.mono s.ff s.mm⟩⟩
theorem Rep.stp {ν ν' : Nu} {H H' : Hp} {d : D} {v : V} (h : Rep ν.F ν.m d v) (s : Stp ν H ν' H') : Rep ν'.F ν'.m d v := h.mono s.ff s.mm
theorem Reps.stp {ν ν' : Nu} {H H' : Hp} {d : List D} {v : List V} (h : Reps ν.F ν.m d v) (s : Stp ν H ν' H') : Reps ν'.F ν'.m d v := h.mono s.ff s.mm
/-- the heap has grown by a frozen thing -/
theorem Rel.new {ν : Nu} {M : Store} {H : Hp} (r : Rel K ν M H) {p : Addr} (hp : H p = none) (o : HO) :
    Rel K ⟨upd ν.F p o, ν.m, ν.w⟩ M (upd H p o) ∧ Stp ν H ⟨upd ν.F p o, ν.m, ν.w⟩ (upd H p o) := by
  have fp : ν.F p = none := U.fz_no r.same hp
  have ne : ∀ x, H x ≠ none → x ≠ p := fun x h e => h (e ▸ hp)
  have s : Same ν.F (upd ν.F p o) := U.Same.new (Same.refl _) fp
  refine ⟨⟨fun x u h => ?_, r.len, fun n c a e1 e2 => (r.cel n c a e1 e2).keep s ⟨[], by simp⟩ fun x hx hn => ⟨hx, upd_ne (ne x hn)⟩, fun x n h => ?_⟩, s, fun x u h w => ?_, [], by simp⟩
  · have h : upd ν.F p o x = some u := h
    by_cases e : x = p
    · subst e; rw [upd_same] at h ⊢; exact h
    · rw [upd_ne e] at h ⊢; exact r.same x u h
  · obtain ⟨h1, h2, h3⟩ := r.off x n h
    have e := ne x h2
    exact ⟨by show upd ν.F p o x = none; rw [upd_ne e]; exact h1, by rw [upd_ne e]; exact h2, h3⟩
  · have e := ne x (by rw [h]; exact fun z => by cases z)
    exact ⟨by rw [upd_ne e]; exact h, upd_ne e, w⟩
/-- a new cell -/
theorem Rel.cel1 {ν : Nu} {M : Store} {H : Hp} (r : Rel K ν M H) {p : Addr} (hp : H p = none) (o : HO) (c : Cell)
    (hc : CR K ν.F (upd H p o) (ν.m ++ [p]) (fun x => x = p) c p) :
    Rel K ⟨ν.F, ν.m ++ [p], fun x => if x = p then some M.length else ν.w x⟩ (M ++ [c]) (upd H p o) ∧ Stp ν H ⟨ν.F, ν.m ++ [p], fun x => if x = p then some M.length else ν.w x⟩ (upd H p o) := by
  have fp : ν.F p = none := U.fz_no r.same hp
  have ne : ∀ x, H x ≠ none → x ≠ p := fun x h e => h (e ▸ hp)
  refine ⟨⟨fun x u h => ?_, by simp [r.len], fun n d a e1 e2 => ?_, fun x n h => ?_⟩, Same.refl _, fun x u h w => ?_, [p], rfl⟩
  · have e : x ≠ p := fun e => by rw [e, fp] at h; cases h
    rw [upd_ne e]
    exact r.same x u h
  · by_cases hn : n < M.length
    · rw [List.getElem?_append_left hn] at e1
      rw [List.getElem?_append_left (by rw [r.len]; exact hn)] at e2
      refine (r.cel n d a e1 e2).keep (Same.refl _) ⟨[p], rfl⟩ fun x hx hz => ⟨?_, upd_ne (ne x hz)⟩
      show (if x = p then some M.length else ν.w x) = some n
      rw [if_neg (ne x hz)]
      exact hx
    · have hl := (List.getElem?_eq_some_iff.mp e1).1
      have en : n = M.length := by simp at hl; omega
      subst en
      rw [List.getElem?_append_right (Nat.le_refl _), Nat.sub_self] at e1
      rw [List.getElem?_append_right (by rw [r.len]; exact Nat.le_refl _), r.len, Nat.sub_self] at e2
      simp at e1 e2
      subst e1; subst e2
      refine hc.keep (Same.refl _) ⟨[], by simp⟩ fun x hx _ => ⟨?_, rfl⟩
      show (if x = p then some M.length else ν.w x) = some M.length
      rw [if_pos hx]
  · have h : (if x = p then some M.length else ν.w x) = some n := h
    by_cases e : x = p
    · rw [if_pos e] at h
      cases h
      subst e
      exact ⟨fp, (by rw [upd_same]; exact fun z => nomatch z), by simp⟩
    · rw [if_neg e] at h
      obtain ⟨h1, h2, h3⟩ := r.off x n h
      exact ⟨h1, by rw [upd_ne e]; exact h2, by simp; omega⟩
  · have e := ne x (by rw [h]; exact fun z => by cases z)
    refine ⟨by rw [upd_ne e]; exact h, rfl, ?_⟩
    show (if x = p then some M.length else ν.w x) = none
    rw [if_neg e]
    exact w
/-- a cell is written: at its own place -/
theorem Rel.put {ν : Nu} {M : Store} {H : Hp} (r : Rel K ν M H) {n : Nat} {a : Addr} {o : HO} {c c0 : Cell} (h0 : M[n]? = some c0) (hm : ν.m[n]? = some a) (hw : ν.w a = some n)
    (hc : CR K ν.F (upd H a o) ν.m (fun x => x = a) c a) :
    Rel K ⟨ν.F, ν.m, fun x => if ν.w x = some n then (if x = a then some n else none) else ν.w x⟩ (M.set n c) (upd H a o) ∧ Stp ν H ⟨ν.F, ν.m, fun x => if ν.w x = some n then (if x = a then some n else none) else ν.w x⟩ (upd H a o) := by
  have fa : ν.F a = none := (r.off a n hw).1
  refine ⟨⟨fun x u h => ?_, by simp [r.len], fun k d b e1 e2 => ?_, fun x k h => ?_⟩, Same.refl _, fun x u h w => ?_, [], by simp⟩
  · have e : x ≠ a := fun e => by rw [e, fa] at h; cases h
    rw [upd_ne e]
    exact r.same x u h
  · by_cases hk : k = n
    · subst hk
      rw [hm] at e2; cases e2
      have hl := (List.getElem?_eq_some_iff.mp h0).1
      rw [List.getElem?_set_self hl] at e1; cases e1
      refine hc.keep (Same.refl _) ⟨[], by simp⟩ fun x hx _ => ⟨?_, rfl⟩
      subst hx
      show (if ν.w x = some k then (if x = x then some k else none) else ν.w x) = some k
      rw [if_pos hw, if_pos rfl]
    · rw [List.getElem?_set_ne (fun e => hk e.symm)] at e1
      refine (r.cel k d b e1 e2).keep (Same.refl _) ⟨[], by simp⟩ fun x hx _ => ?_
      have e : x ≠ a := fun e => by rw [e, hw] at hx; cases hx; exact hk rfl
      refine ⟨?_, upd_ne e⟩
      have hx : ν.w x = some k := hx
      show (if ν.w x = some n then (if x = a then some n else none) else ν.w x) = some k
      rw [if_neg (by rw [hx]; intro z; cases z; exact hk rfl)]
      exact hx
  · have h : (if ν.w x = some n then (if x = a then some n else none) else ν.w x) = some k := h
    by_cases e : x = a
    · subst e
      rw [if_pos hw, if_pos rfl] at h
      cases h
      exact ⟨fa, (by rw [upd_same]; exact fun z => nomatch z), (by rw [List.length_set]; exact (List.getElem?_eq_some_iff.mp h0).1)⟩
    · by_cases e2 : ν.w x = some n
      · rw [if_pos e2, if_neg e] at h; cases h
      · rw [if_neg e2] at h
        obtain ⟨h1, h2, h3⟩ := r.off x k h
        exact ⟨h1, by rw [upd_ne e]; exact h2, by rw [List.length_set]; exact h3⟩
  · have e : x ≠ a := fun e => by rw [e, hw] at w; cases w
    refine ⟨by rw [upd_ne e]; exact h, rfl, ?_⟩
    show (if ν.w x = some n then (if x = a then some n else none) else ν.w x) = none
    rw [w]
    rfl
end
/-! ### readings by results -/
/-- the exception with these fields -/
def XR (ν : Nu) (H : Hp) (e : Exn) (d : Option Addr) : Prop := (e.fs = [] ∧ d = none) ∨ ∃ a vs, d = some a ∧ H a = some (.xd vs) ∧ KR ν.F e.fs vs
section
variable (K : PySem.W.Frag) (W : WX)
def PostG {α β : Type} (rep : Nu → α → β → Prop) (ν : Nu) (σV : L2.St) (H : Hp) (Q : β → Hp → Prop) : R α → Prop
  | .ok a M => ∀ ν' H' b, Stp ν H ν' H' → Rel K ν' M H' → rep ν' a b → Q b H'
  | .ex e M => ∀ ν' H' d, Stp ν H ν' H' → Rel K ν' M H' → XR ν' H' e d → W (.ref (He.ga K e.c)) d σV H'
  | .no => False
def tG {α β : Type} (rep : Nu → α → β → Prop) (g : Sl → Store → R α) : L2.St → Hp → (β → Hp → Prop) → Prop := fun σV H Q => ∃ ν σ M, Rel K ν M H ∧ Sld ν σ σV ∧ PostG K W rep ν σV H Q (g σ M)
def rE (ν : Nu) (d : D) (v : V) : Prop := Rep ν.F ν.m d v
def rA (ν : Nu) (d : List D) (v : List V) : Prop := Reps ν.F ν.m d v
def rT (ν : Nu) (a b : Bool) : Prop := a = b
def tE (g : GE) : TE := tG K W rE g
def tA (g : GA) : TA := tG K W rA g
def tT (g : GT) : TT := tG K W rT g
def PostS (ν : Nu) (H : Hp) (Q : Ends) : SR → Prop
  | .nx σ M => ∀ ν' H' σV, Stp ν H ν' H' → Rel K ν' M H' → Sld ν' σ σV → Q.nx σV H'
  | .bk σ M => ∀ ν' H' σV, Stp ν H ν' H' → Rel K ν' M H' → Sld ν' σ σV → Q.bk σV H'
  | .ct σ M => ∀ ν' H' σV, Stp ν H ν' H' → Rel K ν' M H' → Sld ν' σ σV → Q.ct σV H'
  | .rt d M => ∀ ν' H' v, Stp ν H ν' H' → Rel K ν' M H' → Rep ν'.F ν'.m d v → Q.rt v H'
  | .ex e σ M => ∀ ν' H' σV d, Stp ν H ν' H' → Rel K ν' M H' → Sld ν' σ σV → XR ν' H' e d → W (.ref (He.ga K e.c)) d σV H'
  | .no => False
def tS (g : GS) : TS := fun Q σV H => ∃ ν σ M, Rel K ν M H ∧ Sld ν σ σV ∧ PostS K W ν H Q (g σ M)
end
section
variable {K : PySem.W.Frag} {W : WX} {α β α' β' : Type} {rep : Nu → α → β → Prop} {rep' : Nu → α' → β' → Prop}
theorem PostG.step {ν ν1 : Nu} {σV : L2.St} {H H1 : Hp} {Q : β → Hp → Prop} {r : R α} (s : Stp ν H ν1 H1) (h : PostG K W rep ν σV H Q r) : PostG K W rep ν1 σV H1 Q r := by
  cases r with
  | ok a M => exact fun ν' H' b s2 => h ν' H' b (s.trans s2)
  | ex e M => exact fun ν' H' d s2 => h ν' H' d (s.trans s2)
  | no => exact h
theorem PostS.step {ν ν1 : Nu} {H H1 : Hp} {Q : Ends} {r : SR} (s : Stp ν H ν1 H1) (h : PostS K W ν H Q r) : PostS K W ν1 H1 Q r := by
  cases r with
  | nx a M => exact fun ν' H' b s2 => h ν' H' b (s.trans s2)
  | bk a M => exact fun ν' H' b s2 => h ν' H' b (s.trans s2)
  | ct a M => exact fun ν' H' b s2 => h ν' H' b (s.trans s2)
  | rt a M => exact fun ν' H' b s2 => h ν' H' b (s.trans s2)
  | ex e σ M => exact fun ν' H' σV d s2 => h ν' H' σV d (s.trans s2)
  | no => exact h
theorem tG.mono {g : Sl → Store → R α} {σV : L2.St} {H : Hp} {Q Q' : β → Hp → Prop} (h : tG K W rep g σV H Q) (k : ∀ b H', Q b H' → Q' b H') : tG K W rep g σV H Q' := by
  obtain ⟨ν, σ, M, r, sl, h⟩ := h
  refine ⟨ν, σ, M, r, sl, ?_⟩
  revert h
  cases g σ M with
  | ok a M => exact fun h ν' H' b s2 r2 p => k _ _ (h ν' H' b s2 r2 p)
  | ex e M => exact fun h => h
  | no => exact fun h => h
/-- one part, then the rest -/
theorem bindG {g : Sl → Store → R α} {k : α → Store → R α'} {ν : Nu} {σ : Sl} {M : Store} {σV : L2.St} {H : Hp} {Q : β' → Hp → Prop} {Q1 : β → Hp → Prop} (r : Rel K ν M H) (sl : Sld ν σ σV) (h : PostG K W rep' ν σV H Q ((g σ M).bind k))
    (q : ∀ (b : β) (H1 : Hp) (a : α) (ν1 : Nu) (M1 : Store), Stp ν H ν1 H1 → Rel K ν1 M1 H1 → Sld ν1 σ σV → rep ν1 a b → PostG K W rep' ν1 σV H1 Q (k a M1) → Q1 b H1) : tG K W rep g σV H Q1 := by
  refine ⟨ν, σ, M, r, sl, ?_⟩
  revert h
  cases e : g σ M with
  | ok a M1 => exact fun h ν1 H1 b s1 r1 p => q b H1 a ν1 M1 s1 r1 (sl.mono s1) p (PostG.step s1 h)
  | ex e M => exact fun h => h
  | no => exact fun h => h
theorem bindS {g : Sl → Store → R α} {k : α → Store → SR} {ν : Nu} {σ : Sl} {M : Store} {σV : L2.St} {H : Hp} {Q : Ends} {Q1 : β → Hp → Prop} (r : Rel K ν M H) (sl : Sld ν σ σV) (h : PostS K W ν H Q ((g σ M).toS σ k))
    (q : ∀ (b : β) (H1 : Hp) (a : α) (ν1 : Nu) (M1 : Store), Stp ν H ν1 H1 → Rel K ν1 M1 H1 → Sld ν1 σ σV → rep ν1 a b → PostS K W ν1 H1 Q (k a M1) → Q1 b H1) : tG K W rep g σV H Q1 := by
  refine ⟨ν, σ, M, r, sl, ?_⟩
  revert h
  cases e : g σ M with
  | ok a M1 => exact fun h ν1 H1 b s1 r1 p => q b H1 a ν1 M1 s1 r1 (sl.mono s1) p (PostS.step s1 h)
  | ex e M => exact fun h ν1 H1 d s1 r1 x => h ν1 H1 σV d s1 r1 (sl.mono s1) x
  | no => exact fun h => h
theorem ret1 {ν : Nu} {σV : L2.St} {H : Hp} {Q : β → Hp → Prop} {a : α} {b : β} {M : Store} (r : Rel K ν M H) (p : rep ν a b) (h : PostG K W rep ν σV H Q (.ok a M)) : Q b H := h ν H b Stp.refl r p
theorem retN {ν ν1 : Nu} {σV : L2.St} {H H1 : Hp} {Q : β → Hp → Prop} {a : α} {b : β} {M : Store} (h : PostG K W rep ν σV H Q (.ok a M)) (s : Stp ν H ν1 H1) (r : Rel K ν1 M H1) (p : rep ν1 a b) : Q b H1 := h ν1 H1 b s r p
end
end Fn

set_option Elab.async false
set_option linter.all false
set_option maxRecDepth 100000
set_option maxHeartbeats 4000000
/-! FB: plain expressions -/
namespace Fn
open PySem PySem.Spec PyProof.Rows L2
open U (new new_i new_e cond cond_i cond_e brn brn_i brn_t brn_f uB uTest uVar gI gI2 gNeg gIsN gIsB pe_is thnP)
section
variable {X : Cx} {K : PySem.W.Frag} {W : WX} {e a b : Expr} {pos : Pos} {g ga gb : GE}
/-! ### leaves -/
def gVar (i : Nat) : GE := fun σ M => match σ[i]? with
  | some (some d) => .ok d M
  | _ => .no
def gK (x : PyData) : GE := fun _ M => .ok (.p x) M
theorem fe_pv (i : Nat) {x : Str} (hN : X.N[i]? = some x := by rfl) (hv : Vis X.env.scope x := by first | exact Or.inl rfl | exact Or.inr (Or.inl rfl) | exact Or.inr (Or.inr rfl)) (hd : (x == ("__debug__" : Str)) = false := by decide)
    (hcd : (x == ("__classdict__" : Str)) = false := by decide) : PE X (.Name x pos) (tE K W (gVar i)) := pe_is (U.pv i hN hv hd hcd) fun σV H Q q => by
  obtain ⟨ν, σ, M, r, sl, h⟩ := q
  show match σV[i]? with | some (some v) => Q v H | _ => False
  revert h
  show PostG K W rE ν σV H Q (match σ[i]? with | some (some d) => .ok d M | _ => .no) → _
  cases e1 : σ[i]? with
  | none => exact fun h => h.elim
  | some o =>
    cases o with
    | none => exact fun h => h.elim
    | some d =>
      intro h
      obtain ⟨v, e2, rp⟩ := sl.2 i d e1
      rw [e2]
      exact ret1 (rep := rE) r rp h
theorem fe_k {v : V} {x : PyData} (h : PE X e (tC v)) (hv : ∀ F, Vd F v x) : PE X e (tE K W (gK x)) := pe_is h fun σV H Q q => by
  obtain ⟨ν, σ, M, r, sl, h⟩ := q
  exact ret1 (rep := rE) r (.p (hv _)) h
theorem fe_int {i j} : PE X (.Constant (.int i) j pos) (tE K W (gK (.int i))) := fe_k pe_int fun _ => .int _
theorem fe_bl {i j} : PE X (.Constant (.bool i) j pos) (tE K W (gK (.bool i))) := fe_k pe_bl fun _ => .bl _
theorem fe_str {i j} : PE X (.Constant (.str i) j pos) (tE K W (gK (.str i))) := fe_k pe_str fun _ => .str _
theorem fe_non {j} : PE X (.Constant .none j pos) (tE K W (gK .none)) := fe_k pe_non fun _ => .non
theorem fe_constI {x : Str} {z : Int} (hg : Gl X x) (hm : ∃ t, X.mg x = some (.int z t)) (hd : (x == ("__debug__" : Str)) = false := by decide) : PE X (.Name x pos) (tE K W (gK (.int z))) := fe_k (U.pe_constG hg hm hd) fun _ => .int _
theorem fe_constS {x : Str} {z : Str} (hg : Gl X x) (hm : ∃ t, X.mg x = some (.str z t)) (hd : (x == ("__debug__" : Str)) = false := by decide) : PE X (.Name x pos) (tE K W (gK (.str z))) := fe_k (U.pe_constS hg hm hd) fun _ => .str _
/-! ### one operand, two operands -/
def gUn (op : D → Store → R D) (ga : GE) : GE := fun σ M => (ga σ M).bind op
def gBin (op : D → D → Store → R D) (ga gb : GE) : GE := fun σ M => (ga σ M).bind fun x M1 => (gb σ M1).bind fun y M2 => op x y M2
def UnS (K : PySem.W.Frag) (op : D → Store → R D) (r : V → Hp → VK → Prop) : Prop := ∀ (W : WX) (ν : Nu) (M : Store) (H : Hp) (x : D) (u : V) (σV : L2.St) (Q : VK), Rel K ν M H → Rep ν.F ν.m x u → PostG K W rE ν σV H Q (op x M) → r u H Q
def OpS (K : PySem.W.Frag) (op : D → D → Store → R D) (r : R2) : Prop := ∀ (W : WX) (ν : Nu) (M : Store) (H : Hp) (x y : D) (u v : V) (σV : L2.St) (Q : VK), Rel K ν M H → Rep ν.F ν.m x u → Rep ν.F ν.m y v → PostG K W rE ν σV H Q (op x y M) → r u v H Q
theorem un_ok {op : D → Store → R D} {r : V → Hp → VK → Prop} (hs : UnS K op r) {σV : L2.St} {H : Hp} {Q : VK} (q : tE K W (gUn op ga) σV H Q) : tUn r (tE K W ga) σV H Q := by
  obtain ⟨ν, σ, M, rl, sl, h⟩ := q
  exact bindG rl sl h fun u H1 x ν1 M1 s1 r1 sl1 p1 h1 => hs W ν1 M1 H1 x u σV Q r1 p1 h1
theorem bin_ok {op : D → D → Store → R D} {r : R2} (hs : OpS K op r) {σV : L2.St} {H : Hp} {Q : VK} (q : tE K W (gBin op ga gb) σV H Q) : tOp r (tE K W ga) (tE K W gb) σV H Q := by
  obtain ⟨ν, σ, M, rl, sl, h⟩ := q
  exact bindG rl sl h fun u H1 x ν1 M1 s1 r1 sl1 p1 h1 => bindG r1 sl1 h1 fun v H2 y ν2 M2 s2 r2 sl2 p2 h2 => hs W ν2 M2 H2 x y u v σV Q r2 (Rep.stp p1 s2) p2 h2
theorem fe_un {o : UnaryOp} {op : D → Store → R D} {r : V → Hp → VK → Prop} (ho : UnR X (unaryOp o) r) (hs : UnS K op r) (ha : PE X a (tE K W ga)) : PE X (.UnaryOp o a pos) (tE K W (gUn op ga)) := pe_is (pe_un ho ha) fun _ _ _ q => un_ok hs q
theorem fe_op {o : Operator} {op : D → D → Store → R D} {r : R2} (ho : OpR X (binaryOp o) r) (hs : OpS K op r) (ha : PE X a (tE K W ga)) (hb : PE X b (tE K W gb)) : PE X (.BinOp a o b pos) (tE K W (gBin op ga gb)) := pe_is (pe_op ho ha hb) fun _ _ _ q => bin_ok hs q
theorem fe_cmp {o : CmpOp} {op : D → D → Store → R D} {r : R2} (ho : OpR X (compareOp o) r) (hs : OpS K op r) (ha : PE X a (tE K W ga)) (hb : PE X b (tE K W gb)) (hm : behindInMarks o b = false) : PE X (.Compare a [o] [b] pos) (tE K W (gBin op ga gb)) := pe_is (pe_cmpR ho ha hb hm) fun _ _ _ q => bin_ok hs q
/-- a bool as a test -/
def asB (x : D) (M : Store) : R Bool := match x with
  | .p (.bool b) => .ok b M
  | _ => .no
def gTB (g : GE) : GT := fun σ M => (g σ M).bind asB
theorem asB_ok {ν : Nu} {M : Store} {H : Hp} {x : D} {u : V} {σV : L2.St} {Q : Bool → Hp → Prop} (r : Rel K ν M H) (p : Rep ν.F ν.m x u) (h : PostG K W rT ν σV H Q (asB x M)) : uB u fun k => Q k H := by
  cases p with
  | p p =>
    cases p with
    | bl b => exact ret1 (rep := rT) r rfl h
    | _ => exact h.elim
  | _ => exact h.elim
theorem tb_ok {σV : L2.St} {H : Hp} {Q : Bool → Hp → Prop} (q : tT K W (gTB g) σV H Q) : uTest (tE K W g) σV H Q := by
  obtain ⟨ν, σ, M, rl, sl, h⟩ := q
  exact bindG rl sl h fun u H1 x ν1 M1 s1 r1 sl1 p1 h1 => asB_ok r1 p1 h1
theorem ft_cmp {o : CmpOp} {op : D → D → Store → R D} {r : R2} (ho : OpR X (compareOp o) r) (hs : OpS K op r) (ha : PE X a (tE K W ga)) (hb : PE X b (tE K W gb)) (hm : behindInMarks o b = false) : PT X (.Compare a [o] [b] pos) (tT K W (gTB (gBin op ga gb))) :=
  thnP (U.pt_cmp ho ha hb hm) fun σV H Q q => by
    obtain ⟨ν, σ, M, rl, sl, h⟩ := q
    show tE K W ga σV H fun x H1 => tE K W gb σV H1 fun y H2 => r x y H2 fun z H3 => uB z fun k => Q k H3
    revert h
    show PostG K W rT ν σV H Q (((ga σ M).bind fun x M1 => (gb σ M1).bind fun y M2 => op x y M2).bind asB) → _
    intro h
    have e : (((ga σ M).bind fun x M1 => (gb σ M1).bind fun y M2 => op x y M2).bind asB) = (ga σ M).bind fun x M1 => (gb σ M1).bind fun y M2 => (op x y M2).bind asB := by
      cases ga σ M with
      | ok x M1 => show ((gb σ M1).bind _).bind _ = _; cases h2 : gb σ M1 <;> simp only [R.bind, h2]
      | ex e M1 => rfl
      | no => rfl
    rw [e] at h
    refine bindG rl sl h fun u H1 x ν1 M1 s1 r1 sl1 p1 h1 => bindG r1 sl1 h1 fun v H2 y ν2 M2 s2 r2 sl2 p2 h2 => ?_
    refine hs W ν2 M2 H2 x y u v σV _ r2 (Rep.stp p1 s2) p2 ?_
    revert h2
    cases op x y M2 with
    | ok z M3 => exact fun h2 ν3 H3 c s3 r3 p3 => asB_ok (K := K) (W := W) r3 p3 (PostG.step s3 h2)
    | ex e M3 => exact fun h2 => h2
    | no => exact fun h2 => h2
/-! ### operators -/
def pI2 (C : Int → Int → Prop) [DecidableRel C] (f : Int → Int → PyData) (x y : D) (M : Store) : R D := match x, y with
  | .p (.int i), .p (.int j) => if C i j then .ok (.p (f i j)) M else .no
  | _, _ => .no
theorem pI2_ok {C : Int → Int → Prop} [DecidableRel C] {f : Int → Int → PyData} {fv : Int → Int → V} (hf : ∀ F i j, Vd F (fv i j) (f i j)) : OpS K (pI2 C f) (gI2 C fv) := by
  intro W ν M H x y u v σV Q rl px py h
  cases px with
  | p px => cases px with
    | int i => cases py with
      | p py => cases py with
        | int j =>
          have h : PostG K W rE ν σV H Q (if C i j then .ok (.p (f i j)) M else .no) := h
          by_cases c : C i j
          · rw [if_pos c] at h
            exact cond_i c (ret1 (rep := rE) rl (.p (hf _ _ _)) h)
          · rw [if_neg c] at h; exact h.elim
        | _ => exact h.elim
      | _ => exact h.elim
    | _ => cases py <;> first | exact h.elim | (rename_i z; cases z <;> exact h.elim)
  | _ => cases py <;> first | exact h.elim | (rename_i z; cases z <;> exact h.elim)
def pI (f : Int → Int → PyData) (x y : D) (M : Store) : R D := match x, y with
  | .p (.int i), .p (.int j) => .ok (.p (f i j)) M
  | _, _ => .no
theorem pI_ok {f : Int → Int → PyData} {fv : Int → Int → V} (hf : ∀ F i j, Vd F (fv i j) (f i j)) : OpS K (pI f) (gI fv) := by
  intro W ν M H x y u v σV Q rl px py h
  cases px with
  | p px => cases px with
    | int i => cases py with
      | p py => cases py with
        | int j => exact ret1 (rep := rE) rl (.p (hf _ _ _)) h
        | _ => exact h.elim
      | _ => exact h.elim
    | _ => cases py <;> first | exact h.elim | (rename_i z; cases z <;> exact h.elim)
  | _ => cases py <;> first | exact h.elim | (rename_i z; cases z <;> exact h.elim)
instance : DecidableRel CMul := fun i j => by unfold CMul; infer_instance
instance : DecidableRel CDiv := fun i j => by unfold CDiv; infer_instance
instance : DecidableRel CPow := fun i j => by unfold CPow; infer_instance
def pSub := pI fun i j => .int (i - j)
def pMul := pI2 CMul fun i j => .int (i * j)
def pFdiv := pI2 CDiv fun i j => .int (i / j)
def pMod := pI2 (fun _ j => 0 < j) fun i j => .int (i % j)
def pPow := pI2 CPow fun i j => .int (i ^ j.toNat)
def pLt := pI fun i j => .bool (decide (i < j))
def pLe := pI fun i j => .bool (decide (i ≤ j))
def pGt := pI fun i j => .bool (decide (j < i))
def pGe := pI fun i j => .bool (decide (j ≤ i))
theorem fe_sub (ha : PE X a (tE K W ga)) (hb : PE X b (tE K W gb)) : PE X (.BinOp a .Sub b pos) (tE K W (gBin pSub ga gb)) := fe_op U.u_sub (pI_ok fun _ _ _ => .int _) ha hb
theorem fe_mul (ha : PE X a (tE K W ga)) (hb : PE X b (tE K W gb)) : PE X (.BinOp a .Mult b pos) (tE K W (gBin pMul ga gb)) := fe_op U.u_mul (pI2_ok fun _ _ _ => .int _) ha hb
theorem fe_fdiv (ha : PE X a (tE K W ga)) (hb : PE X b (tE K W gb)) : PE X (.BinOp a .FloorDiv b pos) (tE K W (gBin pFdiv ga gb)) := fe_op U.u_fdiv (pI2_ok fun _ _ _ => .int _) ha hb
theorem fe_mod (ha : PE X a (tE K W ga)) (hb : PE X b (tE K W gb)) : PE X (.BinOp a .Mod b pos) (tE K W (gBin pMod ga gb)) := fe_op U.u_mod (pI2_ok fun _ _ _ => .int _) ha hb
theorem fe_pow (ha : PE X a (tE K W ga)) (hb : PE X b (tE K W gb)) : PE X (.BinOp a .Pow b pos) (tE K W (gBin pPow ga gb)) := fe_op U.u_pow (pI2_ok fun _ _ _ => .int _) ha hb
theorem c_lt : OpR X (compareOp .Lt) (gI fun i j => .bl (decide (i < j))) := U.u_lt
theorem s_lt : OpS K pLt (gI fun i j => .bl (decide (i < j))) := pI_ok fun _ _ _ => .bl _
theorem s_le : OpS K pLe (gI fun i j => .bl (decide (i ≤ j))) := pI_ok fun _ _ _ => .bl _
theorem s_gt : OpS K pGt (gI fun i j => .bl (decide (j < i))) := pI_ok fun _ _ _ => .bl _
theorem s_ge : OpS K pGe (gI fun i j => .bl (decide (j ≤ i))) := pI_ok fun _ _ _ => .bl _
def pNeg (x : D) (M : Store) : R D := match x with
  | .p (.int i) => .ok (.p (.int (-i))) M
  | _ => .no
theorem s_neg : UnS K pNeg gNeg := by
  intro W ν M H x u σV Q rl px h
  cases px with
  | p px => cases px with
    | int i => exact ret1 (rep := rE) rl (.p (.int _)) h
    | _ => exact h.elim
  | _ => exact h.elim
theorem fe_neg (ha : PE X a (tE K W ga)) : PE X (.UnaryOp .USub a pos) (tE K W (gUn pNeg ga)) := fe_un U.u_neg s_neg ha
/-- is None -/
def isNo : D → Bool
  | .p .none => true
  | _ => false
def pIsN (ne : Bool) (x y : D) (M : Store) : R D := match y with
  | .p .none => .ok (.p (.bool (ne ^^ isNo x))) M
  | _ => .no
theorem s_isN {ne : Bool} : OpS K (pIsN ne) (gIsN ne) := by
  intro W ν M H x y u v σV Q rl px py h
  cases py with
  | p py => cases py with
    | non =>
      have h : PostG K W rE ν σV H Q (.ok (.p (.bool (ne ^^ isNo x))) M) := h
      have q : Q (.bl (ne ^^ isNo x)) H := ret1 (rep := rE) rl (.p (.bl _)) h
      cases px with
      | p px => cases px <;> (cases ne <;> exact q)
      | _ => cases ne <;> exact q
    | _ => exact h.elim
  | _ => exact h.elim
/-- is True -/
def pIsB (ne : Bool) (x y : D) (M : Store) : R D := match x, y with
  | .p (.bool a), .p (.bool b) => .ok (.p (.bool (ne ^^ decide (a = b)))) M
  | _, _ => .no
theorem s_isB {ne : Bool} : OpS K (pIsB ne) (gIsB ne) := by
  intro W ν M H x y u v σV Q rl px py h
  cases px with
  | p px => cases px with
    | bl i => cases py with
      | p py => cases py with
        | bl j => exact ret1 (rep := rE) rl (.p (.bl _)) h
        | _ => exact h.elim
      | _ => exact h.elim
    | _ => cases py <;> first | exact h.elim | (rename_i z; cases z <;> exact h.elim)
  | _ => cases py <;> first | exact h.elim | (rename_i z; cases z <;> exact h.elim)
end
/-! ### sequences in the store -/
def seqOf (M : Store) : D → Option (Bool × List PyData)
  | .p (.list xs) => some (false, xs)
  | .p (.tuple xs) => some (true, xs)
  | .cell n => match M[n]? with
    | some (.lst xs) => some (false, xs)
    | _ => none
  | _ => none
def HOseq (b : Bool) (vs : List V) : HO := if b then .tup vs else .lst vs
theorem seq_ok {K : PySem.W.Frag} {ν : Nu} {M : Store} {H : Hp} {d : D} {v : V} {b : Bool} {xs : List PyData} (r : Rel K ν M H) (p : Rep ν.F ν.m d v) (h : seqOf M d = some (b, xs)) :
    ∃ a vs, v = .ref a ∧ Rd H a (HOseq b vs) ∧ Vs ν.F vs xs := by
  cases p with
  | p p => cases p with
    | lst h1 h2 => cases h; exact ⟨_, _, rfl, Rd.same r.same h1, h2⟩
    | tup h1 h2 => cases h; exact ⟨_, _, rfl, Rd.same r.same h1, h2⟩
    | _ => cases h
  | @cell n a hn =>
    have h : (match M[n]? with | some (.lst xs) => some (false, xs) | _ => none) = some (b, xs) := h
    cases e : M[n]? with
    | none => rw [e] at h; cases h
    | some c =>
      rw [e] at h
      cases c with
      | lst ys =>
        cases h
        have q := r.cel n _ _ e hn
        cases q with
        | lst h1 h2 h3 => exact ⟨_, _, rfl, .inl h2, h3⟩
      | _ => cases h
  | _ => cases h
theorem vs_len {F : Hp} : ∀ {vs : List V} {ds : List PyData}, Vs F vs ds → vs.length = ds.length
  | _, _, .nil => rfl
  | _, _, .cons _ a => congrArg Nat.succ (vs_len a)
theorem vs_app {F : Hp} : ∀ {vs ws : List V} {ds es : List PyData}, Vs F vs ds → Vs F ws es → Vs F (vs ++ ws) (ds ++ es)
  | _, _, _, _, .nil, b => b
  | _, _, _, _, .cons h a, b => .cons h (vs_app a b)
theorem vs_take {F : Hp} : ∀ {vs : List V} {ds : List PyData} (n : Nat), Vs F vs ds → Vs F (vs.take n) (ds.take n)
  | _, _, 0, _ => .nil
  | _, _, _ + 1, .nil => .nil
  | _, _, n + 1, .cons h a => .cons h (vs_take n a)
theorem vs_drop {F : Hp} : ∀ {vs : List V} {ds : List PyData} (n : Nat), Vs F vs ds → Vs F (vs.drop n) (ds.drop n)
  | _, _, 0, a => a
  | _, _, _ + 1, .nil => .nil
  | _, _, n + 1, .cons _ a => vs_drop n a
theorem vs_get {F : Hp} : ∀ {vs : List V} {ds : List PyData} {i : Nat} {d : PyData}, Vs F vs ds → ds[i]? = some d → ∃ v, vs[i]? = some v ∧ Vd F v d
  | _, _, i, _, .nil, e => by simp at e
  | _, _, 0, _, .cons h _, e => by
    simp at e
    subst e
    exact ⟨_, rfl, h⟩
  | _, _, i + 1, _, .cons _ a, e => by
    obtain ⟨d, e1, e2⟩ := vs_get (i := i) a (by simpa using e)
    exact ⟨d, by simpa using e1, e2⟩
theorem vs_set {F : Hp} {v : V} {d : PyData} (r : Vd F v d) : ∀ {vs : List V} {ds : List PyData} (i : Nat), Vs F vs ds → Vs F (vs.set i v) (ds.set i d)
  | _, _, _, .nil => .nil
  | _, _, 0, .cons _ t => .cons r t
  | _, _, i + 1, .cons q t => .cons q (vs_set r i t)
theorem vs_map {F : Hp} {α : Type} {f : α → V} {g : α → PyData} (h : ∀ a, Vd F (f a) (g a)) : ∀ l : List α, Vs F (l.map f) (l.map g)
  | [] => .nil
  | a :: r => .cons (h a) (vs_map h r)
theorem Rd.sqa {K : PySem.W.Frag} {H : Hp} {a : Addr} {b : Bool} {vs : List V} (h : Rd H a (HOseq b vs)) : U.SqA K H a vs := by
  cases b with
  | true => exact .inr (.inl h)
  | false => exact .inl (.inl h)
/-- the list's object itself -/
theorem lst_at {X : Cx} {pins : List (Addr × Obj)} {s : Shared} {σ : L2.St} {H : Hp} {a : Addr} {vs : List V} (I : Inv X pins σ H s) (h : Rd H a (.lst vs)) : vs.length ≤ sizeLine ∧ ∃ (its : List Value) (n : Nat), Vals vs its ∧ s.heap.get? a = some { cls := .type "list", data := .seq its.toArray n } := h.ok I.hok
section
variable {X : Cx} {K : PySem.W.Frag} {W : WX} {e a b : Expr} {pos : Pos} {g ga gb : GE}
/-! ### + -/
def rCatR : R2 := fun x y H Q => ∃ l b xs zs, x = .ref l ∧ y = .ref b ∧ Rd H l (.lst xs) ∧ Rd H b (.lst zs) ∧ xs.length + zs.length ≤ sizeLine ∧ ∀ p, H p = none → Q (.ref p) (upd H p (.lst (xs ++ zs)))
theorem op_catR : OpR X (binaryOp .Add) rCatR := by
  intro pins s σ H x y v u Q I rx ry h
  obtain ⟨l, b, xs, zs, rfl, rfl, hH, hB, hz, q⟩ := h
  cases rx
  cases ry
  obtain ⟨z, its, n, r, e⟩ := lst_at I hH
  obtain ⟨z2, its2, n2, r2, e2⟩ := lst_at I hB
  have hl := r.length
  have hl2 := r2.length
  refine PySem.P.add_list e e2 ?_ (by rw [List.size_toArray, List.size_toArray]; omega)
  have ea : its.toArray ++ its2.toArray = (its ++ its2).toArray := by simp
  rw [ea]
  exact ⟨.ref _, _, I.lnew (t' := s.toks) (r.append r2) (by rw [List.length_append]; omega), rfl, q _ I.fresh⟩
def rAdd : R2 := fun x y H Q => U.gAdd x y H Q ∨ rCatR x y H Q
theorem u_addR : OpR X (binaryOp .Add) rAdd := fun pins s σ H x y v u Q I rx ry h => h.elim (U.u_add pins s σ H x y v u Q I rx ry) (op_catR pins s σ H x y v u Q I rx ry)
def pAdd (x y : D) (M : Store) : R D := match x, y with
  | .p (.int i), .p (.int j) => .ok (.p (.int (i + j))) M
  | .p (.int i), .p (.bool k) => .ok (.p (.int (i + b2i k))) M
  | .p (.str i), .p (.str j) => if i.length + j.length ≤ sizeLine then .ok (.p (.str (i ++ j))) M else .no
  | x, y => match seqOf M x, seqOf M y with
    | some (false, xs), some (false, ys) => if xs.length + ys.length ≤ sizeLine then .ok (.p (.list (xs ++ ys))) M else .no
    | _, _ => .no
/-- a new frozen list -/
theorem new_lst {ν : Nu} {M : Store} {H : Hp} {σV : L2.St} {Q : VK} {vs : List V} {xs : List PyData} (r : Rel K ν M H) (hv : Vs ν.F vs xs) (h : PostG K W rE ν σV H Q (.ok (.p (.list xs)) M)) : ∀ p, H p = none → Q (.ref p) (upd H p (.lst vs)) := fun p hp => by
  obtain ⟨r1, s1⟩ := r.new hp (.lst vs)
  exact retN (rep := rE) h s1 r1 (.p (.lst (.inl upd_same) (Vs.same s1.ff hv)))
theorem new_tup {ν : Nu} {M : Store} {H : Hp} {σV : L2.St} {Q : VK} {vs : List V} {xs : List PyData} (r : Rel K ν M H) (hv : Vs ν.F vs xs) (h : PostG K W rE ν σV H Q (.ok (.p (.tuple xs)) M)) : ∀ p, H p = none → Q (.ref p) (upd H p (.tup vs)) := fun p hp => by
  obtain ⟨r1, s1⟩ := r.new hp (.tup vs)
  exact retN (rep := rE) h s1 r1 (.p (.tup (.inl upd_same) (Vs.same s1.ff hv)))
theorem s_add : OpS K pAdd rAdd := by
  intro W ν M H x y u v σV Q rl px py h
  have seqs : PostG K W rE ν σV H Q (match seqOf M x, seqOf M y with
      | some (false, xs), some (false, ys) => if xs.length + ys.length ≤ sizeLine then .ok (.p (.list (xs ++ ys))) M else .no
      | _, _ => .no) → rAdd u v H Q := by
    intro h
    cases ex : seqOf M x with
    | none => rw [ex] at h; exact h.elim
    | some bx =>
      obtain ⟨bx, xs⟩ := bx
      cases ey : seqOf M y with
      | none => rw [ex, ey] at h; cases bx <;> exact h.elim
      | some by_ =>
        obtain ⟨by_, ys⟩ := by_
        rw [ex, ey] at h
        cases bx with
        | true => exact h.elim
        | false =>
          cases by_ with
          | true => exact h.elim
          | false =>
            obtain ⟨a1, vs1, rfl, h1, q1⟩ := seq_ok rl px ex
            obtain ⟨a2, vs2, rfl, h2, q2⟩ := seq_ok rl py ey
            have h : PostG K W rE ν σV H Q (if xs.length + ys.length ≤ sizeLine then .ok (.p (.list (xs ++ ys))) M else .no) := h
            by_cases c : xs.length + ys.length ≤ sizeLine
            · rw [if_pos c] at h
              exact .inr ⟨a1, a2, vs1, vs2, rfl, rfl, h1, h2, by rw [vs_len q1, vs_len q2]; exact c, new_lst rl (vs_app q1 q2) h⟩
            · rw [if_neg c] at h; exact h.elim
  cases px with
  | p px => cases px with
    | int i => cases py with
      | p py => cases py with
        | int j => exact .inl (ret1 (rep := rE) rl (.p (.int _)) h)
        | bl j => exact .inl (ret1 (rep := rE) rl (.p (.int _)) h)
        | _ => exact h.elim
      | _ => exact h.elim
    | str i => cases py with
      | p py => cases py with
        | str j =>
          have h : PostG K W rE ν σV H Q (if i.length + j.length ≤ sizeLine then .ok (.p (.str (i ++ j))) M else .no) := h
          by_cases c : i.length + j.length ≤ sizeLine
          · rw [if_pos c] at h
            refine .inl ?_
            show U.catS i j H Q
            unfold U.catS
            exact ⟨c, ret1 (rep := rE) rl (.p (.str _)) h⟩
          · rw [if_neg c] at h; exact h.elim
        | _ => exact h.elim
      | _ => exact h.elim
    | lst _ _ => exact seqs h
    | tup _ _ => exact seqs h
    | _ => cases py <;> first | exact h.elim | (rename_i z; cases z <;> exact h.elim)
  | cell _ => exact seqs h
  | seqL _ _ => exact seqs h
  | seqT _ _ => exact seqs h
theorem fe_add (ha : PE X a (tE K W ga)) (hb : PE X b (tE K W gb)) : PE X (.BinOp a .Add b pos) (tE K W (gBin pAdd ga gb)) := fe_op u_addR s_add ha hb
end
end Fn

set_option Elab.async false
set_option linter.all false
set_option maxRecDepth 100000
set_option maxHeartbeats 4000000
/-! FC: tests, displays, items, cuts, ==, in -/
namespace Fn
open PySem PySem.Spec PyProof.Rows L2
open U (new new_i new_e cond cond_i cond_e brn brn_i brn_t brn_f uB uTest uVar gI gI2 gNeg gIsN gIsB pe_is thnP opt opt_i opt_e)
section
variable {X : Cx} {K : PySem.W.Frag} {W : WX} {e a b c : Expr} {pos : Pos} {g ga gb : GE} {gc ta tb : GT} {rest : List Expr}
theorem brn_if {c : Bool} {A B : Prop} (h : if c = true then A else B) : brn c A B := by
  cases c
  · exact brn_f rfl h
  · exact brn_t rfl h
/-! ### tests -/
def gAndT (ta tb : GT) : GT := fun σ M => (ta σ M).bind fun c M1 => if c = true then tb σ M1 else .ok false M1
def gOrT (ta tb : GT) : GT := fun σ M => (ta σ M).bind fun c M1 => if c = true then .ok true M1 else tb σ M1
def gNotT (ta : GT) : GT := fun σ M => (ta σ M).bind fun c M1 => .ok (!c) M1
theorem ft_and (ha : PT X a (tT K W ta)) (hb : PW X (.BoolOp .And (b :: rest) pos) (tT K W tb)) : PW X (.BoolOp .And (a :: b :: rest) pos) (tT K W (gAndT ta tb)) := by
  refine ⟨fun wh pins s σV H Q I q => (U.pw_and ha hb).run wh pins s σV H Q I ?_⟩
  obtain ⟨ν, σ, M, rl, sl, h⟩ := q
  refine bindG rl sl h fun d H1 c ν1 M1 s1 r1 sl1 p1 h1 => ?_
  obtain rfl : c = d := p1
  refine brn_if ?_
  by_cases z : c = true
  · rw [if_pos z]
    rw [if_pos z] at h1
    exact ⟨ν1, σ, M1, r1, sl1, h1⟩
  · rw [if_neg z]
    rw [if_neg z] at h1
    exact ret1 (rep := rT) r1 rfl h1
theorem ft_or (ha : PT X a (tT K W ta)) (hb : PW X (.BoolOp .Or (b :: rest) pos) (tT K W tb)) : PW X (.BoolOp .Or (a :: b :: rest) pos) (tT K W (gOrT ta tb)) := by
  refine ⟨fun wh pins s σV H Q I q => (U.pw_or ha hb).run wh pins s σV H Q I ?_⟩
  obtain ⟨ν, σ, M, rl, sl, h⟩ := q
  refine bindG rl sl h fun d H1 c ν1 M1 s1 r1 sl1 p1 h1 => ?_
  obtain rfl : c = d := p1
  refine brn_if ?_
  by_cases z : c = true
  · rw [if_pos z]
    rw [if_pos z] at h1
    exact ret1 (rep := rT) r1 rfl h1
  · rw [if_neg z]
    rw [if_neg z] at h1
    exact ⟨ν1, σ, M1, r1, sl1, h1⟩
theorem ft_not (ha : PT X a (tT K W ta)) : PT X (.UnaryOp .Not a pos) (tT K W (gNotT ta)) := thnP (pt_not ha) fun σV H Q q => by
  obtain ⟨ν, σ, M, rl, sl, h⟩ := q
  exact bindG rl sl h fun d H1 c ν1 M1 s1 r1 sl1 p1 h1 => by
    obtain rfl : c = d := p1
    exact ret1 (rep := rT) r1 rfl h1
/-- truth -/
def truD (x : D) (M : Store) : R Bool := match x with
  | .p (.bool b) => .ok b M
  | .p .none => .ok false M
  | .p (.int i) => .ok (i != 0) M
  | .p (.str z) => if z.length ≤ sizeLine then .ok ((z.length : Int) != 0) M else .no
  | x => match seqOf M x with
    | some (_, xs) => .ok (!xs.isEmpty) M
    | none => .no
def gTru (ga : GE) : GT := fun σ M => (ga σ M).bind truD
theorem truD_ok {ν : Nu} {M : Store} {H : Hp} {x : D} {u : V} {σV : L2.St} {Q : Bool → Hp → Prop} (r : Rel K ν M H) (p : Rep ν.F ν.m x u) (h : PostG K W rT ν σV H Q (truD x M)) : U.uTru K u H fun k => Q k H := by
  have seqs : PostG K W rT ν σV H Q (match seqOf M x with
    | some (_, xs) => .ok (!xs.isEmpty) M
    | none => .no) → ∃ a, u = .ref a ∧ U.uTruO K u H fun k => Q k H := by
    intro h
    cases ex : seqOf M x with
    | none => rw [ex] at h; exact h.elim
    | some bx =>
      obtain ⟨b, xs⟩ := bx
      rw [ex] at h
      obtain ⟨a, vs, rfl, h1, h2⟩ := seq_ok r p ex
      have q : Q (!xs.isEmpty) H := ret1 (rep := rT) r rfl h
      have e : vs.isEmpty = xs.isEmpty := by
        have := vs_len h2
        cases vs <;> cases xs <;> simp_all
      rw [← e] at q
      refine ⟨a, rfl, U.uTruO_i (k := !vs.isEmpty) ?_ q⟩
      cases b with
      | false => exact .inl ⟨vs, .inl h1, rfl⟩
      | true => exact .inr (.inl ⟨vs, .inl h1, rfl⟩)
  cases p with
  | p p => cases p with
    | bl b => exact ret1 (rep := rT) r rfl h
    | non => exact ret1 (rep := rT) r rfl h
    | int i => exact ret1 (rep := rT) r rfl h
    | str z =>
      have h : PostG K W rT ν σV H Q (if z.length ≤ sizeLine then .ok ((z.length : Int) != 0) M else .no) := h
      by_cases c : z.length ≤ sizeLine
      · rw [if_pos c] at h
        exact U.uTruO_i (k := (z.length : Int) != 0) ⟨c, rfl⟩ (ret1 (rep := rT) r rfl h)
      · rw [if_neg c] at h; exact h.elim
    | lst _ _ => obtain ⟨a, e, q⟩ := seqs h; cases e; exact q
    | tup _ _ => obtain ⟨a, e, q⟩ := seqs h; cases e; exact q
  | cell _ => obtain ⟨a, e, q⟩ := seqs h; cases e; exact q
  | seqL _ _ => obtain ⟨a, e, q⟩ := seqs h; cases e; exact q
  | seqT _ _ => obtain ⟨a, e, q⟩ := seqs h; cases e; exact q
theorem ft_truth (hK : X.K = K) (ha : PE X a (tE K W ga)) (he : ∀ whole, isTrue a X.env whole = (do let v ← whole; standAt a.pos; holding [v] (truthy v)) := by intro _; rfl) : PT X a (tT K W (gTru ga)) := thnP (U.pt_truthK K hK ha he) fun σV H Q q => by
  obtain ⟨ν, σ, M, rl, sl, h⟩ := q
  exact bindG rl sl h fun u H1 x ν1 M1 s1 r1 sl1 p1 h1 => truD_ok r1 p1 h1
/-! ### and, or, not, if as values -/
def gAnd (ga gb : GE) : GE := fun σ M => (ga σ M).bind fun x M1 => (asB x M1).bind fun c M2 => if c = true then gb σ M2 else .ok (.p (.bool false)) M2
def gOr (ga gb : GE) : GE := fun σ M => (ga σ M).bind fun x M1 => (asB x M1).bind fun c M2 => if c = true then .ok (.p (.bool true)) M2 else gb σ M2
def gNot (ga : GE) : GE := fun σ M => (ga σ M).bind fun x M1 => (asB x M1).bind fun c M2 => .ok (.p (.bool (!c))) M2
theorem asB_bind {β α' : Type} {rep' : Nu → α' → β → Prop} {ν : Nu} {M : Store} {H : Hp} {x : D} {u : V} {σV : L2.St} {Q : β → Hp → Prop} {k : Bool → Store → R α'} {P : Bool → Prop} (p : Rep ν.F ν.m x u) (h : PostG K W rep' ν σV H Q ((asB x M).bind k))
    (q : ∀ c, PostG K W rep' ν σV H Q (k c M) → P c) : uB u P := by
  cases p with
  | p p => cases p with
    | bl b => exact q b h
    | _ => exact h.elim
  | _ => exact h.elim
theorem fe_and (ha : PE X a (tE K W ga)) (hb : PE X (.BoolOp .And (b :: rest) pos) (tE K W gb)) : PE X (.BoolOp .And (a :: b :: rest) pos) (tE K W (gAnd ga gb)) := pe_is (U.pe_and ha hb) fun σV H Q q => by
  obtain ⟨ν, σ, M, rl, sl, h⟩ := q
  refine bindG rl sl h fun u H1 x ν1 M1 s1 r1 sl1 p1 h1 => asB_bind p1 h1 fun c h2 => brn_if ?_
  by_cases z : c = true
  · rw [if_pos z] at h2 ⊢; exact ⟨ν1, σ, M1, r1, sl1, h2⟩
  · rw [if_neg z] at h2 ⊢; exact ret1 (rep := rE) r1 (.p (.bl _)) h2
theorem fe_or (ha : PE X a (tE K W ga)) (hb : PE X (.BoolOp .Or (b :: rest) pos) (tE K W gb)) : PE X (.BoolOp .Or (a :: b :: rest) pos) (tE K W (gOr ga gb)) := pe_is (U.pe_or ha hb) fun σV H Q q => by
  obtain ⟨ν, σ, M, rl, sl, h⟩ := q
  refine bindG rl sl h fun u H1 x ν1 M1 s1 r1 sl1 p1 h1 => asB_bind p1 h1 fun c h2 => brn_if ?_
  by_cases z : c = true
  · rw [if_pos z] at h2 ⊢; exact ret1 (rep := rE) r1 (.p (.bl _)) h2
  · rw [if_neg z] at h2 ⊢; exact ⟨ν1, σ, M1, r1, sl1, h2⟩
theorem fe_not (ha : PE X a (tE K W ga)) : PE X (.UnaryOp .Not a pos) (tE K W (gNot ga)) := pe_is (U.pe_not ha) fun σV H Q q => by
  obtain ⟨ν, σ, M, rl, sl, h⟩ := q
  exact bindG rl sl h fun u H1 x ν1 M1 s1 r1 sl1 p1 h1 => asB_bind p1 h1 fun c h2 => ret1 (rep := rE) r1 (.p (.bl _)) h2
def gIf (gc : GT) (ga gb : GE) : GE := fun σ M => (gc σ M).bind fun c M1 => if c = true then ga σ M1 else gb σ M1
theorem fe_if (hc : PT X c (tT K W gc)) (ha : PE X a (tE K W ga)) (hb : PE X b (tE K W gb)) : PE X (.IfExp c a b pos) (tE K W (gIf gc ga gb)) := pe_is (U.pe_if hc ha hb) fun σV H Q q => by
  obtain ⟨ν, σ, M, rl, sl, h⟩ := q
  refine bindG rl sl h fun d H1 c ν1 M1 s1 r1 sl1 p1 h1 => brn_if ?_
  obtain rfl : c = d := p1
  by_cases z : c = true
  · rw [if_pos z] at h1 ⊢; exact ⟨ν1, σ, M1, r1, sl1, h1⟩
  · rw [if_neg z] at h1 ⊢; exact ⟨ν1, σ, M1, r1, sl1, h1⟩
/-- a chain of two comparisons -/
def gChain (op op' : D → D → Store → R D) (ga gb gc : GE) : GE := fun σ M => (ga σ M).bind fun x M1 => (gb σ M1).bind fun y M2 => (op x y M2).bind fun z M3 => (asB z M3).bind fun k M4 =>
  if k = true then (gc σ M4).bind fun w M5 => op' y w M5 else .ok (.p (.bool false)) M4
theorem chain_ok {op op' : D → D → Store → R D} {r r' : R2} {gc : GE} (hs : OpS K op r) (hs' : OpS K op' r') {σV : L2.St} {H : Hp} {Q : VK} (q : tE K W (gChain op op' ga gb gc) σV H Q) : U.uChain r r' (tE K W ga) (tE K W gb) (tE K W gc) σV H Q := by
  obtain ⟨ν, σ, M, rl, sl, h⟩ := q
  refine bindG rl sl h fun u H1 x ν1 M1 s1 r1 sl1 p1 h1 => bindG r1 sl1 h1 fun v H2 y ν2 M2 s2 r2 sl2 p2 h2 => ?_
  refine hs W ν2 M2 H2 x y u v σV _ r2 (Rep.stp p1 s2) p2 ?_
  revert h2
  cases op x y M2 with
  | ok z M3 =>
    intro h2 ν3 H3 w s3 r3 p3
    refine asB_bind p3 (PostG.step s3 h2) fun k h3 => brn_if ?_
    by_cases zz : k = true
    · rw [if_pos zz] at h3 ⊢
      exact bindG r3 ((sl2.mono s3)) h3 fun w4 H4 d4 ν4 M4 s4 r4 sl4 p4 h4 => hs' W ν4 M4 H4 y d4 v w4 σV Q r4 (Rep.stp (Rep.stp p2 s3) s4) p4 h4
    · rw [if_neg zz] at h3 ⊢; exact ret1 (rep := rE) r3 (.p (.bl _)) h3
  | ex e M3 => exact fun h2 => h2
  | no => exact fun h2 => h2
theorem fe_chain {op op' : D → D → Store → R D} {o o' : CmpOp} {r r' : R2} {gc : GE} (ho : OpR X (compareOp o) r) (ho' : OpR X (compareOp o') r') (hs : OpS K op r) (hs' : OpS K op' r') (ha : PE X a (tE K W ga)) (hb : PE X b (tE K W gb)) (hc : PE X c (tE K W gc))
    (hm : lastMarks [o, o'] [b, c] = false := by with_unfolding_all rfl) : PE X (.Compare a [o, o'] [b, c] pos) (tE K W (gChain op op' ga gb gc)) := pe_is (U.pe_chain ho ho' ha hb hc hm) fun _ _ _ q => chain_ok hs hs' q
end
/-! ### what is made of values -/
def pures : List D → Option (List PyData)
  | [] => some []
  | .p x :: r => match pures r with
    | some xs => some (x :: xs)
    | none => none
  | _ :: _ => none
def mkL (ds : List D) : D := match pures ds with
  | some xs => .p (.list xs)
  | none => .seq false ds
def mkT (ds : List D) : D := match pures ds with
  | some xs => .p (.tuple xs)
  | none => .seq true ds
theorem pures_map : ∀ (xs : List PyData), pures (xs.map D.p) = some xs
  | [] => rfl
  | x :: r => by rw [List.map_cons, pures, pures_map r]
theorem pures_ok {F : Hp} {m : List Addr} : ∀ {ds : List D} {vs : List V} {xs : List PyData}, Reps F m ds vs → pures ds = some xs → Vs F vs xs
  | [], _, _, .nil, h => by cases h; exact .nil
  | .p x :: r, _, xs, .cons (.p h1) h2, h => by
    rw [pures] at h
    cases e : pures r with
    | none => rw [e] at h; cases h
    | some ys => rw [e] at h; cases h; exact .cons h1 (pures_ok h2 e)
  | .cell _ :: _, _, _, _, h => by cases h
  | .seq _ _ :: _, _, _, _, h => by cases h
theorem reps_len {F : Hp} {m : List Addr} : ∀ {ds : List D} {vs : List V}, Reps F m ds vs → vs.length = ds.length
  | _, _, .nil => rfl
  | _, _, .cons _ a => congrArg Nat.succ (reps_len a)
theorem reps_of {F : Hp} {m : List Addr} : ∀ {vs : List V} {xs : List PyData}, Vs F vs xs → Reps F m (xs.map D.p) vs
  | _, _, .nil => .nil
  | _, _, .cons h a => .cons (.p h) (reps_of a)
theorem reps_get {F : Hp} {m : List Addr} : ∀ {ds : List D} {vs : List V} {i : Nat} {d : D}, Reps F m ds vs → ds[i]? = some d → ∃ v, vs[i]? = some v ∧ Rep F m d v
  | _, _, i, _, .nil, e => by simp at e
  | _, _, 0, _, .cons h _, e => by
    simp at e
    subst e
    exact ⟨_, rfl, h⟩
  | _, _, i + 1, _, .cons _ a, e => by
    obtain ⟨d, e1, e2⟩ := reps_get (i := i) a (by simpa using e)
    exact ⟨d, by simpa using e1, e2⟩
theorem mkL_ok {F : Hp} {m : List Addr} {ds : List D} {vs : List V} {a : Addr} (h : Reps F m ds vs) (ha : Rd F a (.lst vs)) : Rep F m (mkL ds) (.ref a) := by
  unfold mkL
  cases e : pures ds with
  | none => exact .seqL ha h
  | some xs => exact .p (.lst ha (pures_ok h e))
theorem mkT_ok {F : Hp} {m : List Addr} {ds : List D} {vs : List V} {a : Addr} (h : Reps F m ds vs) (ha : Rd F a (.tup vs)) : Rep F m (mkT ds) (.ref a) := by
  unfold mkT
  cases e : pures ds with
  | none => exact .seqT ha h
  | some xs => exact .p (.tup ha (pures_ok h e))
section
variable {X : Cx} {K : PySem.W.Frag} {W : WX} {e a b : Expr} {es : List Expr} {pos : Pos} {g ga gb : GE} {gs : GA}
def gNil : GA := fun _ M => .ok [] M
def gCons (ga : GE) (gs : GA) : GA := fun σ M => (ga σ M).bind fun x M1 => (gs σ M1).bind fun xs M2 => .ok (x :: xs) M2
theorem fa_nil : PA X [] (tA K W gNil) := ⟨fun pos pins s σV H Q I q => pa_nil.run pos pins s σV H Q I (by
  obtain ⟨ν, σ, M, rl, sl, h⟩ := q
  exact ret1 (rep := rA) rl .nil h)⟩
theorem cons_ok {σV : L2.St} {H : Hp} {Q : List V → Hp → Prop} (q : tA K W (gCons ga gs) σV H Q) : tCons (tE K W ga) (tA K W gs) σV H Q := by
  obtain ⟨ν, σ, M, rl, sl, h⟩ := q
  exact bindG rl sl h fun u H1 x ν1 M1 s1 r1 sl1 p1 h1 => bindG r1 sl1 h1 fun vs H2 xs ν2 M2 s2 r2 sl2 p2 h2 => ret1 (rep := rA) r2 (.cons (Rep.stp p1 s2) p2) h2
theorem fa_cons (ha : PE X e (tE K W ga)) (hr : PA X es (tA K W gs)) (hs : starEach (e :: es) X.env = (false, eval e X.env) :: starEach es X.env := by rfl) : PA X (e :: es) (tA K W (gCons ga gs)) :=
  ⟨fun pos pins s σV H Q I q => (pa_cons ha hr hs).run pos pins s σV H Q I (cons_ok q)⟩
def gLst (gs : GA) : GE := fun σ M => (gs σ M).bind fun ds M1 => if ds.length ≤ sizeLine then .ok (mkL ds) M1 else .no
def gTup (gs : GA) : GE := fun σ M => (gs σ M).bind fun ds M1 => if ds.length ≤ sizeLine then .ok (mkT ds) M1 else .no
theorem fe_lst (h : PA X es (tA K W gs)) : PE X (.List es pos) (tE K W (gLst gs)) := pe_is (U.pe_lst h) fun σV H Q q => by
  obtain ⟨ν, σ, M, rl, sl, h⟩ := q
  refine bindG rl sl h fun vs H1 ds ν1 M1 s1 r1 sl1 p1 h1 => ?_
  by_cases c : ds.length ≤ sizeLine
  · rw [if_pos c] at h1
    refine cond_i (by rw [reps_len p1]; exact c) (new_i fun p hp => ?_)
    obtain ⟨r2, s2⟩ := r1.new hp (.lst vs)
    exact retN (rep := rE) h1 s2 r2 (mkL_ok (Reps.stp p1 s2) (.inl upd_same))
  · rw [if_neg c] at h1; exact h1.elim
theorem fe_tup {x1} (h : PA X es (tA K W gs)) : PE X (.Tuple es x1 pos) (tE K W (gTup gs)) := pe_is (U.pe_tup h) fun σV H Q q => by
  obtain ⟨ν, σ, M, rl, sl, h⟩ := q
  refine bindG rl sl h fun vs H1 ds ν1 M1 s1 r1 sl1 p1 h1 => ?_
  by_cases c : ds.length ≤ sizeLine
  · rw [if_pos c] at h1
    refine cond_i (by rw [reps_len p1]; exact c) (new_i fun p hp => ?_)
    obtain ⟨r2, s2⟩ := r1.new hp (.tup vs)
    exact retN (rep := rE) h1 s2 r2 (mkT_ok (Reps.stp p1 s2) (.inl upd_same))
  · rw [if_neg c] at h1; exact h1.elim
/-- a new list as a cell -/
theorem new_cell {ν : Nu} {M : Store} {H : Hp} {σV : L2.St} {Q : VK} {vs : List V} {xs : List PyData} (r : Rel K ν M H) (hv : Vs ν.F vs xs) (h : PostG K W rE ν σV H Q (.ok (.cell M.length) (M ++ [.lst xs]))) : ∀ p, H p = none → Q (.ref p) (upd H p (.lst vs)) := fun p hp => by
  obtain ⟨r1, s1⟩ := r.cel1 hp (.lst vs) (.lst xs) (.lst rfl upd_same hv)
  exact retN (rep := rE) h s1 r1 (.cell (by show (ν.m ++ [p])[M.length]? = some p; rw [← r.len]; simp))
def gLstC (gs : GA) : GE := fun σ M => (gs σ M).bind fun ds M1 => match pures ds with
  | some xs => if xs.length ≤ sizeLine then .ok (.cell M1.length) (M1 ++ [.lst xs]) else .no
  | none => .no
theorem fe_lstC (h : PA X es (tA K W gs)) : PE X (.List es pos) (tE K W (gLstC gs)) := pe_is (U.pe_lst h) fun σV H Q q => by
  obtain ⟨ν, σ, M, rl, sl, h⟩ := q
  refine bindG rl sl h fun vs H1 ds ν1 M1 s1 r1 sl1 p1 h1 => ?_
  cases e : pures ds with
  | none => rw [e] at h1; exact h1.elim
  | some xs =>
    rw [e] at h1
    have hv := pures_ok p1 e
    have h1 : PostG K W rE ν1 σV H1 Q (if xs.length ≤ sizeLine then .ok (.cell M1.length) (M1 ++ [.lst xs]) else .no) := h1
    by_cases c : xs.length ≤ sizeLine
    · rw [if_pos c] at h1
      exact cond_i (by rw [vs_len hv]; exact c) (new_i (new_cell r1 hv h1))
    · rw [if_neg c] at h1; exact h1.elim
/-! ### items -/
def optR {α : Type} (o : Option α) (k : α → R D) : R D := match o with
  | some x => k x
  | none => .no
def pIx (x y : D) (M : Store) : R D := match y with
  | .p (.int i) => (match x with
    | .p (.str z) => if z.length ≤ sizeLine then optR (atI z.cps.toList i) fun c => .ok (.p (.str ⟨#[c]⟩)) M else .no
    | .seq _ ds => optR (atI ds i) fun d => .ok d M
    | x => match seqOf M x with
      | some (_, xs) => optR (atI xs i) fun d => .ok (.p d) M
      | none => .no)
  | _ => .no
theorem atI_len {α β : Type} {xs : List α} {ys : List β} {i : Int} {a : α} (hl : ys.length = xs.length) (h : atI xs i = some a) : ∃ k : Nat, atI ys i = ys[k]? ∧ xs[k]? = some a := by
  unfold atI at h ⊢
  rw [hl]
  cases e : ixN xs.length i with
  | none => rw [e] at h; cases h
  | some k => rw [e] at h; exact ⟨k, rfl, h⟩
theorem s_ix : OpS K pIx (U.gIx K) := by
  intro W ν M H x y u v σV Q rl px py h
  cases py with
  | p py => cases py with
    | int i =>
      have seqs : PostG K W rE ν σV H Q (match seqOf M x with
          | some (_, xs) => optR (atI xs i) fun d => .ok (.p d) M
          | none => .no) → U.gIx K u (.int i) H Q := by
        intro h
        cases ex : seqOf M x with
        | none => rw [ex] at h; exact h.elim
        | some bx =>
          obtain ⟨b, xs⟩ := bx
          rw [ex] at h
          obtain ⟨a, vs, rfl, h1, h2⟩ := seq_ok rl px ex
          have h : PostG K W rE ν σV H Q (optR (atI xs i) fun d => .ok (.p d) M) := h
          cases e2 : atI xs i with
          | none => rw [e2] at h; exact h.elim
          | some d =>
            rw [e2] at h
            obtain ⟨k, e3, e4⟩ := atI_len (vs_len h2) e2
            obtain ⟨w, e5, rw_⟩ := vs_get h2 e4
            exact U.ixO_i (Rd.sqa h1) (opt_i (e3.trans e5) (ret1 (rep := rE) rl (.p rw_) h))
      cases px with
      | p px => cases px with
        | str z =>
          have h : PostG K W rE ν σV H Q (if z.length ≤ sizeLine then optR (atI z.cps.toList i) fun c => .ok (.p (.str ⟨#[c]⟩)) M else .no) := h
          by_cases c : z.length ≤ sizeLine
          · rw [if_pos c] at h
            show U.ixS z i H Q
            unfold U.ixS
            refine cond_i c ?_
            cases e2 : atI z.cps.toList i with
            | none => rw [e2] at h; exact h.elim
            | some d => rw [e2] at h; exact ret1 (rep := rE) rl (.p (.str _)) h
          · rw [if_neg c] at h; exact h.elim
        | _ => first | exact h.elim | exact seqs h
      | cell _ => exact seqs h
      | @seqL ds vs a h1 h2 =>
        have h : PostG K W rE ν σV H Q (optR (atI ds i) fun d => .ok d M) := h
        cases e2 : atI ds i with
        | none => rw [e2] at h; exact h.elim
        | some d =>
          rw [e2] at h
          obtain ⟨k, e3, e4⟩ := atI_len (reps_len h2) e2
          obtain ⟨w, e5, rw_⟩ := reps_get h2 e4
          exact U.ixO_i (xs := vs) (.inl (.inl (Rd.same rl.same h1))) (opt_i (e3.trans e5) (ret1 (rep := rE) rl rw_ h))
      | @seqT ds vs a h1 h2 =>
        have h : PostG K W rE ν σV H Q (optR (atI ds i) fun d => .ok d M) := h
        cases e2 : atI ds i with
        | none => rw [e2] at h; exact h.elim
        | some d =>
          rw [e2] at h
          obtain ⟨k, e3, e4⟩ := atI_len (reps_len h2) e2
          obtain ⟨w, e5, rw_⟩ := reps_get h2 e4
          exact U.ixO_i (xs := vs) (.inr (.inl (Rd.same rl.same h1))) (opt_i (e3.trans e5) (ret1 (rep := rE) rl rw_ h))
    | _ => exact h.elim
  | _ => exact h.elim
theorem fe_ix (hK : X.K = K) (ha : PE X a (tE K W ga)) (hb : PE X b (tE K W gb)) (hs : PlainIx b := by exact fun _ _ => rfl) : PE X (.Subscript a b pos) (tE K W (gBin pIx ga gb)) := pe_is (U.pe_ixK K hK ha hb hs) fun _ _ _ q => bin_ok s_ix q
/-! ### cuts -/
abbrev GO := Sl → Store → R (Option Int)
def rO (ν : Nu) (a b : Option Int) : Prop := a = b
def tO (K : PySem.W.Frag) (W : WX) (g : GO) : TO := tG K W rO g
def gNone : GO := fun _ M => .ok none M
def gPart (g : GE) : GO := fun σ M => (g σ M).bind fun x M1 => match x with
  | .p (.int i) => .ok (some i) M1
  | _ => .no
theorem fo_none : PO X none (tO K W gNone) := ⟨fun pins s σV H Q I q => po_none.run pins s σV H Q I (by
  obtain ⟨ν, σ, M, rl, sl, h⟩ := q
  exact ret1 (rep := rO) rl rfl h)⟩
theorem fo_some (he : PE X e (tE K W g)) : PO X (some e) (tO K W (gPart g)) := ⟨fun pins s σV H Q I q => (U.po_some he).run pins s σV H Q I (by
  obtain ⟨ν, σ, M, rl, sl, h⟩ := q
  refine bindG rl sl h fun u H1 x ν1 M1 s1 r1 sl1 p1 h1 => ?_
  cases p1 with
  | p p1 => cases p1 with
    | int i => exact ret1 (rep := rO) r1 rfl h1
    | _ => exact h1.elim
  | _ => exact h1.elim)⟩
def cutP (xs : List PyData) (lo hi : Option Int) : List PyData := (xs.drop (HT.sIx xs.length 0 lo)).take (HT.sIx xs.length xs.length hi - HT.sIx xs.length 0 lo)
theorem vs_cut {F : Hp} {vs : List V} {xs : List PyData} (h : Vs F vs xs) (lo hi : Option Int) : Vs F (cutV vs lo hi) (cutP xs lo hi) := by
  unfold cutV cutP
  rw [vs_len h]
  exact vs_take _ (vs_drop _ h)
def pSl (x : D) (lo hi : Option Int) (M : Store) : R D := match x with
  | .p (.str z) => if z.length ≤ sizeLine then .ok (.p (.str (cutS z lo hi))) M else .no
  | x => match seqOf M x with
    | some (false, xs) => .ok (.p (.list (cutP xs lo hi))) M
    | some (true, xs) => .ok (.p (.tuple (cutP xs lo hi))) M
    | none => .no
def rSl (K : PySem.W.Frag) : V → Option Int → Option Int → Hp → VK → Prop := fun x lo hi H Q => U.gSl K x lo hi H Q ∨ rSlA K x lo hi H Q
theorem u_slR : SlR X (rSl X.K) := fun pins s σ H x v vl vu lo hi sl Q I rx hs pl pu h => h.elim (U.u_sl pins s σ H x v vl vu lo hi sl Q I rx hs pl pu) (sl_tupA pins s σ H x v vl vu lo hi sl Q I rx hs pl pu)
theorem u_slRK (hK : X.K = K) : SlR X (rSl K) := by subst hK; exact u_slR
theorem cut_all {xs : List PyData} {lo hi : Option Int} (h : HT.sIx xs.length 0 lo = 0 ∧ HT.sIx xs.length xs.length hi = xs.length) : cutP xs lo hi = xs := by
  unfold cutP
  rw [h.1, h.2, List.drop_zero, Nat.sub_zero, List.take_length]
theorem sl_ok {ν : Nu} {M : Store} {H : Hp} {x : D} {u : V} {lo hi : Option Int} {σV : L2.St} {Q : VK} (rl : Rel K ν M H) (px : Rep ν.F ν.m x u) (h : PostG K W rE ν σV H Q (pSl x lo hi M)) : rSl K u lo hi H Q := by
  have seqs : PostG K W rE ν σV H Q (match seqOf M x with
    | some (false, xs) => .ok (.p (.list (cutP xs lo hi))) M
    | some (true, xs) => .ok (.p (.tuple (cutP xs lo hi))) M
    | none => .no) → rSl K u lo hi H Q := by
    intro h
    cases ex : seqOf M x with
    | none => rw [ex] at h; exact h.elim
    | some bx =>
      obtain ⟨b, xs⟩ := bx
      rw [ex] at h
      obtain ⟨a, vs, rfl, h1, h2⟩ := seq_ok rl px ex
      cases b with
      | false => exact .inl (U.slO_l (.inl h1) (new_i (new_lst rl (vs_cut h2 lo hi) h)))
      | true =>
        refine .inr ⟨a, vs, rfl, .inl h1, fun w => ?_, fun w => new_tup rl (vs_cut h2 lo hi) h⟩
        rw [vs_len h2] at w
        have h : PostG K W rE ν σV H Q (.ok (.p (.tuple (cutP xs lo hi))) M) := h
        rw [cut_all w] at h
        have e : Rep ν.F ν.m (.p (.tuple xs)) (.ref a) := by
          cases px with
          | p px => cases px with
            | lst _ _ => cases ex
            | tup k1 k2 => cases ex; exact .p (.tup k1 k2)
          | cell _ =>
            rename_i n _
            have ex : (match M[n]? with | some (.lst xs) => some (false, xs) | _ => none) = some (true, xs) := ex
            cases e : M[n]? with
            | none => rw [e] at ex; cases ex
            | some c => rw [e] at ex; cases c <;> cases ex
          | seqL _ _ => cases ex
          | seqT _ _ => cases ex
        exact ret1 (rep := rE) rl e h
  cases px with
  | p px => cases px with
    | str z =>
      have h : PostG K W rE ν σV H Q (if z.length ≤ sizeLine then .ok (.p (.str (cutS z lo hi))) M else .no) := h
      by_cases c : z.length ≤ sizeLine
      · rw [if_pos c] at h
        refine .inl ?_
        show U.slS z lo hi H Q
        unfold U.slS
        exact ⟨c, ret1 (rep := rE) rl (.p (.str _)) h⟩
      · rw [if_neg c] at h; exact h.elim
    | _ => first | exact h.elim | exact seqs h
  | cell _ => exact seqs h
  | seqL _ _ => exact h.elim
  | seqT _ _ => exact h.elim
def gSlice (ga : GE) (gl gh : GO) : GE := fun σ M => (ga σ M).bind fun x M1 => (gl σ M1).bind fun lo M2 => (gh σ M2).bind fun hi M3 => pSl x lo hi M3
theorem fe_slice {lo hi : Option Expr} {gl gh : GO} {p2 : Pos} (hK : X.K = K) (he : PE X e (tE K W ga)) (hl : PO X lo (tO K W gl)) (hu : PO X hi (tO K W gh)) : PE X (.Subscript e (.Slice lo hi none p2) pos) (tE K W (gSlice ga gl gh)) := pe_is (pe_slice (u_slRK hK) he hl hu) fun σV H Q q => by
  obtain ⟨ν, σ, M, rl, sl, h⟩ := q
  refine bindG rl sl h fun u H1 x ν1 M1 s1 r1 sl1 p1 h1 => bindG r1 sl1 h1 fun lo H2 lo' ν2 M2 s2 r2 sl2 p2 h2 => bindG r2 sl2 h2 fun hi H3 hi' ν3 M3 s3 r3 sl3 p3 h3 => ?_
  obtain rfl : lo' = lo := p2
  obtain rfl : hi' = hi := p3
  exact sl_ok r3 (Rep.stp (Rep.stp p1 s2) s3) h3
end
/-! ### ==, in -/
def dat1 (M : Store) : D → Option PyData
  | .p x => some x
  | .cell n => match M[n]? with
    | some (.lst xs) => some (.list xs)
    | _ => none
  | _ => none
def dats (M : Store) : List D → Option (List PyData)
  | [] => some []
  | d :: r => match dat1 M d with
    | some x => (match dats M r with
      | some xs => some (x :: xs)
      | none => none)
    | none => none
def dat (M : Store) : D → Option PyData
  | .p x => some x
  | .cell n => match M[n]? with
    | some (.lst xs) => some (.list xs)
    | _ => none
  | .seq t ds => match dats M ds with
    | some xs => some (if t = true then .tuple xs else .list xs)
    | none => none
theorem dat1_ok {K : PySem.W.Frag} {ν : Nu} {M : Store} {H : Hp} {d : D} {v : V} {x : PyData} (r : Rel K ν M H) (p : Rep ν.F ν.m d v) (h : dat1 M d = some x) : Dp K H v x := by
  cases p with
  | p p => cases h; exact (Vd.same r.same p).dp
  | @cell n a hn =>
    have h : (match M[n]? with | some (.lst xs) => some (PyData.list xs) | _ => none) = some x := h
    cases e : M[n]? with
    | none => rw [e] at h; cases h
    | some c =>
      rw [e] at h
      cases c with
      | lst ys =>
        cases h
        cases r.cel n _ _ e hn with
        | lst h1 h2 h3 => exact .lst (.inl (.inl h2)) ((Vs.same r.same h3).dp)
      | _ => cases h
  | _ => cases h
theorem dats_ok {K : PySem.W.Frag} {ν : Nu} {M : Store} {H : Hp} (r : Rel K ν M H) : ∀ {ds : List D} {vs : List V} {xs : List PyData}, Reps ν.F ν.m ds vs → dats M ds = some xs → DpAll K H vs xs
  | [], _, _, .nil, h => by cases h; exact .nil
  | d :: q, _, xs, .cons h1 h2, h => by
    rw [dats] at h
    cases e : dat1 M d with
    | none => rw [e] at h; cases h
    | some x =>
      rw [e] at h
      cases e2 : dats M q with
      | none => rw [e2] at h; cases h
      | some ys =>
        rw [e2] at h
        cases h
        exact .cons (dat1_ok r h1 e) (dats_ok r h2 e2)
theorem dat_ok {K : PySem.W.Frag} {ν : Nu} {M : Store} {H : Hp} {d : D} {v : V} {x : PyData} (r : Rel K ν M H) (p : Rep ν.F ν.m d v) (h : dat M d = some x) : Dp K H v x := by
  cases p with
  | p p => exact dat1_ok r (.p p) h
  | cell hn => exact dat1_ok r (.cell hn) h
  | @seqL xs vs a h1 h2 =>
    have h : (match dats M xs with | some xs => some (PyData.list xs) | none => none) = some x := h
    cases e : dats M xs with
    | none => rw [e] at h; cases h
    | some ys =>
      rw [e] at h
      cases h
      exact .lst (.inl (Rd.same r.same h1)) (dats_ok r h2 e)
  | @seqT xs vs a h1 h2 =>
    have h : (match dats M xs with | some xs => some (PyData.tuple xs) | none => none) = some x := h
    cases e : dats M xs with
    | none => rw [e] at h; cases h
    | some ys =>
      rw [e] at h
      cases h
      exact .tup (.inl (Rd.same r.same h1)) (dats_ok r h2 e)
/-- == of two of ints, bools, texts, None -/
def scalEq : D → D → Option Bool
  | .p (.int i), .p (.int j) => some (decide (i = j))
  | .p (.str i), .p (.str j) => some (decide (i = j))
  | .p (.bool i), .p (.bool j) => some (decide (i = j))
  | .p .none, .p .none => some true
  | .p .none, .p (.int _) => some false
  | .p (.int _), .p .none => some false
  | .p .none, .p (.str _) => some false
  | .p (.str _), .p .none => some false
  | .p .none, .p (.bool _) => some false
  | .p (.bool _), .p .none => some false
  | .p (.int _), .p (.str _) => some false
  | .p (.str _), .p (.int _) => some false
  | .p (.bool _), .p (.str _) => some false
  | .p (.str _), .p (.bool _) => some false
  | _, _ => none
def pEq (ne : Bool) (x y : D) (M : Store) : R D := match scalEq x y with
  | some b => .ok (.p (.bool (ne ^^ b))) M
  | none => match dat M x, dat M y with
    | some d, some e => if SeqAt.shaped d = true ∧ SeqAt.shaped e = true then .ok (.p (.bool (ne ^^ PyData.eqv d e))) M else .no
    | _, _ => .no
def rEqX (K : PySem.W.Frag) (ne : Bool) : R2 := fun x y H Q => U.gEq ne x y H Q ∨ U.eqO K ne x y H Q
section
variable {X : Cx} {K : PySem.W.Frag}
theorem c_eq (hK : X.K = K) (hu : X.A.units + 65 < cLine) : OpR X (compareOp .Eq) (rEqX K false) := fun pins s σ H x y v u Q I rx ry h => h.elim (U.u_eq pins s σ H x y v u Q I rx ry) (U.u_eqDK K hK hu pins s σ H x y v u Q I rx ry)
theorem c_ne (hK : X.K = K) (hu : X.A.units + 65 < cLine) : OpR X (compareOp .NotEq) (rEqX K true) := fun pins s σ H x y v u Q I rx ry h => h.elim (U.u_ne pins s σ H x y v u Q I rx ry) (U.u_neDK K hK hu pins s σ H x y v u Q I rx ry)
theorem scal_ok {ne : Bool} {F : Hp} {m : List Addr} {x y : D} {u v : V} {b : Bool} {H : Hp} {Q : VK} (px : Rep F m x u) (py : Rep F m y v) (h : scalEq x y = some b) (q : Q (.bl (ne ^^ b)) H) : U.gEq ne u v H Q := by
  cases px with
  | p px => cases py with
    | p py =>
      cases px <;> cases py <;> first | (cases h; done) | (cases h; exact q) | (cases h; simpa [U.gEq] using q)
    | _ => cases px <;> cases h
  | _ => cases py <;> first | (cases h; done) | (rename_i z; cases z <;> cases h)
theorem s_eq {ne : Bool} : OpS K (pEq ne) (rEqX K ne) := by
  intro W ν M H x y u v σV Q rl px py h
  unfold pEq at h
  cases e : scalEq x y with
  | some b =>
    rw [e] at h
    exact .inl (scal_ok px py e (ret1 (rep := rE) rl (.p (.bl _)) h))
  | none =>
    rw [e] at h
    have h : PostG K W rE ν σV H Q (match dat M x, dat M y with
      | some d, some e => if SeqAt.shaped d = true ∧ SeqAt.shaped e = true then .ok (.p (.bool (ne ^^ PyData.eqv d e))) M else .no
      | _, _ => .no) := h
    cases ex : dat M x with
    | none => rw [ex] at h; exact h.elim
    | some d =>
      cases ey : dat M y with
      | none => rw [ex, ey] at h; exact h.elim
      | some e =>
        rw [ex, ey] at h
        have h : PostG K W rE ν σV H Q (if SeqAt.shaped d = true ∧ SeqAt.shaped e = true then .ok (.p (.bool (ne ^^ PyData.eqv d e))) M else .no) := h
        by_cases c : SeqAt.shaped d = true ∧ SeqAt.shaped e = true
        · rw [if_pos c] at h
          exact .inr (U.eqO_i (dat_ok rl px ex) (dat_ok rl py ey) c.1 c.2 (ret1 (rep := rE) rl (.p (.bl _)) h))
        · rw [if_neg c] at h; exact h.elim
/-- in -/
def pIn (ne : Bool) (x y : D) (M : Store) : R D := match x, y with
  | .p (.str z), .p (.str w) => (match z.cps.toList with
    | [c] => .ok (.p (.bool (ne ^^ decide (c ∈ w.cps.toList)))) M
    | _ => .no)
  | x, y => match dat M x, dat M y with
    | some d, some (.list ds) => if SeqAt.shaped d = true ∧ SeqAt.shaped (.list ds) = true then .ok (.p (.bool (ne ^^ ds.any fun z => PyData.eqv z d))) M else .no
    | _, _ => .no
theorem s_in {ne : Bool} : OpS K (pIn ne) (U.inO K ne) := by
  intro W ν M H x y u v σV Q rl px py h
  have deep : PostG K W rE ν σV H Q (match dat M x, dat M y with
    | some d, some (.list ds) => if SeqAt.shaped d = true ∧ SeqAt.shaped (.list ds) = true then .ok (.p (.bool (ne ^^ ds.any fun z => PyData.eqv z d))) M else .no
    | _, _ => .no) → U.inO K ne u v H Q := by
    intro h
    cases ex : dat M x with
    | none => rw [ex] at h; exact h.elim
    | some d =>
      cases ey : dat M y with
      | none => rw [ex, ey] at h; exact h.elim
      | some e =>
        rw [ex, ey] at h
        cases e with
        | list ds =>
          have h : PostG K W rE ν σV H Q (if SeqAt.shaped d = true ∧ SeqAt.shaped (.list ds) = true then .ok (.p (.bool (ne ^^ ds.any fun z => PyData.eqv z d))) M else .no) := h
          by_cases c : SeqAt.shaped d = true ∧ SeqAt.shaped (.list ds) = true
          · rw [if_pos c] at h
            exact U.inO_d (dat_ok rl px ex) (dat_ok rl py ey) c.1 c.2 (ret1 (rep := rE) rl (.p (.bl _)) h)
          · rw [if_neg c] at h; exact h.elim
        | _ => exact h.elim
  cases px with
  | p px => cases py with
    | p py => cases px with
      | str z => cases py with
        | str w =>
          have h : PostG K W rE ν σV H Q (match z.cps.toList with
            | [c] => .ok (.p (.bool (ne ^^ decide (c ∈ w.cps.toList)))) M
            | _ => .no) := h
          have hz : z = ⟨z.cps.toList.toArray⟩ := by simp
          revert h hz
          generalize z.cps.toList = l
          intro h hz
          subst hz
          match l, h with
          | [c], h => exact U.inO_s (ret1 (rep := rE) rl (.p (.bl _)) h)
        | _ => exact deep h
      | _ => exact deep h
    | _ => cases px <;> exact deep h
  | _ => cases py <;> exact deep h
end
end Fn

set_option Elab.async false
set_option linter.all false
set_option maxRecDepth 100000
set_option maxHeartbeats 4000000
/-! FD: defs as functions of values, their calls -/
namespace Fn
open PySem PySem.Spec PyProof.Rows L2
open U (new new_i new_e cond cond_i cond_e brn brn_i brn_t brn_f uB uTest uVar pe_is thnP opt opt_i opt_e Df Bd Rm)
/-! ### labels -/
def pos (n : Nat) : List Nat → Option Nat
  | [] => none
  | k :: r => if k = n then some 0 else match pos n r with
    | some i => some (i + 1)
    | none => none
theorem pos_some {n : Nat} : ∀ {l : List Nat} {i : Nat}, pos n l = some i → l[i]? = some n
  | k :: r, i, h => by
    rw [pos] at h
    by_cases e : k = n
    · rw [if_pos e] at h; cases h; simpa using e
    · rw [if_neg e] at h
      cases q : pos n r with
      | none => rw [q] at h; cases h
      | some j => rw [q] at h; cases h; simpa using pos_some q
theorem pos_none {n : Nat} : ∀ {l : List Nat}, pos n l = none → n ∉ l
  | [], _ => by simp
  | k :: r, h => by
    rw [pos] at h
    by_cases e : k = n
    · rw [if_pos e] at h; cases h
    · rw [if_neg e] at h
      cases q : pos n r with
      | none => exact fun m => (List.mem_cons.mp m).elim (fun z => e z.symm) (pos_none q)
      | some j => rw [q] at h; cases h
theorem pos_at {n : Nat} : ∀ {l : List Nat} {i : Nat}, l.Nodup → l[i]? = some n → pos n l = some i
  | [], i, _, h => by simp at h
  | k :: r, 0, _, h => by
    simp at h
    rw [pos, if_pos h]
  | k :: r, i + 1, d, h => by
    have h : r[i]? = some n := by simpa using h
    have d2 := List.nodup_cons.mp d
    have e : k ≠ n := fun e => d2.1 (e ▸ List.mem_of_getElem? h)
    rw [pos, if_neg e, pos_at d2.2 h]
def lab (o : Nat) (ns : List Nat) : D → Option (D × List Nat)
  | .p x => some (.p x, ns)
  | .cell n => match pos n ns with
    | some i => some (.cell (o + i), ns)
    | none => some (.cell (o + ns.length), ns ++ [n])
  | .seq _ _ => none
def labs (o : Nat) : List Nat → List D → Option (List D × List Nat)
  | ns, [] => some ([], ns)
  | ns, d :: r => match lab o ns d with
    | some (d1, ns1) => match labs o ns1 r with
      | some (r1, ns2) => some (d1 :: r1, ns2)
      | none => none
    | none => none
theorem lab_ok {o : Nat} {ns ns1 : List Nat} {d d1 : D} (h : lab o ns d = some (d1, ns1)) (hn : ns.Nodup) : ns1.Nodup ∧ (∃ r, ns1 = ns ++ r) ∧
    ∀ {F : Hp} {m m0 : List Addr} {v : V}, Rep F m d v → (∀ (i : Nat) (n : Nat) (a : Addr), ns1[i]? = some n → m[n]? = some a → m0[o + i]? = some a) → Rep F m0 d1 v := by
  cases d with
  | p x =>
    cases h
    refine ⟨hn, ⟨[], by simp⟩, fun r _ => ?_⟩
    cases r with
    | p r => exact .p r
  | cell n =>
    have h : (match pos n ns with | some i => some (.cell (o + i), ns) | none => some (.cell (o + ns.length), ns ++ [n])) = some (d1, ns1) := h
    cases e : pos n ns with
    | some i =>
      rw [e] at h; cases h
      refine ⟨hn, ⟨[], by simp⟩, fun r k => ?_⟩
      cases r with
      | cell r => exact .cell (k i n _ (pos_some e) r)
    | none =>
      rw [e] at h; cases h
      refine ⟨?_, ⟨[n], rfl⟩, fun r k => ?_⟩
      · rw [List.nodup_append]
        exact ⟨hn, by simp, fun a ha b hb e2 => pos_none e (by simp at hb; rw [← hb, ← e2]; exact ha)⟩
      · cases r with
        | cell r => exact .cell (k ns.length n _ (by simp) r)
  | seq b xs => cases h
theorem labs_ok {o : Nat} : ∀ {ds ds1 : List D} {ns ns1 : List Nat}, labs o ns ds = some (ds1, ns1) → ns.Nodup → ns1.Nodup ∧ (∃ r, ns1 = ns ++ r) ∧
    ∀ {F : Hp} {m m0 : List Addr} {vs : List V}, Reps F m ds vs → (∀ (i : Nat) (n : Nat) (a : Addr), ns1[i]? = some n → m[n]? = some a → m0[o + i]? = some a) → Reps F m0 ds1 vs
  | [], ds1, ns, ns1, h, hn => by
    cases h
    refine ⟨hn, ⟨[], by simp⟩, fun r _ => ?_⟩
    cases r
    exact .nil
  | d :: r, ds1, ns, ns1, h, hn => by
    rw [labs] at h
    cases e : lab o ns d with
    | none => rw [e] at h; cases h
    | some q =>
      obtain ⟨d1, ns2⟩ := q
      rw [e] at h
      have h : (match labs o ns2 r with | some (r1, ns3) => some (d1 :: r1, ns3) | none => none) = some (ds1, ns1) := h
      cases e2 : labs o ns2 r with
      | none => rw [e2] at h; cases h
      | some q =>
        obtain ⟨r1, ns3⟩ := q
        rw [e2] at h
        cases h
        obtain ⟨a1, ⟨t1, a2⟩, a3⟩ := lab_ok e hn
        obtain ⟨b1, ⟨t2, b2⟩, b3⟩ := labs_ok e2 a1
        refine ⟨b1, ⟨t1 ++ t2, by rw [b2, a2, List.append_assoc]⟩, fun rr k => ?_⟩
        cases rr with
        | cons r1 r2 => exact .cons (a3 r1 fun i n a h => k i n a (by rw [b2]; exact ix_app h)) (b3 r2 k)
/-- the cells lent: all own -/
def lent (M : Store) : List Nat → Option Store
  | [] => some []
  | n :: r => match M[n]? with
    | some c => if c.own = true then (match lent M r with
        | some cs => some (c :: cs)
        | none => none) else none
    | none => none
theorem lent_ok {M : Store} : ∀ {ns : List Nat} {cs : Store}, lent M ns = some cs → cs.length = ns.length ∧ ∀ (i : Nat) (n : Nat), ns[i]? = some n → ∃ c, cs[i]? = some c ∧ M[n]? = some c ∧ c.own = true
  | [], cs, h => by cases h; exact ⟨rfl, fun i n h => by simp at h⟩
  | n :: r, cs, h => by
    rw [lent] at h
    cases e : M[n]? with
    | none => rw [e] at h; cases h
    | some c =>
      rw [e] at h
      have h : (if c.own = true then (match lent M r with | some cs => some (c :: cs) | none => none) else none) = some cs := h
      by_cases o : c.own = true
      · rw [if_pos o] at h
        cases e2 : lent M r with
        | none => rw [e2] at h; cases h
        | some c2 =>
          rw [e2] at h
          cases h
          obtain ⟨h1, h2⟩ := lent_ok e2
          refine ⟨by simp [h1], fun i k hk => ?_⟩
          cases i with
          | zero => simp at hk; subst hk; exact ⟨c, rfl, e, o⟩
          | succ i => exact h2 i k (by simpa using hk)
      · rw [if_neg o] at h; cases h
/-- the lent cells are handed back: the i-th of cs to its place -/
def back : Store → List Nat → Store → Option Store
  | M, [], _ => some M
  | M, n :: r, cs => match cs with
    | c :: cs => if c.own = true then back (M.set n c) r cs else none
    | [] => none
theorem back_ok : ∀ {ns : List Nat} {M M2 cs : Store}, back M ns cs = some M2 → ns.Nodup → M2.length = M.length ∧ (∀ k, k ∉ ns → M2[k]? = M[k]?) ∧ ∀ (i n : Nat), ns[i]? = some n → ∃ c, cs[i]? = some c ∧ c.own = true ∧ (n < M.length → M2[n]? = some c)
  | [], M, M2, cs, h, _ => by
    rw [back] at h
    cases h
    exact ⟨rfl, fun _ _ => rfl, fun i n h => by simp at h⟩
  | n :: r, M, M2, [], h, _ => by cases h
  | n :: r, M, M2, c :: cs, h, d => by
    have h : (if c.own = true then back (M.set n c) r cs else none) = some M2 := h
    by_cases o : c.own = true
    · rw [if_pos o] at h
      have d2 := List.nodup_cons.mp d
      obtain ⟨h1, h2, h3⟩ := back_ok h d2.2
      rw [List.length_set] at h1
      refine ⟨h1, fun k hk => ?_, fun i k hk => ?_⟩
      · rw [h2 k fun m => hk (List.mem_cons_of_mem _ m), List.getElem?_set_ne fun e => hk (by rw [← e]; exact List.mem_cons_self ..)]
      · cases i with
        | zero =>
          simp at hk
          subst hk
          exact ⟨c, rfl, o, fun hl => by rw [h2 n d2.1, List.getElem?_set_self hl]⟩
        | succ i =>
          obtain ⟨c2, e1, e2, e3⟩ := h3 i k (by simpa using hk)
          exact ⟨c2, by simpa using e1, e2, fun hl => e3 (by rw [List.length_set]; exact hl)⟩
    · rw [if_neg o] at h; cases h
/-! ### a def's promise -/
def PostF (K : PySem.W.Frag) (ν : Nu) (H : Hp) (Q : VK) (E : XK) (r : R D) : Prop := PostG K (fun c d _ H => E c d H) rE ν [] H Q r
def spG (K : PySem.W.Frag) (n : Nat) (g : List D → Store → R D) : Sp := fun vs H Q E => vs.length = n ∧ ∃ ν ds M, Rel K ν M H ∧ Reps ν.F ν.m ds vs ∧ PostF K ν H Q E (g ds M)
theorem spG_len {K : PySem.W.Frag} {n : Nat} {g : List D → Store → R D} {vs : List V} {H : Hp} {Q : VK} {E : XK} (h : spG K n g vs H Q E) : vs.length = n := h.1
def gF (N : Nat) (body : GS) : List D → Store → R D := fun ds M => match body (ds.map some ++ List.replicate (N - ds.length) none) M with
  | .rt d M1 => .ok d M1
  | .nx _ M1 => .ok (.p .none) M1
  | .ex e _ M1 => .ex e M1
  | _ => .no
theorem df_g {P : Program} {w : World} {K : PySem.W.Frag} {mg : Str → Option Value} {base : Heap} {st : Stmt} {x qual : Str} {dvs : List V} {kws : List (Str × V)} {f : Addr} {N ps : List Str} {k : Nat} {g : GS}
    (F : ∃ fd, FunD K x qual (defArgs st) (defBody st) (defScope st) dvs kws f fd) (S : FnScope N ps (defScope st)) (hl : ps.length ≤ N.length)
    (hb : ∀ (cdv : Value) (A : Around) (outer : List Env) (s : Shared) (H : Hp) (E : XK), Rm k (A.deeper (envOfC qual (defScope st) s.heap.objs.size f cdv)) →
      Takes (cxOf (L2.CX P w) P w K mg base N qual (defScope st) f cdv A outer s H E) (fun cls d _ H' => E cls d H') → PassesOwn (model P w) (cxOf (L2.CX P w) P w K mg base N qual (defScope st) f cdv A outer s H E).A (cxOf (L2.CX P w) P w K mg base N qual (defScope st) f cdv A outer s H E).env (cxOf (L2.CX P w) P w K mg base N qual (defScope st) f cdv A outer s H E).xe →
      PSs (cxOf (L2.CX P w) P w K mg base N qual (defScope st) f cdv A outer s H E) (defBody st) (tS K (fun c d _ H => E c d H) g)) : Df P w K mg base (k + 1) f ps (spG K ps.length (gF N.length g)) := by
  refine U.df_of F S (fun vs H Q E h => h.1) fun cdv A outer s H vs Q E hr h tk po => ⟨_, hb cdv A outer s H E hr tk po, ?_⟩
  obtain ⟨hv, ν, ds, M, rl, rp, h⟩ := h
  refine ⟨ν, ds.map some ++ List.replicate (N.length - ds.length) none, M, rl, ?_, ?_⟩
  · have e := reps_len rp
    refine ⟨by unfold L2.start; simp [e], fun i d hd => ?_⟩
    by_cases hi : i < ds.length
    · rw [List.getElem?_append_left (by simpa using hi), List.getElem?_map] at hd
      obtain ⟨d', h1, h2⟩ := Option.map_eq_some_iff.mp hd
      cases h2
      obtain ⟨v, h3, h4⟩ := reps_get rp h1
      refine ⟨v, ?_, h4⟩
      unfold L2.start
      rw [List.getElem?_append_left (by rw [List.length_map, e]; exact hi), List.getElem?_map, h3]
      rfl
    · rw [List.getElem?_append_right (by simpa using hi)] at hd
      rw [List.getElem?_replicate] at hd
      split at hd <;> simp at hd
  · revert h
    show PostF K ν H Q E (match g (ds.map some ++ List.replicate (N.length - ds.length) none) M with
      | .rt d M1 => .ok d M1
      | .nx _ M1 => .ok (.p .none) M1
      | .ex e _ M1 => .ex e M1
      | _ => .no) → _
    cases g (ds.map some ++ List.replicate (N.length - ds.length) none) M with
    | rt d M1 => exact fun h ν' H' v s1 r1 p1 => h ν' H' v s1 r1 p1
    | nx σ M1 => exact fun h ν' H' σV s1 r1 p1 => h ν' H' .non s1 r1 (.p .non)
    | ex e σ M1 => exact fun h ν' H' σV d s1 r1 sl x => h ν' H' d s1 r1 x
    | bk σ M1 => exact fun h => h.elim
    | ct σ M1 => exact fun h => h.elim
    | no => exact fun h => h
/-! ### calls -/
/-- a call that is lent the cells it is handed -/
def callB (f : List D → Store → R D) (ds : List D) (M : Store) : R D := match labs 0 [] ds with
  | some (ds1, ns) => (match lent M ns with
    | some cs => (match f ds1 cs with
      | .ok d M1 => (match back M ns M1 with
        | some M2 => (match d with
          | .p x => .ok (.p x) M2
          | .cell j => (match M1[j]? with
            | some c => if j < ns.length then .no else if c.own = true then .ok (.cell M2.length) (M2 ++ [c]) else .no
            | none => .no)
          | .seq _ _ => .no)
        | none => .no)
      | .ex e M1 => (match back M ns M1 with
        | some M2 => .ex e M2
        | none => .no)
      | .no => .no)
    | none => .no)
  | none => .no
section
variable {K : PySem.W.Frag}
/-- what the callee starts from -/
def nu0 (ν : Nu) (ns : List Nat) : Nu := ⟨ν.F, ns.filterMap fun n => ν.m[n]?, fun x => match ν.w x with
  | some k => pos k ns
  | none => none⟩
theorem fm_get {m : List Addr} : ∀ {ns : List Nat}, (∀ n ∈ ns, n < m.length) → (ns.filterMap fun n => m[n]?).length = ns.length ∧ ∀ (i n : Nat), ns[i]? = some n → (ns.filterMap fun n => m[n]?)[i]? = m[n]?
  | [], _ => ⟨rfl, fun i n h => by simp at h⟩
  | n :: r, h => by
    have hn := h n (List.mem_cons_self ..)
    obtain ⟨h1, h2⟩ := fm_get (ns := r) fun k hk => h k (List.mem_cons_of_mem _ hk)
    have e : ((n :: r).filterMap fun n => m[n]?) = m[n] :: r.filterMap fun n => m[n]? := by
      rw [List.filterMap_cons, List.getElem?_eq_getElem hn]
    rw [e]
    refine ⟨by simp [h1], fun i k hk => ?_⟩
    cases i with
    | zero => simp at hk; subst hk; rw [List.getElem?_eq_getElem hn]; rfl
    | succ i => simpa using h2 i k (by simpa using hk)
theorem lend {ν : Nu} {M cs : Store} {H : Hp} {ns : List Nat} (r : Rel K ν M H) (hd : ns.Nodup) (hl : lent M ns = some cs) : Rel K (nu0 ν ns) cs H ∧ (∀ n ∈ ns, n < M.length) ∧ ∀ (i n : Nat) (a : Addr), ns[i]? = some n → ν.m[n]? = some a → (nu0 ν ns).m[i]? = some a := by
  obtain ⟨l1, l2⟩ := lent_ok hl
  have lt : ∀ n ∈ ns, n < M.length := fun n hn => by
    obtain ⟨i, hi⟩ := List.getElem?_of_mem hn
    obtain ⟨c, _, h, _⟩ := l2 i n hi
    exact (List.getElem?_eq_some_iff.mp h).1
  obtain ⟨f1, f2⟩ := fm_get (m := ν.m) (ns := ns) fun n hn => by rw [r.len]; exact lt n hn
  have at_ : ∀ (i n : Nat) (a : Addr), ns[i]? = some n → ν.m[n]? = some a → (nu0 ν ns).m[i]? = some a := fun i n a h1 h2 => (f2 i n h1).trans h2
  refine ⟨⟨r.same, by rw [l1]; exact f1, fun i c a e1 e2 => ?_, fun x i h => ?_⟩, lt, at_⟩
  · have hi : i < ns.length := by rw [← l1]; exact (List.getElem?_eq_some_iff.mp e1).1
    obtain ⟨c', h1, h2, h3⟩ := l2 i ns[i] (List.getElem?_eq_getElem hi)
    rw [e1] at h1; cases h1
    have ea : ν.m[ns[i]]? = some a := by rw [← f2 i _ (List.getElem?_eq_getElem hi)]; exact e2
    refine ((r.cel _ c a h2 ea).own (m' := (nu0 ν ns).m) h3).keep (Same.refl _) ⟨[], by simp⟩ fun x hx _ => ⟨?_, rfl⟩
    show (match ν.w x with | some k => pos k ns | none => none) = some i
    rw [show ν.w x = some ns[i] from hx]
    exact pos_at hd (List.getElem?_eq_getElem hi)
  · have h : (match ν.w x with | some k => pos k ns | none => none) = some i := h
    cases e : ν.w x with
    | none => rw [e] at h; cases h
    | some k =>
      rw [e] at h
      obtain ⟨h1, h2, h3⟩ := r.off x k e
      exact ⟨h1, h2, by rw [l1]; exact (List.getElem?_eq_some_iff.mp (pos_some h)).1⟩
/-- what the caller goes on from -/
def nu2 (ν ν' : Nu) (ns : List Nat) : Nu := ⟨ν'.F, ν.m, fun x => match ν'.w x with
  | some i => ns[i]?
  | none => match ν.w x with
    | some k => if k ∈ ns then none else some k
    | none => none⟩
theorem regain {ν ν' : Nu} {M M1 M2 : Store} {H H' : Hp} {ns : List Nat} (r : Rel K ν M H) (hd : ns.Nodup) (lt : ∀ n ∈ ns, n < M.length) (at_ : ∀ (i n : Nat) (a : Addr), ns[i]? = some n → ν.m[n]? = some a → (nu0 ν ns).m[i]? = some a)
    (s : Stp (nu0 ν ns) H ν' H') (r1 : Rel K ν' M1 H') (hb : back M ns M1 = some M2) : Rel K (nu2 ν ν' ns) M2 H' ∧ Stp ν H (nu2 ν ν' ns) H' := by
  obtain ⟨b1, b2, b3⟩ := back_ok hb hd
  have out : ∀ x k, ν.w x = some k → k ∉ ns → H x ≠ none → H' x = H x ∧ ν'.F x = ν.F x ∧ ν'.w x = none := fun x k h hk hn => by
    obtain ⟨o, e⟩ := Option.ne_none_iff_exists'.mp hn
    have w0 : (nu0 ν ns).w x = none := by
      show (match ν.w x with | some k => pos k ns | none => none) = none
      rw [h]
      show pos k ns = none
      cases q : pos k ns with
      | none => rfl
      | some i => exact absurd (List.mem_of_getElem? (pos_some q)) hk
    obtain ⟨h1, h2, h3⟩ := s.fr x o e w0
    exact ⟨by rw [h1, e], h2, h3⟩
  refine ⟨⟨r1.same, by rw [b1]; exact r.len, fun n c a e1 e2 => ?_, fun x n h => ?_⟩, s.ff, fun x o h w => ?_, [], by simp [nu2]⟩
  · by_cases hn : n ∈ ns
    · obtain ⟨i, hi⟩ := List.getElem?_of_mem hn
      obtain ⟨c', q1, q2, q3⟩ := b3 i n hi
      have q3 := q3 (lt n hn)
      rw [e1] at q3; cases q3
      have hm : ν'.m[i]? = some a := by
        obtain ⟨t, e⟩ := s.mm
        rw [e]
        exact ix_app (at_ i n a hi e2)
      refine ((r1.cel i c a q1 hm).own (m' := ν.m) q2).keep (Same.refl _) ⟨[], by simp [nu2]⟩ fun x hx _ => ⟨?_, rfl⟩
      show (match ν'.w x with | some i => ns[i]? | none => _) = some n
      rw [show ν'.w x = some i from hx]
      exact hi
    · rw [b2 n hn] at e1
      refine (r.cel n c a e1 e2).keep s.ff ⟨[], by simp [nu2]⟩ fun x hx hz => ?_
      obtain ⟨h1, h2, h3⟩ := out x n hx hn hz
      refine ⟨?_, h1⟩
      show (match ν'.w x with | some i => ns[i]? | none => match ν.w x with | some k => if k ∈ ns then none else some k | none => none) = some n
      rw [h3]
      show (match ν.w x with | some k => if k ∈ ns then none else some k | none => none) = some n
      rw [show ν.w x = some n from hx]
      show (if n ∈ ns then none else some n) = some n
      rw [if_neg hn]
  · have h : (match ν'.w x with | some i => ns[i]? | none => match ν.w x with | some k => if k ∈ ns then none else some k | none => none) = some n := h
    cases e : ν'.w x with
    | some i =>
      rw [e] at h
      obtain ⟨h1, h2, h3⟩ := r1.off x i e
      exact ⟨h1, h2, by rw [b1]; exact lt n (List.mem_of_getElem? h)⟩
    | none =>
      rw [e] at h
      have h : (match ν.w x with | some k => if k ∈ ns then none else some k | none => none) = some n := h
      cases e2 : ν.w x with
      | none => rw [e2] at h; cases h
      | some k =>
        rw [e2] at h
        have h : (if k ∈ ns then none else some k) = some n := h
        by_cases hk : k ∈ ns
        · rw [if_pos hk] at h; cases h
        · rw [if_neg hk] at h
          have h : k = n := Option.some.inj h
          subst h
          obtain ⟨h1, h2, h3⟩ := r.off x k e2
          obtain ⟨q1, q2, q3⟩ := out x k e2 hk h2
          exact ⟨q2.trans h1, by rw [q1]; exact h2, by rw [b1]; exact h3⟩
  · have w0 : (nu0 ν ns).w x = none := by
      show (match ν.w x with | some k => pos k ns | none => none) = none
      rw [w]
    obtain ⟨h1, h2, h3⟩ := s.fr x o h w0
    refine ⟨h1, h2, ?_⟩
    show (match ν'.w x with | some i => ns[i]? | none => match ν.w x with | some k => if k ∈ ns then none else some k | none => none) = none
    rw [h3, w]
/-- .. and a cell made in the call is the caller's -/
theorem regain1 {ν ν' : Nu} {M M1 M2 : Store} {H H' : Hp} {ns : List Nat} {j : Nat} {c : Cell} {a : Addr} (r : Rel K ν M H) (hd : ns.Nodup) (lt : ∀ n ∈ ns, n < M.length) (at_ : ∀ (i n : Nat) (a : Addr), ns[i]? = some n → ν.m[n]? = some a → (nu0 ν ns).m[i]? = some a)
    (s : Stp (nu0 ν ns) H ν' H') (r1 : Rel K ν' M1 H') (hb : back M ns M1 = some M2) (hj : ns.length ≤ j) (hc : M1[j]? = some c) (ha : ν'.m[j]? = some a) (ho : c.own = true) :
    ∃ ν3, Rel K ν3 (M2 ++ [c]) H' ∧ Stp ν H ν3 H' ∧ ν3.m[M2.length]? = some a ∧ ν3.F = ν'.F := by
  obtain ⟨r2, s2⟩ := regain r hd lt at_ s r1 hb
  refine ⟨⟨ν'.F, ν.m ++ [a], fun x => if ν'.w x = some j then some M2.length else (nu2 ν ν' ns).w x⟩, ⟨r1.same, ?_, fun n d b e1 e2 => ?_, fun x n h => ?_⟩, ⟨s.ff, fun x o h w => ?_, [a], rfl⟩, ?_, rfl⟩
  · show (ν.m ++ [a]).length = (M2 ++ [c]).length
    have := r2.len
    have : ν.m.length = M2.length := this
    simp [this]
  · have hl : ν.m.length = M2.length := r2.len
    by_cases hn : n < M2.length
    · rw [List.getElem?_append_left hn] at e1
      rw [List.getElem?_append_left (by rw [hl]; exact hn)] at e2
      refine (r2.cel n d b e1 e2).keep (Same.refl _) ⟨[a], rfl⟩ fun x hx _ => ⟨?_, rfl⟩
      show (if ν'.w x = some j then some M2.length else (nu2 ν ν' ns).w x) = some n
      rw [if_neg]
      · exact hx
      · intro e
        have hx : (match ν'.w x with | some i => ns[i]? | none => match ν.w x with | some k => if k ∈ ns then none else some k | none => none) = some n := hx
        rw [e] at hx
        have hx : ns[j]? = some n := hx
        rw [List.getElem?_eq_none hj] at hx
        cases hx
    · have hz := (List.getElem?_eq_some_iff.mp e1).1
      have en : n = M2.length := by simp at hz; omega
      subst en
      rw [List.getElem?_append_right (Nat.le_refl _), Nat.sub_self] at e1
      rw [List.getElem?_append_right (by rw [hl]; exact Nat.le_refl _), hl, Nat.sub_self] at e2
      simp at e1 e2
      subst e1; subst e2
      refine ((r1.cel j c a hc ha).own (m' := ν.m ++ [a]) ho).keep (Same.refl _) ⟨[], by simp⟩ fun x hx _ => ⟨?_, rfl⟩
      show (if ν'.w x = some j then some M2.length else (nu2 ν ν' ns).w x) = some M2.length
      rw [if_pos hx]
  · have h : (if ν'.w x = some j then some M2.length else (nu2 ν ν' ns).w x) = some n := h
    by_cases e : ν'.w x = some j
    · rw [if_pos e] at h; cases h
      obtain ⟨h1, h2, h3⟩ := r1.off x j e
      exact ⟨h1, h2, by simp⟩
    · rw [if_neg e] at h
      obtain ⟨h1, h2, h3⟩ := r2.off x n h
      exact ⟨h1, h2, by simp; omega⟩
  · obtain ⟨h1, h2, h3⟩ := s2.fr x o h w
    refine ⟨h1, h2, ?_⟩
    show (if ν'.w x = some j then some M2.length else (nu2 ν ν' ns).w x) = none
    rw [if_neg]
    · exact h3
    · intro e
      have h3 : (match ν'.w x with | some i => ns[i]? | none => match ν.w x with | some k => if k ∈ ns then none else some k | none => none) = none := h3
      have w0 : (nu0 ν ns).w x = none := by
        show (match ν.w x with | some k => pos k ns | none => none) = none
        rw [w]
      have := (s.fr x o h w0).2.2
      rw [e] at this; cases this
  · have hl : ν.m.length = M2.length := r2.len
    show (ν.m ++ [a])[M2.length]? = some a
    rw [← hl]; simp
/-- the callee's promise from the caller's wish -/
theorem callB_ok {W : WX} {n : Nat} {f : List D → Store → R D} {ν : Nu} {M : Store} {H : Hp} {ds : List D} {vs : List V} {σV : L2.St} {Q : VK} (hn : vs.length = n) (r : Rel K ν M H) (rp : Reps ν.F ν.m ds vs) (h : PostG K W rE ν σV H Q (callB f ds M)) : spG K n f vs H Q (WE W σV) := by
  unfold callB at h
  cases e1 : labs 0 [] ds with
  | none => rw [e1] at h; exact h.elim
  | some q1 =>
    obtain ⟨ds1, ns⟩ := q1
    rw [e1] at h
    obtain ⟨nd, _, rps⟩ := labs_ok e1 List.nodup_nil
    cases e2 : lent M ns with
    | none => simp only [e2] at h; exact h.elim
    | some cs =>
      simp only [e2] at h
      obtain ⟨r0, lt, at_⟩ := lend r nd e2
      refine ⟨hn, nu0 ν ns, ds1, cs, r0, rps rp fun i n a h1 h2 => by rw [Nat.zero_add]; exact at_ i n a h1 h2, ?_⟩
      revert h
      unfold PostF
      cases f ds1 cs with
      | ok d M1 =>
        intro h ν' H' v s r1 p
        simp only at h
        cases e3 : back M ns M1 with
        | none => simp only [e3] at h; exact h.elim
        | some M2 =>
          simp only [e3] at h
          obtain ⟨r2, s2⟩ := regain r nd lt at_ s r1 e3
          cases p with
          | p p => exact h _ H' v s2 r2 (.p p)
          | @cell j a hj =>
            simp only at h
            cases e4 : M1[j]? with
            | none => simp only [e4] at h; exact h.elim
            | some c =>
              simp only [e4] at h
              by_cases c1 : j < ns.length
              · rw [if_pos c1] at h; exact h.elim
              · rw [if_neg c1] at h
                by_cases c2 : c.own = true
                · rw [if_pos c2] at h
                  obtain ⟨ν3, r3, s3, m3, _⟩ := regain1 r nd lt at_ s r1 e3 (by omega) e4 hj c2
                  exact h ν3 H' _ s3 r3 (.cell m3)
                · rw [if_neg c2] at h; exact h.elim
          | seqL _ _ => exact h.elim
          | seqT _ _ => exact h.elim
      | ex e M1 =>
        intro h ν' H' d s r1 x
        simp only at h
        cases e3 : back M ns M1 with
        | none => simp only [e3] at h; exact h.elim
        | some M2 =>
          simp only [e3] at h
          obtain ⟨r2, s2⟩ := regain r nd lt at_ s r1 e3
          exact h _ H' d s2 r2 x
      | no => exact fun h => h
end
end Fn

set_option Elab.async false
set_option linter.all false
set_option maxRecDepth 100000
set_option maxHeartbeats 4000000
/-! FE: statements -/
namespace Fn
open PySem PySem.Spec PyProof.Rows L2
open U (new new_i new_e cond cond_i cond_e brn brn_i brn_t brn_f uB uTest uVar pe_is ps_is thnP opt opt_i opt_e Df Bd Rm Nw Ext)
section
variable {X : Cx} {K : PySem.W.Frag} {W : WX} {e a b c : Expr} {pos : Pos} {g ga gb : GE} {gc : GT} {st : Stmt} {rest : List Stmt} {s1 s2 : GS}
def gNx : GS := fun σ M => .nx σ M
def gSeq (a b : GS) : GS := fun σ M => match a σ M with
  | .nx σ1 M1 => b σ1 M1
  | r => r
theorem nx_ok {Q : Ends} {σV : L2.St} {H : Hp} (q : tS K W gNx Q σV H) : Q.nx σV H := by
  obtain ⟨ν, σ, M, rl, sl, h⟩ := q
  exact h ν H σV Stp.refl rl sl
theorem fs_nil : PSs X [] (tS K W gNx) := ⟨fun pins s σV H Q I q => pss_nil.run pins s σV H Q I (nx_ok q)⟩
theorem fs_one (h : PS X st (tS K W s1)) : PSs X [st] (tS K W s1) := pss_one h
theorem seq_s {Q : Ends} {σV : L2.St} {H : Hp} (q : tS K W (gSeq s1 s2) Q σV H) : tSeq (tS K W s1) (tS K W s2) Q σV H := by
  obtain ⟨ν, σ, M, rl, sl, h⟩ := q
  refine ⟨ν, σ, M, rl, sl, ?_⟩
  revert h
  show PostS K W ν H Q (match s1 σ M with | .nx σ1 M1 => s2 σ1 M1 | r => r) → _
  cases s1 σ M with
  | nx σ1 M1 => exact fun h ν' H' σV' s r sl => ⟨ν', σ1, M1, r, sl, PostS.step s h⟩
  | rt d M1 => exact fun h => h
  | bk d M1 => exact fun h => h
  | ct d M1 => exact fun h => h
  | ex e d M1 => exact fun h => h
  | no => exact fun h => h
theorem fs_cons (h1 : PS X st (tS K W s1)) (h2 : PSs X rest (tS K W s2)) : PSs X (st :: rest) (tS K W (gSeq s1 s2)) := ⟨fun pins s σV H Q I q => (pss_cons h1 h2).run pins s σV H Q I (seq_s q)⟩
theorem fs_pass : PS X (.Pass pos) (tS K W gNx) := ps_is ps_pass fun _ _ _ q => nx_ok q
theorem fs_doc {x j pos'} : PS X (.Expr (.Constant (.str x) j pos) pos') (tS K W gNx) := ps_is ps_doc fun _ _ _ q => nx_ok q
def gBk : GS := fun σ M => .bk σ M
def gCt : GS := fun σ M => .ct σ M
def gStuck : GS := fun _ _ => .no
theorem fs_break : PS X (.Break pos) (tS K W gBk) := ps_is ps_break fun Q σV H q => by
  obtain ⟨ν, σ, M, rl, sl, h⟩ := q
  exact h ν H σV Stp.refl rl sl
theorem fs_continue : PS X (.Continue pos) (tS K W gCt) := ps_is ps_continue fun Q σV H q => by
  obtain ⟨ν, σ, M, rl, sl, h⟩ := q
  exact h ν H σV Stp.refl rl sl
theorem fs_never : PS X st (tS K W gStuck) := ⟨fun pins s σV H Q I q => by
  obtain ⟨ν, σ, M, rl, sl, h⟩ := q
  exact h.elim⟩
def gRet (g : GE) : GS := fun σ M => (g σ M).toS σ fun d M1 => .rt d M1
def gRetN : GS := fun σ M => .rt (.p .none) M
theorem fs_ret (h : PE X e (tE K W g)) : PS X (.Return (some e) pos) (tS K W (gRet g)) := ps_is (ps_ret h) fun Q σV H q => by
  obtain ⟨ν, σ, M, rl, sl, h⟩ := q
  exact bindS rl sl h fun u H1 x ν1 M1 s1 r1 sl1 p1 h1 => h1 ν1 H1 u Stp.refl r1 p1
theorem fs_retN : PS X (.Return none pos) (tS K W gRetN) := ps_is ps_retN fun Q σV H q => by
  obtain ⟨ν, σ, M, rl, sl, h⟩ := q
  exact h ν H .non Stp.refl rl (.p .non)
def gExp (g : GE) : GS := fun σ M => (g σ M).toS σ fun d M1 => .nx σ M1
theorem fs_expr (h : PE X e (tE K W g)) (hs : swapsWith e none pos.line X.env = pure false := by rfl) : PS X (.Expr e pos) (tS K W (gExp g)) := ps_is (ps_expr h hs) fun Q σV H q => by
  obtain ⟨ν, σ, M, rl, sl, h⟩ := q
  exact bindS rl sl h fun u H1 x ν1 M1 s1 r1 sl1 p1 h1 => h1 ν1 H1 σV Stp.refl r1 sl1
theorem Sld.set {ν : Nu} {σ : Sl} {σV : L2.St} (h : Sld ν σ σV) {d : D} {v : V} (r : Rep ν.F ν.m d v) (i : Nat) : Sld ν (σ.set i (some d)) (σV.set i (some v)) := by
  refine ⟨by simp [h.1], fun j d' e => ?_⟩
  by_cases hj : i = j
  · subst hj
    by_cases hl : i < σ.length
    · rw [List.getElem?_set_self hl] at e
      cases e
      exact ⟨v, by rw [List.getElem?_set_self (by rw [h.1]; exact hl)], r⟩
    · rw [List.getElem?_eq_none (by simpa using hl)] at e; cases e
  · rw [List.getElem?_set_ne hj] at e
    obtain ⟨w, e1, e2⟩ := h.2 j d' e
    exact ⟨w, by rw [List.getElem?_set_ne hj]; exact e1, e2⟩
def gSet (i : Nat) (g : GE) : GS := fun σ M => (g σ M).toS σ fun d M1 => .nx (σ.set i (some d)) M1
theorem set_ok {i : Nat} {Q : Ends} {σV : L2.St} {H : Hp} (q : tS K W (gSet i g) Q σV H) : tE K W g σV H fun x H1 => Q.nx (σV.set i (some x)) H1 := by
  obtain ⟨ν, σ, M, rl, sl, h⟩ := q
  exact bindS rl sl h fun u H1 x ν1 M1 s1 r1 sl1 p1 h1 => h1 ν1 H1 _ Stp.refl r1 (sl1.set p1 i)
theorem fs_set {i : Nat} {x : Str} {pos' : Pos} (hN : X.N.Nodup) (hi : X.N[i]? = some x) (hx : Loc X.env.scope x) (he : PE X e (tE K W g)) (hs : swapsWith e (some (.Name x pos')) pos.line X.env = pure false := by rfl) (hf : X.fn x = true ∨ X.env.scope.names.lookup x = some .local := by first | exact .inl rfl | exact .inr rfl | assumption) :
    PS X (.Assign [.Name x pos'] e pos) (tS K W (gSet i g)) := ps_is (ps_set hN hi hx he hs hf) fun Q σV H q => set_ok q
def gIfS (c : GT) (a b : GS) : GS := fun σ M => (c σ M).toS σ fun k M1 => if k = true then a σ M1 else b σ M1
theorem fs_if {as bs : List Stmt} (hc : PT X c (tT K W gc)) (ha : PSs X as (tS K W s1)) (hb : PSs X bs (tS K W s2)) : PS X (.If c as bs pos) (tS K W (gIfS gc s1 s2)) := ps_is (U.ps_if hc ha hb) fun Q σV H q => by
  obtain ⟨ν, σ, M, rl, sl, h⟩ := q
  refine bindS rl sl h fun d H1 k ν1 M1 s1 r1 sl1 p1 h1 => brn_if ?_
  obtain rfl : k = d := p1
  by_cases z : k = true
  · rw [if_pos z] at h1 ⊢; exact ⟨ν1, σ, M1, r1, sl1, h1⟩
  · rw [if_neg z] at h1 ⊢; exact ⟨ν1, σ, M1, r1, sl1, h1⟩
end
/-! ### targets -/
inductive Tg where
  | nm (i : Nat) | tp (ts : List Tg)
mutual
def vT (K : PySem.W.Frag) : Tg → TG
  | .nm i => gName i
  | .tp ts => U.uGTup K ts.length (vTs K ts)
def vTs (K : PySem.W.Frag) : List Tg → TGs
  | [] => U.uGNil
  | t :: r => U.uGCons (vT K t) (vTs K r)
end
def tupOf : D → Option (List D)
  | .p (.tuple xs) => some (xs.map D.p)
  | .seq true xs => some xs
  | _ => none
def unc : List D → Option (D × List D)
  | [] => none
  | d :: r => some (d, r)
mutual
def dT : Tg → D → Sl → Option Sl
  | .nm i, d, σ => some (σ.set i (some d))
  | .tp ts, d, σ => match tupOf d with
    | some xs => dTs ts xs σ
    | none => none
def dTs : List Tg → List D → Sl → Option Sl
  | [], ds, σ => if ds.isEmpty = true then some σ else none
  | t :: r, ds, σ => match unc ds with
    | some q => (match dT t q.1 σ with
      | some σ1 => dTs r q.2 σ1
      | none => none)
    | none => none
end
mutual
def Tg.names : Tg → List Nat
  | .nm i => [i]
  | .tp ts => Tg.namesL ts
def Tg.namesL : List Tg → List Nat
  | [] => []
  | t :: r => t.names ++ Tg.namesL r
end
section
variable {X : Cx} {K : PySem.W.Frag} {W : WX} {pos : Pos}
theorem pt_name {i : Nat} {x : Str} (hN : X.N.Nodup) (hi : X.N[i]? = some x) (hx : Loc X.env.scope x) (hf : X.fn x = true ∨ X.env.scope.names.lookup x = some .local := by first | exact .inl rfl | exact .inr rfl | assumption) : PG X (.Name x pos) (vT K (.nm i)) := by
  rw [vT]
  exact pg_name hN hi hx hf
theorem pts_nil : PGs X [] (vTs K []) := by
  rw [vTs]
  exact U.pgs_nilU
theorem pts_cons {e : Expr} {es : List Expr} {t : Tg} {ts : List Tg} (h1 : PG X e (vT K t)) (h2 : PGs X es (vTs K ts)) (hs : (assignEach (e :: es) X.env).map (·.2) = assign e X.env :: (assignEach es X.env).map (·.2) := by rfl) : PGs X (e :: es) (vTs K (t :: ts)) := by
  rw [vTs]
  exact U.pgs_consU h1 h2 hs
theorem pt_tup {es : List Expr} {k : Nat} {ts : List Tg} (hK : X.K = K) (hc : X.calm = true) (h : PGs X es (vTs K ts)) (hn : (assignEach es X.env).length = ts.length := by rfl) (hst : (assignEach es X.env).findIdx? (·.1) = none := by rfl) : PG X (.Tuple es k pos) (vT K (.tp ts)) := by
  rw [vT]
  exact U.pg_tupU K hK hc h hn hst
/-- but for the slots of ns -/
def ButS (ns : List Nat) (σ σ' : L2.St) : Prop := σ'.length = σ.length ∧ ∀ i, i ∉ ns → σ'[i]? = σ[i]?
theorem ButS.refl {ns : List Nat} {σ : L2.St} : ButS ns σ σ := ⟨rfl, fun _ _ => rfl⟩
mutual
theorem tgt_ok {ν : Nu} {H : Hp} (hs : Same ν.F H) : ∀ (t : Tg) {d : D} {v : V} {σ σ' : Sl} {σV : L2.St} {Q : L2.St → Hp → Prop}, Rep ν.F ν.m d v → Sld ν σ σV → dT t d σ = some σ' → (∀ σV', Sld ν σ' σV' → ButS t.names σV σV' → Q σV' H) → vT K t v σV H Q
  | .nm i, d, v, σ, σ', σV, Q, r, sl, h, q => by
    rw [dT] at h
    cases h
    rw [vT]
    refine q _ (sl.set r i) ⟨by simp, fun j hj => ?_⟩
    rw [Tg.names, List.mem_singleton] at hj
    rw [List.getElem?_set_ne fun e => hj e.symm]
  | .tp ts, d, v, σ, σ', σV, Q, r, sl, h, q => by
    rw [vT]
    rw [dT] at h
    revert h
    cases r with
    | p r => cases r with
      | @tup a vs ds h1 h2 =>
        intro h
        have h : dTs ts (ds.map D.p) σ = some σ' := h
        refine U.unpO_i (xs := vs) (.inl (Rd.same hs h1)) ?_ (tgts_ok hs ts (reps_of h2) sl h fun σV' sl' b => q σV' sl' (by rw [Tg.names]; exact b))
        have e := dTs_len ts h
        rw [List.length_map] at e
        rw [vs_len h2, e]
      | _ => intro h; cases h
    | cell _ => intro h; cases h
    | seqL _ _ => intro h; cases h
    | @seqT ds vs a h1 h2 =>
      intro h
      have h : dTs ts ds σ = some σ' := h
      refine U.unpO_i (xs := vs) (.inl (Rd.same hs h1)) ?_ (tgts_ok hs ts h2 sl h fun σV' sl' b => q σV' sl' (by rw [Tg.names]; exact b))
      rw [reps_len h2, dTs_len ts h]
theorem tgts_ok {ν : Nu} {H : Hp} (hs : Same ν.F H) : ∀ (ts : List Tg) {ds : List D} {vs : List V} {σ σ' : Sl} {σV : L2.St} {Q : L2.St → Hp → Prop}, Reps ν.F ν.m ds vs → Sld ν σ σV → dTs ts ds σ = some σ' → (∀ σV', Sld ν σ' σV' → ButS (Tg.namesL ts) σV σV' → Q σV' H) → vTs K ts vs σV H Q
  | [], ds, vs, σ, σ', σV, Q, r, sl, h, q => by
    rw [dTs] at h
    rw [vTs]
    revert h
    cases r with
    | nil => intro h; cases h; exact q σV sl ButS.refl
    | cons _ _ => intro h; cases h
  | t :: ts, ds, vs, σ, σ', σV, Q, r, sl, h, q => by
    rw [dTs] at h
    rw [vTs]
    revert h
    cases r with
    | nil => intro h; cases h
    | @cons d v ds vs r1 r2 =>
      intro h
      have h : (match dT t d σ with | some σ1 => dTs ts ds σ1 | none => none) = some σ' := h
      cases e : dT t d σ with
      | none => rw [e] at h; cases h
      | some σ1 =>
        rw [e] at h
        refine tgt_ok hs t r1 sl e fun σV1 sl1 b1 => tgts_ok hs ts r2 sl1 h fun σV2 sl2 b2 => q σV2 sl2 ⟨b2.1.trans b1.1, fun i hi => ?_⟩
        rw [Tg.namesL, List.mem_append, not_or] at hi
        rw [b2.2 i hi.2, b1.2 i hi.1]
theorem dTs_len : ∀ (ts : List Tg) {ds : List D} {σ σ' : Sl}, dTs ts ds σ = some σ' → ds.length = ts.length
  | [], [], _, _, h => rfl
  | [], _ :: _, _, _, h => by rw [dTs] at h; cases h
  | t :: ts, [], _, _, h => by rw [dTs] at h; cases h
  | t :: ts, d :: ds, σ, σ', h => by
    rw [dTs] at h
    have h : (match dT t d σ with | some σ1 => dTs ts ds σ1 | none => none) = some σ' := h
    cases e : dT t d σ with
    | none => rw [e] at h; cases h
    | some σ1 =>
      rw [e] at h
      rw [List.length_cons, List.length_cons, dTs_len ts h]
end
/-- a, b = e -/
def gAsg (t : Tg) (g : GE) : GS := fun σ M => (g σ M).toS σ fun d M1 => match dT t d σ with
  | some σ1 => .nx σ1 M1
  | none => .no
theorem fs_asg {tg e : Expr} {t : Tg} {g : GE} (he : PE X e (tE K W g)) (hg : PG X tg (vT K t)) (hs : swapsWithSole [tg] e pos.line X.env = pure false := by rfl) (hw : swappedStores [tg] e X.env = pure none := by rfl)
    (h1 : (assignEach [tg] X.env).map (·.2) = [assign tg X.env] := by rfl) : PS X (.Assign [tg] e pos) (tS K W (gAsg t g)) := ps_is (ps_asg he hg hs hw h1) fun Q σV H q => by
  obtain ⟨ν, σ, M, rl, sl, h⟩ := q
  refine bindS rl sl h fun u H1 x ν1 M1 s1 r1 sl1 p1 h1 => ?_
  cases e : dT t x σ with
  | none => simp only [e] at h1; exact h1.elim
  | some σ1 =>
    simp only [e] at h1
    exact tgt_ok r1.same t p1 sl1 e fun σV' sl' _ => h1 ν1 H1 σV' Stp.refl r1 sl'
end
/-! ### what a loop walks -/
open Classical in
/-- the walked cells are as they were -/
def gdOk (gd : List (Nat × List PyData)) (M : Store) : Prop := ∀ p ∈ gd, M[p.1]? = some (.lst p.2)
abbrev Itm := List D × List (Nat × List PyData)
abbrev GI := Sl → Store → R Itm
structure Src (K : PySem.W.Frag) (ν : Nu) (a : Itm) (J : It) : Prop where
  ex : ∃ (G : Hp → Prop) (Y : Nat → Hp → V → Hp → Prop), Walk J a.1.length G Y ∧
    (∀ (ν2 : Nu) (M2 : Store) (H2 : Hp), Same ν.F ν2.F → (∃ r, ν2.m = ν.m ++ r) → Rel K ν2 M2 H2 → gdOk a.2 M2 → G H2) ∧
    (∀ (i : Nat) (d : D) (x : V) (ν2 : Nu) (M2 : Store) (H2 H3 : Hp), a.1[i]? = some d → Same ν.F ν2.F → (∃ r, ν2.m = ν.m ++ r) → Rel K ν2 M2 H2 → gdOk a.2 M2 → Y i H2 x H3 →
      ∃ ν3, Stp ν2 H2 ν3 H3 ∧ Rel K ν3 M2 H3 ∧ Rep ν3.F ν3.m d x ∧ ν3.m = ν2.m)
def rI (K : PySem.W.Frag) (ν : Nu) (a : Itm) (J : It) : Prop := Src K ν a J
def tI (K : PySem.W.Frag) (W : WX) (g : GI) : TI := tG K W (rI K) g
/-! ### for -/
/-- after a turn: what was made since is dropped where nothing speaks of it -/
def lowD (n : Nat) : D → Bool
  | .p _ => true
  | .cell k => decide (k < n)
  | .seq _ _ => false
def lowC (n : Nat) : Cell → Bool
  | .ins _ fs => fs.all fun p => lowD n p.2
  | _ => true
def tidyS (n : Nat) (σ : Sl) : Sl := σ.map fun o => match o with
  | some d => if lowD n d = true then some d else none
  | none => none
def tidy (n : Nat) (σ : Sl) (M : Store) : Sl × Store := if M.length ≤ n then (σ, M) else if (M.take n).all (lowC n) = true then (tidyS n σ, M.take n) else (σ, M)
def tidO (o : Option Nat) (σ : Sl) (M : Store) : Sl × Store := match o with
  | some n => tidy n σ M
  | none => (σ, M)
open Classical in
noncomputable def forL (gd : List (Nat × List PyData)) (o : Option Nat) (t : Tg) (body : GS) : List D → GS
  | [], σ, M => if gdOk gd M then .nx σ M else .no
  | d :: ds, σ, M => if gdOk gd M then (match dT t d σ with
      | some σ1 => (match body σ1 M with
        | .nx σ2 M2 => forL gd o t body ds (tidO o σ2 M2).1 (tidO o σ2 M2).2
        | .ct σ2 M2 => forL gd o t body ds (tidO o σ2 M2).1 (tidO o σ2 M2).2
        | .bk σ2 M2 => .nx σ2 M2
        | .rt d M2 => .rt d M2
        | .ex e σ2 M2 => .ex e σ2 M2
        | .no => .no)
      | none => .no) else .no
noncomputable def gFor (tid : Bool) (src : GI) (t : Tg) (body : GS) : GS := fun σ M => (src σ M).toS σ fun a M1 => forL a.2 (if tid = true then some M1.length else none) t body a.1 σ M1
section
variable {X : Cx} {K : PySem.W.Frag} {W : WX} {pos : Pos}
theorem rep_low {F : Hp} {m : List Addr} {n : Nat} {d : D} {v : V} (h : Rep F m d v) (l : lowD n d = true) : Rep F (m.take n) d v := by
  cases h with
  | p h => exact .p h
  | cell h => exact .cell (by rw [List.getElem?_take_of_lt (of_decide_eq_true l)]; exact h)
  | seqL _ _ => cases l
  | seqT _ _ => cases l
theorem fr_low {F : Hp} {m : List Addr} {n : Nat} : ∀ {fs : List (Str × D)} {vs : List (Str × V)}, FR F m fs vs → (fs.all fun p => lowD n p.2) = true → FR F (m.take n) fs vs
  | _, _, .nil, _ => .nil
  | _, _, .cons h a, l => by
    rw [List.all_cons, Bool.and_eq_true] at l
    exact .cons (rep_low h l.1) (fr_low a l.2)
theorem tidy_ok {ν : Nu} {n : Nat} {σ : Sl} {M : Store} {σV : L2.St} {H : Hp} (r : Rel K ν M H) (sl : Sld ν σ σV) : ∃ ν2, Rel K ν2 (tidy n σ M).2 H ∧ Sld ν2 (tidy n σ M).1 σV ∧ ν2.F = ν.F ∧ (∀ x, ν.w x = none → ν2.w x = none) ∧ (ν2.m = ν.m ∨ ν2.m = ν.m.take n) := by
  unfold tidy
  by_cases h1 : M.length ≤ n
  · rw [if_pos h1]; exact ⟨ν, r, sl, rfl, fun _ h => h, .inl rfl⟩
  · rw [if_neg h1]
    by_cases h2 : (M.take n).all (lowC n) = true
    · rw [if_pos h2]
      refine ⟨⟨ν.F, ν.m.take n, fun x => match ν.w x with | some k => if k < n then some k else none | none => none⟩, ⟨r.same, by simp [r.len], fun k c a e1 e2 => ?_, fun x k h => ?_⟩, ⟨by simp [tidyS, sl.1], fun i d e => ?_⟩, rfl, fun x h => ?_, .inr rfl⟩
      · have hk : k < n := by
          have := (List.getElem?_eq_some_iff.mp e1).1
          rw [List.length_take] at this
          omega
        have e1' : M[k]? = some c := by rw [← List.getElem?_take_of_lt hk]; exact e1
        have e2' : ν.m[k]? = some a := by rw [← List.getElem?_take_of_lt hk]; exact e2
        have lc : lowC n c = true := List.all_eq_true.mp h2 c (List.mem_of_getElem? e1)
        have q := r.cel k c a e1' e2'
        have q2 : CR K ν.F H (ν.m.take n) (fun x => ν.w x = some k) c a := by
          cases q with
          | lst a1 a2 a3 => exact .lst a1 a2 a3
          | ins a1 a2 a3 => exact .ins a1 a2 (fr_low a3 lc)
          | box r w a1 a2 a3 a4 => exact .box r w a1 a2 a3 a4
          | dic a1 a2 a3 => exact .dic a1 a2 a3
          | dcT a1 a2 a3 => exact .dcT a1 a2 a3
          | gone => exact .gone
        refine q2.keep (Same.refl _) ⟨[], by simp⟩ fun x hx _ => ⟨?_, rfl⟩
        show (match ν.w x with | some k => if k < n then some k else none | none => none) = some k
        rw [show ν.w x = some k from hx]
        show (if k < n then some k else none) = some k
        rw [if_pos hk]
      · have h : (match ν.w x with | some k => if k < n then some k else none | none => none) = some k := h
        cases e : ν.w x with
        | none => rw [e] at h; cases h
        | some j =>
          rw [e] at h
          have h : (if j < n then some j else none) = some k := h
          by_cases hj : j < n
          · rw [if_pos hj] at h
            have h : j = k := Option.some.inj h
            subst h
            obtain ⟨a1, a2, a3⟩ := r.off x j e
            exact ⟨a1, a2, by rw [List.length_take]; omega⟩
          · rw [if_neg hj] at h; cases h
      · have e : (σ.map fun o => match o with | some d => if lowD n d = true then some d else none | none => none)[i]? = some (some d) := e
        rw [List.getElem?_map] at e
        cases q : σ[i]? with
        | none => rw [q] at e; cases e
        | some o =>
          rw [q] at e
          cases o with
          | none => cases e
          | some d' =>
            have e : some (if lowD n d' = true then some d' else none) = some (some d) := e
            by_cases l : lowD n d' = true
            · rw [if_pos l] at e
              cases e
              obtain ⟨v, h3, h4⟩ := sl.2 i d q
              exact ⟨v, h3, rep_low h4 l⟩
            · rw [if_neg l] at e; cases e
      · show (match ν.w x with | some k => if k < n then some k else none | none => none) = none
        rw [h]
    · rw [if_neg h2]; exact ⟨ν, r, sl, rfl, fun _ h => h, .inl rfl⟩
theorem tidO_ok {ν0 ν : Nu} {o : Option Nat} {σ : Sl} {M : Store} {σV : L2.St} {H0 H : Hp} (ho : o = none ∨ o = some ν0.m.length) (s : Stp ν0 H0 ν H) (r : Rel K ν M H) (sl : Sld ν σ σV) : ∃ ν2, Rel K ν2 (tidO o σ M).2 H ∧ Sld ν2 (tidO o σ M).1 σV ∧ Stp ν0 H0 ν2 H := by
  rcases ho with rfl | rfl
  · exact ⟨ν, r, sl, s⟩
  · obtain ⟨ν2, h1, h2, h3, h4, h5⟩ := tidy_ok (n := ν0.m.length) r sl
    refine ⟨ν2, h1, h2, by rw [h3]; exact s.ff, fun x o hx hw => ?_, ?_⟩
    · obtain ⟨a1, a2, a3⟩ := s.fr x o hx hw
      exact ⟨a1, by rw [h3]; exact a2, h4 x a3⟩
    · rcases h5 with h5 | h5
      · rw [h5]; exact s.mm
      · obtain ⟨t, e⟩ := s.mm
        exact ⟨[], by rw [h5, e]; simp⟩
/-- PostS says what is wanted from the loop's own start on -/
theorem for_ok {src : GI} {t : Tg} {body : GS} {tid : Bool} {Q : Ends} {σV : L2.St} {H : Hp} (q : tS K W (gFor tid src t body) Q σV H) : tFor (tI K W src) (vT K t) (tS K W body) Q σV H := by
  obtain ⟨ν, σ, M, rl, sl, h⟩ := q
  refine bindS (rep := rI K) rl sl h fun J H1 a ν1 M1 s1 r1 sl1 p1 h1 => ?_
  obtain ⟨G, Y, wk, hG, hY⟩ := p1.ex
  have ho : (if tid = true then some M1.length else none) = none ∨ (if tid = true then some M1.length else none) = some ν1.m.length := by
    by_cases z : tid = true
    · rw [if_pos z, r1.len]; exact .inr rfl
    · rw [if_neg z]; exact .inl rfl
  revert ho h1
  generalize (if tid = true then some M1.length else none) = o
  intro h1 ho
  have gdl : ∀ {ν2 : Nu} {H2 : Hp} {l : List D} {σ2 : Sl} {M2 : Store}, PostS K W ν2 H2 Q (forL a.2 o t body l σ2 M2) → gdOk a.2 M2 := by
    intro ν2 H2 l σ2 M2 h
    cases l with
    | nil =>
      rw [forL] at h
      by_cases g : gdOk a.2 M2
      · exact g
      · rw [if_neg g] at h; exact h.elim
    | cons d r =>
      rw [forL] at h
      by_cases g : gdOk a.2 M2
      · exact g
      · rw [if_neg g] at h; exact h.elim
  refine for_it wk (fun i σV2 H2 => ∃ ν2 σ2 M2, Stp ν1 H1 ν2 H2 ∧ Rel K ν2 M2 H2 ∧ Sld ν2 σ2 σV2 ∧ PostS K W ν1 H1 Q (forL a.2 o t body (a.1.drop i) σ2 M2)) ⟨ν1, σ, M1, Stp.refl, r1, sl1, by rw [List.drop_zero]; exact h1⟩ ?_ ?_ ?_
  · rintro i σV2 H2 hi ⟨ν2, σ2, M2, s2, r2, sl2, h2⟩
    exact hG ν2 M2 H2 s2.ff s2.mm r2 (gdl h2)
  · rintro i x σV2 H2 H3 hi ⟨ν2, σ2, M2, s2, r2, sl2, h2⟩ y
    have gd := gdl h2
    have ei : a.1[i]? = some a.1[i] := List.getElem?_eq_getElem hi
    obtain ⟨ν3, s3, r3, p3, _⟩ := hY i a.1[i] x ν2 M2 H2 H3 ei s2.ff s2.mm r2 gd y
    rw [List.drop_eq_getElem_cons hi, forL, if_pos gd] at h2
    cases e : dT t a.1[i] σ2 with
    | none => simp only [e] at h2; exact h2.elim
    | some σ3 =>
      simp only [e] at h2
      refine tgt_ok r3.same t p3 (sl2.mono s3) e fun σV' sl' _ => ⟨ν3, σ3, M2, r3, sl', ?_⟩
      have s23 := s2.trans s3
      revert h2
      cases body σ3 M2 with
      | nx σ4 M4 =>
        intro h2 ν4 H4 σV4 s4 r4 sl4
        obtain ⟨ν5, r5, sl5, s5⟩ := tidO_ok ho (s23.trans s4) r4 sl4
        exact ⟨ν5, _, _, s5, r5, sl5, h2⟩
      | ct σ4 M4 =>
        intro h2 ν4 H4 σV4 s4 r4 sl4
        obtain ⟨ν5, r5, sl5, s5⟩ := tidO_ok ho (s23.trans s4) r4 sl4
        exact ⟨ν5, _, _, s5, r5, sl5, h2⟩
      | bk σ4 M4 => exact fun h2 ν4 H4 σV4 s4 r4 sl4 => h2 ν4 H4 σV4 (s23.trans s4) r4 sl4
      | rt d M4 => exact fun h2 ν4 H4 v s4 r4 p4 => h2 ν4 H4 v (s23.trans s4) r4 p4
      | ex e σ4 M4 => exact fun h2 ν4 H4 σV4 dd s4 r4 sl4 x => h2 ν4 H4 σV4 dd (s23.trans s4) r4 sl4 x
      | no => exact fun h2 => h2
  · rintro σV2 H2 ⟨ν2, σ2, M2, s2, r2, sl2, h2⟩
    have gd := gdl h2
    rw [List.drop_length, forL, if_pos gd] at h2
    exact h2 ν2 H2 σV2 s2 r2 sl2
end
end Fn

set_option Elab.async false
set_option linter.all false
set_option maxRecDepth 100000
set_option maxHeartbeats 4000000
/-! FF: what loops walk, while, comprehensions -/
namespace Fn
open PySem PySem.Spec PyProof.Rows L2
open U (new new_i new_e cond cond_i cond_e brn brn_i brn_t brn_f uB uTest uVar pe_is ps_is pi_is thnP opt opt_i opt_e Df Bd Rm Nw Ext)
section
variable {X : Cx} {K : PySem.W.Frag} {W : WX} {e a b c tg : Expr} {pos : Pos} {g ga gb : GE}
def sgD (c : Nat) : D := .p (.str ⟨#[c]⟩)
/-- the items of a value, the cell that they stand in -/
def itOf (M : Store) : D → Option Itm
  | .p (.list xs) => some (xs.map D.p, [])
  | .p (.tuple xs) => some (xs.map D.p, [])
  | .seq _ ds => some (ds, [])
  | .cell n => match M[n]? with
    | some (.lst xs) => some (xs.map D.p, [(n, xs)])
    | _ => none
  | _ => none
def pIts (d : D) (M : Store) : R Itm := match d with
  | .p (.str z) => .ok (z.cps.toList.map sgD, []) M
  | d => match itOf M d with
    | some a => .ok a M
    | none => .no
def gIts (g : GE) : GI := fun σ M => (g σ M).bind pIts
/-- what stands at a is read as long as the guard holds -/
structure Seqd (K : PySem.W.Frag) (ν : Nu) (it : Itm) (tup : Bool) (a : Addr) : Prop where
  rd : ∀ (ν2 : Nu) (M2 : Store) (H2 : Hp), Same ν.F ν2.F → (∃ r, ν2.m = ν.m ++ r) → Rel K ν2 M2 H2 → gdOk it.2 M2 → ∃ vs, Rd H2 a (HOseq tup vs) ∧ Reps ν2.F ν2.m it.1 vs
theorem itOf_ok {ν : Nu} {M : Store} {H : Hp} {d : D} {v : V} {it : Itm} (r : Rel K ν M H) (p : Rep ν.F ν.m d v) (h : itOf M d = some it) : ∃ a t, v = .ref a ∧ Seqd K ν it t a ∧ gdOk it.2 M := by
  have nog : ∀ M, gdOk ([] : List (Nat × List PyData)) M := fun M p hp => by cases hp
  cases p with
  | p p => cases p with
    | lst h1 h2 => cases h; exact ⟨_, false, rfl, ⟨fun ν2 M2 H2 s m r2 _ => ⟨_, Rd.same r2.same (Rd.same s h1), reps_of (Vs.same s h2)⟩⟩, nog _⟩
    | tup h1 h2 => cases h; exact ⟨_, true, rfl, ⟨fun ν2 M2 H2 s m r2 _ => ⟨_, Rd.same r2.same (Rd.same s h1), reps_of (Vs.same s h2)⟩⟩, nog _⟩
    | _ => cases h
  | @cell n a hn =>
    have h : (match M[n]? with | some (.lst xs) => some (xs.map D.p, [(n, xs)]) | _ => none) = some it := h
    cases e : M[n]? with
    | none => rw [e] at h; cases h
    | some c =>
      rw [e] at h
      cases c with
      | lst xs =>
        cases h
        refine ⟨a, false, rfl, ⟨fun ν2 M2 H2 s m r2 g => ?_⟩, fun p hp => ?_⟩
        · have g1 := g (n, xs) (List.mem_singleton.mpr rfl)
          obtain ⟨t, em⟩ := m
          have hm : ν2.m[n]? = some a := by rw [em]; exact ix_app hn
          cases r2.cel n _ a g1 hm with
          | lst h1 h2 h3 => exact ⟨_, .inl h2, reps_of h3⟩
        · rw [List.mem_singleton.mp hp]; exact e
      | _ => cases h
  | seqL h1 h2 => cases h; exact ⟨_, false, rfl, ⟨fun ν2 M2 H2 s m r2 _ => ⟨_, Rd.same r2.same (Rd.same s h1), h2.mono s m⟩⟩, nog _⟩
  | seqT h1 h2 => cases h; exact ⟨_, true, rfl, ⟨fun ν2 M2 H2 s m r2 _ => ⟨_, Rd.same r2.same (Rd.same s h1), h2.mono s m⟩⟩, nog _⟩
/-- a sequence's length and items, whatever it holds -/
def SqN (K : PySem.W.Frag) (tup : Bool) (a : Addr) (n : Nat) (H : Hp) : Prop := ∃ vs : List V, Rd H a (HOseq tup vs) ∧ vs.length = n
theorem rd_l {H : Hp} {a : Addr} {vs : List V} (h : Rd H a (HOseq false vs)) : SqL K H a vs := .inl h
theorem rd_t {H : Hp} {a : Addr} {vs : List V} (h : Rd H a (HOseq true vs)) : SqT K H a vs := .inl h
theorem src_seqL {ν : Nu} {it : Itm} {a : Addr} (s : Seqd K ν it false a) : Src K ν it (Itl K a) := by
  refine ⟨SqN K false a it.1.length, fun i H x H' => H' = H ∧ ∀ xs, SqL K H a xs → xs[i]? = some x, ⟨fun i H hi ⟨vs, h, e⟩ => ⟨vs, vs[i], rd_l h, by simp [e, hi]⟩, fun H ⟨vs, h, e⟩ => ⟨vs, rd_l h, by rw [e]; exact Nat.le_refl _⟩, fun i H x H' hi _ y => y⟩, fun ν2 M2 H2 f m r g => ?_, fun i d x ν2 M2 H2 H3 hd f m r g y => ?_⟩
  · obtain ⟨vs, h1, h2⟩ := s.rd ν2 M2 H2 f m r g
    exact ⟨vs, h1, reps_len h2⟩
  · obtain ⟨rfl, y⟩ := y
    obtain ⟨vs, h1, h2⟩ := s.rd ν2 M2 H3 f m r g
    obtain ⟨w, e1, e2⟩ := reps_get h2 hd
    have := y vs (rd_l h1)
    rw [e1] at this; cases this
    exact ⟨ν2, Stp.refl, r, e2, rfl⟩
theorem src_seqT {ν : Nu} {it : Itm} {a : Addr} (s : Seqd K ν it true a) : Src K ν it (Itt K a) := by
  refine ⟨SqN K true a it.1.length, fun i H x H' => H' = H ∧ ∀ xs, SqT K H a xs → xs[i]? = some x, ⟨fun i H hi ⟨vs, h, e⟩ => ⟨vs, vs[i], rd_t h, by simp [e, hi]⟩, fun H ⟨vs, h, e⟩ => ⟨vs, rd_t h, by rw [e]; exact Nat.le_refl _⟩, fun i H x H' hi _ y => y⟩, fun ν2 M2 H2 f m r g => ?_, fun i d x ν2 M2 H2 H3 hd f m r g y => ?_⟩
  · obtain ⟨vs, h1, h2⟩ := s.rd ν2 M2 H2 f m r g
    exact ⟨vs, h1, reps_len h2⟩
  · obtain ⟨rfl, y⟩ := y
    obtain ⟨vs, h1, h2⟩ := s.rd ν2 M2 H3 f m r g
    obtain ⟨w, e1, e2⟩ := reps_get h2 hd
    have := y vs (rd_t h1)
    rw [e1] at this; cases this
    exact ⟨ν2, Stp.refl, r, e2, rfl⟩
theorem src_str {ν : Nu} {z : Str} : Src K ν (z.cps.toList.map sgD, []) (Its z) := by
  refine ⟨fun _ => True, _, by rw [List.length_map]; exact walk_str, fun _ _ _ _ _ _ _ => True.intro, fun i d x ν2 M2 H2 H3 hd f m r g y => ?_⟩
  obtain ⟨rfl, c, hc, rfl⟩ := y
  rw [List.getElem?_map] at hd
  obtain ⟨c', h1, h2⟩ := Option.map_eq_some_iff.mp hd
  have : z.cps.toList[i]? = some c := by simpa using hc
  rw [this] at h1; cases h1; cases h2
  exact ⟨ν2, Stp.refl, r, .p (.str _), rfl⟩
theorem pi_its (hK : X.K = K) (h : PE X e (tE K W g)) : PI X tg e (tI K W (gIts g)) := pi_is (U.pi_seqK K hK h) fun σV H R q => by
  obtain ⟨ν, σ, M, rl, sl, h⟩ := q
  show tE K W g σV H fun x H1 => match x with
    | .ref a => U.seqIt K a H1 R
    | .str z => R (Its z) H1
    | _ => False
  refine bindG rl sl h fun u H1 x ν1 M1 s1 r1 sl1 p1 h1 => ?_
  have seqs : PostG K W (rI K) ν1 σV H1 R (match itOf M1 x with
    | some a => .ok a M1
    | none => .no) → ∃ a, u = .ref a ∧ U.seqIt K a H1 R := by
    intro h
    cases ex : itOf M1 x with
    | none => rw [ex] at h; exact h.elim
    | some it =>
      rw [ex] at h
      obtain ⟨a, t, rfl, sq, g⟩ := itOf_ok r1 p1 ex
      refine ⟨a, rfl, ?_⟩
      obtain ⟨vs, h2, _⟩ := sq.rd ν1 M1 H1 (Same.refl _) ⟨[], by simp⟩ r1 g
      cases t with
      | false => exact U.seqIt_l (rd_l h2) (ret1 (rep := rI K) r1 (src_seqL sq) h)
      | true => exact U.seqIt_t (rd_t h2) (ret1 (rep := rI K) r1 (src_seqT sq) h)
  cases p1 with
  | p p1 => cases p1 with
    | str z => exact ret1 (rep := rI K) r1 src_str h1
    | lst _ _ => obtain ⟨a, e, q⟩ := seqs h1; cases e; exact q
    | tup _ _ => obtain ⟨a, e, q⟩ := seqs h1; cases e; exact q
    | _ => exact h1.elim
  | cell _ => obtain ⟨a, e, q⟩ := seqs h1; cases e; exact q
  | seqL _ _ => obtain ⟨a, e, q⟩ := seqs h1; cases e; exact q
  | seqT _ _ => obtain ⟨a, e, q⟩ := seqs h1; cases e; exact q
/-! ### ranges -/
def rngD (lo : Int) (n : Nat) : List D := (List.range n).map fun i => .p (.int (lo + (i : Nat)))
def pRng1 (ds : List D) (M : Store) : R Itm := match ds with
  | [.p (.int j)] => if -(2 ^ 62) ≤ j ∧ j < 2 ^ 62 then .ok (rngD 0 j.toNat, []) M else .no
  | _ => .no
def pRng2 (ds : List D) (M : Store) : R Itm := match ds with
  | [.p (.int i), .p (.int j)] => if -(2 ^ 62) ≤ i ∧ i < 2 ^ 62 ∧ -(2 ^ 62) ≤ j ∧ j < 2 ^ 62 then .ok (rngD i (j - i).toNat, []) M else .no
  | _ => .no
def gRng1 (gs : GA) : GI := fun σ M => (gs σ M).bind pRng1
def gRng2 (gs : GA) : GI := fun σ M => (gs σ M).bind pRng2
theorem src_rng {ν : Nu} {lo : Int} {n : Nat} : Src K ν (rngD lo n, []) (Itr lo n) := by
  refine ⟨fun _ => True, _, by unfold rngD; rw [List.length_map, List.length_range]; exact walk_range, fun _ _ _ _ _ _ _ => True.intro, fun i d x ν2 M2 H2 H3 hd f m r g y => ?_⟩
  obtain ⟨rfl, rfl⟩ := y
  have hd : ((List.range n).map fun i => D.p (.int (lo + (i : Nat))))[i]? = some d := hd
  rw [List.getElem?_map] at hd
  obtain ⟨k, h1, h2⟩ := Option.map_eq_some_iff.mp hd
  have hk : i < n := by have := (List.getElem?_eq_some_iff.mp h1).1; simpa using this
  rw [List.getElem?_range hk] at h1
  cases h1; cases h2
  exact ⟨ν2, Stp.refl, r, .p (.int _), rfl⟩
theorem pi_rng1 {gs : GA} {p : Pos} (hg : Gl X "range") (hm : X.mg "range" = none) (ha : PA X [a] (tA K W gs)) (hs : starEach [a] X.env = [(false, eval a X.env)] := by rfl) : PI X tg (.Call (.Name "range" p) [a] [] pos) (tI K W (gRng1 gs)) := pi_is (U.pi_rng1 hg hm ha hs) fun σV H R q => by
  obtain ⟨ν, σ, M, rl, sl, h⟩ := q
  refine bindG rl sl h fun us H1 ds ν1 M1 s1 r1 sl1 p1 h1 => ?_
  cases p1 with
  | nil => exact h1.elim
  | cons p1 pr =>
    cases pr with
    | cons _ _ => cases p1 with
      | p p1 => cases p1 <;> exact h1.elim
      | _ => exact h1.elim
    | nil => cases p1 with
      | p p1 => cases p1 with
        | int j =>
          have h1 : PostG K W (rI K) ν1 σV H1 R (if -(2 ^ 62) ≤ j ∧ j < 2 ^ 62 then .ok (rngD 0 j.toNat, []) M1 else .no) := h1
          by_cases c : -(2 ^ 62) ≤ j ∧ j < 2 ^ 62
          · rw [if_pos c] at h1; exact cond_i c (ret1 (rep := rI K) r1 src_rng h1)
          · rw [if_neg c] at h1; exact h1.elim
        | _ => exact h1.elim
      | _ => exact h1.elim
theorem pi_rng2 {gs : GA} {p : Pos} (hg : Gl X "range") (hm : X.mg "range" = none) (ha : PA X [a, b] (tA K W gs)) (hs : starEach [a, b] X.env = [(false, eval a X.env), (false, eval b X.env)] := by rfl) (hs2 : starEach [b] X.env = [(false, eval b X.env)] := by rfl) :
    PI X tg (.Call (.Name "range" p) [a, b] [] pos) (tI K W (gRng2 gs)) := pi_is (U.pi_rng2 hg hm ha hs hs2) fun σV H R q => by
  obtain ⟨ν, σ, M, rl, sl, h⟩ := q
  refine bindG rl sl h fun us H1 ds ν1 M1 s1 r1 sl1 p1 h1 => ?_
  match ds, us, p1, h1 with
  | [.p (.int i), .p (.int j)], _, .cons (.p (.int _)) (.cons (.p (.int _)) .nil), h1 =>
    have h1 : PostG K W (rI K) ν1 σV H1 R (if -(2 ^ 62) ≤ i ∧ i < 2 ^ 62 ∧ -(2 ^ 62) ≤ j ∧ j < 2 ^ 62 then .ok (rngD i (j - i).toNat, []) M1 else .no) := h1
    by_cases c : -(2 ^ 62) ≤ i ∧ i < 2 ^ 62 ∧ -(2 ^ 62) ≤ j ∧ j < 2 ^ 62
    · rw [if_pos c] at h1; exact cond_i c (ret1 (rep := rI K) r1 src_rng h1)
    · rw [if_neg c] at h1; exact h1.elim
/-! ### pairs: enumerate, zip -/
/-- a pair of the i-th ones -/
def prD (x y : D) : D := mkT [x, y]
def enD : Nat → List D → List D
  | _, [] => []
  | i, d :: r => prD (.p (.int (i : Nat))) d :: enD (i + 1) r
theorem enD_len : ∀ (l : List D) (i : Nat), (enD i l).length = l.length
  | [], _ => rfl
  | d :: r, i => by rw [enD, List.length_cons, enD_len r, List.length_cons]
theorem enD_get : ∀ (l : List D) (i j : Nat) {d : D}, (enD i l)[j]? = some d → ∃ x, l[j]? = some x ∧ d = prD (.p (.int ((i + j : Nat)))) x
  | [], _, _, _, h => by simp [enD] at h
  | x :: r, i, 0, d, h => by
    simp [enD] at h
    exact ⟨x, rfl, h.symm⟩
  | x :: r, i, j + 1, d, h => by
    have h : (enD (i + 1) r)[j]? = some d := by simpa [enD] using h
    obtain ⟨y, h1, h2⟩ := enD_get r (i + 1) j h
    exact ⟨y, by simpa using h1, by rw [h2, show i + 1 + j = i + (j + 1) by omega]⟩
def ziD : List D → List D → List D
  | x :: r, y :: s => prD x y :: ziD r s
  | _, _ => []
theorem ziD_len : ∀ (l m : List D), (ziD l m).length = min l.length m.length
  | [], m => by simp [ziD]
  | x :: r, [] => by simp [ziD]
  | x :: r, y :: s => by rw [ziD, List.length_cons, ziD_len r s, List.length_cons, List.length_cons]; omega
theorem ziD_get : ∀ (l m : List D) (j : Nat) {d : D}, (ziD l m)[j]? = some d → ∃ x y, l[j]? = some x ∧ m[j]? = some y ∧ d = prD x y
  | [], m, j, d, h => by simp [ziD] at h
  | x :: r, [], j, d, h => by simp [ziD] at h
  | x :: r, y :: s, 0, d, h => by
    simp [ziD] at h
    exact ⟨x, y, rfl, rfl, h.symm⟩
  | x :: r, y :: s, j + 1, d, h => by
    have h : (ziD r s)[j]? = some d := by simpa [ziD] using h
    obtain ⟨x', y', h1, h2, h3⟩ := ziD_get r s j h
    exact ⟨x', y', by simpa using h1, by simpa using h2, h3⟩
theorem pair_new {ν : Nu} {M : Store} {H : Hp} {T : Addr} {x y : D} {u v : V} (r : Rel K ν M H) (hT : H T = none) (px : Rep ν.F ν.m x u) (py : Rep ν.F ν.m y v) :
    ∃ ν3, Stp ν H ν3 (upd H T (.tup [u, v])) ∧ Rel K ν3 M (upd H T (.tup [u, v])) ∧ Rep ν3.F ν3.m (prD x y) (.ref T) ∧ ν3.m = ν.m := by
  obtain ⟨r2, s2⟩ := r.new hT (.tup [u, v])
  exact ⟨_, s2, r2, mkT_ok (.cons (Rep.stp px s2) (.cons (Rep.stp py s2) .nil)) (.inl upd_same), rfl⟩
def pEnum (ds : List D) (M : Store) : R Itm := match ds with
  | [d] => (match itOf M d with
    | some a => .ok (enD 0 a.1, a.2) M
    | none => .no)
  | _ => .no
def gEnum (gs : GA) : GI := fun σ M => (gs σ M).bind pEnum
theorem src_enL {ν : Nu} {it : Itm} {a : Addr} (s : Seqd K ν it false a) : Src K ν (enD 0 it.1, it.2) (Ite K a) := by
  refine ⟨SqN K false a it.1.length, fun i H v H' => ∃ T x, v = .ref T ∧ H T = none ∧ H' = upd H T (.tup [.int (i : Nat), x]) ∧ ∀ xs, SqL K H a xs → xs[i]? = some x, ⟨fun i H hi ⟨vs, h, e⟩ => ?_, fun H ⟨vs, h, e⟩ => ⟨vs, rd_l h, by rw [e, enD_len]; exact Nat.le_refl _⟩, fun i H x H' hi _ y => y⟩, fun ν2 M2 H2 f m r g => ?_, fun i d x ν2 M2 H2 H3 hd f m r g y => ?_⟩
  · rw [enD_len] at hi
    exact ⟨vs, vs[i], rd_l h, by simp [e, hi]⟩
  · obtain ⟨vs, h1, h2⟩ := s.rd ν2 M2 H2 f m r g
    exact ⟨vs, h1, reps_len h2⟩
  · obtain ⟨T, w, rfl, hT, rfl, y⟩ := y
    obtain ⟨vs, h1, h2⟩ := s.rd ν2 M2 H2 f m r g
    obtain ⟨z, e1, rfl⟩ := enD_get it.1 0 i hd
    obtain ⟨w', e2, e3⟩ := reps_get h2 e1
    have := y vs (rd_l h1)
    rw [e2] at this; cases this
    rw [Nat.zero_add]
    exact pair_new r hT (.p (.int _)) e3
theorem src_enT {ν : Nu} {it : Itm} {a : Addr} (s : Seqd K ν it true a) : Src K ν (enD 0 it.1, it.2) (U.IteT K a) := by
  refine ⟨SqN K true a it.1.length, fun i H v H' => ∃ T x, v = .ref T ∧ H T = none ∧ H' = upd H T (.tup [.int (i : Nat), x]) ∧ ∀ xs, SqT K H a xs → xs[i]? = some x, ⟨fun i H hi ⟨vs, h, e⟩ => ?_, fun H ⟨vs, h, e⟩ => ⟨vs, rd_t h, by rw [e, enD_len]; exact Nat.le_refl _⟩, fun i H x H' hi _ y => y⟩, fun ν2 M2 H2 f m r g => ?_, fun i d x ν2 M2 H2 H3 hd f m r g y => ?_⟩
  · rw [enD_len] at hi
    exact ⟨vs, vs[i], rd_t h, by simp [e, hi]⟩
  · obtain ⟨vs, h1, h2⟩ := s.rd ν2 M2 H2 f m r g
    exact ⟨vs, h1, reps_len h2⟩
  · obtain ⟨T, w, rfl, hT, rfl, y⟩ := y
    obtain ⟨vs, h1, h2⟩ := s.rd ν2 M2 H2 f m r g
    obtain ⟨z, e1, rfl⟩ := enD_get it.1 0 i hd
    obtain ⟨w', e2, e3⟩ := reps_get h2 e1
    have := y vs (rd_t h1)
    rw [e2] at this; cases this
    rw [Nat.zero_add]
    exact pair_new r hT (.p (.int _)) e3
theorem pi_enum {gs : GA} {p tpos : Pos} {elts : List Expr} {kk : Nat} (hK : X.K = K) (hg : Gl X "enumerate") (hm : X.mg "enumerate" = none) (ha : PA X [e] (tA K W gs)) (hs : starEach [e] X.env = [(false, eval e X.env)] := by rfl) :
    PI X (.Tuple elts kk tpos) (.Call (.Name "enumerate" p) [e] [] pos) (tI K W (gEnum gs)) := pi_is (U.pi_enumA K hK hg hm ha hs) fun σV H R q => by
  obtain ⟨ν, σ, M, rl, sl, h⟩ := q
  refine bindG rl sl h fun us H1 ds ν1 M1 s1 r1 sl1 p1 h1 => ?_
  match ds, us, p1, h1 with
  | [d], [u], .cons p1 .nil, h1 =>
    have h1 : PostG K W (rI K) ν1 σV H1 R (match itOf M1 d with | some a => .ok (enD 0 a.1, a.2) M1 | none => .no) := h1
    cases ex : itOf M1 d with
    | none => rw [ex] at h1; exact h1.elim
    | some it =>
      rw [ex] at h1
      obtain ⟨a, t, rfl, sq, g⟩ := itOf_ok r1 p1 ex
      obtain ⟨vs, h2, _⟩ := sq.rd ν1 M1 H1 (Same.refl _) ⟨[], by simp⟩ r1 g
      show U.seqEn K a H1 R
      unfold U.seqEn
      cases t with
      | false => exact .inl ⟨vs, rd_l h2, ret1 (rep := rI K) r1 (src_enL sq) h1⟩
      | true => exact .inr ⟨vs, rd_t h2, ret1 (rep := rI K) r1 (src_enT sq) h1⟩
def tupB (M : Store) : D → Bool
  | .p (.tuple _) => true
  | .seq b _ => b
  | _ => false
def pZip (ds : List D) (M : Store) : R Itm := match ds with
  | [d, e] => if tupB M d = tupB M e then (match itOf M d, itOf M e with
    | some a, some b => .ok (ziD a.1 b.1, a.2 ++ b.2) M
    | _, _ => .no) else .no
  | _ => .no
def gZip (gs : GA) : GI := fun σ M => (gs σ M).bind pZip
theorem itOf_tup {ν : Nu} {M : Store} {H : Hp} {d : D} {v : V} {it : Itm} (r : Rel K ν M H) (p : Rep ν.F ν.m d v) (h : itOf M d = some it) : ∃ a, v = .ref a ∧ Seqd K ν it (tupB M d) a ∧ gdOk it.2 M := by
  obtain ⟨a, t, e, s, g⟩ := itOf_ok r p h
  obtain ⟨vs, h1, h2⟩ := s.rd ν M H (Same.refl _) ⟨[], by simp⟩ r g
  have et : tupB M d = t := by
    subst e
    have key : ∀ t' vs', Rd H a (HOseq t' vs') → t' = t := fun t' vs' h' => by
      have cl : ∀ {o u : HO}, Rd H a o → Rd H a u → (∀ x w, o ≠ .frz x w) → (∀ x w, u ≠ .frz x w) → o = u := by
        intro o u h h' n n'
        rcases h with h | ⟨x, h⟩
        · rcases h' with h' | ⟨y, h'⟩
          · rw [h] at h'; exact Option.some.inj h'
          · rw [h] at h'; exact absurd (Option.some.inj h') (n _ _)
        · rcases h' with h' | ⟨y, h'⟩
          · rw [h] at h'; exact absurd (Option.some.inj h').symm (n' _ _)
          · rw [h] at h'
            have := Option.some.inj h'
            injection this
      have e := cl h' h1 (fun x w z => by unfold HOseq at z; split at z <;> cases z) (fun x w z => by unfold HOseq at z; split at z <;> cases z)
      cases t <;> cases t' <;> first | rfl | (simp [HOseq] at e)
    cases p with
    | p p => cases p with
      | lst h1 h2 => exact key false _ (Rd.same r.same h1)
      | tup h1 h2 => exact key true _ (Rd.same r.same h1)
    | @cell n _ hn =>
      have h : (match M[n]? with | some (.lst xs) => some (xs.map D.p, [(n, xs)]) | _ => none) = some it := h
      cases q : M[n]? with
      | none => rw [q] at h; cases h
      | some c =>
        rw [q] at h
        cases c with
        | lst xs =>
          cases r.cel n _ _ q hn with
          | lst a1 a2 a3 => exact key false _ (.inl a2)
        | _ => cases h
    | seqL h1 h2 => exact key false _ (Rd.same r.same h1)
    | seqT h1 h2 => exact key true _ (Rd.same r.same h1)
  rw [et]
  exact ⟨a, e, s, g⟩
theorem src_zip {ν : Nu} {i1 i2 : Itm} {a b : Addr} {t : Bool} (s1 : Seqd K ν i1 t a) (s2 : Seqd K ν i2 t b) : Src K ν (ziD i1.1 i2.1, i1.2 ++ i2.2) (if t = true then RZ.ItzT K a b else Itz K a b) := by
  have spl : ∀ {M}, gdOk (i1.2 ++ i2.2) M → gdOk i1.2 M ∧ gdOk i2.2 M := fun g => ⟨fun p hp => g p (List.mem_append_left _ hp), fun p hp => g p (List.mem_append_right _ hp)⟩
  have put : ∀ {i : Nat} {d : D} {ν2 : Nu} {M2 : Store} {H2 : Hp} {T : Addr} {u v : V}, (ziD i1.1 i2.1)[i]? = some d → Same ν.F ν2.F → (∃ r, ν2.m = ν.m ++ r) → Rel K ν2 M2 H2 → gdOk (i1.2 ++ i2.2) M2 → H2 T = none →
      (∀ xs ys, Rd H2 a (HOseq t xs) → Rd H2 b (HOseq t ys) → xs[i]? = some u ∧ ys[i]? = some v) → ∃ ν3, Stp ν2 H2 ν3 (upd H2 T (.tup [u, v])) ∧ Rel K ν3 M2 (upd H2 T (.tup [u, v])) ∧ Rep ν3.F ν3.m d (.ref T) ∧ ν3.m = ν2.m := by
    intro i d ν2 M2 H2 T u v hd f m r g hT y
    obtain ⟨g1, g2⟩ := spl g
    obtain ⟨vs, h1, h2⟩ := s1.rd ν2 M2 H2 f m r g1
    obtain ⟨ws, h3, h4⟩ := s2.rd ν2 M2 H2 f m r g2
    obtain ⟨x, y', e1, e2, rfl⟩ := ziD_get _ _ _ hd
    obtain ⟨w1, q1, q2⟩ := reps_get h2 e1
    obtain ⟨w2, q3, q4⟩ := reps_get h4 e2
    obtain ⟨z1, z2⟩ := y vs ws h1 h3
    rw [q1] at z1; cases z1
    rw [q3] at z2; cases z2
    exact pair_new r hT q2 q4
  cases t with
  | false =>
    refine ⟨fun H => SqN K false a i1.1.length H ∧ SqN K false b i2.1.length H, (Itz K a b).yld, ⟨fun i H hi ⟨⟨vs, h, e⟩, ⟨ws, h', e'⟩⟩ => ?_, fun H ⟨⟨vs, h, e⟩, ⟨ws, h', e'⟩⟩ => ?_, fun i H x H' hi _ y => y⟩, fun ν2 M2 H2 f m r g => ?_, fun i d x ν2 M2 H2 H3 hd f m r g y => ?_⟩
    · rw [ziD_len] at hi
      exact ⟨vs, ws, vs[i], ws[i], rd_l h, rd_l h', by simp [e, show i < i1.1.length by omega], by simp [e', show i < i2.1.length by omega]⟩
    · exact ⟨vs, ws, rd_l h, rd_l h', by rw [ziD_len, e, e']; omega⟩
    · obtain ⟨vs, h1, h2⟩ := s1.rd ν2 M2 H2 f m r (spl g).1
      obtain ⟨ws, h3, h4⟩ := s2.rd ν2 M2 H2 f m r (spl g).2
      exact ⟨⟨vs, h1, reps_len h2⟩, ⟨ws, h3, reps_len h4⟩⟩
    · obtain ⟨T, u, v, rfl, hT, rfl, y1, y2⟩ := y
      exact put hd f m r g hT fun xs ys h1 h2 => ⟨y1 xs (rd_l h1), y2 ys (rd_l h2)⟩
  | true =>
    refine ⟨fun H => SqN K true a i1.1.length H ∧ SqN K true b i2.1.length H, (RZ.ItzT K a b).yld, ⟨fun i H hi ⟨⟨vs, h, e⟩, ⟨ws, h', e'⟩⟩ => ?_, fun H ⟨⟨vs, h, e⟩, ⟨ws, h', e'⟩⟩ => ?_, fun i H x H' hi _ y => y⟩, fun ν2 M2 H2 f m r g => ?_, fun i d x ν2 M2 H2 H3 hd f m r g y => ?_⟩
    · rw [ziD_len] at hi
      exact ⟨vs, ws, vs[i], ws[i], rd_t h, rd_t h', by simp [e, show i < i1.1.length by omega], by simp [e', show i < i2.1.length by omega]⟩
    · exact ⟨vs, ws, rd_t h, rd_t h', by rw [ziD_len, e, e']; omega⟩
    · obtain ⟨vs, h1, h2⟩ := s1.rd ν2 M2 H2 f m r (spl g).1
      obtain ⟨ws, h3, h4⟩ := s2.rd ν2 M2 H2 f m r (spl g).2
      exact ⟨⟨vs, h1, reps_len h2⟩, ⟨ws, h3, reps_len h4⟩⟩
    · obtain ⟨T, u, v, rfl, hT, rfl, y1, y2⟩ := y
      exact put hd f m r g hT fun xs ys h1 h2 => ⟨y1 xs (rd_t h1), y2 ys (rd_t h2)⟩
theorem pi_zipK (hK : X.K = K) {e2 : Expr} {ta : TA} {p tpos : Pos} {elts : List Expr} {kk : Nat} (hg : Gl X "zip") (hm : X.mg "zip" = none) (ha : PA X [e, e2] ta)
    (hs : starEach [e, e2] X.env = (false, eval e X.env) :: starEach [e2] X.env := by rfl) (hpl : (backTo pos (starEach [e2] X.env)).any (·.1) = false := by rfl) :
    PI X (.Tuple elts kk tpos) (.Call (.Name "zip" p) [e, e2] [] pos) (RZ.iZipA K ta) := by subst hK; exact RZ.pi_zipA hg hm ha hs hpl
theorem pi_zip {gs : GA} {e2 : Expr} {p tpos : Pos} {elts : List Expr} {kk : Nat} (hK : X.K = K) (hg : Gl X "zip") (hm : X.mg "zip" = none) (ha : PA X [e, e2] (tA K W gs))
    (hs : starEach [e, e2] X.env = (false, eval e X.env) :: starEach [e2] X.env := by rfl) (hpl : (backTo pos (starEach [e2] X.env)).any (·.1) = false := by rfl) :
    PI X (.Tuple elts kk tpos) (.Call (.Name "zip" p) [e, e2] [] pos) (tI K W (gZip gs)) := pi_is (pi_zipK hK hg hm ha hs hpl) fun σV H R q => by
  obtain ⟨ν, σ, M, rl, sl, h⟩ := q
  refine bindG rl sl h fun us H1 ds ν1 M1 s1 r1 sl1 p1 h1 => ?_
  match ds, us, p1, h1 with
  | [d, e'], [u, v], .cons p1 (.cons p2 .nil), h1 =>
    have h1 : PostG K W (rI K) ν1 σV H1 R (if tupB M1 d = tupB M1 e' then (match itOf M1 d, itOf M1 e' with | some a, some b => .ok (ziD a.1 b.1, a.2 ++ b.2) M1 | _, _ => .no) else .no) := h1
    by_cases c : tupB M1 d = tupB M1 e'
    · rw [if_pos c] at h1
      cases ex : itOf M1 d with
      | none => rw [ex] at h1; exact h1.elim
      | some i1 =>
        cases ey : itOf M1 e' with
        | none => rw [ex, ey] at h1; exact h1.elim
        | some i2 =>
          rw [ex, ey] at h1
          obtain ⟨a, rfl, sq1, g1⟩ := itOf_tup r1 p1 ex
          obtain ⟨b, rfl, sq2, g2⟩ := itOf_tup r1 p2 ey
          rw [← c] at sq2
          have q := src_zip sq1 sq2
          obtain ⟨vs, k1, _⟩ := sq1.rd ν1 M1 H1 (Same.refl _) ⟨[], by simp⟩ r1 g1
          obtain ⟨ws, k2, _⟩ := sq2.rd ν1 M1 H1 (Same.refl _) ⟨[], by simp⟩ r1 g2
          have fin := fun J (q : Src K ν1 (ziD i1.1 i2.1, i1.2 ++ i2.2) J) => ret1 (rep := rI K) r1 q h1
          cases t : tupB M1 d with
          | false => rw [t] at q k1 k2; exact ⟨a, b, vs, ws, rfl, .inl ⟨rd_l k1, rd_l k2, fin _ q⟩⟩
          | true => rw [t] at q k1 k2; exact ⟨a, b, vs, ws, rfl, .inr ⟨rd_t k1, rd_t k2, fin _ q⟩⟩
    · rw [if_neg c] at h1; exact h1.elim
end
end Fn

set_option Elab.async false
set_option linter.all false
set_option maxRecDepth 100000
set_option maxHeartbeats 4000000
/-! FG: while, comprehensions -/
namespace Fn
open PySem PySem.Spec PyProof.Rows L2
open U (new new_i new_e cond cond_i cond_e brn brn_i brn_t brn_f uB uTest uVar pe_is ps_is pi_is thnP opt opt_i opt_e Df Bd Rm Nw Ext)
/-! ### while -/
def whileL (o : Option Nat) (c : GT) (body : GS) : Nat → GS
  | 0, _, _ => .no
  | f + 1, σ, M => match c σ M with
    | .ok k M1 => if k = true then (match body σ M1 with
      | .nx σ2 M2 => whileL o c body f (tidO o σ2 M2).1 (tidO o σ2 M2).2
      | .ct σ2 M2 => whileL o c body f (tidO o σ2 M2).1 (tidO o σ2 M2).2
      | .bk σ2 M2 => .nx σ2 M2
      | .rt d M2 => .rt d M2
      | .ex e σ2 M2 => .ex e σ2 M2
      | .no => .no) else .nx σ M1
    | .ex e M1 => .ex e σ M1
    | .no => .no
@[irreducible] def wfuel : Nat := 1000000000000
def gWhile (tid : Bool) (c : GT) (body : GS) : GS := fun σ M => whileL (if tid = true then some M.length else none) c body wfuel σ M
section
variable {X : Cx} {K : PySem.W.Frag} {W : WX} {pos : Pos}
theorem while_ok {gc : GT} {body : GS} {tid : Bool} {Q : Ends} {σV : L2.St} {H : Hp} (q : tS K W (gWhile tid gc body) Q σV H) : U.uWhile (tT K W gc) (tS K W body) Q σV H := by
  obtain ⟨ν, σ, M, rl, sl, h⟩ := q
  have ho : (if tid = true then some M.length else none) = none ∨ (if tid = true then some M.length else none) = some ν.m.length := by
    by_cases z : tid = true
    · rw [if_pos z, rl.len]; exact .inr rfl
    · rw [if_neg z]; exact .inl rfl
  have h : PostS K W ν H Q (whileL (if tid = true then some M.length else none) gc body wfuel σ M) := h
  revert ho h
  generalize (if tid = true then some M.length else none) = o
  intro ho h
  refine ⟨fun m σV2 H2 => ∃ ν2 σ2 M2, Stp ν H ν2 H2 ∧ Rel K ν2 M2 H2 ∧ Sld ν2 σ2 σV2 ∧ PostS K W ν H Q (whileL o gc body m σ2 M2), ⟨wfuel, ν, σ, M, Stp.refl, rl, sl, h⟩, ?_⟩
  rintro m σV2 H2 ⟨ν2, σ2, M2, s2, r2, sl2, h2⟩
  cases m with
  | zero => exact h2.elim
  | succ m =>
    refine ⟨ν2, σ2, M2, r2, sl2, ?_⟩
    revert h2
    show PostS K W ν H Q (match gc σ2 M2 with
      | .ok k M1 => if k = true then (match body σ2 M1 with
        | .nx σ2 M2 => whileL o gc body m (tidO o σ2 M2).1 (tidO o σ2 M2).2
        | .ct σ2 M2 => whileL o gc body m (tidO o σ2 M2).1 (tidO o σ2 M2).2
        | .bk σ2 M2 => .nx σ2 M2
        | .rt d M2 => .rt d M2
        | .ex e σ2 M2 => .ex e σ2 M2
        | .no => .no) else .nx σ2 M1
      | .ex e M1 => .ex e σ2 M1
      | .no => .no) → _
    cases gc σ2 M2 with
    | ex e M1 => exact fun h ν3 H3 d s3 r3 x => h ν3 H3 σV2 d (s2.trans s3) r3 (sl2.mono s3) x
    | no => exact fun h => h
    | ok k M1 =>
      intro h ν3 H3 b s3 r3 eb
      obtain rfl : k = b := eb
      have s23 := s2.trans s3
      refine brn_if ?_
      by_cases z : k = true
      · rw [if_pos z]
        simp only [z, if_true] at h
        refine ⟨ν3, σ2, M1, r3, sl2.mono s3, ?_⟩
        revert h
        cases body σ2 M1 with
        | nx σ4 M4 =>
          intro h2 ν4 H4 σV4 s4 r4 sl4
          obtain ⟨ν5, r5, sl5, s5⟩ := tidO_ok ho (s23.trans s4) r4 sl4
          exact ⟨m, Nat.lt_succ_self m, ν5, _, _, s5, r5, sl5, h2⟩
        | ct σ4 M4 =>
          intro h2 ν4 H4 σV4 s4 r4 sl4
          obtain ⟨ν5, r5, sl5, s5⟩ := tidO_ok ho (s23.trans s4) r4 sl4
          exact ⟨m, Nat.lt_succ_self m, ν5, _, _, s5, r5, sl5, h2⟩
        | bk σ4 M4 => exact fun h2 ν4 H4 σV4 s4 r4 sl4 => h2 ν4 H4 σV4 (s23.trans s4) r4 sl4
        | rt d M4 => exact fun h2 ν4 H4 v s4 r4 p4 => h2 ν4 H4 v (s23.trans s4) r4 p4
        | ex e σ4 M4 => exact fun h2 ν4 H4 σV4 dd s4 r4 sl4 x => h2 ν4 H4 σV4 dd (s23.trans s4) r4 sl4 x
        | no => exact fun h2 => h2
      · rw [if_neg z]
        have e : k = false := by cases k <;> simp_all
        subst e
        exact h ν3 H3 σV2 s23 r3 (sl2.mono s3)
theorem fs_while {c : Expr} {body : List Stmt} {gc : GT} {sb : GS} {tid : Bool} (hp : PassesOwn (model X.prog X.w) X.A X.env X.xe) (hc : PT X c (tT K W gc)) (hb : PSs X body (tS K W sb)) : PS X (.While c body [] pos) (tS K W (gWhile tid gc sb)) := ps_is (U.ps_whileU hp hc hb) fun Q σV H q => while_ok q
theorem fs_for {iter tg : Expr} {body : List Stmt} {src : GI} {t : Tg} {sb : GS} {tid : Bool} (hp : PassesOwn (model X.prog X.w) X.A X.env X.xe) (hc : X.calm = true) (hi : PI X tg iter (tI K W src)) (hg : PG X tg (vT K t)) (hb : PSs X body (tS K W sb))
    (hs : ∀ x, foldedSetIterable iter X.env x = pure x := by intro _; rfl) : PS X (.For tg iter body [] pos) (tS K W (gFor tid src t sb)) := ps_is (ps_for hp hc hi hg hb hs) fun Q σV H q => for_ok q
end
/-! ### an address that is none of ours changes, becomes ours -/
section
variable {K : PySem.W.Frag}
theorem Rel.ext {ν : Nu} {M : Store} {H H' : Hp} (r : Rel K ν M H) (s : Same H H') : Rel K ν M H' ∧ Stp ν H ν H' := by
  have at_ : ∀ x, H x ≠ none → H' x = H x := fun x h => by
    obtain ⟨o, e⟩ := Option.ne_none_iff_exists'.mp h
    rw [e]; exact s x o e
  refine ⟨⟨r.same.trans s, r.len, fun n c a e1 e2 => (r.cel n c a e1 e2).keep (Same.refl _) ⟨[], by simp⟩ fun x hx hn => ⟨hx, at_ x hn⟩, fun x n h => ?_⟩, Same.refl _, fun x o h w => ⟨s x o h, rfl, w⟩, [], by simp⟩
  obtain ⟨h1, h2, h3⟩ := r.off x n h
  exact ⟨h1, by rw [at_ x h2]; exact h2, h3⟩
theorem Rel.unt {ν : Nu} {M : Store} {H : Hp} (r : Rel K ν M H) {p : Addr} (fp : ν.F p = none) (wp : ν.w p = none) (o : HO) : Rel K ν M (upd H p o) := by
  refine ⟨fun x u h => ?_, r.len, fun n c a e1 e2 => (r.cel n c a e1 e2).keep (Same.refl _) ⟨[], by simp⟩ fun x hx hn => ⟨hx, upd_ne fun e => ?_⟩, fun x n h => ?_⟩
  · have e : x ≠ p := fun e => by rw [e, fp] at h; cases h
    rw [upd_ne e]; exact r.same x u h
  · rw [e] at hx
    have hx : ν.w p = some n := hx
    rw [wp] at hx; cases hx
  · obtain ⟨h1, h2, h3⟩ := r.off x n h
    have e : x ≠ p := fun e => by rw [e, wp] at h; cases h
    exact ⟨h1, by rw [upd_ne e]; exact h2, h3⟩
/-- it is frozen -/
theorem Rel.fix {ν : Nu} {M : Store} {H : Hp} (r : Rel K ν M H) {p : Addr} {o : HO} (fp : ν.F p = none) (wp : ν.w p = none) (hp : H p = some o) : Rel K ⟨upd ν.F p o, ν.m, ν.w⟩ M H := by
  have s : Same ν.F (upd ν.F p o) := U.Same.new (Same.refl _) fp
  refine ⟨fun x u h => ?_, r.len, fun n c a e1 e2 => (r.cel n c a e1 e2).keep s ⟨[], by simp⟩ fun x hx _ => ⟨hx, rfl⟩, fun x n h => ?_⟩
  · have h : upd ν.F p o x = some u := h
    by_cases e : x = p
    · subst e; rw [upd_same] at h; rw [← h]; exact hp
    · rw [upd_ne e] at h; exact r.same x u h
  · obtain ⟨h1, h2, h3⟩ := r.off x n h
    have e : x ≠ p := fun e => by rw [e, wp] at h; cases h
    exact ⟨by show upd ν.F p o x = none; rw [upd_ne e]; exact h1, h2, h3⟩
/-- it is a cell -/
theorem Rel.own {ν : Nu} {M : Store} {H : Hp} (r : Rel K ν M H) {p : Addr} (fp : ν.F p = none) (wp : ν.w p = none) (hp : H p ≠ none) (c : Cell) (hc : CR K ν.F H (ν.m ++ [p]) (fun x => x = p) c p) :
    Rel K ⟨ν.F, ν.m ++ [p], fun x => if x = p then some M.length else ν.w x⟩ (M ++ [c]) H := by
  have ne : ∀ {x n}, ν.w x = some n → x ≠ p := fun h e => by rw [e, wp] at h; cases h
  refine ⟨r.same, by simp [r.len], fun n d a e1 e2 => ?_, fun x n h => ?_⟩
  · by_cases hn : n < M.length
    · rw [List.getElem?_append_left hn] at e1
      rw [List.getElem?_append_left (by rw [r.len]; exact hn)] at e2
      refine (r.cel n d a e1 e2).keep (Same.refl _) ⟨[p], rfl⟩ fun x hx hz => ⟨?_, rfl⟩
      show (if x = p then some M.length else ν.w x) = some n
      rw [if_neg (ne hx)]
      exact hx
    · have hl := (List.getElem?_eq_some_iff.mp e1).1
      have en : n = M.length := by simp at hl; omega
      subst en
      rw [List.getElem?_append_right (Nat.le_refl _), Nat.sub_self] at e1
      rw [List.getElem?_append_right (by rw [r.len]; exact Nat.le_refl _), r.len, Nat.sub_self] at e2
      simp at e1 e2
      subst e1; subst e2
      refine hc.keep (Same.refl _) ⟨[], by simp⟩ fun x hx _ => ⟨?_, rfl⟩
      show (if x = p then some M.length else ν.w x) = some M.length
      rw [if_pos hx]
  · have h : (if x = p then some M.length else ν.w x) = some n := h
    by_cases e : x = p
    · rw [if_pos e] at h
      cases h
      subst e
      exact ⟨fp, hp, by simp⟩
    · rw [if_neg e] at h
      obtain ⟨h1, h2, h3⟩ := r.off x n h
      exact ⟨h1, h2, by simp; omega⟩
end
/-! ### comprehensions -/
def R.calm {α : Type} (r : R α) : R α := match r with
  | .ok a M => .ok a M
  | _ => .no
abbrev W0 : WX := fun _ _ _ _ => False
open Classical in
noncomputable def lcL (gd : List (Nat × List PyData)) (t : Tg) (tt : GT) (te : GE) (fin : List D → Store → R D) (σ : Sl) : List D → Store → List D → R D
  | [], M, acc => if gdOk gd M then fin acc M else .no
  | d :: ds, M, acc => if gdOk gd M then (match dT t d σ with
      | some σ1 => (tt σ1 M).calm.bind fun b M1 => if b = true then (te σ1 M1).calm.bind fun y M2 => if acc.length < sizeLine then lcL gd t tt te fin σ ds M2 (acc ++ [y]) else .no
          else lcL gd t tt te fin σ ds M1 acc
      | none => .no) else .no
def wipeD (σ : Sl) : List Nat → Sl
  | [] => σ
  | v :: vs => (wipeD σ vs).set v none
def finP (acc : List D) (M : Store) : R D := .ok (mkL acc) M
def finC (acc : List D) (M : Store) : R D := match pures acc with
  | some xs => .ok (.cell M.length) (M ++ [.lst xs])
  | none => .no
noncomputable def gLc (fin : List D → Store → R D) (src : GI) (t : Tg) (own : List Nat) (tt : GT) (te : GE) : GE := fun σ M => (src σ M).bind fun a M1 => lcL a.2 t tt te fin (wipeD σ own) a.1 M1 []
def gYes : GT := fun _ M => .ok true M
section
variable {X : Cx} {K : PySem.W.Frag} {W : WX} {pos : Pos}
theorem sld_none {ν : Nu} {σ : Sl} {σV : L2.St} (h : Sld ν σ σV) (i : Nat) : Sld ν (σ.set i none) (σV.set i none) := by
  refine ⟨by simp [h.1], fun j d' e => ?_⟩
  by_cases hj : i = j
  · subst hj
    by_cases hl : i < σ.length
    · rw [List.getElem?_set_self hl] at e; cases e
    · rw [List.getElem?_eq_none (by simpa using hl)] at e; cases e
  · rw [List.getElem?_set_ne hj] at e
    obtain ⟨w, e1, e2⟩ := h.2 j d' e
    exact ⟨w, by rw [List.getElem?_set_ne hj]; exact e1, e2⟩
theorem sld_wipe {ν : Nu} {σ : Sl} {σV : L2.St} (h : Sld ν σ σV) : ∀ vs : List Nat, Sld ν (wipeD σ vs) (wipe σV vs)
  | [] => h
  | v :: vs => sld_none (sld_wipe h vs) v
theorem wipe_len (σ : L2.St) : ∀ vs : List Nat, (wipe σ vs).length = σ.length
  | [] => rfl
  | v :: vs => by rw [wipe, List.length_set, wipe_len σ vs]
theorem wipe_in {σ : L2.St} {i : Nat} : ∀ {vs : List Nat}, i ∈ vs → i < σ.length → (wipe σ vs)[i]? = some none
  | v :: vs, h, hl => by
    rw [wipe]
    by_cases e : v = i
    · subst e
      rw [List.getElem?_set_self (by rw [wipe_len]; exact hl)]
    · rw [List.getElem?_set_ne e]
      exact wipe_in ((List.mem_cons.mp h).elim (fun z => (e z.symm).elim) id) hl
theorem wipe_but {ns vs : List Nat} {σ σ' : L2.St} (b : ButS ns (wipe σ vs) σ') (hn : ∀ i ∈ ns, i ∈ vs) : wipe σ' vs = wipe σ vs := by
  have hl : σ'.length = σ.length := b.1.trans (wipe_len σ vs)
  refine List.ext_getElem? fun i => ?_
  by_cases hi : i ∈ vs
  · by_cases h : i < σ.length
    · rw [wipe_in hi h, wipe_in hi (by rw [hl]; exact h)]
    · rw [List.getElem?_eq_none (by rw [wipe_len, hl]; omega), List.getElem?_eq_none (by rw [wipe_len]; omega)]
  · rw [wipe_out hi, b.2 i fun h => hi (hn i h)]
theorem reps_app {F : Hp} {m : List Addr} {y : D} {v : V} (h : Rep F m y v) : ∀ {ds : List D} {vs : List V}, Reps F m ds vs → Reps F m (ds ++ [y]) (vs ++ [v])
  | _, _, .nil => .cons h .nil
  | _, _, .cons a b => .cons a (reps_app h b)
/-- how a comprehension's list is handed on -/
def FinS (K : PySem.W.Frag) (fin : List D → Store → R D) : Prop := ∀ (W : WX) (ν0 ν : Nu) (M : Store) (H0 H : Hp) (p : Addr) (acc : List D) (vs : List V) (σV : L2.St) (Q : VK), Stp ν0 H0 ν H → H0 p = none → Rel K ν M H → H p = some (.lst vs) → ν.F p = none → ν.w p = none → Reps ν.F ν.m acc vs →
  PostG K W rE ν0 σV H0 Q (fin acc M) → Q (.ref p) H
theorem stp_fix {ν0 ν : Nu} {H0 H : Hp} {p : Addr} {o : HO} (s : Stp ν0 H0 ν H) (h0 : H0 p = none) (fp : ν.F p = none) : Stp ν0 H0 ⟨upd ν.F p o, ν.m, ν.w⟩ H := by
  refine ⟨s.ff.trans (U.Same.new (Same.refl _) fp), fun x u h w => ?_, s.mm⟩
  obtain ⟨h1, h2, h3⟩ := s.fr x u h w
  have e : x ≠ p := fun e => by rw [e, h0] at h; cases h
  exact ⟨h1, by show upd ν.F p o x = _; rw [upd_ne e]; exact h2, h3⟩
theorem finP_ok : FinS K finP := by
  intro W ν0 ν M H0 H p acc vs σV Q s h0 r hp fp wp ra h
  have s2 : Same ν.F (upd ν.F p (.lst vs)) := U.Same.new (Same.refl _) fp
  exact retN (rep := rE) (a := mkL acc) h (stp_fix s h0 fp) (r.fix fp wp hp) (mkL_ok (ra.mono s2 ⟨[], by simp⟩) (.inl upd_same))
theorem finC_ok : FinS K finC := by
  intro W ν0 ν M H0 H p acc vs σV Q s h0 r hp fp wp ra h
  unfold finC at h
  cases e : pures acc with
  | none => rw [e] at h; exact h.elim
  | some xs =>
    rw [e] at h
    refine retN (rep := rE) (a := .cell M.length) h (ν1 := ⟨ν.F, ν.m ++ [p], fun x => if x = p then some M.length else ν.w x⟩) ⟨s.ff, fun x u hx w => ?_, ?_⟩ (r.own fp wp (by rw [hp]; exact fun z => nomatch z) _ (.lst rfl hp (pures_ok ra e))) (.cell ?_)
    · obtain ⟨h1, h2, h3⟩ := s.fr x u hx w
      have e : x ≠ p := fun e => by rw [e, h0] at hx; cases hx
      refine ⟨h1, h2, ?_⟩
      show (if x = p then some M.length else ν.w x) = none
      rw [if_neg e]; exact h3
    · obtain ⟨t, e⟩ := s.mm
      exact ⟨t ++ [p], by show ν.m ++ [p] = _; rw [e, List.append_assoc]⟩
    · show (ν.m ++ [p])[M.length]? = some p
      rw [← r.len]; simp
theorem lc_ok {fin : List D → Store → R D} (hf : FinS K fin) {src : GI} {t : Tg} {own : List Nat} {tt : GT} {te : GE} (hn : t.names.all (fun i => own.contains i) = true) {σV : L2.St} {H : Hp} {Q : VK} (q : tE K W (gLc fin src t own tt te) σV H Q) :
    tLc (tI K W src) (vT K t) (tT K W0 tt) (tE K W0 te) own σV H Q := by
  have hn : ∀ i ∈ t.names, i ∈ own := fun i hi => by
    have := List.all_eq_true.mp hn i hi
    simpa using this
  obtain ⟨ν, σ, M, rl, sl, h⟩ := q
  refine bindG (rep := rI K) rl sl h fun J H1 a ν1 M1 s1 r1 sl1 p1 h1 => ?_
  obtain ⟨G, Y, wk, hG, hY⟩ := p1.ex
  have gdl : ∀ {l : List D} {M2 : Store} {acc : List D}, PostG K W rE ν1 σV H1 Q (lcL a.2 t tt te fin (wipeD σ own) l M2 acc) → gdOk a.2 M2 := by
    intro l M2 acc h
    cases l with
    | nil =>
      rw [lcL] at h
      by_cases g : gdOk a.2 M2
      · exact g
      · rw [if_neg g] at h; exact h.elim
    | cons d r =>
      rw [lcL] at h
      by_cases g : gdOk a.2 M2
      · exact g
      · rw [if_neg g] at h; exact h.elim
  refine U.lc_go wk (Q := fun D H => Q (.ref D) H) (fun p i H2 => ∃ ν2 M2 acc vs, Stp ν1 H1 ν2 H2 ∧ Rel K ν2 M2 H2 ∧ H2 p = some (.lst vs) ∧ ν2.F p = none ∧ ν2.w p = none ∧ Reps ν2.F ν2.m acc vs ∧ PostG K W rE ν1 σV H1 Q (lcL a.2 t tt te fin (wipeD σ own) (a.1.drop i) M2 acc)) ?_ ?_ ?_ ?_
  · intro p H2 np e2 h2
    obtain ⟨r2, s2⟩ := r1.ext e2.s
    refine ⟨ν1, M1, [], [], s2, r2, h2, U.fz_no r1.same np.n, ?_, .nil, by rw [List.drop_zero]; exact h1⟩
    cases e : ν1.w p with
    | none => rfl
    | some n => exact absurd np.n (r1.off p n e).2.1
  · rintro p i H2 np hi ⟨ν2, M2, acc, vs, s2, r2, hp, fp, wp, ra, h2⟩
    exact hG ν2 M2 H2 s2.ff s2.mm r2 (gdl h2)
  · rintro p i x H2 H3 np hi ⟨ν2, M2, acc, vs, s2, r2, hp, fp, wp, ra, h2⟩ y
    have gd := gdl h2
    have ei : a.1[i]? = some a.1[i] := List.getElem?_eq_getElem hi
    obtain ⟨ν3, s3, r3, p3, _⟩ := hY i a.1[i] x ν2 M2 H2 H3 ei s2.ff s2.mm r2 gd y
    obtain ⟨hp3, fp3, wp3⟩ := s3.fr p _ hp wp
    rw [fp] at fp3
    rw [List.drop_eq_getElem_cons hi, lcL, if_pos gd] at h2
    cases e : dT t a.1[i] (wipeD σ own) with
    | none => simp only [e] at h2; exact h2.elim
    | some σ3 =>
      simp only [e] at h2
      have s23 := s2.trans s3
      refine tgt_ok r3.same t p3 (sld_wipe (sl1.mono s23) own) e fun σV' sl' b => U.wipeO_i (wipe_but b hn) ?_
      have ra3 := Reps.stp ra s3
      refine ⟨ν3, σ3, M2, r3, sl', ?_⟩
      revert h2
      cases tt σ3 M2 with
      | ex e M3 => exact fun h => h.elim
      | no => exact fun h => h
      | ok k M3 =>
        intro h ν4 H4 k' s4 r4 ek
        obtain rfl : k = k' := ek
        have s24 := s23.trans s4
        obtain ⟨hp4, fp4, wp4⟩ := s4.fr p _ hp3 wp3
        rw [fp3] at fp4
        have ra4 := Reps.stp ra3 s4
        have h : PostG K W rE ν1 σV H1 Q (if k = true then (te σ3 M3).calm.bind fun y M2 => if acc.length < sizeLine then lcL a.2 t tt te fin (wipeD σ own) (a.1.drop (i + 1)) M2 (acc ++ [y]) else .no else lcL a.2 t tt te fin (wipeD σ own) (a.1.drop (i + 1)) M3 acc) := h
        refine brn_if ?_
        by_cases z : k = true
        · rw [if_pos z] at h ⊢
          refine ⟨ν4, σ3, M3, r4, sl'.mono s4, ?_⟩
          revert h
          cases te σ3 M3 with
          | ex e M4 => exact fun h => h.elim
          | no => exact fun h => h
          | ok yd M4 =>
            intro h ν5 H5 v s5 r5 pv
            have h : PostG K W rE ν1 σV H1 Q (if acc.length < sizeLine then lcL a.2 t tt te fin (wipeD σ own) (a.1.drop (i + 1)) M4 (acc ++ [yd]) else .no) := h
            obtain ⟨hp5, fp5, wp5⟩ := s5.fr p _ hp4 wp4
            rw [fp4] at fp5
            by_cases c : acc.length < sizeLine
            · rw [if_pos c] at h
              refine U.lcEnd_i hp5 (by rw [reps_len ra]; exact c) fun H6 b6 h6 => ?_
              have e6 : Rel K ν5 M4 H6 ∧ Stp ν1 H1 ν5 H6 := by
                have s15 := s24.trans s5
                refine ⟨⟨fun x u hx => b6 x u (fun e => by rw [e, fp5] at hx; cases hx) (r5.same x u hx), r5.len, fun n c a e1 e2 => (r5.cel n c a e1 e2).keep (Same.refl _) ⟨[], by simp⟩ fun x hx hz => ⟨hx, ?_⟩, fun x n hx => ?_⟩, s15.ff, fun x u hx w => ?_, s15.mm⟩
                · obtain ⟨o, eo⟩ := Option.ne_none_iff_exists'.mp hz
                  rw [eo]
                  exact b6 x o (fun e => by rw [e] at hx; have hx : ν5.w p = some n := hx; rw [wp5] at hx; cases hx) eo
                · obtain ⟨q1, q2, q3⟩ := r5.off x n hx
                  refine ⟨q1, ?_, q3⟩
                  obtain ⟨o, eo⟩ := Option.ne_none_iff_exists'.mp q2
                  rw [b6 x o (fun e => by rw [e, wp5] at hx; cases hx) eo]
                  exact fun z => nomatch z
                · obtain ⟨q1, q2, q3⟩ := s15.fr x u hx w
                  exact ⟨b6 x u (fun e => by rw [e, np.n] at hx; cases hx) q1, q2, q3⟩
              exact ⟨ν5, M4, acc ++ [yd], vs ++ [v], e6.2, e6.1, h6, fp5, wp5, reps_app pv (Reps.stp ra4 s5), h⟩
            · rw [if_neg c] at h; exact h.elim
        · rw [if_neg z] at h ⊢
          exact ⟨ν4, M3, acc, vs, s24, r4, hp4, fp4, wp4, ra4, h⟩
  · rintro p H2 np ⟨ν2, M2, acc, vs, s2, r2, hp, fp, wp, ra, h2⟩
    have gd := gdl h2
    rw [List.drop_length, lcL, if_pos gd] at h2
    exact hf W ν1 ν2 M2 H1 H2 p acc vs σV Q s2 np.n r2 hp fp wp ra h2
theorem fts_nil : PTs X [] (tT K W gYes) := ⟨fun pins s σV H Q I q => L2.pts_nil.run pins s σV H Q I (by
  obtain ⟨ν, σ, M, rl, sl, h⟩ := q
  exact ret1 (rep := rT) rl rfl h)⟩
theorem fts_one {c : Expr} {gc : GT} (h : PT X c (tT K W gc)) : PTs X [c] (tT K W gc) := pts_one h
theorem fe_lc {fin : List D → Store → R D} (hf : FinS K fin) {elt tg iter : Expr} {ifs : List Expr} {scope : Scope} {own : List (Str × Nat)} {src : GI} {t : Tg} {tt : GT} {te : GE} (hn : t.names.all (fun i => (own.map (·.2)).contains i) = true) (hc : X.calm = true) (hN : X.N.Nodup) (hi : PI X tg iter (tI K W src)) (ok : BlkOk X.N X.env.scope scope own)
    (hg : ∀ (s : Shared) (H : Hp) (C : Addr) (cl : List (Str × Addr)) (fp : List Addr), PG (X.blk s H scope (compEnvC scope cl C X.env) fp) tg (vT K t)) (ht : ∀ (s : Shared) (H : Hp) (C : Addr) (cl : List (Str × Addr)) (fp : List Addr), PTs (X.blk s H scope (compEnvC scope cl C X.env) fp) ifs (tT K W0 tt))
    (he : ∀ (s : Shared) (H : Hp) (C : Addr) (cl : List (Str × Addr)) (fp : List Addr), PE (X.blk s H scope (compEnvC scope cl C X.env) fp) elt (tE K W0 te)) (hs : ∀ x, foldedSetIterable iter X.env x = pure x := by intro _; rfl) :
    PE X (.ListComp elt [⟨tg, iter, ifs, 0⟩] scope pos) (tE K W (gLc fin src t (own.map (·.2)) tt te)) := pe_is (pe_lc hc hN hi ok hg ht he hs) fun _ _ _ q => lc_ok hf hn q
theorem fs_setLc {fin : List D → Store → R D} (hf : FinS K fin) {i : Nat} {y : Str} {py : Pos} {elt tg iter : Expr} {ifs : List Expr} {scope : Scope} {own : List (Str × Nat)} {spos : Pos} {src : GI} {t : Tg} {tt : GT} {te : GE} (hn : t.names.all (fun i => (own.map (·.2)).contains i) = true) (hc : X.calm = true) (hN : X.N.Nodup) (hy : X.N[i]? = some y) (hyl : X.env.scope.names.lookup y = some .local)
    (hsw : swapsWith (.ListComp elt [⟨tg, iter, ifs, 0⟩] scope pos) (some (.Name y py)) spos.line X.env = pure true) (hi : PI X tg iter (tI K W src)) (ok : BlkOk X.N X.env.scope scope own)
    (hg : ∀ (s : Shared) (H : Hp) (C : Addr) (cl : List (Str × Addr)) (fp : List Addr), PG (X.blk s H scope (compEnvC scope cl C X.env) fp) tg (vT K t)) (ht : ∀ (s : Shared) (H : Hp) (C : Addr) (cl : List (Str × Addr)) (fp : List Addr), PTs (X.blk s H scope (compEnvC scope cl C X.env) fp) ifs (tT K W0 tt))
    (he : ∀ (s : Shared) (H : Hp) (C : Addr) (cl : List (Str × Addr)) (fp : List Addr), PE (X.blk s H scope (compEnvC scope cl C X.env) fp) elt (tE K W0 te)) (hs : ∀ x, foldedSetIterable iter X.env x = pure x := by intro _; rfl) :
    PS X (.Assign [.Name y py] (.ListComp elt [⟨tg, iter, ifs, 0⟩] scope pos) spos) (tS K W (gSet i (gLc fin src t (own.map (·.2)) tt te))) := ps_is (ps_setLc hc hN hy hyl hsw hi ok hg ht he hs) fun Q σV H q => lc_ok hf hn (set_ok q)
end
end Fn

set_option Elab.async false
set_option linter.all false
set_option maxRecDepth 100000
set_option maxHeartbeats 4000000
/-! FH: built-ins, methods, fields -/
namespace Fn
open PySem PySem.Spec PyProof.Rows L2
open U (new new_i new_e cond cond_i cond_e brn brn_i brn_t brn_f uB uTest uVar pe_is ps_is pi_is thnP opt opt_i opt_e Df Bd Rm Nw Ext)
section
variable {X : Cx} {K : PySem.W.Frag} {W : WX} {e a b c : Expr} {es : List Expr} {pos : Pos} {g ga gb : GE} {gs : GA}
/-! ### built-ins by name -/
def gCall (op : List D → Store → R D) (gs : GA) : GE := fun σ M => (gs σ M).bind op
def CalS (K : PySem.W.Frag) (op : List D → Store → R D) (r : List V → Hp → VK → Prop) : Prop := ∀ (W : WX) (ν : Nu) (M : Store) (H : Hp) (ds : List D) (vs : List V) (σV : L2.St) (Q : VK), Rel K ν M H → Reps ν.F ν.m ds vs → PostG K W rE ν σV H Q (op ds M) → r vs H Q
theorem call_ok {op : List D → Store → R D} {r : List V → Hp → VK → Prop} (hs : CalS K op r) {σV : L2.St} {H : Hp} {Q : VK} (q : tE K W (gCall op gs) σV H Q) : tCB r (tA K W gs) σV H Q := by
  obtain ⟨ν, σ, M, rl, sl, h⟩ := q
  exact bindG rl sl h fun vs H1 ds ν1 M1 s1 r1 sl1 p1 h1 => hs W ν1 M1 H1 ds vs σV Q r1 p1 h1
theorem fe_callB {op : List D → Store → R D} {r : List V → Hp → VK → Prop} {id : String} {x : Str} {p : Pos} (hs : CalS K op r) (hc : CallR X (.builtin id) r) (hg : Gl X x) (hm : X.mg x = none) (hv : bootBuiltins x = some (.builtin id)) (ha : PA X (e :: es) (tA K W gs)) (hn : x ≠ "__name__" := by decide) (hdb : (x == ("__debug__" : Str)) = false := by decide)
    (he : starEach (e :: es) X.env = (false, eval e X.env) :: starEach es X.env := by rfl) (hpl : (backTo pos (starEach es X.env)).any (·.1) = false := by rfl) : PE X (.Call (.Name x p) (e :: es) [] pos) (tE K W (gCall op gs)) := pe_is (pe_callB hc hg hm hv ha hn hdb he hpl) fun _ _ _ q => call_ok hs q
theorem fe_callTy {op : List D → Store → R D} {r : List V → Hp → VK → Prop} {T : String} {x : Str} {p : Pos} (hs : CalS K op r) (hc : CallR X (.type T) r) (hg : Gl X x) (hm : X.mg x = none) (hv : bootBuiltins x = some (.type T)) (ha : PA X (e :: es) (tA K W gs)) (hn : x ≠ "__name__" := by decide) (hdb : (x == ("__debug__" : Str)) = false := by decide)
    (he : starEach (e :: es) X.env = (false, eval e X.env) :: starEach es X.env := by rfl) (hpl : (backTo pos (starEach es X.env)).any (·.1) = false := by rfl) : PE X (.Call (.Name x p) (e :: es) [] pos) (tE K W (gCall op gs)) := pe_is (pe_callTy hc hg hm hv ha hn hdb he hpl) fun _ _ _ q => call_ok hs q
def cLen (ds : List D) (M : Store) : R D := match ds with
  | [x] => (match x with
    | .p (.str z) => if z.length ≤ sizeLine then .ok (.p (.int (z.length : Int))) M else .no
    | .seq _ ds => .ok (.p (.int (ds.length : Int))) M
    | x => match seqOf M x with
      | some (_, xs) => .ok (.p (.int (xs.length : Int))) M
      | none => .no)
  | _ => .no
theorem s_len : CalS K cLen (U.gLen K) := by
  intro W ν M H ds vs σV Q rl p h
  match ds, vs, p, h with
  | [x], [u], .cons p .nil, h =>
    have seqs : PostG K W rE ν σV H Q (match seqOf M x with
      | some (_, xs) => .ok (.p (.int (xs.length : Int))) M
      | none => .no) → U.gLen K [u] H Q := by
      intro h
      cases ex : seqOf M x with
      | none => rw [ex] at h; exact h.elim
      | some bx =>
        obtain ⟨b, xs⟩ := bx
        rw [ex] at h
        obtain ⟨a, vs, rfl, h1, h2⟩ := seq_ok rl p ex
        have q : Q (.int (xs.length : Int)) H := ret1 (rep := rE) rl (.p (.int _)) h
        exact U.lenO_i (Rd.sqa h1) (by rw [vs_len h2]; exact q)
    cases p with
    | p p => cases p with
      | str z =>
        have h : PostG K W rE ν σV H Q (if z.length ≤ sizeLine then .ok (.p (.int (z.length : Int))) M else .no) := h
        by_cases c : z.length ≤ sizeLine
        · rw [if_pos c] at h; exact cond_i c (ret1 (rep := rE) rl (.p (.int _)) h)
        · rw [if_neg c] at h; exact h.elim
      | _ => first | exact seqs h | exact h.elim
    | cell _ => exact seqs h
    | seqL h1 h2 => exact U.lenO_i (.inl (.inl (Rd.same rl.same h1))) (by rw [reps_len h2]; exact ret1 (rep := rE) rl (.p (.int _)) h)
    | seqT h1 h2 => exact U.lenO_i (.inr (.inl (Rd.same rl.same h1))) (by rw [reps_len h2]; exact ret1 (rep := rE) rl (.p (.int _)) h)
def cAbs (ds : List D) (M : Store) : R D := match ds with
  | [.p (.int i)] => .ok (.p (.int (if i < 0 then -i else i))) M
  | _ => .no
theorem s_abs : CalS K cAbs U.gAbs := by
  intro W ν M H ds vs σV Q rl p h
  match ds, vs, p, h with
  | [.p (.int i)], _, .cons (.p (.int _)) .nil, h => exact ret1 (rep := rE) rl (.p (.int _)) h
def cInt (ds : List D) (M : Store) : R D := match ds with
  | [.p (.int i)] => .ok (.p (.int i)) M
  | [.p (.bool k)] => .ok (.p (.int (if k then 1 else 0))) M
  | _ => .no
theorem s_int : CalS K cInt U.gInt := by
  intro W ν M H ds vs σV Q rl p h
  match ds, vs, p, h with
  | [.p (.int i)], _, .cons (.p (.int _)) .nil, h => exact ret1 (rep := rE) rl (.p (.int _)) h
  | [.p (.bool i)], _, .cons (.p (.bl _)) .nil, h => exact ret1 (rep := rE) rl (.p (.int _)) h
def cMax (ds : List D) (M : Store) : R D := match ds with
  | [.p (.int i), .p (.int j)] => .ok (.p (.int (max i j))) M
  | _ => .no
theorem s_max : CalS K cMax U.gMax := by
  intro W ν M H ds vs σV Q rl p h
  match ds, vs, p, h with
  | [.p (.int i), .p (.int j)], _, .cons (.p (.int _)) (.cons (.p (.int _)) .nil), h => exact ret1 (rep := rE) rl (.p (.int _)) h
def cMin (ds : List D) (M : Store) : R D := match ds with
  | [.p (.int i), .p (.int j)] => .ok (.p (.int (min i j))) M
  | _ => .no
theorem s_min : CalS K cMin U.gMin := by
  intro W ν M H ds vs σV Q rl p h
  match ds, vs, p, h with
  | [.p (.int i), .p (.int j)], _, .cons (.p (.int _)) (.cons (.p (.int _)) .nil), h => exact ret1 (rep := rE) rl (.p (.int _)) h
def cList (ds : List D) (M : Store) : R D := match ds with
  | [x] => (match seqOf M x with
    | some (_, xs) => .ok (.p (.list xs)) M
    | none => .no)
  | _ => .no
theorem s_list : CalS K cList (U.gList K) := by
  intro W ν M H ds vs σV Q rl p h
  match ds, vs, p, h with
  | [x], [u], .cons p .nil, h =>
    have h : PostG K W rE ν σV H Q (match seqOf M x with | some (_, xs) => .ok (.p (.list xs)) M | none => .no) := h
    cases ex : seqOf M x with
    | none => rw [ex] at h; exact h.elim
    | some bx =>
      obtain ⟨b, xs⟩ := bx
      rw [ex] at h
      obtain ⟨a, vs, rfl, h1, h2⟩ := seq_ok rl p ex
      exact U.listO_i (Rd.sqa h1) (new_i (new_lst rl h2 h))
def cListC (ds : List D) (M : Store) : R D := match ds with
  | [x] => (match seqOf M x with
    | some (_, xs) => .ok (.cell M.length) (M ++ [.lst xs])
    | none => .no)
  | _ => .no
theorem s_listC : CalS K cListC (U.gList K) := by
  intro W ν M H ds vs σV Q rl p h
  match ds, vs, p, h with
  | [x], [u], .cons p .nil, h =>
    have h : PostG K W rE ν σV H Q (match seqOf M x with | some (_, xs) => .ok (.cell M.length) (M ++ [.lst xs]) | none => .no) := h
    cases ex : seqOf M x with
    | none => rw [ex] at h; exact h.elim
    | some bx =>
      obtain ⟨b, xs⟩ := bx
      rw [ex] at h
      obtain ⟨a, vs, rfl, h1, h2⟩ := seq_ok rl p ex
      exact U.listO_i (Rd.sqa h1) (new_i (new_cell rl h2 h))
def cTuple (ds : List D) (M : Store) : R D := match ds with
  | [x] => (match seqOf M x with
    | some (_, xs) => .ok (.p (.tuple xs)) M
    | none => .no)
  | _ => .no
theorem seq_rep {ν : Nu} {M : Store} {H : Hp} {x : D} {v : V} {xs : List PyData} (p : Rep ν.F ν.m x v) (ex : seqOf M x = some (true, xs)) : Rep ν.F ν.m (.p (.tuple xs)) v := by
  cases p with
  | p px => cases px with
    | lst _ _ => cases ex
    | tup k1 k2 => cases ex; exact .p (.tup k1 k2)
    | _ => cases ex
  | @cell n _ _ =>
    have ex : (match M[n]? with | some (.lst xs) => some (false, xs) | _ => none) = some (true, xs) := ex
    cases e : M[n]? with
    | none => rw [e] at ex; cases ex
    | some c => rw [e] at ex; cases c <;> cases ex
  | seqL _ _ => cases ex
  | seqT _ _ => cases ex
theorem s_tuple : CalS K cTuple (U.gTuple K) := by
  intro W ν M H ds vs σV Q rl p h
  match ds, vs, p, h with
  | [x], [u], .cons p .nil, h =>
    have h : PostG K W rE ν σV H Q (match seqOf M x with | some (_, xs) => .ok (.p (.tuple xs)) M | none => .no) := h
    cases ex : seqOf M x with
    | none => rw [ex] at h; exact h.elim
    | some bx =>
      obtain ⟨b, xs⟩ := bx
      rw [ex] at h
      obtain ⟨a, vs, rfl, h1, h2⟩ := seq_ok rl p ex
      cases b with
      | false => exact U.tupO_l (.inl h1) (new_i (new_tup rl h2 h))
      | true => exact U.tupO_t (.inl h1) (ret1 (rep := rE) rl (seq_rep (H := H) p ex) h)
def cStr (ds : List D) (M : Store) : R D := match ds with
  | [.p (.str z)] => .ok (.p (.str z)) M
  | [.p (.int i)] => if i.natAbs.log2 < 1920 then .ok (.p (.str (toString i))) M else .no
  | _ => .no
theorem s_str : CalS K cStr U.gStr := by
  intro W ν M H ds vs σV Q rl p h
  match ds, vs, p, h with
  | [.p (.str i)], _, .cons (.p (.str _)) .nil, h => exact ret1 (rep := rE) rl (.p (.str _)) h
  | [.p (.int i)], _, .cons (.p (.int _)) .nil, h =>
    have h : PostG K W rE ν σV H Q (if i.natAbs.log2 < 1920 then .ok (.p (.str (toString i))) M else .no) := h
    by_cases c : i.natAbs.log2 < 1920
    · rw [if_pos c] at h; exact cond_i c (ret1 (rep := rE) rl (.p (.str _)) h)
    · rw [if_neg c] at h; exact h.elim
def boolsOf : List PyData → Option (List Bool)
  | [] => some []
  | .bool b :: r => match boolsOf r with
    | some bs => some (b :: bs)
    | none => none
  | _ => none
theorem boolsOf_map : ∀ bs : List Bool, boolsOf (bs.map .bool) = some bs
  | [] => rfl
  | b :: r => by rw [List.map_cons, boolsOf, boolsOf_map r]
theorem bools_ok {F : Hp} : ∀ {xs : List PyData} {vs : List V} {bs : List Bool}, Vs F vs xs → boolsOf xs = some bs → vs = bs.map V.bl
  | [], _, _, .nil, h => by cases h; rfl
  | .bool b :: r, _, bs, .cons (.bl _) a, h => by
    rw [boolsOf] at h
    cases e : boolsOf r with
    | none => rw [e] at h; cases h
    | some cs => rw [e] at h; cases h; rw [bools_ok a e]; rfl
def cAll (all : Bool) (ds : List D) (M : Store) : R D := match ds with
  | [x] => (match seqOf M x with
    | some (false, xs) => (match boolsOf xs with
      | some bs => .ok (.p (.bool (if all then bs.all id else bs.any id))) M
      | none => .no)
    | _ => .no)
  | _ => .no
theorem s_all {all : Bool} : CalS K (cAll all) (U.gAll K all) := by
  intro W ν M H ds vs σV Q rl p h
  match ds, vs, p, h with
  | [x], [u], .cons p .nil, h =>
    have h : PostG K W rE ν σV H Q (match seqOf M x with
      | some (false, xs) => (match boolsOf xs with
        | some bs => .ok (.p (.bool (if all then bs.all id else bs.any id))) M
        | none => .no)
      | _ => .no) := h
    cases ex : seqOf M x with
    | none => rw [ex] at h; exact h.elim
    | some bx =>
      obtain ⟨b, xs⟩ := bx
      rw [ex] at h
      obtain ⟨a, vs, rfl, h1, h2⟩ := seq_ok rl p ex
      cases b with
      | true => exact h.elim
      | false =>
        have h : PostG K W rE ν σV H Q (match boolsOf xs with
          | some bs => .ok (.p (.bool (if all then bs.all id else bs.any id))) M
          | none => .no) := h
        cases e : boolsOf xs with
        | none => rw [e] at h; exact h.elim
        | some bs =>
          rw [e] at h
          refine U.allO_i (bs := bs) ?_ (ret1 (rep := rE) rl (.p (.bl _)) h)
          rw [← bools_ok h2 e]
          exact .inl h1
def shB (d : PyData) : Bool := d.showable && !d.hasDict && decide (d.depth ≤ 20) && decide (d.shown.length ≤ sizeLine)
def cRepr (ds : List D) (M : Store) : R D := match ds with
  | [x] => (match dat M x with
    | some d => if shB d = true then .ok (.p (.str d.shown)) M else .no
    | none => .no)
  | _ => .no
theorem s_repr : CalS K cRepr (U.gRep K) := by
  intro W ν M H ds vs σV Q rl p h
  match ds, vs, p, h with
  | [x], [u], .cons p .nil, h =>
    have h : PostG K W rE ν σV H Q (match dat M x with
      | some d => if shB d = true then .ok (.p (.str d.shown)) M else .no
      | none => .no) := h
    cases ex : dat M x with
    | none => rw [ex] at h; exact h.elim
    | some d =>
      rw [ex] at h
      have h : PostG K W rE ν σV H Q (if shB d = true then .ok (.p (.str d.shown)) M else .no) := h
      by_cases c : shB d = true
      · rw [if_pos c] at h
        unfold shB at c
        simp only [Bool.and_eq_true, decide_eq_true_eq, Bool.not_eq_true'] at c
        exact U.repO_i (dat_ok rl p ex) (n := 20) ⟨c.1.1.1, c.1.1.2, c.1.2⟩ (by decide) c.2 (ret1 (rep := rE) rl (.p (.str _)) h)
      · rw [if_neg c] at h; exact h.elim
/-! ### isinstance of built-in types -/
inductive Kd where | int | bool | str | non | list | tuple
inductive Ty where | int | bool | str | list | tuple
def Ty.nm : Ty → String
  | .int => "int" | .bool => "bool" | .str => "str" | .list => "list" | .tuple => "tuple"
def kdOf (M : Store) : D → Option Kd
  | .p (.int _) => some .int
  | .p (.bool _) => some .bool
  | .p (.str _) => some .str
  | .p .none => some .non
  | .p (.list _) => some .list
  | .p (.tuple _) => some .tuple
  | .seq false _ => some .list
  | .seq true _ => some .tuple
  | .cell n => match M[n]? with
    | some (.lst _) => some .list
    | _ => none
  | _ => none
def isiB : Kd → Ty → Bool
  | .int, .int => true | .bool, .int => true | .bool, .bool => true | .str, .str => true | .list, .list => true | .tuple, .tuple => true
  | _, _ => false
def KdAt (K : PySem.W.Frag) (H : Hp) : Kd → V → Prop
  | .int, v => ∃ i, v = .int i
  | .bool, v => ∃ i, v = .bl i
  | .str, v => ∃ i, v = .str i
  | .non, v => v = .non
  | .list, v => ∃ a xs, v = .ref a ∧ SqL K H a xs
  | .tuple, v => ∃ a xs, v = .ref a ∧ SqT K H a xs
theorem kd_ok {ν : Nu} {M : Store} {H : Hp} {x : D} {v : V} {k : Kd} (r : Rel K ν M H) (p : Rep ν.F ν.m x v) (h : kdOf M x = some k) : KdAt K H k v := by
  cases p with
  | p p => cases p with
    | lst h1 _ => cases h; exact ⟨_, _, rfl, .inl (Rd.same r.same h1)⟩
    | tup h1 _ => cases h; exact ⟨_, _, rfl, .inl (Rd.same r.same h1)⟩
    | non => cases h; rfl
    | _ => cases h; exact ⟨_, rfl⟩
  | @cell n _ hn =>
    have h : (match M[n]? with | some (.lst _) => some Kd.list | _ => none) = some k := h
    cases e : M[n]? with
    | none => rw [e] at h; cases h
    | some c =>
      rw [e] at h
      cases c with
      | lst xs =>
        cases h
        cases r.cel n _ _ e hn with
        | lst h1 h2 h3 => exact ⟨_, _, rfl, .inl (.inl h2)⟩
      | _ => cases h
  | seqL h1 _ => cases h; exact ⟨_, _, rfl, .inl (Rd.same r.same h1)⟩
  | seqT h1 _ => cases h; exact ⟨_, _, rfl, .inl (Rd.same r.same h1)⟩
theorem isi_ok {H : Hp} {v : V} {k : Kd} {t : Ty} {Q : VK} (h : KdAt K H k v) (q : Q (.bl (isiB k t)) H) : U.isiO K v t.nm H Q := by
  cases k with
  | int => obtain ⟨i, rfl⟩ := h; cases t <;> first | exact U.isi_int_int q | exact U.isi_int_bool q | exact U.isi_int_str q | exact U.isi_int_list q | exact U.isi_int_tuple q
  | bool => obtain ⟨i, rfl⟩ := h; cases t <;> first | exact U.isi_bl_int q | exact U.isi_bl_bool q | exact U.isi_bl_str q | exact U.isi_bl_list q | exact U.isi_bl_tuple q
  | str => obtain ⟨i, rfl⟩ := h; cases t <;> first | exact U.isi_str_int q | exact U.isi_str_bool q | exact U.isi_str_str q | exact U.isi_str_list q | exact U.isi_str_tuple q
  | non => obtain rfl := h; cases t <;> first | exact U.isi_non_int q | exact U.isi_non_bool q | exact U.isi_non_str q | exact U.isi_non_list q | exact U.isi_non_tuple q
  | list => obtain ⟨a, xs, rfl, h⟩ := h; cases t <;> first | exact U.isi_l_int h q | exact U.isi_l_bool h q | exact U.isi_l_str h q | exact U.isi_l_list h q | exact U.isi_l_tuple h q
  | tuple => obtain ⟨a, xs, rfl, h⟩ := h; cases t <;> first | exact U.isi_t_int h q | exact U.isi_t_bool h q | exact U.isi_t_str h q | exact U.isi_t_list h q | exact U.isi_t_tuple h q
def gIsi (t : Ty) (g : GE) : GE := fun σ M => (g σ M).bind fun x M1 => match kdOf M1 x with
  | some k => .ok (.p (.bool (isiB k t))) M1
  | none => .no
theorem fe_isi {x2 : Expr} (t : Ty) {p : Pos} (hK : X.K = K) (hg : Gl X "isinstance") (hm : X.mg "isinstance" = none) (hv : bootBuiltins "isinstance" = some (.builtin "isinstance")) (ha : PE X a (tE K W g)) (hb : PE X x2 (tC (.ty t.nm)))
    (hs1 : starEach [a, x2] X.env = (false, eval a X.env) :: starEach [x2] X.env := by rfl) (hs2 : starEach [x2] X.env = [(false, eval x2 X.env)] := by rfl) (hpl : (backTo pos (starEach [x2] X.env)).any (·.1) = false := by rfl) :
    PE X (.Call (.Name "isinstance" p) [a, x2] [] pos) (tE K W (gIsi t g)) := pe_is (pe_callB (U.c_isiK K hK) hg hm hv (pa_cons ha (pa_cons hb pa_nil hs2) hs1) (by decide) (by decide) hs1 hpl) fun σV H Q q => by
  obtain ⟨ν, σ, M, rl, sl, h⟩ := q
  show tE K W g σV H fun u H1 => U.isiO K u t.nm H1 Q
  refine bindG rl sl h fun u H1 x ν1 M1 s1 r1 sl1 p1 h1 => ?_
  cases e : kdOf M1 x with
  | none => simp only [e] at h1; exact h1.elim
  | some k =>
    simp only [e] at h1
    exact isi_ok (kd_ok r1 p1 e) (ret1 (rep := rE) r1 (.p (.bl _)) h1)
def gIsiLT (g : GE) : GE := fun σ M => (g σ M).bind fun x M1 => match kdOf M1 x with
  | some k => .ok (.p (.bool (isiB k .list || isiB k .tuple))) M1
  | none => .no
theorem fe_isiLT {x2 : Expr} {p : Pos} (hK : X.K = K) (hg : Gl X "isinstance") (hm : X.mg "isinstance" = none) (hv : bootBuiltins "isinstance" = some (.builtin "isinstance")) (ha : PE X a (tE K W g)) (hb : PE X x2 (U.uTup (tCons (tC (.ty "list")) (tCons (tC (.ty "tuple")) tNil))))
    (hs1 : starEach [a, x2] X.env = (false, eval a X.env) :: starEach [x2] X.env := by rfl) (hs2 : starEach [x2] X.env = [(false, eval x2 X.env)] := by rfl) (hpl : (backTo pos (starEach [x2] X.env)).any (·.1) = false := by rfl) :
    PE X (.Call (.Name "isinstance" p) [a, x2] [] pos) (tE K W (gIsiLT g)) := pe_is (pe_callB (U.c_isiK K hK) hg hm hv (pa_cons ha (pa_cons hb pa_nil hs2) hs1) (by decide) (by decide) hs1 hpl) fun σV H Q q => by
  obtain ⟨ν, σ, M, rl, sl, h⟩ := q
  show tE K W g σV H fun u H1 => cond (2 ≤ sizeLine) (new H1 (.tup [.ty "list", .ty "tuple"]) fun t H2 => U.gIsi K [u, t] H2 Q)
  refine bindG rl sl h fun u H1 x ν1 M1 s1 r1 sl1 p1 h1 => cond_i (by decide) (new_i fun tp hp => ?_)
  cases e : kdOf M1 x with
  | none => simp only [e] at h1; exact h1.elim
  | some k =>
    simp only [e] at h1
    obtain ⟨r2, s2⟩ := r1.new hp (.tup [.ty "list", .ty "tuple"])
    have q : Q (.bl (isiB k .list || isiB k .tuple)) (upd H1 tp (.tup [.ty "list", .ty "tuple"])) := retN (rep := rE) (b := .bl (isiB k .list || isiB k .tuple)) h1 s2 r2 (.p (.bl _))
    have kd := kd_ok (K := K) (ν := ⟨upd ν1.F tp (.tup [.ty "list", .ty "tuple"]), ν1.m, ν1.w⟩) (M := M1) r2 (p1.mono s2.ff s2.mm) e
    show U.isiTO K u tp _ Q
    have hup : upd H1 tp (.tup [.ty "list", .ty "tuple"]) tp = some (.tup [.ty "list", .ty "tuple"]) := upd_same
    cases k with
    | int => obtain ⟨i, rfl⟩ := kd; exact U.isiTO_i hup (.base (.int i)) (b := false) (by kernel_rfl) q
    | bool => obtain ⟨i, rfl⟩ := kd; exact U.isiTO_i hup (.base (.bl i)) (b := false) (by kernel_rfl) q
    | str => obtain ⟨i, rfl⟩ := kd; exact U.isiTO_i hup (.base (.str i)) (b := false) (by kernel_rfl) q
    | non => obtain rfl := kd; exact U.isiTO_i hup (.base .non) (b := false) (by kernel_rfl) q
    | list => obtain ⟨a, xs, rfl, h⟩ := kd; exact U.isiT_l hup h q
    | tuple => obtain ⟨a, xs, rfl, h⟩ := kd; exact U.isiT_t hup h q
/-! ### methods of built-in types -/
def MetS (K : PySem.W.Frag) (op : D → List D → Store → R D) (r : V → List V → Hp → VK → Prop) : Prop := ∀ (W : WX) (ν : Nu) (M : Store) (H : Hp) (x : D) (u : V) (ds : List D) (vs : List V) (σV : L2.St) (Q : VK), Rel K ν M H → Rep ν.F ν.m x u → Reps ν.F ν.m ds vs → PostG K W rE ν σV H Q (op x ds M) → r u vs H Q
def tyD (T : String) (M : Store) (x : D) : Bool := match kdOf M x with
  | some .list => T == "list"
  | some .str => T == "str"
  | _ => false
theorem tyD_ok {T : String} {ν : Nu} {M : Store} {H : Hp} {x : D} {v : V} {A : Prop} (r : Rel K ν M H) (p : Rep ν.F ν.m x v) (h : tyD T M x = true) (q : A) : U.isL K T v H A := by
  unfold tyD at h
  cases e : kdOf M x with
  | none => rw [e] at h; cases h
  | some k =>
    rw [e] at h
    have kd := kd_ok r p e
    cases k with
    | list =>
      obtain ⟨a, xs, rfl, h2⟩ := kd
      have : T = "list" := by simpa using h
      subst this
      exact U.isL_l h2 q
    | str =>
      obtain ⟨a, rfl⟩ := kd
      have : T = "str" := by simpa using h
      subst this
      exact U.isL_s q
    | _ => cases h
def gMet (T : String) (op : D → List D → Store → R D) (go : GE) (gs : GA) : GE := fun σ M => (go σ M).bind fun x M1 => if tyD T M1 x = true then (gs σ M1).bind fun ds M2 => op x ds M2 else .no
theorem fe_met {op : D → List D → Store → R D} {r : V → List V → Hp → VK → Prop} {T id : String} {name : Str} {o : Expr} {go : GE} {apos : Pos} (hs : MetS K op r) (hK : X.K = K) (pa : PlainAttrs T) (slot : Slot T name id) (hty : typeOf (.builtin id) = pure (.type "method_descriptor")) (hm : MtR X id r) (ho : PE X o (tE K W go)) (ha : PA X (e :: es) (tA K W gs))
    (hbase : attributeBase o name X.env (eval o X.env) = eval o X.env := by rfl)
    (hfew : ((backTo pos (starEach (e :: es) X.env)).all (fun x => !x.1) && (backToKw pos (keywordEach [] X.env)).all (fun x => x.1.isSome)
      && decide ((e :: es).length + ([] : List Keyword).length + (if ([] : List Keyword).isEmpty then 0 else 1) < 30)) = true := by rfl)
    (hline : (apos.endLine == pos.line) = true := by rfl) (hst : starEach (e :: es) X.env = (false, eval e X.env) :: starEach es X.env := by rfl) (hplain : (backTo pos (starEach es X.env)).any (·.1) = false := by rfl) :
    PE X (.Call (.Attribute o name apos) (e :: es) [] pos) (tE K W (gMet T op go gs)) := pe_is (U.u_bmK K hK (pe_bm pa slot hty hm ho ha hbase hfew hline hst hplain)) fun σV H Q q => by
  obtain ⟨ν, σ, M, rl, sl, h⟩ := q
  show tE K W go σV H fun x H1 => U.isL K T x H1 (tA K W gs σV H1 fun xs H2 => r x xs H2 Q)
  refine bindG rl sl h fun u H1 x ν1 M1 s1 r1 sl1 p1 h1 => ?_
  by_cases c : tyD T M1 x = true
  · rw [if_pos c] at h1
    exact tyD_ok r1 p1 c (bindG r1 sl1 h1 fun vs H2 ds ν2 M2 s2 r2 sl2 p2 h2 => hs W ν2 M2 H2 x u ds vs σV Q r2 (Rep.stp p1 s2) p2 h2)
  · rw [if_neg c] at h1; exact h1.elim
def gMet0 (T : String) (op : D → List D → Store → R D) (go : GE) : GE := fun σ M => (go σ M).bind fun x M1 => if tyD T M1 x = true then op x [] M1 else .no
theorem fe_met0 {op : D → List D → Store → R D} {r : V → List V → Hp → VK → Prop} {T id : String} {name : Str} {o : Expr} {go : GE} {apos : Pos} (hs : MetS K op r) (hK : X.K = K) (pa : PlainAttrs T) (slot : Slot T name id) (hty : typeOf (.builtin id) = pure (.type "method_descriptor")) (hm : MtR X id r) (ho : PE X o (tE K W go))
    (hbase : attributeBase o name X.env (eval o X.env) = eval o X.env := by rfl) (hline : (apos.endLine == pos.line) = true := by rfl) :
    PE X (.Call (.Attribute o name apos) [] [] pos) (tE K W (gMet0 T op go)) := pe_is (U.u_bm0K K hK (pe_bm0 pa slot hty hm ho hbase hline)) fun σV H Q q => by
  obtain ⟨ν, σ, M, rl, sl, h⟩ := q
  show tE K W go σV H fun x H1 => U.isL K T x H1 (r x [] H1 Q)
  refine bindG rl sl h fun u H1 x ν1 M1 s1 r1 sl1 p1 h1 => ?_
  by_cases c : tyD T M1 x = true
  · rw [if_pos c] at h1
    exact tyD_ok r1 p1 c (hs W ν1 M1 H1 x u [] [] σV Q r1 p1 .nil h1)
  · rw [if_neg c] at h1; exact h1.elim
/-- the list of a cell -/
def lstAt (M : Store) : D → Option (Nat × List PyData)
  | .cell n => match M[n]? with
    | some (.lst xs) => some (n, xs)
    | _ => none
  | _ => none
theorem lst_cell {ν : Nu} {M : Store} {H : Hp} {x : D} {v : V} {n : Nat} {xs : List PyData} (r : Rel K ν M H) (p : Rep ν.F ν.m x v) (h : lstAt M x = some (n, xs)) :
    ∃ a vs, v = .ref a ∧ H a = some (.lst vs) ∧ Vs ν.F vs xs ∧ ∀ (vs' : List V) (xs' : List PyData), Vs ν.F vs' xs' → ∃ ν', Rel K ν' (M.set n (.lst xs')) (upd H a (.lst vs')) ∧ Stp ν H ν' (upd H a (.lst vs')) ∧ ν'.F = ν.F ∧ ν'.m = ν.m := by
  cases p with
  | @cell k a hn =>
    have h : (match M[k]? with | some (.lst xs) => some (k, xs) | _ => none) = some (n, xs) := h
    cases e : M[k]? with
    | none => rw [e] at h; cases h
    | some c =>
      rw [e] at h
      cases c with
      | lst ys =>
        cases h
        cases r.cel _ _ _ e hn with
        | lst h1 h2 h3 =>
          refine ⟨a, _, rfl, h2, h3, fun vs' xs' hv => ?_⟩
          obtain ⟨q1, q2⟩ := r.put (o := .lst vs') (c := .lst xs') e hn h1 (.lst rfl upd_same hv)
          exact ⟨_, q1, q2, rfl, rfl⟩
      | _ => cases h
  | _ => cases h
def mApp (x : D) (ds : List D) (M : Store) : R D := match lstAt M x, ds with
  | some (n, xs), [.p y] => if xs.length < sizeLine then .ok (.p .none) (M.set n (.lst (xs ++ [y]))) else .no
  | _, _ => .no
theorem s_app : MetS K mApp U.gApp := by
  intro W ν M H x u ds vs σV Q rl px pd h
  unfold mApp at h
  cases e : lstAt M x with
  | none => rw [e] at h; exact h.elim
  | some q =>
    obtain ⟨n, xs⟩ := q
    rw [e] at h
    obtain ⟨a, ws, rfl, ha, hv, put⟩ := lst_cell rl px e
    match ds, vs, pd, h with
    | [.p y], [v], .cons (.p pv) .nil, h =>
      have h : PostG K W rE ν σV H Q (if xs.length < sizeLine then .ok (.p .none) (M.set n (.lst (xs ++ [y]))) else .no) := h
      by_cases c : xs.length < sizeLine
      · rw [if_pos c] at h
        obtain ⟨ν', r', s', _⟩ := put (ws ++ [v]) (xs ++ [y]) (vs_app hv (.cons pv .nil))
        exact U.appO_i ha (by rw [vs_len hv]; exact c) (retN (rep := rE) (b := .non) h s' r' (.p .non))
      · rw [if_neg c] at h; exact h.elim
def mClr (x : D) (ds : List D) (M : Store) : R D := match lstAt M x, ds with
  | some (n, xs), [] => .ok (.p .none) (M.set n (.lst []))
  | _, _ => .no
theorem s_clr : MetS K mClr U.gClr := by
  intro W ν M H x u ds vs σV Q rl px pd h
  unfold mClr at h
  cases e : lstAt M x with
  | none => rw [e] at h; exact h.elim
  | some q =>
    obtain ⟨n, xs⟩ := q
    rw [e] at h
    obtain ⟨a, ws, rfl, ha, hv, put⟩ := lst_cell rl px e
    match ds, vs, pd, h with
    | [], [], .nil, h =>
      obtain ⟨ν', r', s', _⟩ := put [] [] .nil
      show U.clrO a H Q
      unfold U.clrO
      exact ⟨ws, ha, retN (rep := rE) (b := .non) h s' r' (.p .non)⟩
def mIns (x : D) (ds : List D) (M : Store) : R D := match lstAt M x, ds with
  | some (n, xs), [.p (.int i), .p y] => if xs.length < sizeLine ∧ 0 ≤ i ∧ i < 2 ^ 63 then .ok (.p .none) (M.set n (.lst (xs.take i.toNat ++ [y] ++ xs.drop i.toNat))) else .no
  | _, _ => .no
def rIns : V → List V → Hp → VK → Prop := fun x vs H Q => ∃ (l : Addr) (xs : List V) (i : Int) (y : V), x = .ref l ∧ vs = [.int i, y] ∧ H l = some (.lst xs) ∧ xs.length < sizeLine ∧ 0 ≤ i ∧ i < 2 ^ 63 ∧ Q .non (upd H l (.lst (xs.take i.toNat ++ [y] ++ xs.drop i.toNat)))
theorem m_ins : MtR X "list.insert" rIns := mt_insert
theorem s_ins : MetS K mIns rIns := by
  intro W ν M H x u ds vs σV Q rl px pd h
  unfold mIns at h
  cases e : lstAt M x with
  | none => rw [e] at h; exact h.elim
  | some q =>
    obtain ⟨n, xs⟩ := q
    rw [e] at h
    obtain ⟨a, ws, rfl, ha, hv, put⟩ := lst_cell rl px e
    match ds, vs, pd, h with
    | [.p (.int i), .p y], [_, v], .cons (.p (.int _)) (.cons (.p pv) .nil), h =>
      have h : PostG K W rE ν σV H Q (if xs.length < sizeLine ∧ 0 ≤ i ∧ i < 2 ^ 63 then .ok (.p .none) (M.set n (.lst (xs.take i.toNat ++ [y] ++ xs.drop i.toNat))) else .no) := h
      by_cases c : xs.length < sizeLine ∧ 0 ≤ i ∧ i < 2 ^ 63
      · rw [if_pos c] at h
        obtain ⟨ν', r', s', _⟩ := put (ws.take i.toNat ++ [v] ++ ws.drop i.toNat) (xs.take i.toNat ++ [y] ++ xs.drop i.toNat) (vs_app (vs_app (vs_take _ hv) (.cons pv .nil)) (vs_drop _ hv))
        exact ⟨a, ws, i, v, rfl, rfl, ha, by rw [vs_len hv]; exact c.1, c.2.1, c.2.2, retN (rep := rE) (b := .non) h s' r' (.p .non)⟩
      · rw [if_neg c] at h; exact h.elim
theorem vs_rev {F : Hp} : ∀ {vs : List V} {ds : List PyData}, Vs F vs ds → Vs F vs.reverse ds.reverse
  | _, _, .nil => .nil
  | _, _, .cons h a => by rw [List.reverse_cons, List.reverse_cons]; exact vs_app (vs_rev a) (.cons h .nil)
def mRev (x : D) (ds : List D) (M : Store) : R D := match lstAt M x, ds with
  | some (n, xs), [] => .ok (.p .none) (M.set n (.lst xs.reverse))
  | _, _ => .no
theorem s_rev : MetS K mRev rReverse := by
  intro W ν M H x u ds vs σV Q rl px pd h
  unfold mRev at h
  cases e : lstAt M x with
  | none => rw [e] at h; exact h.elim
  | some q =>
    obtain ⟨n, xs⟩ := q
    rw [e] at h
    obtain ⟨a, ws, rfl, ha, hv, put⟩ := lst_cell rl px e
    match ds, vs, pd, h with
    | [], [], .nil, h =>
      obtain ⟨ν', r', s', _⟩ := put ws.reverse xs.reverse (vs_rev hv)
      exact ⟨a, ws, rfl, rfl, ha, retN (rep := rE) (b := .non) h s' r' (.p .non)⟩
theorem vs_dropLast {F : Hp} {vs : List V} {ds : List PyData} (h : Vs F vs ds) : Vs F vs.dropLast ds.dropLast := by
  rw [List.dropLast_eq_take, List.dropLast_eq_take, vs_len h]
  exact vs_take _ h
def mPop (x : D) (ds : List D) (M : Store) : R D := match lstAt M x, ds with
  | some (n, xs), [] => (match xs[xs.length - 1]? with
    | some y => .ok (.p y) (M.set n (.lst xs.dropLast))
    | none => .no)
  | _, _ => .no
theorem s_pop : MetS K mPop rPop := by
  intro W ν M H x u ds vs σV Q rl px pd h
  unfold mPop at h
  cases e : lstAt M x with
  | none => rw [e] at h; exact h.elim
  | some q =>
    obtain ⟨n, xs⟩ := q
    rw [e] at h
    obtain ⟨a, ws, rfl, ha, hv, put⟩ := lst_cell rl px e
    match ds, vs, pd, h with
    | [], [], .nil, h =>
      have h : PostG K W rE ν σV H Q (match xs[xs.length - 1]? with | some y => .ok (.p y) (M.set n (.lst xs.dropLast)) | none => .no) := h
      cases e2 : xs[xs.length - 1]? with
      | none => rw [e2] at h; exact h.elim
      | some y =>
        rw [e2] at h
        obtain ⟨w, e3, pw⟩ := vs_get hv e2
        obtain ⟨ν', r', s', f', _⟩ := put ws.dropLast xs.dropLast (vs_dropLast hv)
        exact ⟨a, ws, w, rfl, rfl, ha, by rw [vs_len hv]; exact e3, retN (rep := rE) h s' r' (.p (by rw [f']; exact pw))⟩
def idxEq (d : PyData) : List PyData → Option Nat
  | [] => none
  | z :: r => if PyData.eqv z d = true then some 0 else match idxEq d r with
    | some j => some (j + 1)
    | none => none
theorem idxEq_ok {d : PyData} : ∀ {ds : List PyData} {j : Nat}, idxEq d ds = some j → ∃ z, ds[j]? = some z ∧ PyData.eqv z d = true ∧ ∀ (m : Nat) (z' : PyData), m < j → ds[m]? = some z' → PyData.eqv z' d = false
  | z :: r, j, h => by
    rw [idxEq] at h
    by_cases c : PyData.eqv z d = true
    · rw [if_pos c] at h; cases h
      exact ⟨z, rfl, c, fun m _ hm => absurd hm (by omega)⟩
    · rw [if_neg c] at h
      cases e : idxEq d r with
      | none => rw [e] at h; cases h
      | some i =>
        rw [e] at h; cases h
        obtain ⟨z2, h1, h2, h3⟩ := idxEq_ok e
        refine ⟨z2, by simpa using h1, h2, fun m z' hm hz => ?_⟩
        cases m with
        | zero =>
          simp at hz
          subst hz
          simpa using c
        | succ m => exact h3 m z' (by omega) (by simpa using hz)
def mInd (x : D) (ds : List D) (M : Store) : R D := match dat M x, ds with
  | some (.list xs), [y] => (match dat M y with
    | some d => if SeqAt.shaped (.list xs) = true ∧ SeqAt.shaped d = true then (match idxEq d xs with
      | some j => .ok (.p (.int (j : Nat))) M
      | none => .no) else .no
    | none => .no)
  | _, _ => .no
theorem s_ind : MetS K mInd (U.gInd K) := by
  intro W ν M H x u ds vs σV Q rl px pd h
  unfold mInd at h
  cases e : dat M x with
  | none => rw [e] at h; exact h.elim
  | some q =>
    rw [e] at h
    have dx := dat_ok rl px e
    cases q with
    | list xs =>
      match ds, vs, pd, h with
      | [y], [v], .cons py .nil, h =>
        have h : PostG K W rE ν σV H Q (match dat M y with
          | some d => if SeqAt.shaped (.list xs) = true ∧ SeqAt.shaped d = true then (match idxEq d xs with
            | some j => .ok (.p (.int (j : Nat))) M
            | none => .no) else .no
          | none => .no) := h
        cases e2 : dat M y with
        | none => rw [e2] at h; exact h.elim
        | some d =>
          rw [e2] at h
          have h : PostG K W rE ν σV H Q (if SeqAt.shaped (.list xs) = true ∧ SeqAt.shaped d = true then (match idxEq d xs with
            | some j => .ok (.p (.int (j : Nat))) M
            | none => .no) else .no) := h
          by_cases c : SeqAt.shaped (.list xs) = true ∧ SeqAt.shaped d = true
          · rw [if_pos c] at h
            cases e3 : idxEq d xs with
            | none => rw [e3] at h; exact h.elim
            | some j =>
              rw [e3] at h
              obtain ⟨z, h1, h2, h3⟩ := idxEq_ok e3
              cases dx with
              | lst k1 k2 =>
                show U.indO K _ v H Q
                unfold U.indO
                exact ⟨d, xs, j, z, .lst k1 k2, dat_ok rl py e2, c.1, c.2, h1, h2, h3, ret1 (rep := rE) rl (.p (.int _)) h⟩
          · rw [if_neg c] at h; exact h.elim
    | _ => exact h.elim
/-- texts -/
def strsOf : List PyData → Option (List Str)
  | [] => some []
  | .str b :: r => match strsOf r with
    | some bs => some (b :: bs)
    | none => none
  | _ => none
theorem strsOf_map : ∀ bs : List Str, strsOf (bs.map .str) = some bs
  | [] => rfl
  | b :: r => by rw [List.map_cons, strsOf, strsOf_map r]
theorem strs_ok {F : Hp} : ∀ {xs : List PyData} {vs : List V} {bs : List Str}, Vs F vs xs → strsOf xs = some bs → vs = bs.map V.str
  | [], _, _, .nil, h => by cases h; rfl
  | .str b :: r, _, bs, .cons (.str _) a, h => by
    rw [strsOf] at h
    cases e : strsOf r with
    | none => rw [e] at h; cases h
    | some cs => rw [e] at h; cases h; rw [strs_ok a e]; rfl
def mJoin (x : D) (ds : List D) (M : Store) : R D := match x, ds with
  | .p (.str z), [y] => (match seqOf M y with
    | some (_, xs) => (match strsOf xs with
      | some ys => if (ys.map (·.length)).sum + ys.length * z.length ≤ 16777216 then .ok (.p (.str (Str.join z ys))) M else .no
      | none => .no)
    | none => .no)
  | _, _ => .no
theorem s_join : MetS K mJoin (U.gJoin K) := by
  intro W ν M H x u ds vs σV Q rl px pd h
  match x, u, px, ds, vs, pd, h with
  | .p (.str z), _, .p (.str _), [y], [v], .cons py .nil, h =>
    have h : PostG K W rE ν σV H Q (match seqOf M y with
      | some (_, xs) => (match strsOf xs with
        | some ys => if (ys.map (·.length)).sum + ys.length * z.length ≤ 16777216 then .ok (.p (.str (Str.join z ys))) M else .no
        | none => .no)
      | none => .no) := h
    cases e : seqOf M y with
    | none => rw [e] at h; exact h.elim
    | some q =>
      obtain ⟨b, xs⟩ := q
      rw [e] at h
      obtain ⟨a, ws, rfl, h1, h2⟩ := seq_ok rl py e
      have h : PostG K W rE ν σV H Q (match strsOf xs with
        | some ys => if (ys.map (·.length)).sum + ys.length * z.length ≤ 16777216 then .ok (.p (.str (Str.join z ys))) M else .no
        | none => .no) := h
      cases e2 : strsOf xs with
      | none => rw [e2] at h; exact h.elim
      | some ys =>
        rw [e2] at h
        have h : PostG K W rE ν σV H Q (if (ys.map (·.length)).sum + ys.length * z.length ≤ 16777216 then .ok (.p (.str (Str.join z ys))) M else .no) := h
        by_cases c : (ys.map (·.length)).sum + ys.length * z.length ≤ 16777216
        · rw [if_pos c] at h
          refine U.joinO_i (ys := ys) ?_ c (ret1 (rep := rE) rl (.p (.str _)) h)
          rw [← strs_ok h2 e2]
          exact Rd.sqa h1
        · rw [if_neg c] at h; exact h.elim
/-! ### fields -/
def insAt (M : Store) : D → Option (Nat × Str × List (Str × D))
  | .cell n => match M[n]? with
    | some (.ins c fs) => some (n, c, fs)
    | _ => none
  | _ => none
theorem fr_get {F : Hp} {m : List Addr} {f : Str} {d : D} : ∀ {fs : List (Str × D)} {vs : List (Str × V)}, FR F m fs vs → fs.lookup f = some d → ∃ v, vs.lookup f = some v ∧ Rep F m d v
  | _, _, .nil, h => by cases h
  | (k, x) :: r, (_, v) :: w, .cons h1 h2, h => by
    rw [List.lookup_cons] at h ⊢
    cases e : f == k with
    | true => simp only [e] at h ⊢; cases h; exact ⟨v, rfl, h1⟩
    | false => simp only [e] at h ⊢; exact fr_get h2 h
theorem fr_len {F : Hp} {m : List Addr} : ∀ {fs : List (Str × D)} {vs : List (Str × V)}, FR F m fs vs → vs.length = fs.length
  | _, _, .nil => rfl
  | _, _, .cons _ a => congrArg Nat.succ (fr_len a)
def putD (f : Str) (v : D) : List (Str × D) → List (Str × D)
  | [] => [(f, v)]
  | (g, x) :: r => if g = f then (g, v) :: r else (g, x) :: putD f v r
theorem fr_put {F : Hp} {m : List Addr} {f : Str} {d : D} {v : V} (h : Rep F m d v) : ∀ {fs : List (Str × D)} {vs : List (Str × V)}, FR F m fs vs → FR F m (putD f d fs) (putF f v vs)
  | _, _, .nil => .cons h .nil
  | (k, x) :: r, (_, w) :: t, .cons h1 h2 => by
    rw [putD, putF]
    by_cases e : k = f
    · rw [if_pos e, if_pos e]; exact .cons h h2
    · rw [if_neg e, if_neg e]; exact .cons h1 (fr_put h h2)
theorem ins_at {ν : Nu} {M : Store} {H : Hp} {x : D} {v : V} {n : Nat} {c : Str} {fs : List (Str × D)} (r : Rel K ν M H) (p : Rep ν.F ν.m x v) (h : insAt M x = some (n, c, fs)) :
    ∃ a dx vs, v = .ref a ∧ H a = some (.ins (He.ga K c) dx vs) ∧ FR ν.F ν.m fs vs ∧ ∀ (vs' : List (Str × V)) (fs' : List (Str × D)), FR ν.F ν.m fs' vs' → ∃ ν', Rel K ν' (M.set n (.ins c fs')) (upd H a (.ins (He.ga K c) dx vs')) ∧ Stp ν H ν' (upd H a (.ins (He.ga K c) dx vs')) ∧ ν'.F = ν.F ∧ ν'.m = ν.m := by
  cases p with
  | @cell k a hn =>
    have h : (match M[k]? with | some (.ins c fs) => some (k, c, fs) | _ => none) = some (n, c, fs) := h
    cases e : M[k]? with
    | none => rw [e] at h; cases h
    | some c0 =>
      rw [e] at h
      cases c0 with
      | ins c1 ys =>
        cases h
        cases r.cel _ _ _ e hn with
        | ins h1 h2 h3 =>
          refine ⟨a, _, _, rfl, h2, h3, fun vs' fs' hv => ?_⟩
          obtain ⟨q1, q2⟩ := r.put (o := .ins (He.ga K c) _ vs') (c := .ins c fs') e hn h1 (.ins rfl upd_same hv)
          exact ⟨_, q1, q2, rfl, rfl⟩
      | _ => cases h
  | _ => cases h
def gFld (c f : Str) (g : GE) : GE := fun σ M => (g σ M).bind fun x M1 => match insAt M1 x with
  | some (_, c', fs) => if c' = c then optR (fs.lookup f) fun d => .ok d M1 else .no
  | none => .no
theorem fe_fld {c f : Str} (hC : Cls X.K (He.ga K c)) (n : NoAttr X.K (He.ga K c) f) (he : PE X e (tE K W g)) (hb : attributeBase e f X.env (eval e X.env) = eval e X.env := by rfl) : PE X (.Attribute e f pos) (tE K W (gFld c f g)) := pe_is (U.pe_fldU hC n he hb) fun σV H Q q => by
  obtain ⟨ν, σ, M, rl, sl, h⟩ := q
  show tE K W g σV H fun x H1 => match x with
    | .ref a => U.fldO (He.ga K c) a f H1 Q
    | _ => False
  refine bindG rl sl h fun u H1 x ν1 M1 s1 r1 sl1 p1 h1 => ?_
  cases e : insAt M1 x with
  | none => simp only [e] at h1; exact h1.elim
  | some q =>
    obtain ⟨k, c', fs⟩ := q
    simp only [e] at h1
    by_cases ec : c' = c
    · rw [if_pos ec] at h1
      subst ec
      obtain ⟨a, dx, vs, rfl, h2, h3, _⟩ := ins_at r1 p1 e
      cases e2 : fs.lookup f with
      | none => rw [e2] at h1; exact h1.elim
      | some d =>
        rw [e2] at h1
        obtain ⟨v, h4, h5⟩ := fr_get h3 e2
        exact U.fldO_i h2 h4 (ret1 (rep := rE) r1 h5 h1)
    · rw [if_neg ec] at h1; exact h1.elim
def gSetF (c f : Str) (go gv : GE) : GS := fun σ M => (gv σ M).toS σ fun y M1 => (go σ M1).toS σ fun x M2 => match insAt M2 x with
  | some (n, c', fs) => if c' = c ∧ fs.length < 1000 then .nx σ (M2.set n (.ins c (putD f y fs))) else .no
  | none => .no
theorem fs_fld {o value : Expr} {c f : Str} {go gv : GE} {pos' : Pos} (hC : Cls X.K (He.ga K c)) (n : NoAttr X.K (He.ga K c) f) (ha : PE X o (tE K W go)) (hv : PE X value (tE K W gv)) (hs : swapsWith value (some (.Attribute o f pos')) pos.line X.env = pure false := by rfl) :
    PS X (.Assign [.Attribute o f pos'] value pos) (tS K W (gSetF c f go gv)) := ps_is (U.ps_fldU hC n ha hv hs) fun Q σV H q => by
  obtain ⟨ν, σ, M, rl, sl, h⟩ := q
  show tE K W gv σV H fun y H1 => tE K W go σV H1 fun x H2 => match x with
    | .ref a => U.setF (He.ga K c) a f y H2 (Q.nx σV)
    | _ => False
  refine bindS rl sl h fun v H1 y ν1 M1 s1 r1 sl1 p1 h1 => bindS r1 sl1 h1 fun u H2 x ν2 M2 s2 r2 sl2 p2 h2 => ?_
  cases e : insAt M2 x with
  | none => simp only [e] at h2; exact h2.elim
  | some q =>
    obtain ⟨k, c', fs⟩ := q
    simp only [e] at h2
    by_cases ec : c' = c ∧ fs.length < 1000
    · rw [if_pos ec] at h2
      obtain ⟨e1, e2⟩ := ec
      subst e1
      obtain ⟨a, dx, vs, rfl, h3, h4, put⟩ := ins_at r2 p2 e
      show U.setF (He.ga K c') a f v H2 (Q.nx σV)
      unfold U.setF
      obtain ⟨ν', r', s', f', m'⟩ := put _ _ (fr_put (f := f) (Rep.stp p1 s2) h4)
      exact ⟨dx, vs, h3, by rw [fr_len h4]; exact e2, h2 ν' _ σV s' r' (sl2.mono s')⟩
    · rw [if_neg ec] at h2; exact h2.elim
/-- l[i] = v -/
def gSetIx (gv go gi : GE) : GS := fun σ M => (gv σ M).toS σ fun y M1 => (go σ M1).toS σ fun x M2 => (gi σ M2).toS σ fun i M3 => match lstAt M3 x, i, y with
  | some (n, xs), .p (.int k), .p z => (match ixN xs.length k with
    | some j => .nx σ (M3.set n (.lst (xs.set j z)))
    | none => .no)
  | _, _, _ => .no
theorem fs_setIx {o i : Expr} {gv go gi : GE} {p2 : Pos} (he : PE X e (tE K W gv)) (ho : PE X o (tE K W go)) (hi : PE X i (tE K W gi))
    (ha : ∀ v, assign (.Subscript o i p2) X.env v = (do
      let ov ← holding [v] (eval o X.env)
      let iv ← holding [v, ov] (eval i X.env)
      standAt p2
      holding [v, ov, iv] (setItem ov iv v)
      release [v, ov, iv] []) := by intro _; rfl) (hs : swapsWithSole [.Subscript o i p2] e pos.line X.env = pure false := by rfl) (hw : swappedStores [.Subscript o i p2] e X.env = pure none := by rfl)
    (h1 : (assignEach [.Subscript o i p2] X.env).map (·.2) = [assign (.Subscript o i p2) X.env] := by rfl) : PS X (.Assign [.Subscript o i p2] e pos) (tS K W (gSetIx gv go gi)) := ps_is (U.ps_setIx he ho hi ha hs hw h1) fun Q σV H q => by
  obtain ⟨ν, σ, M, rl, sl, h⟩ := q
  show tE K W gv σV H fun v H1 => tE K W go σV H1 fun o H2 => tE K W gi σV H2 fun i H3 => U.gSet o i v H3 fun H4 => Q.nx σV H4
  refine bindS rl sl h fun v H1 y ν1 M1 s1 r1 sl1 p1 h1 => bindS r1 sl1 h1 fun u H2 x ν2 M2 s2 r2 sl2 p2 h2 => bindS r2 sl2 h2 fun iv H3 i ν3 M3 s3 r3 sl3 p3 h3 => ?_
  have px := Rep.stp p2 s3
  have py := Rep.stp (Rep.stp p1 s2) s3
  cases e : lstAt M3 x with
  | none => simp only [e] at h3; exact h3.elim
  | some q =>
    obtain ⟨n, xs⟩ := q
    simp only [e] at h3
    obtain ⟨a, ws, rfl, ha, hv, put⟩ := lst_cell r3 px e
    match i, iv, p3, y, v, py, h3 with
    | .p (.int k), _, .p (.int _), .p z, v, .p pz, h3 =>
      have h3 : PostS K W ν3 H3 Q (match ixN xs.length k with | some j => .nx σ (M3.set n (.lst (xs.set j z))) | none => .no) := h3
      cases e2 : ixN xs.length k with
      | none => rw [e2] at h3; exact h3.elim
      | some j =>
        rw [e2] at h3
        obtain ⟨ν', r', s', _⟩ := put (ws.set j v) (xs.set j z) (vs_set pz j hv)
        exact U.setO_i ha (opt_i (by rw [vs_len hv]; exact e2) (h3 ν' _ σV s' r' (sl3.mono s')))
/-- n += e, ints -/
def gAug (i : Nat) (g : GE) : GS := fun σ M => match σ[i]? with
  | some (some (.p (.int k))) => (g σ M).toS σ fun y M1 => (match y with
    | .p (.int j) => .nx (σ.set i (some (.p (.int (k + j))))) M1
    | _ => .no)
  | _ => .no
theorem fs_augI {i : Nat} {x : Str} {pos' : Pos} (hN : X.N.Nodup) (hi : X.N[i]? = some x) (hx : Loc X.env.scope x) (he : PE X e (tE K W g)) (hf : X.fn x = true ∨ X.env.scope.names.lookup x = some .local := by first | exact .inl rfl | exact .inr rfl | assumption) :
    PS X (.AugAssign (.Name x pos') .Add e pos) (tS K W (gAug i g)) := ps_is (U.ps_augI hN hi hx he hf) fun Q σV H q => by
  obtain ⟨ν, σ, M, rl, sl, h⟩ := q
  show match σV[i]? with
    | some (some x) => tE K W g σV H fun y H1 => U.gI (fun i j => .int (i + j)) x y H1 fun z H2 => Q.nx (σV.set i (some z)) H2
    | _ => False
  have h : PostS K W ν H Q (match σ[i]? with
    | some (some (.p (.int k))) => (g σ M).toS σ fun y M1 => (match y with
      | .p (.int j) => .nx (σ.set i (some (.p (.int (k + j))))) M1
      | _ => .no)
    | _ => .no) := h
  cases e1 : σ[i]? with
  | none => rw [e1] at h; exact h.elim
  | some o =>
    rw [e1] at h
    cases o with
    | none => exact h.elim
    | some d =>
      obtain ⟨v, e2, rp⟩ := sl.2 i d e1
      rw [e2]
      match d, v, rp, h with
      | .p (.int k), _, .p (.int _), h =>
        refine bindS rl sl h fun u H1 y ν1 M1 s1 r1 sl1 p1 h1 => ?_
        match y, u, p1, h1 with
        | .p (.int j), _, .p (.int _), h1 => exact h1 ν1 H1 _ Stp.refl r1 (sl1.set (.p (.int _)) i)
/-- a, b = x, y -/
def gPar (i j : Nat) (gs : GA) : GS := fun σ M => (gs σ M).toS σ fun ds M1 => match ds with
  | [x, y] => .nx ((σ.set i (some x)).set j (some y)) M1
  | _ => .no
theorem fs_par {i j : Nat} {x y : Str} {px py pt : Pos} {kt k2 pt2} (hc : X.calm = true) (hN : X.N.Nodup) (hi : X.N[i]? = some x) (hj : X.N[j]? = some y) (hij : i ≠ j)
    (hx : X.env.scope.names.lookup x = some .local) (hy : X.env.scope.names.lookup y = some .local) (ha : PA X [a, b] (tA K W gs))
    (hw : swappedStores [.Tuple [.Name x px, .Name y py] kt pt] (.Tuple [a, b] k2 pt2) X.env = pure (some [x, y]))
    (hs : swapsWithSole [.Tuple [.Name x px, .Name y py] kt pt] (.Tuple [a, b] k2 pt2) pos.line X.env = pure false := by rfl) :
    PS X (.Assign [.Tuple [.Name x px, .Name y py] kt pt] (.Tuple [a, b] k2 pt2) pos) (tS K W (gPar i j gs)) := ps_is (ps_par hc hN hi hj hij hx hy ha hw hs) fun Q σV H q => by
  obtain ⟨ν, σ, M, rl, sl, h⟩ := q
  refine bindS rl sl h fun vs H1 ds ν1 M1 s1 r1 sl1 p1 h1 => ?_
  match ds, vs, p1, h1 with
  | [x, y], [v, w], .cons px (.cons py .nil), h1 => exact ⟨v, w, rfl, h1 ν1 H1 _ Stp.refl r1 ((sl1.set px i).set py j)⟩
end
end Fn

set_option Elab.async false
set_option linter.all false
set_option maxRecDepth 100000
set_option maxHeartbeats 4000000
/-! FI: objects with cells of their own: boxes -/
namespace Fn
open PySem PySem.Spec PyProof.Rows L2
open U (new new_i new_e cond cond_i cond_e brn brn_i brn_t brn_f uB uTest uVar pe_is ps_is pi_is thnP opt opt_i opt_e Df Bd Rm Nw Ext)
def ownL : Store → Bool
  | [] => true
  | c :: r => c.own && ownL r
def zipF : List (Str × D) → List D → List (Str × D)
  | (k, _) :: r, d :: s => (k, d) :: zipF r s
  | _, _ => []
/-- the object at j with the cells that it speaks of, as a store of its own: itself first -/
def boxAt (M : Store) (j : Nat) : Option (List Cell × List Nat) := match M[j]? with
  | some (.ins c fs) => (match labs 0 [j] (fs.map (·.2)) with
    | some (ds, is) => (match lent M (is.drop 1) with
      | some cs => some (.ins c (zipF fs ds) :: cs, is)
      | none => none)
    | none => none)
  | _ => none
section
variable {K : PySem.W.Frag}
theorem fr_reps {F : Hp} {m : List Addr} : ∀ {fs : List (Str × D)} {vs : List (Str × V)}, FR F m fs vs → Reps F m (fs.map (·.2)) (vs.map (·.2))
  | _, _, .nil => .nil
  | _, _, .cons h a => .cons h (fr_reps a)
theorem fr_zip {F : Hp} {m m0 : List Addr} : ∀ {fs : List (Str × D)} {vs : List (Str × V)} {ds : List D}, FR F m fs vs → Reps F m0 ds (vs.map (·.2)) → FR F m0 (zipF fs ds) vs
  | [], _, _, .nil, h => by cases h; exact .nil
  | (k, _) :: r, _, _, .cons h a, h2 => by
    cases h2 with
    | cons h3 h4 => exact .cons h3 (fr_zip a h4)
/-- it is a box -/
theorem boxAt_ok {ν : Nu} {M : Store} {H : Hp} {j : Nat} {sub : List Cell} {is : List Nat} {a : Addr} {m : List Addr} {S : Addr → Prop} (r : Rel K ν M H) (ha : ν.m[j]? = some a) (h : boxAt M j = some (sub, is)) (hS : ∀ (x : Addr) (i k : Nat), ν.w x = some k → is[i]? = some k → S x) :
    CR K ν.F H m S (.box sub) a ∧ is.Nodup ∧ is[0]? = some j ∧ ∀ k ∈ is, k < M.length := by
  unfold boxAt at h
  cases e1 : M[j]? with
  | none => rw [e1] at h; cases h
  | some c0 =>
    rw [e1] at h
    cases c0 with
    | ins c fs =>
      have h : (match labs 0 [j] (fs.map (·.2)) with
        | some (ds, is) => (match lent M (is.drop 1) with
          | some cs => some (Cell.ins c (zipF fs ds) :: cs, is)
          | none => none)
        | none => none) = some (sub, is) := h
      cases e2 : labs 0 [j] (fs.map (·.2)) with
      | none => rw [e2] at h; cases h
      | some q =>
        obtain ⟨ds, is'⟩ := q
        rw [e2] at h
        have h : (match lent M (is'.drop 1) with
          | some cs => some (Cell.ins c (zipF fs ds) :: cs, is')
          | none => none) = some (sub, is) := h
        cases e3 : lent M (is'.drop 1) with
        | none => rw [e3] at h; cases h
        | some cs =>
          rw [e3] at h
          cases h
          obtain ⟨nd, ⟨t, et⟩, lr⟩ := labs_ok e2 (by simp)
          obtain ⟨l1, l2⟩ := lent_ok e3
          have i0 : is[0]? = some j := by rw [et]; rfl
          have ij : j < M.length := (List.getElem?_eq_some_iff.mp e1).1
          have lt : ∀ k ∈ is, k < M.length := fun k hk => by
            rw [et] at hk
            rcases List.mem_append.mp hk with hk | hk
            · rw [List.mem_singleton.mp hk]; exact ij
            · obtain ⟨i, hi⟩ := List.getElem?_of_mem hk
              obtain ⟨c, _, h2, _⟩ := l2 i k (by rw [et]; simpa using hi)
              exact (List.getElem?_eq_some_iff.mp h2).1
          have is1 : is.length = (is.drop 1).length + 1 := by rw [et]; simp
          obtain ⟨f1, f2⟩ := fm_get (m := ν.m) (ns := is) fun k hk => by rw [r.len]; exact lt k hk
          refine ⟨.box (is.filterMap fun n => ν.m[n]?) (fun x => match ν.w x with | some k => pos k is | none => none) ?_ ?_ ?_ ?_, nd, i0, lt⟩
          · rw [f1, is1, List.length_cons, l1]
          · rw [f2 0 j i0]; exact ha
          · intro x n hx
            have hx : (match ν.w x with | some k => pos k is | none => none) = some n := hx
            cases e : ν.w x with
            | none => rw [e] at hx; cases hx
            | some k =>
              rw [e] at hx
              have hn := pos_some hx
              exact ⟨hS x n k e hn, by rw [List.length_cons, l1, ← is1]; exact (List.getElem?_eq_some_iff.mp hn).1⟩
          · intro n c' b hn hb
            have hw : ∀ x k, ν.w x = some k → is[n]? = some k → (match ν.w x with | some k => pos k is | none => none) = some n := fun x k h1 h2 => by
              rw [h1]; exact pos_at nd h2
            cases n with
            | zero =>
              cases hn
              rw [f2 0 j i0, ha] at hb
              cases hb
              cases r.cel j _ a e1 ha with
              | ins h1 h2 h3 =>
                refine .ins (hw a j h1 i0) h2 (fr_zip h3 (lr (fr_reps h3) fun i k b h4 h5 => ?_))
                rw [Nat.zero_add, f2 i k h4]; exact h5
            | succ n =>
              have hn : cs[n]? = some c' := by simpa using hn
              have hi : n < (is.drop 1).length := by rw [← l1]; exact (List.getElem?_eq_some_iff.mp hn).1
              obtain ⟨c2, h1, h2, h3⟩ := l2 n (is.drop 1)[n] (List.getElem?_eq_getElem hi)
              rw [hn] at h1; cases h1
              have ek : is[n + 1]? = some (is.drop 1)[n] := by
                have := List.getElem?_eq_getElem hi
                rw [List.getElem?_drop] at this
                rw [Nat.add_comm]; exact this
              rw [f2 _ _ ek] at hb
              refine ((r.cel _ c' b h2 hb).own (m' := (is.filterMap fun n => ν.m[n]?)) h3).keep (Same.refl _) ⟨[], by simp⟩ fun x hx _ => ⟨hw x _ hx ek, rfl⟩
    | _ => cases h
/-- what a method starts from -/
theorem unbox {ν : Nu} {M cs : Store} {H : Hp} {n : Nat} {sub : List Cell} {ns : List Nat} (r : Rel K ν M H) (hb : M[n]? = some (.box sub)) (hn : n ∉ ns) (hd : ns.Nodup) (hl : lent M ns = some cs) :
    ∃ ν0, Rel K ν0 (sub ++ cs) H ∧ ν0.F = ν.F ∧ (∀ x, ν.w x = none → ν0.w x = none) ∧ (∀ x k, ν.w x = some k → k ≠ n → k ∉ ns → ν0.w x = none) ∧ ν0.m[0]? = ν.m[n]? ∧ (∀ (i k : Nat) (a : Addr), ns[i]? = some k → ν.m[k]? = some a → ν0.m[sub.length + i]? = some a) ∧ ∀ k ∈ ns, k < M.length := by
  have nl : n < M.length := (List.getElem?_eq_some_iff.mp hb).1
  have hm : ν.m[n]? = some (ν.m[n]'(by rw [r.len]; exact nl)) := List.getElem?_eq_getElem (by rw [r.len]; exact nl)
  obtain ⟨rl, lt, at_⟩ := lend r hd hl
  obtain ⟨l1, l2⟩ := lent_ok hl
  have q := r.cel n _ _ hb hm
  revert q
  generalize ν.m[n]'(by rw [r.len]; exact nl) = a0 at hm
  intro q
  cases q with
  | box rt w h1 h2 h3 h4 =>
    have nlen : (nu0 ν ns).m.length = ns.length := by rw [rl.len, l1]
    refine ⟨⟨ν.F, rt ++ (nu0 ν ns).m, fun x => match ν.w x with
      | some k => if k = n then w x else (match pos k ns with
        | some i => some (sub.length + i)
        | none => none)
      | none => none⟩, ⟨r.same, by simp [h1, rl.len], fun k c a e1 e2 => ?_, fun x k h => ?_⟩, rfl, fun x h => by simp [h], fun x k h hk hk2 => ?_, ?_, fun i k a e1 e2 => ?_, lt⟩
    · by_cases hk : k < sub.length
      · rw [List.getElem?_append_left hk] at e1
        rw [List.getElem?_append_left (by rw [h1]; exact hk)] at e2
        refine (h4 k c a e1 e2).keep (Same.refl _) ⟨(nu0 ν ns).m, rfl⟩ fun x hx _ => ⟨?_, rfl⟩
        have hx : w x = some k := hx
        have wx : ν.w x = some n := (h3 x k hx).1
        show (match ν.w x with | some k => if k = n then w x else (match pos k ns with | some i => some (sub.length + i) | none => none) | none => none) = some k
        rw [wx]
        show (if n = n then w x else _) = some k
        rw [if_pos rfl]; exact hx
      · rw [List.getElem?_append_right (by omega)] at e1
        rw [List.getElem?_append_right (by rw [h1]; omega), h1] at e2
        have hi : k - sub.length < ns.length := by rw [← l1]; exact (List.getElem?_eq_some_iff.mp e1).1
        obtain ⟨c', q1, q2, q3⟩ := l2 (k - sub.length) ns[k - sub.length] (List.getElem?_eq_getElem hi)
        rw [e1] at q1; cases q1
        refine ((rl.cel _ c a e1 e2).own (m' := rt ++ (nu0 ν ns).m) q3).keep (Same.refl _) ⟨[], by simp⟩ fun x hx _ => ⟨?_, rfl⟩
        have hx : (match ν.w x with | some k => pos k ns | none => none) = some (k - sub.length) := hx
        show (match ν.w x with | some k => if k = n then w x else (match pos k ns with | some i => some (sub.length + i) | none => none) | none => none) = some k
        cases e : ν.w x with
        | none => rw [e] at hx; cases hx
        | some j =>
          rw [e] at hx
          have hx : pos j ns = some (k - sub.length) := hx
          have jn : j ≠ n := fun z => hn (by rw [← z]; exact List.mem_of_getElem? (pos_some hx))
          show (if j = n then w x else (match pos j ns with | some i => some (sub.length + i) | none => none)) = some k
          rw [if_neg jn, hx]
          show some (sub.length + (k - sub.length)) = some k
          rw [show sub.length + (k - sub.length) = k by omega]
    · have h : (match ν.w x with | some k => if k = n then w x else (match pos k ns with | some i => some (sub.length + i) | none => none) | none => none) = some k := h
      cases e : ν.w x with
      | none => rw [e] at h; cases h
      | some j =>
        rw [e] at h
        obtain ⟨q1, q2, q3⟩ := r.off x j e
        refine ⟨q1, q2, ?_⟩
        have h : (if j = n then w x else (match pos j ns with | some i => some (sub.length + i) | none => none)) = some k := h
        by_cases jn : j = n
        · rw [if_pos jn] at h
          have := (h3 x k h).2
          rw [List.length_append]; omega
        · rw [if_neg jn] at h
          cases e2 : pos j ns with
          | none => rw [e2] at h; cases h
          | some i =>
            rw [e2] at h
            have h : sub.length + i = k := Option.some.inj h
            have := (List.getElem?_eq_some_iff.mp (pos_some e2)).1
            rw [List.length_append, l1]; omega
    · show (match ν.w x with | some k => if k = n then w x else (match pos k ns with | some i => some (sub.length + i) | none => none) | none => none) = none
      rw [h]
      show (if k = n then w x else (match pos k ns with | some i => some (sub.length + i) | none => none)) = none
      rw [if_neg hk]
      cases e2 : pos k ns with
      | none => rfl
      | some i => exact absurd (List.mem_of_getElem? (pos_some e2)) hk2
    · show (rt ++ (nu0 ν ns).m)[0]? = ν.m[n]?
      rw [List.getElem?_append_left (List.getElem?_eq_some_iff.mp h2).1, h2, hm]
    · show (rt ++ (nu0 ν ns).m)[sub.length + i]? = some a
      rw [List.getElem?_append_right (by omega), h1, show sub.length + i - sub.length = i by omega]
      exact at_ i k a e1 e2
def apart (is : List Nat) (L n : Nat) : Bool := is.all fun k => decide (k < L) || decide (L + n ≤ k)
theorem pos_lt {n : Nat} {l : List Nat} {i : Nat} (h : pos n l = some i) : i < l.length := (List.getElem?_eq_some_iff.mp (pos_some h)).1
/-- behind a method: the box and the lent cells are the caller's again. M0: the caller's store with the box in place of the old one (at n) or behind all (a new one) -/
theorem rebox {ν ν0 ν' : Nu} {M M0 M1 M2 : Store} {H H0 H' : Hp} {n L : Nat} {sub' : List Cell} {is ns : List Nat} {m2 : List Addr} {a : Addr} (r : Rel K ν M H)
    (hm0 : M0 = M.set n (.box sub') ∧ m2 = ν.m ∧ n < M.length ∨ M0 = M ++ [.box sub'] ∧ m2 = ν.m ++ [a] ∧ n = M.length)
    (hn : n ∉ ns) (hd : ns.Nodup) (lt : ∀ k ∈ ns, k < M.length) (same0 : ∀ x o, H x = some o → (ν.w x = none ∨ ∃ k, ν.w x = some k ∧ k ≠ n ∧ k ∉ ns) → H0 x = some o ∧ ν0.F x = ν.F x ∧ ν0.w x = none) (f0 : Same ν.F ν0.F)
    (ha : m2[n]? = some a) (ha0 : ν0.m[0]? = some a) (at_ : ∀ (i k : Nat) (a : Addr), ns[i]? = some k → ν.m[k]? = some a → ν0.m[L + i]? = some a)
    (s : Stp ν0 H0 ν' H') (r1 : Rel K ν' M1 H') (hb : boxAt M1 0 = some (sub', is)) (hap : apart is L ns.length = true) (hk : back M0 ns (M1.drop L) = some M2) :
    ∃ ν2, Rel K ν2 M2 H' ∧ Stp ν H ν2 H' ∧ ν2.m = m2 ∧ ν2.F = ν'.F ∧ ∀ x j, ν'.w x = some j → j ∉ is → ¬ (L ≤ j ∧ j < L + ns.length) → ν2.w x = none := by
  obtain ⟨b1, b2, b3⟩ := back_ok hk hd
  have ha' : ν'.m[0]? = some a := by
    obtain ⟨t, e⟩ := s.mm
    rw [e]; exact ix_app ha0
  let w2 : Addr → Option Nat := fun x => match ν'.w x with
    | some k => if k ∈ is then some n else if L ≤ k ∧ k < L + ns.length then ns[k - L]? else none
    | none => match ν.w x with
      | some k => if k = n ∨ k ∈ ns then none else some k
      | none => none
  obtain ⟨bx, isd, is0, islt⟩ := boxAt_ok (m := m2) (S := fun x => w2 x = some n) r1 ha' hb fun x i k h1 h2 => by
    show (match ν'.w x with | some k => if k ∈ is then some n else if L ≤ k ∧ k < L + ns.length then ns[k - L]? else none | none => _) = some n
    rw [h1]
    show (if k ∈ is then some n else _) = some n
    rw [if_pos (List.mem_of_getElem? h2)]
  have ap : ∀ k ∈ is, ¬ (L ≤ k ∧ k < L + ns.length) := fun k hk => by
    have := List.all_eq_true.mp hap k hk
    simp at this
    omega
  have lenM0 : M0.length = m2.length := by
    rcases hm0 with ⟨e1, e2, _⟩ | ⟨e1, e2, _⟩
    · rw [e1, e2, List.length_set, r.len]
    · rw [e1, e2, List.length_append, List.length_append, r.len]; rfl
  have nl : n < M0.length := by
    rw [lenM0]; exact (List.getElem?_eq_some_iff.mp ha).1
  have lt0 : ∀ k ∈ ns, k < M0.length := fun k hk => by
    have := lt k hk
    rcases hm0 with ⟨e1, e2, _⟩ | ⟨e1, e2, _⟩
    · rw [e1, List.length_set]; exact this
    · rw [e1, List.length_append]; omega
  have at0 : M0[n]? = some (.box sub') := by
    rcases hm0 with ⟨e1, e2, e3⟩ | ⟨e1, e2, e3⟩
    · rw [e1, List.getElem?_set_self e3]
    · rw [e1, e3]; simp
  have oth : ∀ k c b, k ≠ n → M0[k]? = some c → m2[k]? = some b → M[k]? = some c ∧ ν.m[k]? = some b := fun k c b hk h1 h2 => by
    rcases hm0 with ⟨e1, e2, e3⟩ | ⟨e1, e2, e3⟩
    · rw [e1, List.getElem?_set_ne (fun e => hk e.symm)] at h1
      rw [e2] at h2
      exact ⟨h1, h2⟩
    · have hz := (List.getElem?_eq_some_iff.mp h1).1
      rw [e1, List.length_append] at hz
      simp at hz
      have hk2 : k < M.length := by omega
      rw [e1, List.getElem?_append_left hk2] at h1
      rw [e2, List.getElem?_append_left (by rw [r.len]; exact hk2)] at h2
      exact ⟨h1, h2⟩
  have mns : ∀ (i k : Nat) (b : Addr), ns[i]? = some k → m2[k]? = some b → ν.m[k]? = some b := fun i k b h1 h2 => by
    have hk2 := lt k (List.mem_of_getElem? h1)
    rcases hm0 with ⟨e1, e2, e3⟩ | ⟨e1, e2, e3⟩
    · rw [e2] at h2; exact h2
    · rw [e2, List.getElem?_append_left (by rw [r.len]; exact hk2)] at h2; exact h2
  have keepx : ∀ x k, ν.w x = some k → k ≠ n → k ∉ ns → H' x = H x ∧ ν'.F x = ν.F x ∧ ν'.w x = none := fun x k h hk hk2 => by
    obtain ⟨o, e⟩ := Option.ne_none_iff_exists'.mp (r.off x k h).2.1
    obtain ⟨g1, g2, g3⟩ := same0 x o e (.inr ⟨k, h, hk, hk2⟩)
    obtain ⟨h1, h2, h3⟩ := s.fr x o g1 g3
    exact ⟨h1.trans e.symm, h2.trans g2, h3⟩
  refine ⟨⟨ν'.F, m2, w2⟩, ⟨r1.same, by rw [b1, lenM0], fun k c b e1 e2 => ?_, fun x k h => ?_⟩, ⟨f0.trans s.ff, fun x o h w => ?_, ?_⟩, rfl, rfl, fun x j h1 h2 h3 => ?_⟩
  · by_cases hk : k ∈ ns
    · obtain ⟨i, hi⟩ := List.getElem?_of_mem hk
      obtain ⟨c', q1, q2, q3⟩ := b3 i k hi
      have q3 := q3 (lt0 k hk)
      rw [e1] at q3; cases q3
      rw [List.getElem?_drop] at q1
      have hmi : ν'.m[L + i]? = some b := by
        obtain ⟨t, e⟩ := s.mm
        rw [e]
        exact ix_app (at_ i k b hi (mns i k b hi e2))
      refine ((r1.cel (L + i) c b q1 hmi).own (m' := m2) q2).keep (Same.refl _) ⟨[], by simp⟩ fun x hx _ => ⟨?_, rfl⟩
      have hx : ν'.w x = some (L + i) := hx
      have il : i < ns.length := (List.getElem?_eq_some_iff.mp hi).1
      show (match ν'.w x with | some k => if k ∈ is then some n else if L ≤ k ∧ k < L + ns.length then ns[k - L]? else none | none => _) = some k
      rw [hx]
      show (if L + i ∈ is then some n else if L ≤ L + i ∧ L + i < L + ns.length then ns[L + i - L]? else none) = some k
      rw [if_neg (fun z => ap _ z ⟨by omega, by omega⟩), if_pos ⟨by omega, by omega⟩, show L + i - L = i by omega]
      exact hi
    · rw [b2 k hk] at e1
      by_cases kn : k = n
      · subst kn
        rw [at0] at e1; cases e1
        rw [ha] at e2; cases e2
        exact bx
      · obtain ⟨q1, q2⟩ := oth k c b kn e1 e2
        have mm2 : ∃ t, m2 = ν.m ++ t := by
          rcases hm0 with ⟨_, e2, _⟩ | ⟨_, e2, _⟩
          · exact ⟨[], by simp [e2]⟩
          · exact ⟨[a], e2⟩
        refine (r.cel k c b q1 q2).keep (f0.trans s.ff) mm2 fun x hx hz => ?_
        have hx : ν.w x = some k := hx
        obtain ⟨g1, g2, g3⟩ := keepx x k hx kn hk
        refine ⟨?_, g1⟩
        show (match ν'.w x with | some k => _ | none => match ν.w x with | some k => if k = n ∨ k ∈ ns then none else some k | none => none) = some k
        rw [g3, hx]
        show (if k = n ∨ k ∈ ns then none else some k) = some k
        rw [if_neg (fun z => z.elim kn hk)]
  · have h : (match ν'.w x with | some k => if k ∈ is then some n else if L ≤ k ∧ k < L + ns.length then ns[k - L]? else none | none => match ν.w x with | some k => if k = n ∨ k ∈ ns then none else some k | none => none) = some k := h
    cases e : ν'.w x with
    | some j =>
      rw [e] at h
      obtain ⟨q1, q2, q3⟩ := r1.off x j e
      refine ⟨q1, q2, ?_⟩
      have h : (if j ∈ is then some n else if L ≤ j ∧ j < L + ns.length then ns[j - L]? else none) = some k := h
      rw [b1]
      by_cases c1 : j ∈ is
      · rw [if_pos c1] at h
        have h : n = k := Option.some.inj h
        rw [← h]; exact nl
      · rw [if_neg c1] at h
        by_cases c2 : L ≤ j ∧ j < L + ns.length
        · rw [if_pos c2] at h
          exact lt0 k (List.mem_of_getElem? h)
        · rw [if_neg c2] at h; cases h
    | none =>
      rw [e] at h
      have h : (match ν.w x with | some k => if k = n ∨ k ∈ ns then none else some k | none => none) = some k := h
      cases e2 : ν.w x with
      | none => rw [e2] at h; cases h
      | some j =>
        rw [e2] at h
        have h : (if j = n ∨ j ∈ ns then none else some j) = some k := h
        by_cases c1 : j = n ∨ j ∈ ns
        · rw [if_pos c1] at h; cases h
        · rw [if_neg c1] at h
          have h : j = k := Option.some.inj h
          subst h
          obtain ⟨q1, q2, q3⟩ := r.off x j e2
          obtain ⟨g1, g2, g3⟩ := keepx x j e2 (fun z => c1 (.inl z)) (fun z => c1 (.inr z))
          refine ⟨g2.trans q1, by rw [g1]; exact q2, ?_⟩
          rw [b1]
          rcases hm0 with ⟨e1, _, _⟩ | ⟨e1, _, _⟩
          · rw [e1, List.length_set]; exact q3
          · rw [e1, List.length_append]; omega
  · obtain ⟨g1, g2, g3⟩ := same0 x o h (.inl w)
    obtain ⟨h1, h2, h3⟩ := s.fr x o g1 g3
    refine ⟨h1, h2.trans g2, ?_⟩
    show (match ν'.w x with | some k => _ | none => match ν.w x with | some k => if k = n ∨ k ∈ ns then none else some k | none => none) = none
    rw [h3, w]
  · rcases hm0 with ⟨_, e2, _⟩ | ⟨_, e2, _⟩
    · exact ⟨[], by simp [e2]⟩
    · exact ⟨[a], e2⟩
  · show (match ν'.w x with | some k => if k ∈ is then some n else if L ≤ k ∧ k < L + ns.length then ns[k - L]? else none | none => _) = none
    rw [h1]
    show (if j ∈ is then some n else if L ≤ j ∧ j < L + ns.length then ns[j - L]? else none) = none
    rw [if_neg h2, if_neg h3]
end
/-! ### a method of a box -/
/-- what is handed back: plain, or a list that was made in the call -/
def handB (is : List Nat) (L n : Nat) (d : D) (M1 M2 : Store) : R D := match d with
  | .p x => .ok (.p x) M2
  | .cell j => (match M1[j]? with
    | some c => if is.contains j = true ∨ (L ≤ j ∧ j < L + n) ∨ c.own = false then .no else .ok (.cell M2.length) (M2 ++ [c])
    | none => .no)
  | .seq _ _ => .no
def callM (f : List D → Store → R D) (n : Nat) (ds : List D) (M : Store) : R D := match M[n]? with
  | some (.box sub) => (match labs sub.length [] ds with
    | some (ds1, ns) => if ns.contains n = true then .no else (match lent M ns with
      | some cs => (match f (.cell 0 :: ds1) (sub ++ cs) with
        | .ok d M1 => (match boxAt M1 0 with
          | some (sub', is) => if apart is sub.length ns.length = true then (match back (M.set n (.box sub')) ns (M1.drop sub.length) with
            | some M2 => handB is sub.length ns.length d M1 M2
            | none => .no) else .no
          | none => .no)
        | .ex e M1 => (match boxAt M1 0 with
          | some (sub', is) => if apart is sub.length ns.length = true then (match back (M.set n (.box sub')) ns (M1.drop sub.length) with
            | some M2 => .ex e M2
            | none => .no) else .no
          | none => .no)
        | .no => .no)
      | none => .no)
    | none => .no)
  | _ => .no
section
variable {K : PySem.W.Frag}
theorem fresh {ν ν2 ν' : Nu} {M1 M2 : Store} {H H' : Hp} {j : Nat} {c : Cell} {a : Addr} (r2 : Rel K ν2 M2 H') (s2 : Stp ν H ν2 H') (r1 : Rel K ν' M1 H') (ef : ν2.F = ν'.F) (hw : ∀ x, ν'.w x = some j → ν2.w x = none) (old : ∀ x o, H x = some o → ν.w x = none → ν'.w x = none)
    (hc : M1[j]? = some c) (ha : ν'.m[j]? = some a) (ho : c.own = true) : ∃ ν3, Rel K ν3 (M2 ++ [c]) H' ∧ Stp ν H ν3 H' ∧ ν3.m[M2.length]? = some a ∧ ν3.F = ν'.F := by
  refine ⟨⟨ν2.F, ν2.m ++ [a], fun x => if ν'.w x = some j then some M2.length else ν2.w x⟩, ⟨r2.same, by simp [r2.len], fun n d b e1 e2 => ?_, fun x n h => ?_⟩, ⟨s2.ff, fun x o h w => ?_, ?_⟩, ?_, ef⟩
  · by_cases hn : n < M2.length
    · rw [List.getElem?_append_left hn] at e1
      rw [List.getElem?_append_left (by rw [r2.len]; exact hn)] at e2
      refine (r2.cel n d b e1 e2).keep (Same.refl _) ⟨[a], rfl⟩ fun x hx _ => ⟨?_, rfl⟩
      show (if ν'.w x = some j then some M2.length else ν2.w x) = some n
      rw [if_neg]
      · exact hx
      · intro e
        have hx : ν2.w x = some n := hx
        rw [hw x e] at hx; cases hx
    · have hz := (List.getElem?_eq_some_iff.mp e1).1
      have en : n = M2.length := by simp at hz; omega
      subst en
      rw [List.getElem?_append_right (Nat.le_refl _), Nat.sub_self] at e1
      rw [List.getElem?_append_right (by rw [r2.len]; exact Nat.le_refl _), r2.len, Nat.sub_self] at e2
      simp at e1 e2
      subst e1; subst e2
      have q := (r1.cel j c a hc ha).own (m' := ν2.m ++ [a]) ho
      rw [← ef] at q
      refine q.keep (Same.refl _) ⟨[], by simp⟩ fun x hx _ => ⟨?_, rfl⟩
      show (if ν'.w x = some j then some M2.length else ν2.w x) = some M2.length
      rw [if_pos hx]
  · have h : (if ν'.w x = some j then some M2.length else ν2.w x) = some n := h
    by_cases e : ν'.w x = some j
    · rw [if_pos e] at h; cases h
      obtain ⟨h1, h2, h3⟩ := r1.off x j e
      exact ⟨by show ν2.F x = none; rw [ef]; exact h1, h2, by simp⟩
    · rw [if_neg e] at h
      obtain ⟨h1, h2, h3⟩ := r2.off x n h
      exact ⟨h1, h2, by simp; omega⟩
  · obtain ⟨h1, h2, h3⟩ := s2.fr x o h w
    refine ⟨h1, h2, ?_⟩
    show (if ν'.w x = some j then some M2.length else ν2.w x) = none
    rw [if_neg]
    · exact h3
    · intro e; rw [old x o h w] at e; cases e
  · obtain ⟨t, e⟩ := s2.mm
    exact ⟨t ++ [a], by show ν2.m ++ [a] = _; rw [e, List.append_assoc]⟩
  · show (ν2.m ++ [a])[M2.length]? = some a
    rw [← r2.len]; simp
theorem handB_ok {W : WX} {ν ν2 ν' : Nu} {M1 M2 : Store} {H H' : Hp} {is : List Nat} {L n : Nat} {d : D} {v : V} {σV : L2.St} {Q : VK} (r2 : Rel K ν2 M2 H') (s2 : Stp ν H ν2 H') (r1 : Rel K ν' M1 H') (ef : ν2.F = ν'.F)
    (hw : ∀ x j, ν'.w x = some j → j ∉ is → ¬ (L ≤ j ∧ j < L + n) → ν2.w x = none) (old : ∀ x o, H x = some o → ν.w x = none → ν'.w x = none) (p : Rep ν'.F ν'.m d v) (h : PostG K W rE ν σV H Q (handB is L n d M1 M2)) : Q v H' := by
  cases p with
  | p p => exact h _ H' v s2 r2 (.p (by rw [ef]; exact p))
  | @cell j a hj =>
    have h : PostG K W rE ν σV H Q (match M1[j]? with
      | some c => if is.contains j = true ∨ (L ≤ j ∧ j < L + n) ∨ c.own = false then .no else .ok (.cell M2.length) (M2 ++ [c])
      | none => .no) := h
    cases e : M1[j]? with
    | none => rw [e] at h; exact h.elim
    | some c =>
      rw [e] at h
      have h : PostG K W rE ν σV H Q (if is.contains j = true ∨ (L ≤ j ∧ j < L + n) ∨ c.own = false then .no else .ok (.cell M2.length) (M2 ++ [c])) := h
      by_cases c1 : is.contains j = true ∨ (L ≤ j ∧ j < L + n) ∨ c.own = false
      · rw [if_pos c1] at h; exact h.elim
      · rw [if_neg c1] at h
        obtain ⟨c2, c3⟩ := not_or.mp c1
        obtain ⟨c3, c4⟩ := not_or.mp c3
        have ho : c.own = true := by cases z : c.own with | true => rfl | false => exact absurd z c4
        obtain ⟨ν3, r3, s3, m3, _⟩ := fresh r2 s2 r1 ef (fun x hx => hw x j hx (fun z => c2 (by simpa using z)) c3) old e hj ho
        exact h ν3 H' _ s3 r3 (.cell m3)
  | seqL _ _ => exact h.elim
  | seqT _ _ => exact h.elim
theorem callM_ok {W : WX} {l : Nat} {f : List D → Store → R D} {ν : Nu} {M : Store} {H : Hp} {n : Nat} {a : Addr} {ds : List D} {vs : List V} {σV : L2.St} {Q : VK} (hl : (V.ref a :: vs).length = l) (hn : ν.m[n]? = some a) (r : Rel K ν M H) (rp : Reps ν.F ν.m ds vs) (h : PostG K W rE ν σV H Q (callM f n ds M)) : spG K l f (V.ref a :: vs) H Q (WE W σV) := by
  unfold callM at h
  cases e0 : M[n]? with
  | none => rw [e0] at h; exact h.elim
  | some c0 =>
    rw [e0] at h
    cases c0 with
    | box sub =>
      simp only at h
      cases e1 : labs sub.length [] ds with
      | none => simp only [e1] at h; exact h.elim
      | some q1 =>
        obtain ⟨ds1, ns⟩ := q1
        simp only [e1] at h
        obtain ⟨nd, _, rps⟩ := labs_ok e1 List.nodup_nil
        by_cases cn : ns.contains n = true
        · rw [if_pos cn] at h; exact h.elim
        · rw [if_neg cn] at h
          have nn : n ∉ ns := fun z => cn (by simpa using z)
          cases e2 : lent M ns with
          | none => simp only [e2] at h; exact h.elim
          | some cs =>
            simp only [e2] at h
            obtain ⟨ν0, r0, ef, w1, w2, m0, at_, lt⟩ := unbox r e0 nn nd e2
            refine ⟨hl, ν0, .cell 0 :: ds1, sub ++ cs, r0, .cons (.cell (m0.trans hn)) (by rw [ef]; exact rps rp at_), ?_⟩
            have same0 : ∀ x o, H x = some o → (ν.w x = none ∨ ∃ k, ν.w x = some k ∧ k ≠ n ∧ k ∉ ns) → H x = some o ∧ ν0.F x = ν.F x ∧ ν0.w x = none := fun x o hx hw => ⟨hx, by rw [ef], hw.elim (w1 x) fun ⟨k, h1, h2, h3⟩ => w2 x k h1 h2 h3⟩
            have nl : n < M.length := (List.getElem?_eq_some_iff.mp e0).1
            revert h
            unfold PostF
            cases f (.cell 0 :: ds1) (sub ++ cs) with
            | no => exact fun h => h
            | ok d M1 =>
              intro h ν' H' v s r1 p
              simp only at h
              cases e3 : boxAt M1 0 with
              | none => simp only [e3] at h; exact h.elim
              | some q =>
                obtain ⟨sub', is⟩ := q
                simp only [e3] at h
                by_cases ap : apart is sub.length ns.length = true
                · rw [if_pos ap] at h
                  cases e4 : back (M.set n (.box sub')) ns (M1.drop sub.length) with
                  | none => simp only [e4] at h; exact h.elim
                  | some M2 =>
                    simp only [e4] at h
                    obtain ⟨ν2, r2, s2, m2, f2, hw⟩ := rebox (a := a) r (.inl ⟨rfl, rfl, nl⟩) nn nd lt same0 (by rw [ef]; exact Same.refl _) hn (m0.trans hn) at_ s r1 e3 ap e4
                    exact handB_ok r2 s2 r1 f2 hw (fun x o hx w => (s.fr x o hx (w1 x w)).2.2) p h
                · rw [if_neg ap] at h; exact h.elim
            | ex e M1 =>
              intro h ν' H' dd s r1 x
              simp only at h
              cases e3 : boxAt M1 0 with
              | none => simp only [e3] at h; exact h.elim
              | some q =>
                obtain ⟨sub', is⟩ := q
                simp only [e3] at h
                by_cases ap : apart is sub.length ns.length = true
                · rw [if_pos ap] at h
                  cases e4 : back (M.set n (.box sub')) ns (M1.drop sub.length) with
                  | none => simp only [e4] at h; exact h.elim
                  | some M2 =>
                    simp only [e4] at h
                    obtain ⟨ν2, r2, s2, m2, f2, hw⟩ := rebox (a := a) r (.inl ⟨rfl, rfl, nl⟩) nn nd lt same0 (by rw [ef]; exact Same.refl _) hn (m0.trans hn) at_ s r1 e3 ap e4
                    exact h _ H' dd s2 r2 (by unfold XR at x ⊢; rw [f2]; exact x)
                · rw [if_neg ap] at h; exact h.elim
    | _ => exact h.elim
end
end Fn

set_option Elab.async false
set_option linter.all false
set_option maxRecDepth 100000
set_option maxHeartbeats 4000000
/-! FJ: calls as expressions -/
namespace Fn
open PySem PySem.Spec PyProof.Rows L2
open U (new new_i new_e cond cond_i cond_e brn brn_i brn_t brn_f uB uTest uVar pe_is ps_is pi_is thnP opt opt_i opt_e Df Bd BdK Rm Nw Ext)
/-! ### a new object -/
def callN (c : Str) (f : List D → Store → R D) (ds : List D) (M : Store) : R D := match labs 1 [] ds with
  | some (ds1, ns) => (match lent M ns with
    | some cs => (match f (.cell 0 :: ds1) (.ins c [] :: cs) with
      | .ok d M1 => if isNo d = true then (match boxAt M1 0 with
        | some (sub', is) => if apart is 1 ns.length = true then (match back (M ++ [.box sub']) ns (M1.drop 1) with
          | some M2 => .ok (.cell M.length) M2
          | none => .no) else .no
        | none => .no) else .no
      | .ex e M1 => if ns.isEmpty = true then .ex e M else .no
      | .no => .no)
    | none => .no)
  | none => .no
def nuN (ν : Nu) (ns : List Nat) (x : Addr) : Nu := ⟨ν.F, x :: (nu0 ν ns).m, fun y => if y = x then some 0 else match (nu0 ν ns).w y with | some i => some (i + 1) | none => none⟩
section
variable {K : PySem.W.Frag}
theorem isNo_non {F : Hp} {m : List Addr} {d : D} {v : V} (h : isNo d = true) (r : Rep F m d v) : v = .non := by
  cases r with
  | p r => cases r with
    | non => rfl
    | _ => cases h
  | _ => cases h
theorem callN_ok {W : WX} {l : Nat} {c : Str} {f : List D → Store → R D} {ν : Nu} {M : Store} {H : Hp} {ds : List D} {vs : List V} {σV : L2.St} {Q : VK} (hl : vs.length + 1 = l) (r : Rel K ν M H) (rp : Reps ν.F ν.m ds vs) (h : PostG K W rE ν σV H Q (callN c f ds M)) :
    ∀ x dx, H x = none → H dx = none → dx ≠ x → spG K l f (V.ref x :: vs) (upd (upd H dx (.own x)) x (.ins (He.ga K c) dx [])) (fun v H3 => v = .non ∧ Q (.ref x) H3) (WE W σV) := by
  intro x dx hx hdx ne
  unfold callN at h
  cases e1 : labs 1 [] ds with
  | none => simp only [e1] at h; exact h.elim
  | some q1 =>
    obtain ⟨ds1, ns⟩ := q1
    simp only [e1] at h
    obtain ⟨nd, _, rps⟩ := labs_ok e1 List.nodup_nil
    cases e2 : lent M ns with
    | none => simp only [e2] at h; exact h.elim
    | some cs =>
      simp only [e2] at h
      obtain ⟨rl, lt, at_⟩ := lend r nd e2
      obtain ⟨l1, l2⟩ := lent_ok e2
      have nx : ∀ y, H y ≠ none → y ≠ x := fun y hy e => hy (e ▸ hx)
      have ndx : ∀ y, H y ≠ none → y ≠ dx := fun y hy e => hy (e ▸ hdx)
      have H0at : ∀ y, H y ≠ none → (upd (upd H dx (.own x)) x (.ins (He.ga K c) dx [])) y = H y := fun y hy => by rw [upd_ne (nx y hy), upd_ne (ndx y hy)]
      have r0 : Rel K (nuN ν ns x) (.ins c [] :: cs) (upd (upd H dx (.own x)) x (.ins (He.ga K c) dx [])) := by
        refine ⟨fun y u hy => ?_, by show (nu0 ν ns).m.length + 1 = cs.length + 1; rw [rl.len], fun k c' b e1 e2 => ?_, fun y k hy => ?_⟩
        · have := r.same y u hy
          rw [H0at y (by rw [this]; exact fun z => nomatch z)]; exact this
        · cases k with
          | zero =>
            cases e1; cases e2
            exact .ins (if_pos rfl) upd_same .nil
          | succ k =>
            have e1 : cs[k]? = some c' := by simpa using e1
            have e2 : (nu0 ν ns).m[k]? = some b := e2
            have ho : c'.own = true := by
              have hk : k < ns.length := by rw [← l1]; exact (List.getElem?_eq_some_iff.mp e1).1
              obtain ⟨c2, q1, q2, q3⟩ := l2 k ns[k] (List.getElem?_eq_getElem hk)
              rw [e1] at q1; cases q1; exact q3
            refine ((rl.cel k c' b e1 e2).own (m' := (nuN ν ns x).m) ho).keep (Same.refl _) ⟨[], by simp⟩ fun y hy hz => ⟨?_, H0at y hz⟩
            have hy : (nu0 ν ns).w y = some k := hy
            show (if y = x then some 0 else match (nu0 ν ns).w y with | some i => some (i + 1) | none => none) = some (k + 1)
            rw [if_neg (nx y hz), hy]
        · have hy : (if y = x then some 0 else match (nu0 ν ns).w y with | some i => some (i + 1) | none => none) = some k := hy
          by_cases e : y = x
          · rw [if_pos e] at hy; cases hy
            subst e
            exact ⟨U.fz_no r.same hx, (by rw [upd_same]; exact fun z => nomatch z), by simp⟩
          · rw [if_neg e] at hy
            cases e3 : (nu0 ν ns).w y with
            | none => rw [e3] at hy; cases hy
            | some i =>
              rw [e3] at hy
              cases hy
              obtain ⟨q1, q2, q3⟩ := rl.off y i e3
              exact ⟨q1, by rw [H0at y q2]; exact q2, by simp; omega⟩
      have same0 : ∀ y o, H y = some o → (ν.w y = none ∨ ∃ k, ν.w y = some k ∧ k ≠ M.length ∧ k ∉ ns) → (upd (upd H dx (.own x)) x (.ins (He.ga K c) dx [])) y = some o ∧ ν.F y = ν.F y ∧ (if y = x then some 0 else match (nu0 ν ns).w y with | some i => some (i + 1) | none => none) = none := fun y o hy hw => by
        have hz : H y ≠ none := by rw [hy]; exact fun z => nomatch z
        refine ⟨by rw [H0at y hz]; exact hy, rfl, ?_⟩
        rw [if_neg (nx y hz)]
        have : (nu0 ν ns).w y = none := by
          show (match ν.w y with | some k => pos k ns | none => none) = none
          rcases hw with hw | ⟨k, h1, h2, h3⟩
          · rw [hw]
          · rw [h1]
            show pos k ns = none
            cases q : pos k ns with
            | none => rfl
            | some i => exact absurd (List.mem_of_getElem? (pos_some q)) h3
        rw [this]
      refine ⟨by rw [List.length_cons]; exact hl, _, .cell 0 :: ds1, _, r0, .cons (.cell rfl) (rps rp fun i n a h1 h2 => ?_), ?_⟩
      · show (x :: (nu0 ν ns).m)[1 + i]? = some a
        rw [Nat.add_comm, List.getElem?_cons_succ]
        exact at_ i n a h1 h2
      · revert h
        unfold PostF
        cases f (.cell 0 :: ds1) (.ins c [] :: cs) with
        | no => exact fun h => h
        | ok d M1 =>
          intro h ν' H' v s r1 p
          simp only at h
          by_cases cd : isNo d = true
          · rw [if_pos cd] at h
            cases e3 : boxAt M1 0 with
            | none => simp only [e3] at h; exact h.elim
            | some q =>
              obtain ⟨sub', is⟩ := q
              simp only [e3] at h
              by_cases ap : apart is 1 ns.length = true
              · rw [if_pos ap] at h
                cases e4 : back (M ++ [.box sub']) ns (M1.drop 1) with
                | none => simp only [e4] at h; exact h.elim
                | some M2 =>
                  simp only [e4] at h
                  have hmn : (ν.m ++ [x])[M.length]? = some x := by rw [← r.len]; simp
                  obtain ⟨ν2, r2, s2, m2, f2, hw⟩ := rebox (L := 1) (a := x) (ν0 := nuN ν ns x) r (.inr ⟨rfl, rfl, rfl⟩) (fun z => by have := lt _ z; omega) nd lt same0 (Same.refl _) hmn rfl (fun i k a h1 h2 => by
                    show (x :: (nu0 ν ns).m)[1 + i]? = some a
                    rw [Nat.add_comm, List.getElem?_cons_succ]
                    exact at_ i k a h1 h2) s r1 e3 ap e4
                  exact ⟨isNo_non cd p, h ν2 H' (.ref x) s2 r2 (.cell (by rw [m2]; exact hmn))⟩
              · rw [if_neg ap] at h; exact h.elim
          · rw [if_neg cd] at h; exact h.elim
        | ex e M1 =>
          intro h ν' H' d s r1 xr
          simp only at h
          by_cases ce : ns.isEmpty = true
          · rw [if_pos ce] at h
            have ens : ns = [] := List.isEmpty_iff.mp ce
            have keepx : ∀ y, H y ≠ none → H' y = H y ∧ ν'.F y = ν.F y ∧ ν'.w y = none := fun y hy => by
              obtain ⟨o, eo⟩ := Option.ne_none_iff_exists'.mp hy
              have hw : ν.w y = none ∨ ∃ k, ν.w y = some k ∧ k ≠ M.length ∧ k ∉ ns := by
                cases q : ν.w y with
                | none => exact .inl rfl
                | some k => exact .inr ⟨k, rfl, by have := (r.off y k q).2.2; omega, by rw [ens]; simp⟩
              obtain ⟨g1, g2, g3⟩ := same0 y o eo hw
              obtain ⟨q1, q2, q3⟩ := s.fr y o g1 g3
              exact ⟨q1.trans eo.symm, q2, q3⟩
            refine h ⟨ν'.F, ν.m, ν.w⟩ H' d ⟨s.ff, fun y o hy w => ?_, [], by simp⟩ ⟨r1.same, r.len, fun n c' a e1 e2 => (r.cel n c' a e1 e2).keep s.ff ⟨[], by simp⟩ fun y hy hz => ⟨hy, (keepx y hz).1⟩, fun y n hy => ?_⟩ xr
            · obtain ⟨q1, q2, q3⟩ := keepx y (by rw [hy]; exact fun z => nomatch z)
              exact ⟨by rw [q1]; exact hy, q2, w⟩
            · obtain ⟨g1, g2, g3⟩ := r.off y n hy
              obtain ⟨q1, q2, q3⟩ := keepx y g2
              exact ⟨q2.trans g1, by rw [q1]; exact g2, g3⟩
          · rw [if_neg ce] at h; exact h.elim
end
/-! ### the calls' rules -/
def gCallF (n : Nat) (f : List D → Store → R D) (dds : List PyData) (gs : GA) : GE := fun σ M => (gs σ M).bind fun ds M1 => if (ds ++ dds.map D.p).length = n then callB f (ds ++ dds.map D.p) M1 else .no
def gCallK (n m : Nat) (f : List D → Store → R D) (g : List D → List D → List D) (gs gk : GA) : GE := fun σ M => (gs σ M).bind fun ds M1 => (gk σ M1).bind fun zs M2 => if ds.length = n ∧ zs.length = m then callB f (g ds zs) M2 else .no
def methOn (f : List D → Store → R D) (k : Nat) (ds : List D) (M : Store) : R D := match M[k]? with
  | some (.ins _ _) => f (.cell k :: ds) M
  | _ => callM f k ds M
def hasIns (c m : Str) (M : Store) (x : D) : Option Nat := match x with
  | .cell k => (match M[k]? with
    | some (.ins c' fs) => if c' = c ∧ fs.lookup m = none then some k else none
    | some (.box sub) => (match (sub[0]? : Option Cell) with
      | some (Cell.ins c' fs) => if c' = c ∧ fs.lookup m = none then some k else none
      | _ => none)
    | _ => none)
  | _ => none
def gMeth (c m : Str) (n : Nat) (f : List D → Store → R D) (dds : List PyData) (go : GE) (gs : GA) : GE := fun σ M => (go σ M).bind fun x M1 => match hasIns c m M1 x with
  | some k => (gs σ M1).bind fun ds M2 => if (ds ++ dds.map D.p).length + 1 = n then methOn f k (ds ++ dds.map D.p) M2 else .no
  | none => .no
def gMethK (c m : Str) (n l : Nat) (f : List D → Store → R D) (go : GE) (gs gk : GA) : GE := fun σ M => (go σ M).bind fun x M1 => match hasIns c m M1 x with
  | some k => (gs σ M1).bind fun ds M2 => (gk σ M2).bind fun zs M3 => if ds.length + 1 = n ∧ zs.length = l then methOn f k (ds ++ zs) M3 else .no
  | none => .no
def gMake (c : Str) (n : Nat) (f : List D → Store → R D) (gs : GA) : GE := fun σ M => (gs σ M).bind fun ds M1 => if ds.length + 1 = n then callN c f ds M1 else .no
section
variable {X : Cx} {K : PySem.W.Frag} {W : WX} {e o : Expr} {es : List Expr} {pos : Pos} {gs gk : GA} {go : GE} {k j : Nat} {fa C : Addr} {ps : List Str} {f : List D → Store → R D} {dvs : List V} {dds : List PyData} {x m : Str} {p apos : Pos} {n : Nat} {kws : List Keyword}
theorem fr_none {F : Hp} {m : List Addr} {f : Str} : ∀ {fs : List (Str × D)} {vs : List (Str × V)}, FR F m fs vs → fs.lookup f = none → vs.lookup f = none
  | _, _, .nil, h => rfl
  | (k, x) :: r, (_, v) :: w, .cons h1 h2, h => by
    rw [List.lookup_cons] at h ⊢
    cases e : f == k with
    | true => simp only [e] at h; cases h
    | false => simp only [e] at h ⊢; exact fr_none h2 h
theorem cE {ν : Nu} {H : Hp} {n : Nat} {a : Addr} {M : Store} (r : Rel K ν M H) (c : Cell) (e : M[n]? = some c) (hm : ν.m[n]? = some a) : CR K ν.F H ν.m (fun x => ν.w x = some n) c a := r.cel n c a e hm
theorem has_ok {ν : Nu} {M : Store} {H : Hp} {c m : Str} {x : D} {u : V} {k : Nat} {A : Prop} (r : Rel K ν M H) (p : Rep ν.F ν.m x u) (h : hasIns c m M x = some k) (q : A) : ∃ a, u = .ref a ∧ x = .cell k ∧ ν.m[k]? = some a ∧ U.insAt (He.ga K c) a m H A := by
  cases p with
  | @cell i a hn =>
    have h : (match M[i]? with
      | some (.ins c' fs) => if c' = c ∧ fs.lookup m = none then some i else none
      | some (.box sub) => (match (sub[0]? : Option Cell) with
        | some (.ins c' fs) => if c' = c ∧ fs.lookup m = none then some i else none
        | _ => none)
      | _ => none) = some k := h
    cases e : M[i]? with
    | none => rw [e] at h; cases h
    | some c0 =>
      rw [e] at h
      have q0 := r.cel i c0 a e hn
      cases c0 with
      | ins c' fs =>
        have h : (if c' = c ∧ fs.lookup m = none then some i else none) = some k := h
        by_cases cc : c' = c ∧ fs.lookup m = none
        · rw [if_pos cc] at h
          have h : i = k := Option.some.inj h
          subst h
          obtain ⟨rfl, c2⟩ := cc
          cases q0 with
          | ins h1 h2 h3 => exact ⟨a, rfl, rfl, hn, U.insAt_i h2 (fr_none h3 c2) q⟩
        · rw [if_neg cc] at h; cases h
      | box sub =>
        have h : (match (sub[0]? : Option Cell) with | some (.ins c' fs) => if c' = c ∧ fs.lookup m = none then some i else none | _ => none) = some k := h
        cases e2 : sub[0]? with
        | none => rw [e2] at h; cases h
        | some c1 =>
          rw [e2] at h
          cases c1 with
          | ins c' fs =>
            have h : (if c' = c ∧ fs.lookup m = none then some i else none) = some k := h
            by_cases cc : c' = c ∧ fs.lookup m = none
            · rw [if_pos cc] at h
              have h : i = k := Option.some.inj h
              subst h
              obtain ⟨rfl, c2⟩ := cc
              cases q0 with
              | box rt w h1 h2 h3 h4 =>
                cases h4 0 _ a e2 h2 with
                | ins k1 k2 k3 => exact ⟨a, rfl, rfl, hn, U.insAt_i k2 (fr_none k3 c2) q⟩
            · rw [if_neg cc] at h; cases h
          | _ => cases h
      | _ => cases h
  | _ => cases h
theorem methOn_ok {W : WX} {l : Nat} {f : List D → Store → R D} {ν : Nu} {M : Store} {H : Hp} {n : Nat} {a : Addr} {ds : List D} {vs : List V} {σV : L2.St} {Q : VK} (hl : (V.ref a :: vs).length = l) (hn : ν.m[n]? = some a) (r : Rel K ν M H) (rp : Reps ν.F ν.m ds vs) (h : PostG K W rE ν σV H Q (methOn f n ds M)) : spG K l f (V.ref a :: vs) H Q (WE W σV) := by
  unfold methOn at h
  have direct : PostG K W rE ν σV H Q (f (.cell n :: ds) M) → spG K l f (V.ref a :: vs) H Q (WE W σV) := fun h => ⟨hl, ν, .cell n :: ds, M, r, .cons (.cell hn) rp, by
    revert h
    unfold PostF
    cases f (.cell n :: ds) M with
    | ok d M1 => exact fun h => h
    | ex e M1 => exact fun h => h
    | no => exact fun h => h⟩
  cases e : M[n]? with
  | none => rw [e] at h; exact callM_ok hl hn r rp h
  | some c =>
    rw [e] at h
    cases c with
    | ins _ _ => exact direct h
    | _ => exact callM_ok hl hn r rp h
theorem reps_dds {F : Hp} {m : List Addr} {ds : List D} {vs dvs : List V} {dds : List PyData} (h : Reps F m ds vs) (hd : ∀ F, Vs F dvs dds) : Reps F m (ds ++ dds.map D.p) (vs ++ dvs) := by
  have app : ∀ {ds es : List D} {vs ws : List V}, Reps F m ds vs → Reps F m es ws → Reps F m (ds ++ es) (vs ++ ws) := by
    intro ds es vs ws h g
    induction ds generalizing vs with
    | nil => cases h; exact g
    | cons d r ih => cases h with | cons h1 h2 => exact .cons h1 (ih h2)
  exact app h (reps_of (hd F))
theorem reps_app2 {F : Hp} {m : List Addr} {ds es : List D} {vs ws : List V} (h : Reps F m ds vs) (g : Reps F m es ws) : Reps F m (ds ++ es) (vs ++ ws) := by
  induction ds generalizing vs with
  | nil => cases h; exact g
  | cons d r ih => cases h with | cons h1 h2 => exact .cons h1 (ih h2)
theorem fe_call (tk : Takes X W) (hK : X.K = K) (hd : ∀ F, Vs F dvs dds) (F : Df X.prog X.w X.K X.mg X.base k fa ps (spG K n f)) (B : Bd X.K fa ps dvs) (hr : Rm j X.A) (hk : k ≤ j) (hg : Gl X x) (hm : X.mg x = some (.ref fa))
    (ha : PA X (e :: es) (tA K W gs)) (hdb : (x == ("__debug__" : Str)) = false := by decide) (he : starEach (e :: es) X.env = (false, eval e X.env) :: starEach es X.env := by rfl) (hpl : (backTo pos (starEach es X.env)).any (·.1) = false := by rfl) :
    PE X (.Call (.Name x p) (e :: es) [] pos) (tE K W (gCallF n f dds gs)) := pe_is (U.pe_callD tk F B hr hk hg hm ha hdb he hpl) fun σV H Q q => by
  obtain ⟨ν, σ, M, rl, sl, h⟩ := q
  show tA K W gs σV H fun vs H1 => spG K n f (vs ++ dvs) H1 Q (WE W σV)
  refine bindG rl sl h fun vs H1 ds ν1 M1 s1 r1 sl1 p1 h1 => ?_
  have rp := reps_dds p1 hd
  by_cases c : (ds ++ dds.map D.p).length = n
  · rw [if_pos c] at h1
    exact callB_ok (by rw [reps_len rp]; exact c) r1 rp h1
  · rw [if_neg c] at h1; exact h1.elim
theorem fe_call0 (tk : Takes X W) (hK : X.K = K) (hd : ∀ F, Vs F dvs dds) (F : Df X.prog X.w X.K X.mg X.base k fa ps (spG K n f)) (B : Bd X.K fa ps dvs) (hr : Rm j X.A) (hk : k ≤ j) (hg : Gl X x) (hm : X.mg x = some (.ref fa)) (hdb : (x == ("__debug__" : Str)) = false := by decide) :
    PE X (.Call (.Name x p) [] [] pos) (tE K W (gCallF n f dds gNil)) := pe_is (U.pe_call0 tk F B hr hk hg hm hdb) fun σV H Q q => by
  obtain ⟨ν, σ, M, rl, sl, h⟩ := q
  show spG K n f ([] ++ dvs) H Q (WE W σV)
  have h1 : PostG K W rE ν σV H Q (if ([] ++ dds.map D.p).length = n then callB f ([] ++ dds.map D.p) M else .no) := h
  have rp := reps_dds (ds := []) (vs := []) (F := ν.F) (m := ν.m) .nil hd
  by_cases c : ([] ++ dds.map D.p).length = n
  · rw [if_pos c] at h1
    exact callB_ok (by rw [reps_len rp]; exact c) rl rp h1
  · rw [if_neg c] at h1; exact h1.elim
theorem fk_nil : PK X [] (tA K W gNil) := ⟨fun pos pins s σV H Q I q => pk_nil.run pos pins s σV H Q I (by
  obtain ⟨ν, σ, M, rl, sl, h⟩ := q
  exact ret1 (rep := rA) rl .nil h)⟩
theorem fk_cons {nm : Option Str} {kpos : Pos} {ge : GE} (ha : PE X e (tE K W ge)) (hr : PK X kws (tA K W gk)) : PK X (⟨nm, e, kpos⟩ :: kws) (tA K W (gCons ge gk)) :=
  ⟨fun pos pins s σV H Q I q => (pk_cons ha hr).run pos pins s σV H Q I (cons_ok q)⟩
theorem fe_callK {ks : List Str} (tk : Takes X W) (hK : X.K = K) (F : Df X.prog X.w X.K X.mg X.base k fa ps (spG K l f)) (B : BdK X.K fa ps n ks (fun vs zs => vs ++ zs)) (hr : Rm j X.A) (hk : k ≤ j) (hg : Gl X x) (hm : X.mg x = some (.ref fa)) (hl : l = n + ks.length)
    (ha : PA X (e :: es) (tA K W gs)) (hkw : PK X kws (tA K W gk)) (hall : (backToKw pos (keywordEach kws X.env)).all (·.1.isSome) = true := by rfl) (hks : (backToKw pos (keywordEach kws X.env)).filterMap (·.1) = ks := by rfl)
    (hdb : (x == ("__debug__" : Str)) = false := by decide) (he : starEach (e :: es) X.env = (false, eval e X.env) :: starEach es X.env := by rfl)
    (hpl : ((backTo pos (starEach (e :: es) X.env)).any (·.1) || (backToKw pos (keywordEach kws X.env)).any (·.1.isNone)) = false := by rfl) :
    PE X (.Call (.Name x p) (e :: es) kws pos) (tE K W (gCallK n ks.length f (fun a b => a ++ b) gs gk)) := pe_is (U.pe_callKU tk F B hr hk hg hm ha hkw hall hks hdb he hpl) fun σV H Q q => by
  obtain ⟨ν, σ, M, rl, sl, h⟩ := q
  show tA K W gs σV H fun vs H1 => tA K W gk σV H1 fun zs H2 => cond (vs.length = n ∧ zs.length = ks.length) (spG K l f (vs ++ zs) H2 Q (WE W σV))
  refine bindG rl sl h fun vs H1 ds ν1 M1 s1 r1 sl1 p1 h1 => bindG r1 sl1 h1 fun zs H2 es ν2 M2 s2 r2 sl2 p2 h2 => ?_
  by_cases c : ds.length = n ∧ es.length = ks.length
  · rw [if_pos c] at h2
    have e1 := reps_len p1
    have e2 := reps_len p2
    exact cond_i ⟨by omega, by omega⟩ (callB_ok (by rw [List.length_append]; omega) r2 (reps_app2 (Reps.stp p1 s2) p2) h2)
  · rw [if_neg c] at h2; exact h2.elim
/-- methods -/
theorem fe_meth {c : Str} {pl : Sem Bool} (tk : Takes X W) (hK : X.K = K) (hd : ∀ F, Vs F dvs dds) (he : PE X o (tE K W go)) (hc : Cls X.K (He.ga K c)) (hm : Meth X.K (He.ga K c) m fa) (F : Df X.prog X.w X.K X.mg X.base k fa ps (spG K n f)) (B : Bd X.K fa ps dvs) (hr : Rm j X.A) (hk : k ≤ j) (ha : PA X (e :: es) (tA K W gs))
    (hst : starEach (e :: es) X.env = (false, eval e X.env) :: starEach es X.env := by rfl) (hpl : (backTo pos (starEach es X.env)).any (·.1) = false := by rfl)
    (ht : eval (.Call (.Attribute o m apos) (e :: es) [] pos) X.env = (do
      let ov ← eval o X.env
      standAt apos.atName
      let (f, first) ← holding [ov] (getMethod ov m pl)
      callWith pos f first (backTo pos (starEach (e :: es) X.env)) (backToKw pos (keywordEach [] X.env))) := by rfl) :
    PE X (.Call (.Attribute o m apos) (e :: es) [] pos) (tE K W (gMeth c m n f dds go gs)) := pe_is (U.pe_meth tk he hc hm F B hr hk ha hst hpl ht) fun σV H Q q => by
  obtain ⟨ν, σ, M, rl, sl, h⟩ := q
  show tE K W go σV H fun x H1 => match x with
    | .ref a => U.insAt (He.ga K c) a m H1 (tA K W gs σV H1 fun vs H2 => spG K n f (x :: (vs ++ dvs)) H2 Q (WE W σV))
    | _ => False
  refine bindG rl sl h fun u H1 x ν1 M1 s1 r1 sl1 p1 h1 => ?_
  cases e1 : hasIns c m M1 x with
  | none => simp only [e1] at h1; exact h1.elim
  | some i =>
    simp only [e1] at h1
    obtain ⟨a, rfl, rfl, hi, g⟩ := has_ok (A := True) r1 p1 e1 True.intro
    unfold U.insAt at g
    show U.insAt (He.ga K c) a m H1 _
    unfold U.insAt
    refine ⟨g.1, bindG r1 sl1 h1 fun vs H2 ds ν2 M2 s2 r2 sl2 p2 h2 => ?_⟩
    have rp := reps_dds p2 hd
    by_cases c : (ds ++ dds.map D.p).length + 1 = n
    · rw [if_pos c] at h2
      have hi2 : ν2.m[i]? = some a := by obtain ⟨t, e⟩ := s2.mm; rw [e]; exact ix_app hi
      exact methOn_ok (by rw [List.length_cons, reps_len rp]; exact c) hi2 r2 rp h2
    · rw [if_neg c] at h2; exact h2.elim
theorem fe_meth0 {c : Str} {pl : Sem Bool} (tk : Takes X W) (hK : X.K = K) (hd : ∀ F, Vs F dvs dds) (he : PE X o (tE K W go)) (hc : Cls X.K (He.ga K c)) (hm : Meth X.K (He.ga K c) m fa) (F : Df X.prog X.w X.K X.mg X.base k fa ps (spG K n f)) (B : Bd X.K fa ps dvs) (hr : Rm j X.A) (hk : k ≤ j)
    (ht : eval (.Call (.Attribute o m apos) [] [] pos) X.env = (do
      let ov ← eval o X.env
      standAt apos.atName
      let (f, first) ← holding [ov] (getMethod ov m pl)
      callWith pos f first (backTo pos (starEach [] X.env)) (backToKw pos (keywordEach [] X.env))) := by rfl) :
    PE X (.Call (.Attribute o m apos) [] [] pos) (tE K W (gMeth c m n f dds go gNil)) := pe_is (U.pe_meth0 tk he hc hm F B hr hk ht) fun σV H Q q => by
  obtain ⟨ν, σ, M, rl, sl, h⟩ := q
  show tE K W go σV H fun x H1 => match x with
    | .ref a => U.insAt (He.ga K c) a m H1 (spG K n f (x :: ([] ++ dvs)) H1 Q (WE W σV))
    | _ => False
  refine bindG rl sl h fun u H1 x ν1 M1 s1 r1 sl1 p1 h1 => ?_
  cases e1 : hasIns c m M1 x with
  | none => simp only [e1] at h1; exact h1.elim
  | some i =>
    simp only [e1] at h1
    obtain ⟨a, rfl, rfl, hi, g⟩ := has_ok (A := True) r1 p1 e1 True.intro
    unfold U.insAt at g
    show U.insAt (He.ga K c) a m H1 _
    unfold U.insAt
    have h1 : PostG K W rE ν1 σV H1 Q (if ([] ++ dds.map D.p).length + 1 = n then methOn f i ([] ++ dds.map D.p) M1 else .no) := h1
    have rp := reps_dds (ds := []) (vs := []) (F := ν1.F) (m := ν1.m) .nil hd
    refine ⟨g.1, ?_⟩
    by_cases c : ([] ++ dds.map D.p).length + 1 = n
    · rw [if_pos c] at h1
      exact methOn_ok (by rw [List.length_cons, reps_len rp]; exact c) hi r1 rp h1
    · rw [if_neg c] at h1; exact h1.elim
/-- with keywords -/
theorem pe_methKU {C : Addr} {sp : Sp} {ks : List Str} {gV : List V → List V → List V} {ta : TE} {t tk' : TA} {pl : Sem Bool} (tk : Takes X W) (he : PE X o ta) (c : Cls X.K C) (hm : Meth X.K C m fa) (F : Df X.prog X.w X.K X.mg X.base k fa ps sp) (B : BdK X.K fa ps n ks gV) (hr : Rm j X.A) (hk : k ≤ j) (ha : PA X (e :: es) t) (hkw : PK X kws tk')
    (hall : (backToKw pos (keywordEach kws X.env)).all (·.1.isSome) = true := by rfl) (hks : (backToKw pos (keywordEach kws X.env)).filterMap (·.1) = ks := by rfl)
    (hst : starEach (e :: es) X.env = (false, eval e X.env) :: starEach es X.env := by rfl) (hpl : ((backTo pos (starEach (e :: es) X.env)).any (·.1) || (backToKw pos (keywordEach kws X.env)).any (·.1.isNone)) = false := by rfl)
    (ht : eval (.Call (.Attribute o m apos) (e :: es) kws pos) X.env = (do
      let ov ← eval o X.env
      standAt apos.atName
      let (f, first) ← holding [ov] (getMethod ov m pl)
      callWith pos f first (backTo pos (starEach (e :: es) X.env)) (backToKw pos (keywordEach kws X.env))) := by rfl) :
    PE X (.Call (.Attribute o m apos) (e :: es) kws pos) (U.uMethK C m n ks.length sp gV W ta t tk') := by
  obtain ⟨hkp, fd, g, a, hb⟩ := B
  refine ⟨fun pins s σ H Q I h => ?_⟩
  refine PySem.W.methodCall_KW (pl := pl) (thn (he.run pins s σ H _ I h) fun u s1 ⟨x, H1, I1, rx, h1⟩ => ?_) ht
  obtain ⟨a', rfl, h2⟩ := U.uMeth_e (A := fun a H1 => U.insAt C a m H1 (t σ H1 fun vs H2 => tk' σ H2 fun zs H3 => cond (vs.length + 1 = n ∧ zs.length = ks.length) (sp (gV (x :: vs) zs) H3 Q (WE W σ)))) h1
  unfold U.insAt at h2
  obtain ⟨⟨dx, fs, ea, l⟩, q⟩ := h2
  obtain rfl : u = Value.ref a' := rx
  refine getmeth_ok I1 ea c hm l ?_
  refine PySem.W.callWith_KW (first := [.ref a']) (h₀ := X.base) I.ok.mod.kin hm.kp hall (thn (ha.run pos pins s1 σ H1 _ I1 q) fun us s2 ⟨vs, H2, I2, r, q2⟩ => ?_) hpl hst
  refine thn (hkw.run pos pins s2 σ H2 _ I2 q2) fun ws s3 ⟨zs, H3, I3, rz, q3⟩ => ⟨I3.kIn, ?_⟩
  rw [hks]
  obtain ⟨⟨l1, l2⟩, q3⟩ := cond_e q3
  exact U.run_fK (us := .ref a' :: us) (vs := .ref a' :: vs) (F fd a) (hr.mono hk) hb tk I3 (.cons rfl r) rz l1 l2 q3
theorem pe_methKU0 {C : Addr} {sp : Sp} {ks : List Str} {gV : List V → List V → List V} {ta : TE} {tk' : TA} {pl : Sem Bool} (tk : Takes X W) (he : PE X o ta) (c : Cls X.K C) (hm : Meth X.K C m fa) (F : Df X.prog X.w X.K X.mg X.base k fa ps sp) (B : BdK X.K fa ps n ks gV) (hr : Rm j X.A) (hk : k ≤ j) (hkw : PK X kws tk')
    (hall : (backToKw pos (keywordEach kws X.env)).all (·.1.isSome) = true := by rfl) (hks : (backToKw pos (keywordEach kws X.env)).filterMap (·.1) = ks := by rfl)
    (hpl : ((backTo pos (starEach [] X.env)).any (·.1) || (backToKw pos (keywordEach kws X.env)).any (·.1.isNone)) = false := by rfl)
    (ht : eval (.Call (.Attribute o m apos) [] kws pos) X.env = (do
      let ov ← eval o X.env
      standAt apos.atName
      let (f, first) ← holding [ov] (getMethod ov m pl)
      callWith pos f first (backTo pos (starEach [] X.env)) (backToKw pos (keywordEach kws X.env))) := by rfl) :
    PE X (.Call (.Attribute o m apos) [] kws pos) (U.uMethK C m n ks.length sp gV W ta tNil tk') := by
  obtain ⟨hkp, fd, g, a, hb⟩ := B
  refine ⟨fun pins s σ H Q I h => ?_⟩
  refine PySem.W.methodCall_KW (pl := pl) (thn (he.run pins s σ H _ I h) fun u s1 ⟨x, H1, I1, rx, h1⟩ => ?_) ht
  obtain ⟨a', rfl, h2⟩ := U.uMeth_e (A := fun a H1 => U.insAt C a m H1 (tNil σ H1 fun vs H2 => tk' σ H2 fun zs H3 => cond (vs.length + 1 = n ∧ zs.length = ks.length) (sp (gV (x :: vs) zs) H3 Q (WE W σ)))) h1
  unfold U.insAt at h2
  obtain ⟨⟨dx, fs, ea, l⟩, q⟩ := h2
  obtain rfl : u = Value.ref a' := rx
  refine getmeth_ok I1 ea c hm l ?_
  refine PySem.W.callWith_KW0 (first := [.ref a']) (h₀ := X.base) I.ok.mod.kin hm.kp hall (thn (hkw.run pos pins s1 σ H1 _ I1 q) fun ws s3 ⟨zs, H3, I3, rz, q3⟩ => ⟨I3.kIn, ?_⟩) hpl
  rw [hks]
  obtain ⟨⟨l1, l2⟩, q3⟩ := cond_e q3
  exact U.run_fK (us := [.ref a']) (vs := [.ref a']) (F fd a) (hr.mono hk) hb tk I3 (.cons rfl .nil) rz l1 l2 q3
theorem methK_ok {c : Str} {ks : List Str} {l : Nat} {σV : L2.St} {H : Hp} {Q : VK} (hl : l = n + ks.length) (q : tE K W (gMethK c m n ks.length f go gs gk) σV H Q) : U.uMethK (He.ga K c) m n ks.length (spG K l f) (fun vs zs => vs ++ zs) W (tE K W go) (tA K W gs) (tA K W gk) σV H Q := by
  obtain ⟨ν, σ, M, rl, sl, h⟩ := q
  show tE K W go σV H fun x H1 => match x with
    | .ref a => U.insAt (He.ga K c) a m H1 (tA K W gs σV H1 fun vs H2 => tA K W gk σV H2 fun zs H3 => cond (vs.length + 1 = n ∧ zs.length = ks.length) (spG K l f ((x :: vs) ++ zs) H3 Q (WE W σV)))
    | _ => False
  refine bindG rl sl h fun u H1 x ν1 M1 s1 r1 sl1 p1 h1 => ?_
  cases e1 : hasIns c m M1 x with
  | none => simp only [e1] at h1; exact h1.elim
  | some i =>
    simp only [e1] at h1
    obtain ⟨a, rfl, rfl, hi, g⟩ := has_ok (A := True) r1 p1 e1 True.intro
    unfold U.insAt at g
    show U.insAt (He.ga K c) a m H1 _
    unfold U.insAt
    refine ⟨g.1, bindG r1 sl1 h1 fun vs H2 ds ν2 M2 s2 r2 sl2 p2 h2 => bindG r2 sl2 h2 fun zs H3 es ν3 M3 s3 r3 sl3 p3 h3 => ?_⟩
    by_cases c : ds.length + 1 = n ∧ es.length = ks.length
    · rw [if_pos c] at h3
      have e1 := reps_len p2
      have e2 := reps_len p3
      have hi2 : ν3.m[i]? = some a := by
        obtain ⟨t, e⟩ := (s2.trans s3).mm
        rw [e]; exact ix_app hi
      exact cond_i ⟨by omega, by omega⟩ (methOn_ok (by show (V.ref a :: (vs ++ zs)).length = l; rw [List.length_cons, List.length_append]; omega) hi2 r3 (reps_app2 (Reps.stp p2 s3) p3) h3)
    · rw [if_neg c] at h3; exact h3.elim
theorem fe_methK {c : Str} {ks : List Str} {l : Nat} {pl : Sem Bool} (tk : Takes X W) (hK : X.K = K) (he : PE X o (tE K W go)) (hc : Cls X.K (He.ga K c)) (hm : Meth X.K (He.ga K c) m fa) (F : Df X.prog X.w X.K X.mg X.base k fa ps (spG K l f)) (B : BdK X.K fa ps n ks (fun vs zs => vs ++ zs)) (hr : Rm j X.A) (hk : k ≤ j) (hl : l = n + ks.length) (ha : PA X (e :: es) (tA K W gs)) (hkw : PK X kws (tA K W gk))
    (hall : (backToKw pos (keywordEach kws X.env)).all (·.1.isSome) = true := by rfl) (hks : (backToKw pos (keywordEach kws X.env)).filterMap (·.1) = ks := by rfl)
    (hst : starEach (e :: es) X.env = (false, eval e X.env) :: starEach es X.env := by rfl) (hpl : ((backTo pos (starEach (e :: es) X.env)).any (·.1) || (backToKw pos (keywordEach kws X.env)).any (·.1.isNone)) = false := by rfl)
    (ht : eval (.Call (.Attribute o m apos) (e :: es) kws pos) X.env = (do
      let ov ← eval o X.env
      standAt apos.atName
      let (f, first) ← holding [ov] (getMethod ov m pl)
      callWith pos f first (backTo pos (starEach (e :: es) X.env)) (backToKw pos (keywordEach kws X.env))) := by rfl) :
    PE X (.Call (.Attribute o m apos) (e :: es) kws pos) (tE K W (gMethK c m n ks.length f go gs gk)) := pe_is (pe_methKU tk he hc hm F B hr hk ha hkw hall hks hst hpl ht) fun σV H Q q => methK_ok hl q
theorem fe_methK0 {c : Str} {ks : List Str} {l : Nat} {pl : Sem Bool} (tk : Takes X W) (hK : X.K = K) (he : PE X o (tE K W go)) (hc : Cls X.K (He.ga K c)) (hm : Meth X.K (He.ga K c) m fa) (F : Df X.prog X.w X.K X.mg X.base k fa ps (spG K l f)) (B : BdK X.K fa ps n ks (fun vs zs => vs ++ zs)) (hr : Rm j X.A) (hk : k ≤ j) (hl : l = n + ks.length) (hkw : PK X kws (tA K W gk))
    (hall : (backToKw pos (keywordEach kws X.env)).all (·.1.isSome) = true := by rfl) (hks : (backToKw pos (keywordEach kws X.env)).filterMap (·.1) = ks := by rfl)
    (hpl : ((backTo pos (starEach [] X.env)).any (·.1) || (backToKw pos (keywordEach kws X.env)).any (·.1.isNone)) = false := by rfl)
    (ht : eval (.Call (.Attribute o m apos) [] kws pos) X.env = (do
      let ov ← eval o X.env
      standAt apos.atName
      let (f, first) ← holding [ov] (getMethod ov m pl)
      callWith pos f first (backTo pos (starEach [] X.env)) (backToKw pos (keywordEach kws X.env))) := by rfl) :
    PE X (.Call (.Attribute o m apos) [] kws pos) (tE K W (gMethK c m n ks.length f go gNil gk)) := pe_is (pe_methKU0 tk he hc hm F B hr hk hkw hall hks hpl ht) fun σV H Q q => by
  have q2 := methK_ok hl q
  revert q2
  show (tE K W go σV H fun x H1 => match x with
    | .ref a => U.insAt (He.ga K c) a m H1 (tA K W gNil σV H1 fun vs H2 => tA K W gk σV H2 fun zs H3 => cond (vs.length + 1 = n ∧ zs.length = ks.length) (spG K l f ((x :: vs) ++ zs) H3 Q (WE W σV)))
    | _ => False) → tE K W go σV H fun x H1 => match x with
    | .ref a => U.insAt (He.ga K c) a m H1 (tA K W gk σV H1 fun zs H3 => cond (([] : List V).length + 1 = n ∧ zs.length = ks.length) (spG K l f ((x :: []) ++ zs) H3 Q (WE W σV)))
    | _ => False
  refine fun q => tG.mono q fun x H1 q => ?_
  cases x with
  | ref a =>
    have q : U.insAt (He.ga K c) a m H1 (tA K W gNil σV H1 fun vs H2 => tA K W gk σV H2 fun zs H3 => cond (vs.length + 1 = n ∧ zs.length = ks.length) (spG K l f ((V.ref a :: vs) ++ zs) H3 Q (WE W σV))) := q
    show U.insAt (He.ga K c) a m H1 _
    unfold U.insAt at q ⊢
    refine ⟨q.1, ?_⟩
    obtain ⟨ν, σ, M, rl, sl, h⟩ := q.2
    exact ret1 (rep := rA) rl .nil h
  | _ => exact q
/-- a new object -/
theorem fe_make {c : Str} (tk : Takes X W) (hK : X.K = K) (Mk_ : Mk X.K (He.ga K c) fa) (F : Df X.prog X.w X.K X.mg X.base k fa ps (spG K n f)) (B : Bd X.K fa ps []) (hr : Rm j X.A) (hk : k + 1 ≤ j) (hg : Gl X x) (hm : X.mg x = some (.ref (He.ga K c)))
    (ha : PA X (e :: es) (tA K W gs)) (hdb : (x == ("__debug__" : Str)) = false := by decide) (he : starEach (e :: es) X.env = (false, eval e X.env) :: starEach es X.env := by rfl) (hpl : (backTo pos (starEach es X.env)).any (·.1) = false := by rfl) :
    PE X (.Call (.Name x p) (e :: es) [] pos) (tE K W (gMake c n f gs)) := pe_is (U.pe_make tk Mk_ F B hr hk hg hm ha hdb he hpl) fun σV H Q q => by
  obtain ⟨ν, σ, M, rl, sl, h⟩ := q
  show tA K W gs σV H fun vs H1 => U.newI (He.ga K c) H1 fun x H2 => spG K n f (.ref x :: (vs ++ [])) H2 (fun v H3 => v = .non ∧ Q (.ref x) H3) (WE W σV)
  refine bindG rl sl h fun vs H1 ds ν1 M1 s1 r1 sl1 p1 h1 => ?_
  by_cases c : ds.length + 1 = n
  · rw [if_pos c] at h1
    rw [List.append_nil]
    exact U.newI_i (callN_ok (by rw [reps_len p1]; exact c) r1 p1 h1)
  · rw [if_neg c] at h1; exact h1.elim
/-! ### f-texts -/
def gFmt (g : GE) : GE := fun σ M => (g σ M).bind fun x M1 => match x with
  | .p (.str y) => if y.length ≤ sizeLine then .ok (.p (.str y)) M1 else .no
  | .p (.int i) => if i.natAbs.log2 < 1920 then .ok (.p (.str (toString i))) M1 else .no
  | _ => .no
theorem fe_fmt {g : GE} (he : PE X e (tE K W g)) : PE X (.FormattedValue e (-1) none pos) (tE K W (gFmt g)) := pe_is (U.pe_fmtU he) fun σV H Q q => by
  obtain ⟨ν, σ, M, rl, sl, h⟩ := q
  show tE K W g σV H fun x H1 => match x with
    | .str y => cond (y.length ≤ sizeLine) (Q (.str y) H1)
    | .int i => cond (i.natAbs.log2 < 1920) (Q (.str (toString i)) H1)
    | _ => False
  refine bindG rl sl h fun u H1 x ν1 M1 s1 r1 sl1 p1 h1 => ?_
  match x, u, p1, h1 with
  | .p (.str y), _, .p (.str _), h1 =>
    have h1 : PostG K W rE ν1 σV H1 Q (if y.length ≤ sizeLine then .ok (.p (.str y)) M1 else .no) := h1
    by_cases c : y.length ≤ sizeLine
    · rw [if_pos c] at h1; exact cond_i c (ret1 (rep := rE) r1 (.p (.str _)) h1)
    · rw [if_neg c] at h1; exact h1.elim
  | .p (.int y), _, .p (.int _), h1 =>
    have h1 : PostG K W rE ν1 σV H1 Q (if y.natAbs.log2 < 1920 then .ok (.p (.str (toString y))) M1 else .no) := h1
    by_cases c : y.natAbs.log2 < 1920
    · rw [if_pos c] at h1; exact cond_i c (ret1 (rep := rE) r1 (.p (.str _)) h1)
    · rw [if_neg c] at h1; exact h1.elim
inductive FJs (X : Cx) (K : PySem.W.Frag) (W : WX) : List Expr → List GE → Prop
  | nil : FJs X K W [] []
  | cons {e : Expr} {g : GE} {es : List Expr} {gs : List GE} (h : PE X e (tE K W g)) (r : FJs X K W es gs) : FJs X K W (e :: es) (g :: gs)
theorem FJs.pj {es : List Expr} {gs : List GE} (h : FJs X K W es gs) : PJ X es (gs.map (tE K W)) := by
  induction h with
  | nil => exact .nil
  | cons h _ ih => exact .cons h ih
def gJs : List GE → Str → GE
  | [], acc, _, M => .ok (.p (.str acc)) M
  | g :: r, acc, σ, M => (g σ M).bind fun x M1 => match x with
    | .p (.str y) => if (acc ++ y).length ≤ sizeLine then gJs r (acc ++ y) σ M1 else .no
    | _ => .no
theorem js_ok : ∀ {gs : List GE} {acc : Str} {ν : Nu} {σ : Sl} {M : Store} {σV : L2.St} {H : Hp} {Q : VK}, Rel K ν M H → Sld ν σ σV → PostG K W rE ν σV H Q (gJs gs acc σ M) → U.uJs (gs.map (tE K W)) acc σV H fun out H1 => Q (.str out) H1
  | [], acc, ν, σ, M, σV, H, Q, rl, sl, h => ret1 (rep := rE) rl (.p (.str _)) h
  | g :: r, acc, ν, σ, M, σV, H, Q, rl, sl, h => by
    show tE K W g σV H fun x H1 => match x with
      | .str y => cond ((acc ++ y).length ≤ sizeLine) (U.uJs (r.map (tE K W)) (acc ++ y) σV H1 fun out H1 => Q (.str out) H1)
      | _ => False
    refine bindG rl sl h fun u H1 x ν1 M1 s1 r1 sl1 p1 h1 => ?_
    match x, u, p1, h1 with
    | .p (.str y), _, .p (.str _), h1 =>
      have h1 : PostG K W rE ν1 σV H1 Q (if (acc ++ y).length ≤ sizeLine then gJs r (acc ++ y) σ M1 else .no) := h1
      by_cases c : (acc ++ y).length ≤ sizeLine
      · rw [if_pos c] at h1; exact cond_i c (js_ok r1 sl1 h1)
      · rw [if_neg c] at h1; exact h1.elim
theorem fe_joined {v1 v2 : Expr} {rest : List Expr} {gs : List GE} (h : FJs X K W (v1 :: v2 :: rest) gs) : PE X (.JoinedStr (v1 :: v2 :: rest) pos) (tE K W (gJs gs Str.empty)) := pe_is (U.pe_joinedU h.pj) fun σV H Q q => by
  obtain ⟨ν, σ, M, rl, sl, h⟩ := q
  exact js_ok rl sl h
end
end Fn
namespace Fn
open PySem PySem.Spec PyProof.Rows L2
open U (new new_i new_e cond cond_i cond_e pe_is ps_is)
/-! ### freezing a cell, lists made as cells -/
section
variable {X : Cx} {K : PySem.W.Frag} {W : WX} {e a b : Expr} {pos : Pos} {g ga gb : GE}
def pFrz (x : D) (M : Store) : R D := match x with
  | .cell n => (match M[n]? with
    | some (.lst xs) => .ok (.p (.list xs)) (M.set n .gone)
    | _ => .ok x M)
  | _ => .ok x M
def gFrz (g : GE) : GE := fun σ M => (g σ M).bind pFrz
theorem Rel.frz {ν : Nu} {M : Store} {H : Hp} {n : Nat} {a : Addr} {xs : List PyData} (r : Rel K ν M H) (e : M[n]? = some (.lst xs)) (hn : ν.m[n]? = some a) : ∃ ν', Rel K ν' (M.set n .gone) H ∧ Stp ν H ν' H ∧ Rep ν'.F ν'.m (.p (.list xs)) (.ref a) := by
  cases r.cel n _ a e hn with
  | @lst _ _ _ vs _ h1 h2 h3 =>
    have h1 : ν.w a = some n := h1
    have fa := (r.off a n h1).1
    have s : Same ν.F (upd ν.F a (.lst vs)) := U.Same.new (Same.refl _) fa
    have wn : ∀ x, (fun x => if x = a then none else ν.w x) x ≠ none → x ≠ a := fun x h z => h (if_pos z)
    refine ⟨⟨upd ν.F a (.lst vs), ν.m, fun x => if x = a then none else ν.w x⟩, ⟨fun x u h => ?_, by rw [List.length_set]; exact r.len, fun k c b e1 e2 => ?_, fun x k h => ?_⟩, ⟨s, fun x o h w => ?_, [], by simp⟩, .p (.lst (.inl upd_same) (Vs.same s h3))⟩
    · have h : upd ν.F a (.lst vs) x = some u := h
      by_cases z : x = a
      · subst z; rw [upd_same] at h; rw [← h]; exact h2
      · rw [upd_ne z] at h; exact r.same x u h
    · by_cases hk : k = n
      · subst hk
        rw [List.getElem?_set_self (List.getElem?_eq_some_iff.mp e).1] at e1
        cases e1
        exact .gone
      · rw [List.getElem?_set_ne (fun z => hk z.symm)] at e1
        refine (r.cel k c b e1 e2).keep s ⟨[], by simp⟩ fun x hx _ => ⟨?_, rfl⟩
        have hx : ν.w x = some k := hx
        have z : x ≠ a := fun z => by rw [z, h1] at hx; exact hk (Option.some.inj hx).symm
        show (if x = a then none else ν.w x) = some k
        rw [if_neg z]; exact hx
    · have h : (if x = a then none else ν.w x) = some k := h
      by_cases z : x = a
      · rw [if_pos z] at h; cases h
      · rw [if_neg z] at h
        obtain ⟨q1, q2, q3⟩ := r.off x k h
        exact ⟨by show upd ν.F a (.lst vs) x = none; rw [upd_ne z]; exact q1, q2, by rw [List.length_set]; exact q3⟩
    · have z : x ≠ a := fun z => by rw [z, h1] at w; cases w
      refine ⟨h, by show upd ν.F a (.lst vs) x = _; rw [upd_ne z], ?_⟩
      show (if x = a then none else ν.w x) = none
      rw [if_neg z]; exact w
theorem frz_ok {ν : Nu} {M : Store} {H : Hp} {x : D} {u : V} {σV : L2.St} {Q : VK} (r : Rel K ν M H) (p : Rep ν.F ν.m x u) (h : PostG K W rE ν σV H Q (pFrz x M)) : Q u H := by
  cases p with
  | @cell n a hn =>
    have h : PostG K W rE ν σV H Q (match M[n]? with
      | some (.lst xs) => .ok (.p (.list xs)) (M.set n .gone)
      | _ => .ok (.cell n) M) := h
    have keep : PostG K W rE ν σV H Q (.ok (.cell n) M) → Q (.ref a) H := fun h => ret1 (rep := rE) r (.cell hn) h
    cases e : M[n]? with
    | none => rw [e] at h; exact keep h
    | some c =>
      rw [e] at h
      cases c with
      | lst xs =>
        obtain ⟨ν', r', s', p'⟩ := r.frz e hn
        exact retN (rep := rE) h s' r' p'
      | _ => exact keep h
  | p p => exact ret1 (rep := rE) r (.p p) h
  | seqL h1 h2 => exact ret1 (rep := rE) r (.seqL h1 h2) h
  | seqT h1 h2 => exact ret1 (rep := rE) r (.seqT h1 h2) h
theorem fe_frz (he : PE X e (tE K W g)) : PE X e (tE K W (gFrz g)) := pe_is he fun σV H Q q => by
  obtain ⟨ν, σ, M, rl, sl, h⟩ := q
  exact bindG rl sl h fun u H1 x ν1 M1 s1 r1 sl1 p1 h1 => frz_ok r1 p1 h1
def pAddC (x y : D) (M : Store) : R D := match seqOf M x, seqOf M y with
  | some (false, xs), some (false, ys) => if xs.length + ys.length ≤ sizeLine then .ok (.cell M.length) (M ++ [.lst (xs ++ ys)]) else .no
  | _, _ => .no
theorem s_addC : OpS K pAddC rAdd := by
  intro W ν M H x y u v σV Q rl px py h
  have h : PostG K W rE ν σV H Q (match seqOf M x, seqOf M y with
      | some (false, xs), some (false, ys) => if xs.length + ys.length ≤ sizeLine then .ok (.cell M.length) (M ++ [.lst (xs ++ ys)]) else .no
      | _, _ => .no) := h
  cases ex : seqOf M x with
  | none => rw [ex] at h; exact h.elim
  | some bx =>
    obtain ⟨bx, xs⟩ := bx
    cases ey : seqOf M y with
    | none => rw [ex, ey] at h; cases bx <;> exact h.elim
    | some by_ =>
      obtain ⟨by_, ys⟩ := by_
      rw [ex, ey] at h
      cases bx with
      | true => exact h.elim
      | false =>
        cases by_ with
        | true => exact h.elim
        | false =>
          obtain ⟨a1, vs1, rfl, h1, q1⟩ := seq_ok rl px ex
          obtain ⟨a2, vs2, rfl, h2, q2⟩ := seq_ok rl py ey
          have h : PostG K W rE ν σV H Q (if xs.length + ys.length ≤ sizeLine then .ok (.cell M.length) (M ++ [.lst (xs ++ ys)]) else .no) := h
          by_cases c : xs.length + ys.length ≤ sizeLine
          · rw [if_pos c] at h
            exact .inr ⟨a1, a2, vs1, vs2, rfl, rfl, h1, h2, by rw [vs_len q1, vs_len q2]; exact c, new_cell rl (vs_app q1 q2) h⟩
          · rw [if_neg c] at h; exact h.elim
theorem fe_addC (ha : PE X a (tE K W ga)) (hb : PE X b (tE K W gb)) : PE X (.BinOp a .Add b pos) (tE K W (gBin pAddC ga gb)) := fe_op u_addR s_addC ha hb
def pSlC (x : D) (lo hi : Option Int) (M : Store) : R D := match seqOf M x with
  | some (false, xs) => .ok (.cell M.length) (M ++ [.lst (cutP xs lo hi)])
  | _ => .no
def gSliceC (ga : GE) (gl gh : GO) : GE := fun σ M => (ga σ M).bind fun x M1 => (gl σ M1).bind fun lo M2 => (gh σ M2).bind fun hi M3 => pSlC x lo hi M3
theorem fe_sliceC {lo hi : Option Expr} {gl gh : GO} {p2 : Pos} (hK : X.K = K) (he : PE X e (tE K W ga)) (hl : PO X lo (tO K W gl)) (hu : PO X hi (tO K W gh)) : PE X (.Subscript e (.Slice lo hi none p2) pos) (tE K W (gSliceC ga gl gh)) := pe_is (pe_slice (u_slRK hK) he hl hu) fun σV H Q q => by
  obtain ⟨ν, σ, M, rl, sl, h⟩ := q
  refine bindG rl sl h fun u H1 x ν1 M1 s1 r1 sl1 p1 h1 => bindG r1 sl1 h1 fun lo H2 lo' ν2 M2 s2 r2 sl2 p2 h2 => bindG r2 sl2 h2 fun hi H3 hi' ν3 M3 s3 r3 sl3 p3 h3 => ?_
  obtain rfl : lo' = lo := p2
  obtain rfl : hi' = hi := p3
  unfold pSlC at h3
  cases ex : seqOf M3 x with
  | none => rw [ex] at h3; exact h3.elim
  | some bx =>
    obtain ⟨b, xs⟩ := bx
    rw [ex] at h3
    cases b with
    | true => exact h3.elim
    | false =>
      obtain ⟨a, vs, rfl, k1, k2⟩ := seq_ok r3 (Rep.stp (Rep.stp p1 s2) s3) ex
      exact .inl (U.slO_l (.inl k1) (new_i (new_cell r3 (vs_cut k2 lo' hi') h3)))
end
end Fn

set_option Elab.async false
set_option linter.all false
set_option maxRecDepth 100000
set_option maxHeartbeats 4000000
/-! FK: how a function of values is worked out -/
namespace Fn
open PySem PySem.Spec PyProof.Rows L2
theorem sizeLine_eq : sizeLine = 16777216 := by decide
section
variable {α β : Type} {c : Prop} [Decidable c]
@[simp] theorem bind_ok (a : α) (M : Store) (k : α → Store → R β) : (R.ok a M).bind k = k a M := rfl
@[simp] theorem bind_no (k : α → Store → R β) : (R.no : R α).bind k = .no := rfl
@[simp] theorem bind_ex (e : Exn) (M : Store) (k : α → Store → R β) : (R.ex e M : R α).bind k = .ex e M := rfl
@[simp] theorem bind_ite (a b : R α) (k : α → Store → R β) : (if c then a else b).bind k = if c then a.bind k else b.bind k := by split <;> rfl
@[simp] theorem toS_ok (a : α) (M : Store) (σ : Sl) (k : α → Store → SR) : (R.ok a M).toS σ k = k a M := rfl
@[simp] theorem toS_no (σ : Sl) (k : α → Store → SR) : (R.no : R α).toS σ k = .no := rfl
@[simp] theorem toS_ex (e : Exn) (M : Store) (σ : Sl) (k : α → Store → SR) : (R.ex e M : R α).toS σ k = .ex e σ M := rfl
@[simp] theorem toS_ite (a b : R α) (σ : Sl) (k : α → Store → SR) : (if c then a else b).toS σ k = if c then a.toS σ k else b.toS σ k := by split <;> rfl
@[simp] theorem toS_bind (r : R α) (f : α → Store → R β) (σ : Sl) (k : β → Store → SR) : (r.bind f).toS σ k = r.toS σ fun a M => (f a M).toS σ k := by cases r <;> rfl
@[simp] theorem bind_bind {γ : Type} (r : R α) (f : α → Store → R β) (k : β → Store → R γ) : (r.bind f).bind k = r.bind fun a M => (f a M).bind k := by cases r <;> rfl
end
def SR.seq (r : SR) (b : GS) : SR := match r with
  | .nx σ M => b σ M
  | r => r
def SR.fin (r : SR) : R D := match r with
  | .rt d M => .ok d M
  | .nx _ M => .ok (.p .none) M
  | .ex e _ M => .ex e M
  | _ => .no
section
variable {c : Prop} [Decidable c] {α : Type}
@[simp] theorem seq_nx (σ : Sl) (M : Store) (b : GS) : (SR.nx σ M).seq b = b σ M := rfl
@[simp] theorem seq_rt (d : D) (M : Store) (b : GS) : (SR.rt d M).seq b = .rt d M := rfl
@[simp] theorem seq_no (b : GS) : SR.no.seq b = .no := rfl
@[simp] theorem seq_bk (σ : Sl) (M : Store) (b : GS) : (SR.bk σ M).seq b = .bk σ M := rfl
@[simp] theorem seq_ct (σ : Sl) (M : Store) (b : GS) : (SR.ct σ M).seq b = .ct σ M := rfl
@[simp] theorem seq_ex (e : Exn) (σ : Sl) (M : Store) (b : GS) : (SR.ex e σ M).seq b = .ex e σ M := rfl
@[simp] theorem seq_ite (x y : SR) (b : GS) : (if c then x else y).seq b = if c then x.seq b else y.seq b := by split <;> rfl
@[simp] theorem seq_seq (x : SR) (a b : GS) : (x.seq a).seq b = x.seq fun σ M => (a σ M).seq b := by cases x <;> rfl
@[simp] theorem seq_toS (r : R α) (σ : Sl) (k : α → Store → SR) (b : GS) : (r.toS σ k).seq b = (r.toS σ fun a M => (k a M).seq b : SR).seq (fun σ M => .nx σ M) := by
  cases r with
  | ok a M => show (k a M).seq b = ((k a M).seq b).seq _; cases (k a M).seq b <;> rfl
  | ex e M => rfl
  | no => rfl
@[simp] theorem fin_rt (d : D) (M : Store) : (SR.rt d M).fin = .ok d M := rfl
@[simp] theorem fin_nx (σ : Sl) (M : Store) : (SR.nx σ M).fin = .ok (.p .none) M := rfl
@[simp] theorem fin_ex (e : Exn) (σ : Sl) (M : Store) : (SR.ex e σ M).fin = .ex e M := rfl
@[simp] theorem fin_no : SR.no.fin = .no := rfl
@[simp] theorem fin_ite (x y : SR) : (if c then x else y).fin = if c then x.fin else y.fin := by split <;> rfl
end
theorem seq_nil (x : SR) : x.seq (fun σ M => .nx σ M) = x := by cases x <;> rfl
def varR (o : Option (Option D)) (M : Store) : R D := match o with
  | some (some d) => .ok d M
  | _ => .no
@[simp] theorem varR_some (d : D) (M : Store) : varR (some (some d)) M = .ok d M := rfl
section
variable (σ : Sl) (M : Store) (g ga gb gc : GE) (gs gk : GA) (ta tb : GT) (a b : GS)
@[simp] theorem gVar_eq (i : Nat) : gVar i σ M = varR σ[i]? M := rfl
@[simp] theorem gK_eq (x : PyData) : gK x σ M = .ok (.p x) M := rfl
@[simp] theorem gUn_eq (op : D → Store → R D) : gUn op ga σ M = (ga σ M).bind op := rfl
@[simp] theorem gBin_eq (op : D → D → Store → R D) : gBin op ga gb σ M = (ga σ M).bind fun x M1 => (gb σ M1).bind fun y M2 => op x y M2 := rfl
@[simp] theorem gTB_eq : gTB g σ M = (g σ M).bind asB := rfl
@[simp] theorem asB_eq (k : Bool) : asB (.p (.bool k)) M = .ok k M := rfl
@[simp] theorem gAndT_eq : gAndT ta tb σ M = (ta σ M).bind fun c M1 => if c = true then tb σ M1 else .ok false M1 := rfl
@[simp] theorem gOrT_eq : gOrT ta tb σ M = (ta σ M).bind fun c M1 => if c = true then .ok true M1 else tb σ M1 := rfl
@[simp] theorem gNotT_eq : gNotT ta σ M = (ta σ M).bind fun c M1 => .ok (!c) M1 := rfl
@[simp] theorem gTru_eq : gTru g σ M = (g σ M).bind truD := rfl
@[simp] theorem gAnd_eq : gAnd ga gb σ M = (ga σ M).bind fun x M1 => (asB x M1).bind fun c M2 => if c = true then gb σ M2 else .ok (.p (.bool false)) M2 := rfl
@[simp] theorem gOr_eq : gOr ga gb σ M = (ga σ M).bind fun x M1 => (asB x M1).bind fun c M2 => if c = true then .ok (.p (.bool true)) M2 else gb σ M2 := rfl
@[simp] theorem gNot_eq : gNot ga σ M = (ga σ M).bind fun x M1 => (asB x M1).bind fun c M2 => .ok (.p (.bool (!c))) M2 := rfl
@[simp] theorem gIf_eq : gIf ta ga gb σ M = (ta σ M).bind fun c M1 => if c = true then ga σ M1 else gb σ M1 := rfl
@[simp] theorem gChain_eq (op op' : D → D → Store → R D) : gChain op op' ga gb gc σ M = (ga σ M).bind fun x M1 => (gb σ M1).bind fun y M2 => (op x y M2).bind fun z M3 => (asB z M3).bind fun k M4 =>
  if k = true then (gc σ M4).bind fun w M5 => op' y w M5 else .ok (.p (.bool false)) M4 := rfl
@[simp] theorem gNil_eq : gNil σ M = .ok [] M := rfl
@[simp] theorem gCons_eq : gCons ga gs σ M = (ga σ M).bind fun x M1 => (gs σ M1).bind fun xs M2 => .ok (x :: xs) M2 := rfl
@[simp] theorem gLst_eq : gLst gs σ M = (gs σ M).bind fun ds M1 => if ds.length ≤ 16777216 then .ok (mkL ds) M1 else .no := by
  unfold gLst; rw [sizeLine_eq]
@[simp] theorem gTup_eq : gTup gs σ M = (gs σ M).bind fun ds M1 => if ds.length ≤ 16777216 then .ok (mkT ds) M1 else .no := by
  unfold gTup; rw [sizeLine_eq]
def lstC (ds : List D) (M1 : Store) : R D := match pures ds with
  | some xs => if xs.length ≤ 16777216 then .ok (.cell M1.length) (M1 ++ [.lst xs]) else .no
  | none => .no
@[simp] theorem gLstC_eq : gLstC gs σ M = (gs σ M).bind lstC := by
  unfold gLstC lstC
  rw [sizeLine_eq]
  try rfl
@[simp] theorem gNone_eq : gNone σ M = .ok none M := rfl
def partR (x : D) (M1 : Store) : R (Option Int) := match x with
  | .p (.int i) => .ok (some i) M1
  | _ => .no
@[simp] theorem partR_int (i : Int) : partR (.p (.int i)) M = .ok (some i) M := rfl
@[simp] theorem gPart_eq : gPart g σ M = (g σ M).bind partR := rfl
@[simp] theorem gSlice_eq (gl gh : GO) : gSlice ga gl gh σ M = (ga σ M).bind fun x M1 => (gl σ M1).bind fun lo M2 => (gh σ M2).bind fun hi M3 => pSl x lo hi M3 := rfl
@[simp] theorem gSliceC_eq (gl gh : GO) : gSliceC ga gl gh σ M = (ga σ M).bind fun x M1 => (gl σ M1).bind fun lo M2 => (gh σ M2).bind fun hi M3 => pSlC x lo hi M3 := rfl
@[simp] theorem gCall_eq (op : List D → Store → R D) : gCall op gs σ M = (gs σ M).bind op := rfl
@[simp] theorem gMet_eq (T : String) (op : D → List D → Store → R D) : gMet T op ga gs σ M = (ga σ M).bind fun x M1 => if tyD T M1 x = true then (gs σ M1).bind fun ds M2 => op x ds M2 else .no := rfl
@[simp] theorem gMet0_eq (T : String) (op : D → List D → Store → R D) : gMet0 T op ga σ M = (ga σ M).bind fun x M1 => if tyD T M1 x = true then op x [] M1 else .no := rfl
@[simp] theorem gCallF_eq (n : Nat) (f : List D → Store → R D) (dds : List PyData) : gCallF n f dds gs σ M = (gs σ M).bind fun ds M1 => if (ds ++ dds.map D.p).length = n then callB f (ds ++ dds.map D.p) M1 else .no := rfl
@[simp] theorem gCallK_eq (n m : Nat) (f : List D → Store → R D) (g : List D → List D → List D) : gCallK n m f g gs gk σ M = (gs σ M).bind fun ds M1 => (gk σ M1).bind fun zs M2 => if ds.length = n ∧ zs.length = m then callB f (g ds zs) M2 else .no := rfl
def methB (c m : Str) (n : Nat) (f : List D → Store → R D) (dds : List PyData) (gs : GA) (σ : Sl) (o : Option Nat) (M1 : Store) : R D := match o with
  | some k => (gs σ M1).bind fun ds M2 => if (ds ++ dds.map D.p).length + 1 = n then methOn f k (ds ++ dds.map D.p) M2 else .no
  | none => .no
@[simp] theorem methB_some (c m : Str) (n : Nat) (f : List D → Store → R D) (dds : List PyData) (k : Nat) : methB c m n f dds gs σ (some k) M = (gs σ M).bind fun ds M2 => if (ds ++ dds.map D.p).length + 1 = n then methOn f k (ds ++ dds.map D.p) M2 else .no := rfl
@[simp] theorem gMeth_eq (c m : Str) (n : Nat) (f : List D → Store → R D) (dds : List PyData) : gMeth c m n f dds ga gs σ M = (ga σ M).bind fun x M1 => methB c m n f dds gs σ (hasIns c m M1 x) M1 := rfl
def methKB (c m : Str) (n l : Nat) (f : List D → Store → R D) (gs gk : GA) (σ : Sl) (o : Option Nat) (M1 : Store) : R D := match o with
  | some k => (gs σ M1).bind fun ds M2 => (gk σ M2).bind fun zs M3 => if ds.length + 1 = n ∧ zs.length = l then methOn f k (ds ++ zs) M3 else .no
  | none => .no
@[simp] theorem methKB_some (c m : Str) (n l : Nat) (f : List D → Store → R D) (k : Nat) : methKB c m n l f gs gk σ (some k) M = (gs σ M).bind fun ds M2 => (gk σ M2).bind fun zs M3 => if ds.length + 1 = n ∧ zs.length = l then methOn f k (ds ++ zs) M3 else .no := rfl
@[simp] theorem gMethK_eq (c m : Str) (n l : Nat) (f : List D → Store → R D) : gMethK c m n l f ga gs gk σ M = (ga σ M).bind fun x M1 => methKB c m n l f gs gk σ (hasIns c m M1 x) M1 := rfl
@[simp] theorem gMake_eq (c : Str) (n : Nat) (f : List D → Store → R D) : gMake c n f gs σ M = (gs σ M).bind fun ds M1 => if ds.length + 1 = n then callN c f ds M1 else .no := rfl
@[simp] theorem gFrz_eq : gFrz g σ M = (g σ M).bind pFrz := rfl
def fldR (c f : Str) (M1 : Store) (o : Option (Nat × Str × List (Str × D))) : R D := match o with
  | some (_, c', fs) => if c' = c then optR (fs.lookup f) fun d => .ok d M1 else .no
  | none => .no
@[simp] theorem gFld_eq (c f : Str) : gFld c f g σ M = (g σ M).bind fun x M1 => fldR c f M1 (insAt M1 x) := rfl
@[simp] theorem fldR_some (c f c' : Str) (k : Nat) (fs : List (Str × D)) : fldR c f M (some (k, c', fs)) = if c' = c then optR (fs.lookup f) fun d => .ok d M else .no := rfl
@[simp] theorem optR_some {α : Type} (x : α) (k : α → R D) : optR (some x) k = k x := rfl
@[simp] theorem optR_none {α : Type} (k : α → R D) : optR none k = .no := rfl
/-- statements -/
@[simp] theorem gNx_eq : gNx σ M = .nx σ M := rfl
@[simp] theorem gBk_eq : gBk σ M = .bk σ M := rfl
@[simp] theorem gCt_eq : gCt σ M = .ct σ M := rfl
@[simp] theorem gStuck_eq : gStuck σ M = .no := rfl
@[simp] theorem gSeq_eq : gSeq a b σ M = (a σ M).seq b := rfl
@[simp] theorem gRet_eq : gRet g σ M = (g σ M).toS σ fun d M1 => .rt d M1 := rfl
@[simp] theorem gRetN_eq : gRetN σ M = .rt (.p .none) M := rfl
@[simp] theorem gExp_eq : gExp g σ M = (g σ M).toS σ fun d M1 => .nx σ M1 := rfl
@[simp] theorem gSet_eq (i : Nat) : gSet i g σ M = (g σ M).toS σ fun d M1 => .nx (σ.set i (some d)) M1 := rfl
@[simp] theorem gIfS_eq : gIfS ta a b σ M = (ta σ M).toS σ fun k M1 => if k = true then a σ M1 else b σ M1 := rfl
@[simp] theorem gF_eq (N : Nat) (ds : List D) : gF N a ds M = (a (ds.map some ++ List.replicate (N - ds.length) none) M).fin := rfl
def asgR (t : Option Sl) (M1 : Store) : SR := match t with
  | some σ1 => .nx σ1 M1
  | none => .no
@[simp] theorem asgR_some : asgR (some σ) M = .nx σ M := rfl
@[simp] theorem gAsg_eq (t : Tg) : gAsg t g σ M = (g σ M).toS σ fun d M1 => asgR (dT t d σ) M1 := rfl
def setFR (c f : Str) (y : D) (σ : Sl) (M2 : Store) (o : Option (Nat × Str × List (Str × D))) : SR := match o with
  | some (n, c', fs) => if c' = c ∧ fs.length < 1000 then .nx σ (M2.set n (.ins c (putD f y fs))) else .no
  | none => .no
@[simp] theorem gSetF_eq (c f : Str) : gSetF c f ga gb σ M = (gb σ M).toS σ fun y M1 => (ga σ M1).toS σ fun x M2 => setFR c f y σ M2 (insAt M2 x) := rfl
@[simp] theorem setFR_some (c f c' : Str) (y : D) (n : Nat) (fs : List (Str × D)) : setFR c f y σ M (some (n, c', fs)) = if c' = c ∧ fs.length < 1000 then .nx σ (M.set n (.ins c (putD f y fs))) else .no := rfl
def setIxR (y i : D) (σ : Sl) (M3 : Store) (o : Option (Nat × List PyData)) : SR := match o, i, y with
  | some (n, xs), .p (.int k), .p z => (match ixN xs.length k with
    | some j => .nx σ (M3.set n (.lst (xs.set j z)))
    | none => .no)
  | _, _, _ => .no
@[simp] theorem gSetIx_eq : gSetIx ga gb gc σ M = (ga σ M).toS σ fun y M1 => (gb σ M1).toS σ fun x M2 => (gc σ M2).toS σ fun i M3 => setIxR y i σ M3 (lstAt M3 x) := rfl
theorem setIxR_ok {y : PyData} {i : Int} {n : Nat} {xs : List PyData} {j : Nat} (h : ixN xs.length i = some j) : setIxR (.p y) (.p (.int i)) σ M (some (n, xs)) = .nx σ (M.set n (.lst (xs.set j y))) := by
  unfold setIxR; simp only [h]
@[simp] theorem gPar_eq (i j : Nat) : gPar i j gs σ M = (gs σ M).toS σ fun ds M1 => match ds with
  | [x, y] => .nx ((σ.set i (some x)).set j (some y)) M1
  | _ => .no := rfl
def augR (i : Nat) (g : GE) (σ : Sl) (M : Store) (o : Option (Option D)) : SR := match o with
  | some (some (.p (.int k))) => (g σ M).toS σ fun y M1 => (match y with
    | .p (.int j) => .nx (σ.set i (some (.p (.int (k + j))))) M1
    | _ => .no)
  | _ => .no
@[simp] theorem gAug_eq (i : Nat) : gAug i g σ M = augR i g σ M σ[i]? := rfl
@[simp] theorem augR_int (i : Nat) (k : Int) : augR i g σ M (some (some (.p (.int k)))) = (g σ M).toS σ fun y M1 => (match y with
    | .p (.int j) => .nx (σ.set i (some (.p (.int (k + j))))) M1
    | _ => .no) := rfl
end
/-! ### operators on plain values -/
section
variable (M : Store) (i j : Int) (s t : Str) (x y : PyData) (xs ys : List PyData)
@[simp] theorem pSub_int : pSub (.p (.int i)) (.p (.int j)) M = .ok (.p (.int (i - j))) M := rfl
@[simp] theorem pLt_int : pLt (.p (.int i)) (.p (.int j)) M = .ok (.p (.bool (decide (i < j)))) M := rfl
@[simp] theorem pLe_int : pLe (.p (.int i)) (.p (.int j)) M = .ok (.p (.bool (decide (i ≤ j)))) M := rfl
@[simp] theorem pGt_int : pGt (.p (.int i)) (.p (.int j)) M = .ok (.p (.bool (decide (j < i)))) M := rfl
@[simp] theorem pGe_int : pGe (.p (.int i)) (.p (.int j)) M = .ok (.p (.bool (decide (j ≤ i)))) M := rfl
@[simp] theorem pAdd_int : pAdd (.p (.int i)) (.p (.int j)) M = .ok (.p (.int (i + j))) M := rfl
@[simp] theorem pAdd_ib (k : Bool) : pAdd (.p (.int i)) (.p (.bool k)) M = .ok (.p (.int (i + b2i k))) M := rfl
@[simp] theorem pNeg_int : pNeg (.p (.int i)) M = .ok (.p (.int (-i))) M := rfl
@[simp] theorem pIsN_eq (ne : Bool) (d : D) : pIsN ne d (.p .none) M = .ok (.p (.bool (ne ^^ isNo d))) M := rfl
@[simp] theorem isNo_none : isNo (.p .none) = true := rfl
@[simp] theorem isNo_int : isNo (.p (.int i)) = false := rfl
@[simp] theorem isNo_str : isNo (.p (.str s)) = false := rfl
@[simp] theorem isNo_bool (b : Bool) : isNo (.p (.bool b)) = false := rfl
@[simp] theorem isNo_list : isNo (.p (.list xs)) = false := rfl
@[simp] theorem isNo_tuple : isNo (.p (.tuple xs)) = false := rfl
@[simp] theorem isNo_cell (n : Nat) : isNo (.cell n) = false := rfl
@[simp] theorem pIsB_eq (ne a b : Bool) : pIsB ne (.p (.bool a)) (.p (.bool b)) M = .ok (.p (.bool (ne ^^ decide (a = b)))) M := rfl
theorem pMul_int (h : (-18446744073709551616 < i ∧ i < 18446744073709551616) ∨ (-18446744073709551616 < j ∧ j < 18446744073709551616)) : pMul (.p (.int i)) (.p (.int j)) M = .ok (.p (.int (i * j))) M := by
  show (if L2.CMul i j then _ else _) = _
  rw [if_pos]
  unfold L2.CMul
  exact h
theorem pFdiv_int (h : 0 < j ∧ j < 1073741824) : pFdiv (.p (.int i)) (.p (.int j)) M = .ok (.p (.int (i / j))) M := if_pos h
theorem pMod_int (h : 0 < j) : pMod (.p (.int i)) (.p (.int j)) M = .ok (.p (.int (i % j))) M := if_pos h
theorem pPow_int (h : 0 ≤ j ∧ j ≤ 1000000 ∧ i.natAbs < 18446744073709551616) : pPow (.p (.int i)) (.p (.int j)) M = .ok (.p (.int (i ^ j.toNat))) M := if_pos h
theorem pAdd_str (h : s.length + t.length ≤ 16777216) : pAdd (.p (.str s)) (.p (.str t)) M = .ok (.p (.str (s ++ t))) M := if_pos (by rw [sizeLine_eq]; exact h)
theorem pAdd_lst (h : xs.length + ys.length ≤ 16777216) : pAdd (.p (.list xs)) (.p (.list ys)) M = .ok (.p (.list (xs ++ ys))) M := if_pos (by rw [sizeLine_eq]; exact h)
@[simp] theorem pEq_int (ne : Bool) : pEq ne (.p (.int i)) (.p (.int j)) M = .ok (.p (.bool (ne ^^ decide (i = j)))) M := rfl
@[simp] theorem pEq_str (ne : Bool) : pEq ne (.p (.str s)) (.p (.str t)) M = .ok (.p (.bool (ne ^^ decide (s = t)))) M := rfl
@[simp] theorem pEq_bool (ne a b : Bool) : pEq ne (.p (.bool a)) (.p (.bool b)) M = .ok (.p (.bool (ne ^^ decide (a = b)))) M := rfl
@[simp] theorem pEq_nn (ne : Bool) : pEq ne (.p .none) (.p .none) M = .ok (.p (.bool (ne ^^ true))) M := rfl
@[simp] theorem pEq_ni (ne : Bool) : pEq ne (.p .none) (.p (.int i)) M = .ok (.p (.bool (ne ^^ false))) M := rfl
@[simp] theorem pEq_in (ne : Bool) : pEq ne (.p (.int i)) (.p .none) M = .ok (.p (.bool (ne ^^ false))) M := rfl
@[simp] theorem pEq_ns (ne : Bool) : pEq ne (.p .none) (.p (.str s)) M = .ok (.p (.bool (ne ^^ false))) M := rfl
@[simp] theorem pEq_sn (ne : Bool) : pEq ne (.p (.str s)) (.p .none) M = .ok (.p (.bool (ne ^^ false))) M := rfl
theorem pEq_deep (ne : Bool) (h1 : scalEq (.p x) (.p y) = none) (h2 : SeqAt.shaped x = true) (h3 : SeqAt.shaped y = true) : pEq ne (.p x) (.p y) M = .ok (.p (.bool (ne ^^ PyData.eqv x y))) M := by
  unfold pEq
  rw [h1]
  show (if SeqAt.shaped x = true ∧ SeqAt.shaped y = true then _ else _) = _
  rw [if_pos ⟨h2, h3⟩]
@[simp] theorem truD_bool (b : Bool) : truD (.p (.bool b)) M = .ok b M := rfl
@[simp] theorem truD_int : truD (.p (.int i)) M = .ok (i != 0) M := rfl
@[simp] theorem truD_none : truD (.p .none) M = .ok false M := rfl
@[simp] theorem truD_list : truD (.p (.list xs)) M = .ok (!xs.isEmpty) M := rfl
@[simp] theorem truD_tuple : truD (.p (.tuple xs)) M = .ok (!xs.isEmpty) M := rfl
@[simp] theorem seqOf_list : seqOf M (.p (.list xs)) = some (false, xs) := rfl
@[simp] theorem seqOf_tuple : seqOf M (.p (.tuple xs)) = some (true, xs) := rfl
def seqC (o : Option Cell) : Option (Bool × List PyData) := match o with
  | some (.lst xs) => some (false, xs)
  | _ => none
@[simp] theorem seqOf_cell (n : Nat) : seqOf M (.cell n) = seqC M[n]? := rfl
@[simp] theorem seqC_lst : seqC (some (.lst xs)) = some (false, xs) := rfl
def lstC' (n : Nat) (o : Option Cell) : Option (Nat × List PyData) := match o with
  | some (.lst xs) => some (n, xs)
  | _ => none
@[simp] theorem lstAt_cell (n : Nat) : lstAt M (.cell n) = lstC' n M[n]? := rfl
@[simp] theorem lstC'_lst (n : Nat) : lstC' n (some (.lst xs)) = some (n, xs) := rfl
def insC (n : Nat) (o : Option Cell) : Option (Nat × Str × List (Str × D)) := match o with
  | some (.ins c fs) => some (n, c, fs)
  | _ => none
@[simp] theorem insAt_cell (n : Nat) : insAt M (.cell n) = insC n M[n]? := rfl
@[simp] theorem insC_ins (n : Nat) (c : Str) (fs : List (Str × D)) : insC n (some (.ins c fs)) = some (n, c, fs) := rfl
def datC (o : Option Cell) : Option PyData := match o with
  | some (.lst xs) => some (.list xs)
  | _ => none
@[simp] theorem dat_p : dat M (.p x) = some x := rfl
@[simp] theorem dat_cell (n : Nat) : dat M (.cell n) = datC M[n]? := rfl
@[simp] theorem datC_lst : datC (some (.lst xs)) = some (.list xs) := rfl
@[simp] theorem dats_nil : dats M [] = some [] := rfl
@[simp] theorem dats_p (r : List D) : dats M (.p x :: r) = (match dats M r with | some xs => some (x :: xs) | none => none) := rfl
@[simp] theorem dats_cell (n : Nat) (r : List D) : dats M (.cell n :: r) = (match datC M[n]? with | some x => (match dats M r with | some xs => some (x :: xs) | none => none) | none => none) := rfl
@[simp] theorem dat_seq (t : Bool) (ds : List D) : dat M (.seq t ds) = (match dats M ds with | some xs => some (if t = true then .tuple xs else .list xs) | none => none) := rfl
@[simp] theorem pures_nil : pures [] = some [] := rfl
@[simp] theorem pures_p (r : List D) : pures (.p x :: r) = (match pures r with | some xs => some (x :: xs) | none => none) := rfl
@[simp] theorem pures_cell (n : Nat) (r : List D) : pures (.cell n :: r) = none := rfl
@[simp] theorem pures_mp : pures (xs.map D.p) = some xs := pures_map xs
def mkL' (ds : List D) (o : Option (List PyData)) : D := match o with
  | some xs => .p (.list xs)
  | none => .seq false ds
def mkT' (ds : List D) (o : Option (List PyData)) : D := match o with
  | some xs => .p (.tuple xs)
  | none => .seq true ds
@[simp] theorem mkL_eq (ds : List D) : mkL ds = mkL' ds (pures ds) := rfl
@[simp] theorem mkT_eq (ds : List D) : mkT ds = mkT' ds (pures ds) := rfl
@[simp] theorem mkL'_some (ds : List D) : mkL' ds (some xs) = .p (.list xs) := rfl
@[simp] theorem mkT'_some (ds : List D) : mkT' ds (some xs) = .p (.tuple xs) := rfl
@[simp] theorem lstC_eq (ds : List D) (h : pures ds = some xs) (hl : xs.length ≤ 16777216) : lstC ds M = .ok (.cell M.length) (M ++ [.lst xs]) := by
  unfold lstC; rw [h]; exact if_pos hl
/-- items -/
theorem atI_get {α : Type} {l : List α} {i : Int} {v : α} (h0 : 0 ≤ i) (h : l[i.toNat]? = some v) : atI l i = some v := by
  have hl := (List.getElem?_eq_some_iff.mp h).1
  unfold atI ixN
  rw [if_pos h0, if_pos (by omega)]
  exact h
theorem pIx_list : pIx (.p (.list xs)) (.p (.int i)) M = optR (atI xs i) fun d => .ok (.p d) M := rfl
theorem pIx_tuple : pIx (.p (.tuple xs)) (.p (.int i)) M = optR (atI xs i) fun d => .ok (.p d) M := rfl
theorem pIx_str (h : s.length ≤ 16777216) : pIx (.p (.str s)) (.p (.int i)) M = optR (atI s.cps.toList i) fun c => .ok (.p (.str ⟨#[c]⟩)) M := if_pos (by rw [sizeLine_eq]; exact h)
theorem pIx_cell (n : Nat) (h : M[n]? = some (.lst xs)) : pIx (.cell n) (.p (.int i)) M = optR (atI xs i) fun d => .ok (.p d) M := by
  show (match seqOf M (.cell n) with | some (_, xs) => optR (atI xs i) fun d => .ok (.p d) M | none => .no) = _
  rw [seqOf_cell, h]
  rfl
@[simp] theorem cLen_list : cLen [.p (.list xs)] M = .ok (.p (.int xs.length)) M := rfl
@[simp] theorem cLen_tuple : cLen [.p (.tuple xs)] M = .ok (.p (.int xs.length)) M := rfl
theorem cLen_str (h : s.length ≤ 16777216) : cLen [.p (.str s)] M = .ok (.p (.int s.length)) M := if_pos (by rw [sizeLine_eq]; exact h)
theorem cLen_cell (n : Nat) (h : M[n]? = some (.lst xs)) : cLen [.cell n] M = .ok (.p (.int xs.length)) M := by
  show (match seqOf M (.cell n) with | some (_, xs) => _ | none => _) = _
  rw [seqOf_cell, h]
  rfl
@[simp] theorem cAbs_int : cAbs [.p (.int i)] M = .ok (.p (.int (if i < 0 then -i else i))) M := rfl
@[simp] theorem cInt_bool (k : Bool) : cInt [.p (.bool k)] M = .ok (.p (.int (if k then 1 else 0))) M := rfl
@[simp] theorem cInt_int : cInt [.p (.int i)] M = .ok (.p (.int i)) M := rfl
@[simp] theorem cMax_int : cMax [.p (.int i), .p (.int j)] M = .ok (.p (.int (max i j))) M := rfl
@[simp] theorem cMin_int : cMin [.p (.int i), .p (.int j)] M = .ok (.p (.int (min i j))) M := rfl
@[simp] theorem cTuple_list : cTuple [.p (.list xs)] M = .ok (.p (.tuple xs)) M := rfl
@[simp] theorem cTuple_tuple : cTuple [.p (.tuple xs)] M = .ok (.p (.tuple xs)) M := rfl
theorem cTuple_cell (n : Nat) (h : M[n]? = some (.lst xs)) : cTuple [.cell n] M = .ok (.p (.tuple xs)) M := by
  show (match seqOf M (.cell n) with | some (_, xs) => _ | none => _) = _
  rw [seqOf_cell, h]
  rfl
@[simp] theorem cList_list : cList [.p (.list xs)] M = .ok (.p (.list xs)) M := rfl
@[simp] theorem cList_tuple : cList [.p (.tuple xs)] M = .ok (.p (.list xs)) M := rfl
theorem cList_cell (n : Nat) (h : M[n]? = some (.lst xs)) : cList [.cell n] M = .ok (.p (.list xs)) M := by
  show (match seqOf M (.cell n) with | some (_, xs) => _ | none => _) = _
  rw [seqOf_cell, h]
  rfl
@[simp] theorem cStr_str : cStr [.p (.str s)] M = .ok (.p (.str s)) M := rfl
theorem cStr_int (h : i.natAbs.log2 < 1920) : cStr [.p (.int i)] M = .ok (.p (.str (toString i))) M := if_pos h
@[simp] theorem kd_int : kdOf M (.p (.int i)) = some .int := rfl
@[simp] theorem kd_bool (b : Bool) : kdOf M (.p (.bool b)) = some .bool := rfl
@[simp] theorem kd_str : kdOf M (.p (.str s)) = some .str := rfl
@[simp] theorem kd_none : kdOf M (.p .none) = some .non := rfl
@[simp] theorem kd_list : kdOf M (.p (.list xs)) = some .list := rfl
@[simp] theorem kd_tuple : kdOf M (.p (.tuple xs)) = some .tuple := rfl
def kdC (o : Option Cell) : Option Kd := match o with
  | some (.lst _) => some .list
  | _ => none
@[simp] theorem kd_cell (n : Nat) : kdOf M (.cell n) = kdC M[n]? := rfl
@[simp] theorem kdC_lst : kdC (some (.lst xs)) = some .list := rfl
def isiR (t : Ty) (M1 : Store) (o : Option Kd) : R D := match o with
  | some k => .ok (.p (.bool (isiB k t))) M1
  | none => .no
@[simp] theorem gIsi_eq (t : Ty) (g : GE) (σ : Sl) : gIsi t g σ M = (g σ M).bind fun x M1 => isiR t M1 (kdOf M1 x) := rfl
@[simp] theorem isiR_some (t : Ty) (k : Kd) : isiR t M (some k) = .ok (.p (.bool (isiB k t))) M := rfl
def isiR2 (M1 : Store) (o : Option Kd) : R D := match o with
  | some k => .ok (.p (.bool (isiB k .list || isiB k .tuple))) M1
  | none => .no
@[simp] theorem gIsiLT_eq (g : GE) (σ : Sl) : gIsiLT g σ M = (g σ M).bind fun x M1 => isiR2 M1 (kdOf M1 x) := rfl
@[simp] theorem isiR2_some (k : Kd) : isiR2 M (some k) = .ok (.p (.bool (isiB k .list || isiB k .tuple))) M := rfl
@[simp] theorem tyD_str : tyD "str" M (.p (.str s)) = true := rfl
@[simp] theorem tyD_list : tyD "list" M (.p (.list xs)) = true := rfl
theorem tyD_cell (n : Nat) (h : M[n]? = some (.lst xs)) : tyD "list" M (.cell n) = true := by
  unfold tyD; rw [kd_cell, h]; rfl
theorem mApp_ok (n : Nat) (h : M[n]? = some (.lst xs)) (hl : xs.length < 16777216) : mApp (.cell n) [.p x] M = .ok (.p .none) (M.set n (.lst (xs ++ [x]))) := by
  unfold mApp
  rw [lstAt_cell, h]
  exact if_pos (by rw [sizeLine_eq]; exact hl)
@[simp] theorem pFrz_p : pFrz (.p x) M = .ok (.p x) M := rfl
theorem pFrz_cell (n : Nat) (h : M[n]? = some (.lst xs)) : pFrz (.cell n) M = .ok (.p (.list xs)) (M.set n .gone) := by
  unfold pFrz
  simp only [h]
@[simp] theorem dT_nm (k : Nat) (d : D) (σ : Sl) : dT (.nm k) d σ = some (σ.set k (some d)) := by rw [dT]
@[simp] theorem isiB1 : isiB .int .int = true := rfl
@[simp] theorem isiB2 : isiB .bool .int = true := rfl
@[simp] theorem isiB3 : isiB .bool .bool = true := rfl
end
end Fn

set_option Elab.async false
set_option linter.all false
set_option maxRecDepth 100000
set_option maxHeartbeats 4000000
/-! FL: starred targets, dicts by ints and texts, finally -/
namespace Fn
open PySem PySem.Spec PyProof.Rows L2
open U (new new_i new_e cond cond_i cond_e brn brn_i brn_t brn_f uB uTest uVar pe_is ps_is pi_is thnP opt opt_i opt_e Df Bd Rm Nw Ext)
/-! ### a, .., *rest = e -/
def starR (i : Nat) (ts : List Tg) (σ : Sl) (M : Store) (o : Option (Bool × List PyData)) : SR := match o with
  | some (_, xs) => if i ≤ xs.length ∧ xs.length ≤ 10000 then asgR (dTs ts ((xs.take i).map D.p ++ [.p (.list (xs.drop i))]) σ) M else .no
  | none => .no
def gStar (i : Nat) (ts : List Tg) (g : GE) : GS := fun σ M => (g σ M).toS σ fun d M1 => starR i ts σ M1 (seqOf M1 d)
@[simp] theorem gStar_eq (i : Nat) (ts : List Tg) (g : GE) (σ : Sl) (M : Store) : gStar i ts g σ M = (g σ M).toS σ fun d M1 => starR i ts σ M1 (seqOf M1 d) := rfl
@[simp] theorem starR_some (i : Nat) (ts : List Tg) (σ : Sl) (M : Store) (b : Bool) (xs : List PyData) : starR i ts σ M (some (b, xs)) = if i ≤ xs.length ∧ xs.length ≤ 10000 then asgR (dTs ts ((xs.take i).map D.p ++ [.p (.list (xs.drop i))]) σ) M else .no := rfl
section
variable {X : Cx} {K : PySem.W.Frag} {W : WX} {e : Expr} {pos : Pos} {g : GE}
theorem pts_star {e : Expr} {es : List Expr} {t : Tg} {ts : List Tg} {p : Pos} (h1 : PG X e (vT K t)) (h2 : PGs X es (vTs K ts)) (hs : (assignEach (.Starred e p :: es) X.env).map (·.2) = assign e X.env :: (assignEach es X.env).map (·.2) := by rfl) : PGs X (.Starred e p :: es) (vTs K (t :: ts)) := by
  rw [vTs]
  exact U.pgs_starU h1 h2 hs
theorem fs_star {es : List Expr} {k : Nat} {ts : List Tg} {i : Nat} {tp : Pos} (hK : X.K = K) (hc : X.calm = true) (he : PE X e (tE K W g)) (h : PGs X es (vTs K ts)) (hn : (assignEach es X.env).length = i + 1 := by rfl) (hst : (assignEach es X.env).findIdx? (·.1) = some i := by rfl)
    (hs : swapsWithSole [.Tuple es k tp] e pos.line X.env = pure false := by rfl) (hw : swappedStores [.Tuple es k tp] e X.env = pure none := by rfl)
    (h1 : (assignEach [.Tuple es k tp] X.env).map (·.2) = [assign (.Tuple es k tp) X.env] := by rfl) : PS X (.Assign [.Tuple es k tp] e pos) (tS K W (gStar i ts g)) := ps_is (ps_asg he (U.pg_starU K hK hc h hn hst) hs hw h1) fun Q σV H q => by
  obtain ⟨ν, σ, M, rl, sl, h⟩ := q
  show tE K W g σV H fun x H1 => match x with
    | .ref a => U.unsO K a i H1 fun xs H2 => vTs K ts xs σV H2 Q.nx
    | _ => False
  refine bindS rl sl h fun u H1 x ν1 M1 s1 r1 sl1 p1 h1 => ?_
  cases e1 : seqOf M1 x with
  | none => rw [e1] at h1; exact h1.elim
  | some bx =>
    obtain ⟨b, xs⟩ := bx
    rw [e1, starR_some] at h1
    obtain ⟨a, vs, rfl, h2, h3⟩ := seq_ok r1 p1 e1
    by_cases c : i ≤ xs.length ∧ xs.length ≤ 10000
    · rw [if_pos c] at h1
      show U.unsO K a i H1 _
      unfold U.unsO
      refine ⟨vs, Rd.sqa h2, by rw [vs_len h3]; exact c.1, by rw [vs_len h3]; exact c.2, fun d hd => ?_⟩
      obtain ⟨r2, s2⟩ := r1.new hd (.lst (vs.drop i))
      cases e2 : dTs ts ((xs.take i).map D.p ++ [.p (.list (xs.drop i))]) σ with
      | none => rw [e2] at h1; exact h1.elim
      | some σ2 =>
        rw [e2] at h1
        have hv := Vs.same s2.ff h3
        exact tgts_ok r2.same ts (reps_app2 (reps_of (vs_take i hv)) (.cons (.p (.lst (.inl upd_same) (vs_drop i hv))) .nil)) (sl1.mono s2) e2 fun σV' sl' _ => h1 _ _ σV' s2 r2 sl'
    · rw [if_neg c] at h1; exact h1.elim
end
/-! ### dicts -/
def keyOf : D → Option Key
  | .p (.int i) => some (.inl i)
  | .p (.str z) => some (.inr z)
  | _ => none
theorem keyOf_ok {F : Hp} {m : List Addr} {d : D} {v : V} {k : Key} (p : Rep F m d v) (h : keyOf d = some k) : v = kV k := by
  cases p with
  | p p => cases p <;> first | (cases h; done) | (cases h; rfl)
  | _ => cases h
section
variable {κ : Type} [DecidableEq κ]
def getP (kvs : List (κ × PyData)) (k : κ) : Option PyData := (kvs.find? fun kv => decide (kv.1 = k)).map (·.2)
def putP (kvs : List (κ × PyData)) (k : κ) (v : PyData) : List (κ × PyData) :=
  if (kvs.any fun kv => decide (kv.1 = k)) = true then kvs.map (fun kv => if kv.1 = k then (kv.1, v) else kv) else kvs ++ [(k, v)]
theorem kr_get {F : Hp} {k : κ} : ∀ {ds : List (κ × PyData)} {vs : List (κ × V)}, KR F ds vs → (getP ds k = none ∧ valV vs k = none) ∨ ∃ d v, getP ds k = some d ∧ valV vs k = some v ∧ Vd F v d
  | _, _, .nil => .inl ⟨rfl, rfl⟩
  | (j, d) :: r, (_, v) :: w, .cons h a => by
    by_cases e : j = k
    · exact .inr ⟨d, v, by simp [getP, e], by simp [valV, e], h⟩
    · rcases kr_get (k := k) a with ⟨h1, h2⟩ | ⟨d', v', h1, h2, h3⟩
      · exact .inl ⟨by simpa [getP, e] using h1, by simpa [valV, e] using h2⟩
      · exact .inr ⟨d', v', by simpa [getP, e] using h1, by simpa [valV, e] using h2, h3⟩
theorem kr_len {F : Hp} : ∀ {ds : List (κ × PyData)} {vs : List (κ × V)}, KR F ds vs → vs.length = ds.length
  | _, _, .nil => rfl
  | _, _, .cons _ a => congrArg Nat.succ (kr_len a)
theorem kr_any {F : Hp} {k : κ} : ∀ {ds : List (κ × PyData)} {vs : List (κ × V)}, KR F ds vs → (vs.any fun kv => decide (kv.1 = k)) = (ds.any fun kv => decide (kv.1 = k))
  | _, _, .nil => rfl
  | _, _, .cons _ a => by rw [List.any_cons, List.any_cons, kr_any a]
theorem kr_map {F : Hp} {k : κ} {d : PyData} {v : V} (h : Vd F v d) : ∀ {ds : List (κ × PyData)} {vs : List (κ × V)}, KR F ds vs → KR F (ds.map fun kv => if kv.1 = k then (kv.1, d) else kv) (vs.map fun kv => if kv.1 = k then (kv.1, v) else kv)
  | _, _, .nil => .nil
  | (j, d') :: r, (_, v') :: w, .cons g a => by
    rw [List.map_cons, List.map_cons]
    by_cases e : j = k
    · rw [if_pos e, if_pos e]; exact .cons h (kr_map h a)
    · rw [if_neg e, if_neg e]; exact .cons g (kr_map h a)
theorem kr_snoc {F : Hp} {k : κ} {d : PyData} {v : V} (h : Vd F v d) : ∀ {ds : List (κ × PyData)} {vs : List (κ × V)}, KR F ds vs → KR F (ds ++ [(k, d)]) (vs ++ [(k, v)])
  | _, _, .nil => .cons h .nil
  | _, _, .cons g a => .cons g (kr_snoc h a)
theorem kr_put {F : Hp} {k : κ} {d : PyData} {v : V} (h : Vd F v d) {ds : List (κ × PyData)} {vs : List (κ × V)} (r : KR F ds vs) : KR F (putP ds k d) (putK vs k v) := by
  unfold putP putK
  rw [kr_any r]
  split
  · exact kr_map h r
  · exact kr_snoc h r
end
/-- the dict of a cell -/
def dicC (n : Nat) (o : Option Cell) : Option (Nat × List (Key × PyData)) := match o with
  | some (.dic kvs) => some (n, kvs)
  | _ => none
def dicAt (M : Store) : D → Option (Nat × List (Key × PyData))
  | .cell n => dicC n M[n]?
  | _ => none
@[simp] theorem dicAt_cell (M : Store) (n : Nat) : dicAt M (.cell n) = dicC n M[n]? := rfl
@[simp] theorem dicC_dic (n : Nat) (kvs : List (Key × PyData)) : dicC n (some (.dic kvs)) = some (n, kvs) := rfl
section
variable {X : Cx} {K : PySem.W.Frag} {W : WX} {e o i : Expr} {pos : Pos} {g go gi : GE}
theorem dic_cell {ν : Nu} {M : Store} {H : Hp} {x : D} {v : V} {n : Nat} {kvs : List (Key × PyData)} (r : Rel K ν M H) (p : Rep ν.F ν.m x v) (h : dicAt M x = some (n, kvs)) :
    ∃ a vs, v = .ref a ∧ H a = some (.dK vs) ∧ KR ν.F kvs vs ∧ ∀ (vs' : List (Key × V)) (kvs' : List (Key × PyData)), KR ν.F kvs' vs' → ∃ ν', Rel K ν' (M.set n (.dic kvs')) (upd H a (.dK vs')) ∧ Stp ν H ν' (upd H a (.dK vs')) ∧ ν'.F = ν.F ∧ ν'.m = ν.m := by
  cases p with
  | @cell k a hn =>
    have h : dicC k M[k]? = some (n, kvs) := h
    cases e : M[k]? with
    | none => rw [e] at h; cases h
    | some c =>
      rw [e] at h
      cases c with
      | dic ys =>
        cases h
        cases r.cel _ _ _ e hn with
        | dic h1 h2 h3 =>
          refine ⟨a, _, rfl, h2, h3, fun vs' kvs' hv => ?_⟩
          obtain ⟨q1, q2⟩ := r.put (o := .dK vs') (c := .dic kvs') e hn h1 (.dic rfl upd_same hv)
          exact ⟨_, q1, q2, rfl, rfl⟩
      | _ => cases h
  | _ => cases h
def gDic : GE := fun _ M => .ok (.cell M.length) (M ++ [.dic []])
@[simp] theorem gDic_eq (σ : Sl) (M : Store) : gDic σ M = .ok (.cell M.length) (M ++ [.dic []]) := rfl
theorem fe_dic : PE X (.Dict [] [] pos) (tE K W gDic) := pe_is U.pe_dnewKU fun σV H Q q => by
  obtain ⟨ν, σ, M, rl, sl, h⟩ := q
  refine new_i fun p hp => ?_
  obtain ⟨r1, s1⟩ := rl.cel1 hp (.dK []) (.dic []) (.dic rfl upd_same .nil)
  exact retN (rep := rE) h s1 r1 (.cell (by show (ν.m ++ [p])[M.length]? = some p; rw [← rl.len]; simp))
def dgetR (M : Store) (o : Option (Nat × List (Key × PyData))) (k : Option Key) : R D := match o, k with
  | some (_, kvs), some k => optR (getP kvs k) fun d => .ok (.p d) M
  | _, _ => .no
def gDGet (go gi : GE) : GE := fun σ M => (go σ M).bind fun x M1 => (gi σ M1).bind fun y M2 => dgetR M2 (dicAt M2 x) (keyOf y)
@[simp] theorem gDGet_eq (σ : Sl) (M : Store) : gDGet go gi σ M = (go σ M).bind fun x M1 => (gi σ M1).bind fun y M2 => dgetR M2 (dicAt M2 x) (keyOf y) := rfl
@[simp] theorem dgetR_some (M : Store) (n : Nat) (kvs : List (Key × PyData)) (k : Key) : dgetR M (some (n, kvs)) (some k) = optR (getP kvs k) fun d => .ok (.p d) M := rfl
@[simp] theorem keyOf_str (z : Str) : keyOf (.p (.str z)) = some (.inr z) := rfl
@[simp] theorem keyOf_int (z : Int) : keyOf (.p (.int z)) = some (.inl z) := rfl
theorem fe_dget (hu : X.A.units + 1 < cLine) (ho : PE X o (tE K W go)) (hi : PE X i (tE K W gi)) (hs : NoSl i) : PE X (.Subscript o i pos) (tE K W (gDGet go gi)) := pe_is (U.pe_dgetU hu ho hi hs) fun σV H Q q => by
  obtain ⟨ν, σ, M, rl, sl, h⟩ := q
  show tE K W go σV H fun x H1 => tE K W gi σV H1 fun y H2 => match x with
    | .ref a => U.dgetO a y H2 Q
    | _ => False
  refine bindG rl sl h fun u H1 x ν1 M1 s1 r1 sl1 p1 h1 => bindG r1 sl1 h1 fun v H2 y ν2 M2 s2 r2 sl2 p2 h2 => ?_
  cases e1 : dicAt M2 x with
  | none => rw [e1] at h2; exact h2.elim
  | some q =>
    obtain ⟨n, kvs⟩ := q
    cases e2 : keyOf y with
    | none => rw [e1, e2] at h2; exact h2.elim
    | some k =>
      rw [e1, e2, dgetR_some] at h2
      obtain ⟨a, vs, rfl, h3, h4, _⟩ := dic_cell r2 (Rep.stp p1 s2) e1
      obtain rfl := keyOf_ok p2 e2
      rcases kr_get (k := k) h4 with ⟨g1, g2⟩ | ⟨d, w, g1, g2, g3⟩
      · rw [g1] at h2; exact h2.elim
      · rw [g1] at h2
        show U.dgetO a (kV k) H2 Q
        unfold U.dgetO
        exact ⟨w, by rw [← g2]; exact DGet.k h3, ret1 (rep := rE) r2 (.p g3) h2⟩
def dinR (ne : Bool) (M : Store) (o : Option (Nat × List (Key × PyData))) (k : Option Key) : R D := match o, k with
  | some (_, kvs), some k => .ok (.p (.bool (ne ^^ (getP kvs k).isSome))) M
  | _, _ => .no
def gDIn (ne : Bool) (gi go : GE) : GE := fun σ M => (gi σ M).bind fun y M1 => (go σ M1).bind fun x M2 => dinR ne M2 (dicAt M2 x) (keyOf y)
@[simp] theorem gDIn_eq (ne : Bool) (σ : Sl) (M : Store) : gDIn ne gi go σ M = (gi σ M).bind fun y M1 => (go σ M1).bind fun x M2 => dinR ne M2 (dicAt M2 x) (keyOf y) := rfl
@[simp] theorem dinR_some (ne : Bool) (M : Store) (n : Nat) (kvs : List (Key × PyData)) (k : Key) : dinR ne M (some (n, kvs)) (some k) = .ok (.p (.bool (ne ^^ (getP kvs k).isSome))) M := rfl
theorem din_ok {ne : Bool} {σV : L2.St} {H : Hp} {Q : VK} (q : tE K W (gDIn ne gi go) σV H Q) : U.uDIn ne (tE K W gi) (tE K W go) σV H Q := by
  obtain ⟨ν, σ, M, rl, sl, h⟩ := q
  show tE K W gi σV H fun y H1 => tE K W go σV H1 fun x H2 => match x with
    | .ref a => U.dinO ne a y H2 Q
    | _ => False
  refine bindG rl sl h fun v H1 y ν1 M1 s1 r1 sl1 p1 h1 => bindG r1 sl1 h1 fun u H2 x ν2 M2 s2 r2 sl2 p2 h2 => ?_
  cases e1 : dicAt M2 x with
  | none => rw [e1] at h2; exact h2.elim
  | some q =>
    obtain ⟨n, kvs⟩ := q
    cases e2 : keyOf y with
    | none => rw [e1, e2] at h2; exact h2.elim
    | some k =>
      rw [e1, e2, dinR_some] at h2
      obtain ⟨a, vs, rfl, h3, h4, _⟩ := dic_cell r2 p2 e1
      obtain rfl := keyOf_ok p1 e2
      show U.dinO ne a (kV k) H2 Q
      unfold U.dinO
      refine ⟨_, DGet.k h3, ?_⟩
      have e : (valV vs k).isSome = (getP kvs k).isSome := by
        rcases kr_get (k := k) h4 with ⟨g1, g2⟩ | ⟨d, w, g1, g2, g3⟩
        · rw [g1, g2]; rfl
        · rw [g1, g2]; rfl
      rw [e]
      exact ret1 (rep := rE) r2 (.p (.bl _)) h2
theorem fc_din (hu : X.A.units + 1 < cLine) (hi : PE X i (tE K W gi)) (ho : PE X o (tE K W go)) : PC X .In i o (tE K W (gDIn false gi go)) := ⟨fun pins s σV H Q I q => (U.pc_dinU hu hi ho).run pins s σV H Q I (din_ok q)⟩
theorem fc_dnotin (hu : X.A.units + 1 < cLine) (hi : PE X i (tE K W gi)) (ho : PE X o (tE K W go)) : PC X .NotIn i o (tE K W (gDIn true gi go)) := ⟨fun pins s σV H Q I q => (U.pc_dnotinU hu hi ho).run pins s σV H Q I (din_ok q)⟩
theorem fe_pc {op : CmpOp} {a b : Expr} (h : PC X op a b (tE K W g)) (h1 : behindInMarks op b = false) : PE X (.Compare a [op] [b] pos) (tE K W g) := U.pe_pc h h1
theorem ft_pc {op : CmpOp} {a b : Expr} (h : PC X op a b (tE K W g)) (h1 : behindInMarks op b = false) : PT X (.Compare a [op] [b] pos) (tT K W (gTB g)) := thnP (U.pt_pc h h1) fun σV H Q q => tb_ok q
def dputR (σ : Sl) (M : Store) (o : Option (Nat × List (Key × PyData))) (k : Option Key) (v : D) : SR := match o, k, v with
  | some (n, kvs), some k, .p v => if kvs.length < 16777216 then .nx σ (M.set n (.dic (putP kvs k v))) else .no
  | _, _, _ => .no
def gDPut (go gi gv : GE) : GS := fun σ M => (gv σ M).toS σ fun v M1 => (go σ M1).toS σ fun x M2 => (gi σ M2).toS σ fun y M3 => dputR σ M3 (dicAt M3 x) (keyOf y) v
@[simp] theorem gDPut_eq (gv : GE) (σ : Sl) (M : Store) : gDPut go gi gv σ M = (gv σ M).toS σ fun v M1 => (go σ M1).toS σ fun x M2 => (gi σ M2).toS σ fun y M3 => dputR σ M3 (dicAt M3 x) (keyOf y) v := rfl
@[simp] theorem dputR_some (σ : Sl) (M : Store) (n : Nat) (kvs : List (Key × PyData)) (k : Key) (v : PyData) : dputR σ M (some (n, kvs)) (some k) (.p v) = if kvs.length < 16777216 then .nx σ (M.set n (.dic (putP kvs k v))) else .no := rfl
theorem fs_dput {value : Expr} {pos' : Pos} {gv : GE} (hu : X.A.units + 1 < cLine) (ho : PE X o (tE K W go)) (hi : PE X i (tE K W gi)) (hv : PE X value (tE K W gv)) (hs : swapsWith value (some (.Subscript o i pos')) pos.line X.env = pure false := by rfl) :
    PS X (.Assign [.Subscript o i pos'] value pos) (tS K W (gDPut go gi gv)) := ps_is (U.ps_dputU hu ho hi hv hs) fun Q σV H q => by
  obtain ⟨ν, σ, M, rl, sl, h⟩ := q
  show tE K W gv σV H fun v H1 => tE K W go σV H1 fun x H2 => tE K W gi σV H2 fun y H3 => match x with
    | .ref a => U.dputO a y v H3 (Q.nx σV)
    | _ => False
  refine bindS rl sl h fun w H1 v ν1 M1 s1 r1 sl1 p1 h1 => bindS r1 sl1 h1 fun u H2 x ν2 M2 s2 r2 sl2 p2 h2 => bindS r2 sl2 h2 fun t H3 y ν3 M3 s3 r3 sl3 p3 h3 => ?_
  cases e1 : dicAt M3 x with
  | none => rw [e1] at h3; exact h3.elim
  | some q =>
    obtain ⟨n, kvs⟩ := q
    cases e2 : keyOf y with
    | none => rw [e1, e2] at h3; exact h3.elim
    | some k =>
      rw [e1, e2] at h3
      obtain ⟨a, vs, rfl, h4, h5, put⟩ := dic_cell r3 (Rep.stp p2 s3) e1
      obtain rfl := keyOf_ok p3 e2
      have pv := Rep.stp (Rep.stp p1 s2) s3
      cases pv with
      | p pv =>
        rw [dputR_some] at h3
        by_cases c : kvs.length < 16777216
        · rw [if_pos c] at h3
          show U.dputO a (kV k) w H3 (Q.nx σV)
          unfold U.dputO
          obtain ⟨ν', r', s', _⟩ := put _ _ (kr_put (k := k) pv h5)
          exact ⟨_, DPut.k h4 (by rw [kr_len h5, sizeLine_eq]; exact c), h3 ν' _ σV s' r' (sl3.mono s')⟩
        · rw [if_neg c] at h3; exact h3.elim
      | _ => exact h3.elim
end
/-! ### try .. finally, nothing raised, nothing returned within -/
def SR.calm (r : SR) : SR := match r with
  | .nx σ M => .nx σ M
  | _ => .no
def gFin (b f : GS) : GS := fun σ M => (b σ M).calm.seq f
@[simp] theorem calm_nx (σ : Sl) (M : Store) : (SR.nx σ M).calm = .nx σ M := rfl
@[simp] theorem gFin_eq (b f : GS) (σ : Sl) (M : Store) : gFin b f σ M = (b σ M).calm.seq f := rfl
section
variable {X : Cx} {K : PySem.W.Frag} {W : WX} {pos : Pos}
theorem fs_fin {body : List Stmt} {f₀ : Stmt} {fs : List Stmt} {gb gf : GS} (hb : PSs X.nox body (tS K W0 gb)) (hf : PSs X.nox (f₀ :: fs) (tS K W0 gf)) : PS X (.Try body [] [] (f₀ :: fs) pos) (tS K W (gFin gb fun σ M => (gf σ M).calm)) := by
  refine ⟨fun pins s σV H D I q => ?_⟩
  obtain ⟨ν, σ, M, rl, sl, h⟩ := q
  refine wpAny_Try_finally (wpAny_mono (hb.run pins s σV H { nx := fun σV' H' => tS K W0 gf { nx := fun σV2 H2 => D.nx σV2 H2, rt := fun _ _ => False } σV' H', rt := fun _ _ => False } (I.wish _) ⟨ν, σ, M, rl, sl, ?_⟩) (fun fl s1 q => ?_) fun _ _ z => False.elim z)
  · revert h
    show PostS K W ν H D ((gb σ M).calm.seq fun σ M => (gf σ M).calm) → _
    cases gb σ M with
    | nx σ1 M1 =>
      intro h ν1 H1 σV1 s1 r1 sl1
      refine ⟨ν1, σ1, M1, r1, sl1, ?_⟩
      have h := PostS.step s1 h
      revert h
      show PostS K W ν1 H1 D ((gf σ1 M1).calm) → _
      cases gf σ1 M1 with
      | nx σ2 M2 => exact fun h => h
      | _ => exact fun h => h.elim
    | _ => exact fun h => h.elim
  · cases fl with
    | next =>
      obtain ⟨σ1, H1, I1, q1⟩ := q
      refine wpAny_execs_nil (wpAny_mono (hf.run pins s1 σ1 H1 _ I1 q1) (fun g s2 q2 => ?_) fun _ _ z => False.elim z)
      cases g with
      | next =>
        obtain ⟨σ2, H2, I2, q3⟩ := q2
        exact ⟨σ2, H2, I2.unwish, q3⟩
      | ret u => exact (show False from q2.elim fun _ z => z.elim fun _ z => z.elim fun _ z => z.2.2).elim
      | brk => exact (show False from q2.elim fun _ z => z.elim fun _ z => z.2).elim
      | cont => exact (show False from q2.elim fun _ z => z.elim fun _ z => z.2).elim
    | ret u => exact (show False from q.elim fun _ z => z.elim fun _ z => z.elim fun _ z => z.2.2).elim
    | brk => exact (show False from q.elim fun _ z => z.elim fun _ z => z.2).elim
    | cont => exact (show False from q.elim fun _ z => z.elim fun _ z => z.2).elim
end
end Fn

set_option Elab.async false
set_option linter.all false
set_option maxRecDepth 100000
set_option maxHeartbeats 4000000
/-! FM: len, str, repr of an own object -/
namespace Fn
open PySem PySem.Spec PyProof.Rows L2
open U (new new_i new_e cond cond_i cond_e brn brn_i brn_t brn_f uB uTest uVar pe_is ps_is pi_is thnP opt opt_i opt_e Df Bd Rm Nw Ext)
theorem rm1 {k : Nat} {A : Around} (r : Rm (k + 1) A) : Rm k A.in1 := ⟨r.rm.in1, r.gd⟩
/-- what a special method hands back -/
def rOwn (K : PySem.W.Frag) (C : Addr) (m : Str) (sp : Sp) (B : V → Prop) : List V → Hp → VK → Prop := fun vs H Q => match vs with
  | [.ref a] => U.insAt C a m H (sp [.ref a] H (fun v H' => B v ∧ Q v H') (fun _ _ _ => False))
  | _ => False
theorem cx_no {P : Program} {w : World} {outer : List Env} {H : Hp} {s : Shared} {u : Value} {s' : Shared} (h : L2.CX P w outer H s (fun _ _ _ => False) u s') : False := by
  unfold L2.CX at h
  repeat (first | exact h | (obtain ⟨_, h⟩ := h))
section
variable {X : Cx} {K : PySem.W.Frag} {W : WX} {e : Expr} {pos : Pos} {g : GE} {k j : Nat} {fa C : Addr} {ps : List Str} {sp : Sp} {m : Str} {B : V → Prop}
theorem own_run {pins : List (Addr × Obj)} {s : Shared} {σ : L2.St} {H : Hp} {a : Addr} {A : Around} {Q : VK} {R : Value → Shared → Prop} (F : Df X.prog X.w X.K X.mg X.base k fa ps sp) (Bd_ : Bd X.K fa ps []) (hr : Rm k A) (hfr : A.frames = X.A.frames) (I : Inv X pins σ H s)
    (h : sp [.ref a] H Q (fun _ _ _ => False)) (hR : ∀ v u H' s', Inv X pins σ H' s' → RelV v u → Q v H' → R u s') : wpAny (model X.prog X.w) A (call (.ref fa) [.ref a]) R X.xe s := by
  obtain ⟨hkp, fd, ds, ad, hd, hb⟩ := Bd_
  cases hd
  have e0 : Env0 X.prog X.w X.K X.mg X.base A X.stack s H := by
    have e := I.env0
    exact ⟨by rw [hfr]; exact e.frames, e.mod, e.bs, e.bsz, e.funs, e.frf, e.hok, e.bare⟩
  have r2 : Vals [V.ref a] [Value.ref a] := .cons rfl .nil
  have hl := (F fd ad).len _ _ _ _ h
  refine wpAny_call (codeAny_mono ((F fd ad).run A X.stack s H ⟨[.ref a], []⟩ [.ref a] [.ref a] Q _ hr e0 (by
    have := hb s [.ref a] I.kIn (by simpa using hl)
    simpa using this) r2 h) fun r s' hq => ?_)
  cases r with
  | error e =>
    have hq : L2.CX X.prog X.w X.stack H s (fun _ _ _ => False) e s' := hq
    exact (cx_no hq).elim
  | ok fl =>
    cases fl with
    | ret w =>
      obtain ⟨z, H', I', rz, q⟩ := I.after hq
      exact hR z w H' s' I' rz q
    | next => exact False.elim hq
    | brk => exact False.elim hq
    | cont => exact False.elim hq
theorem c_lenO (hm : Meth X.K C "__len__" fa) (F : Df X.prog X.w X.K X.mg X.base k fa ps sp) (Bd_ : Bd X.K fa ps []) (hr : Rm j X.A) (hk : k + 1 ≤ j) : CallR X (.builtin "len") (rOwn X.K C "__len__" sp fun v => ∃ n : Int, v = .int n ∧ 0 ≤ n ∧ n < 2 ^ 63) := by
  intro pins s σ H xs us Q I r h
  match xs, h with
  | [.ref a], h =>
    obtain ⟨u, rfl, ru⟩ := vals1 r
    obtain rfl : u = Value.ref a := ru
    have h : U.insAt C a "__len__" H (sp [.ref a] H (fun v H' => (∃ n : Int, v = .int n ∧ 0 ≤ n ∧ n < 2 ^ 63) ∧ Q v H') (fun _ _ _ => False)) := h
    unfold U.insAt at h
    obtain ⟨⟨dx, fs, ea, _⟩, h⟩ := h
    obtain ⟨mA, J, _⟩ := ins_get I.hok ea
    obtain ⟨od, J, _⟩ := J.look
    obtain ⟨m, hF⟩ := I.fr
    refine PySem.W.len_K hF I.ok.mod.kin J hm.at_ hm.fn (own_run F Bd_ (rm1 (hr.mono hk)) rfl I h fun v u H' s' I' rv q => ?_)
    obtain ⟨⟨n, rfl, h0, h1⟩, q⟩ := q
    obtain ⟨t, rfl⟩ := rv
    exact ⟨⟨h0, h1⟩, .int n, H', I'.tok _, ⟨_, rfl⟩, q⟩
theorem c_reprO (hm : Meth X.K C "__repr__" fa) (F : Df X.prog X.w X.K X.mg X.base k fa ps sp) (Bd_ : Bd X.K fa ps []) (hr : Rm j X.A) (hk : k + 1 ≤ j) : CallR X (.builtin "repr") (rOwn X.K C "__repr__" sp fun v => ∃ n : Str, v = .str n) := by
  intro pins s σ H xs us Q I r h
  match xs, h with
  | [.ref a], h =>
    obtain ⟨u, rfl, ru⟩ := vals1 r
    obtain rfl : u = Value.ref a := ru
    have h : U.insAt C a "__repr__" H (sp [.ref a] H (fun v H' => (∃ n : Str, v = .str n) ∧ Q v H') (fun _ _ _ => False)) := h
    unfold U.insAt at h
    obtain ⟨⟨dx, fs, ea, _⟩, h⟩ := h
    obtain ⟨mA, J, _⟩ := ins_get I.hok ea
    obtain ⟨od, J, _⟩ := J.look
    obtain ⟨m, hF⟩ := I.fr
    have hu := (rm1 (hr.mono hk)).rm.units0
    refine PySem.W.repr_K hu hF I.ok.mod.kin J hm.at_ hm.fn (own_run F Bd_ (rm1 (hr.mono hk)) rfl I h fun v u H' s' I' rv q => ?_)
    obtain ⟨⟨n, rfl⟩, q⟩ := q
    obtain ⟨t, rfl⟩ := rv
    exact ⟨.str n, H', I', ⟨_, rfl⟩, q⟩
theorem c_strO (hm : Meth X.K C "__str__" fa) (F : Df X.prog X.w X.K X.mg X.base k fa ps sp) (Bd_ : Bd X.K fa ps []) (hr : Rm j X.A) (hk : k + 2 ≤ j) : CallR X (.type "str") (rOwn X.K C "__str__" sp fun v => ∃ n : Str, v = .str n) := by
  intro pins s σ H xs us Q I r h
  match xs, h with
  | [.ref a], h =>
    obtain ⟨u, rfl, ru⟩ := vals1 r
    obtain rfl : u = Value.ref a := ru
    have h : U.insAt C a "__str__" H (sp [.ref a] H (fun v H' => (∃ n : Str, v = .str n) ∧ Q v H') (fun _ _ _ => False)) := h
    unfold U.insAt at h
    obtain ⟨⟨dx, fs, ea, _⟩, h⟩ := h
    obtain ⟨mA, J, _⟩ := ins_get I.hok ea
    obtain ⟨od, J, _⟩ := J.look
    have r2 : Rm k X.A.in1.in1 := rm1 (rm1 (hr.mono hk))
    refine PySem.W.kso_call r2.rm.units0 I.kIn J hm.at_ hm.fn (own_run F Bd_ r2 rfl I h fun v u H' s' I' rv q => ?_)
    obtain ⟨⟨n, rfl⟩, q⟩ := q
    obtain ⟨t, rfl⟩ := rv
    exact ⟨.str n, H', I', ⟨_, rfl⟩, q⟩
/-- .. as functions of values -/
def okI : D → Bool
  | .p (.int n) => decide (0 ≤ n ∧ n < 9223372036854775808)
  | _ => false
def okS : D → Bool
  | .p (.str _) => true
  | _ => false
def ownR (ok : D → Bool) (f : List D → Store → R D) (M1 : Store) (o : Option Nat) : R D := match o with
  | some k => (methOn f k [] M1).calm.bind fun d M2 => if ok d = true then .ok d M2 else .no
  | none => .no
def gOwn (c m : Str) (ok : D → Bool) (f : List D → Store → R D) (g : GE) : GE := fun σ M => (g σ M).bind fun x M1 => ownR ok f M1 (hasIns c m M1 x)
@[simp] theorem gOwn_eq (c m : Str) (ok : D → Bool) (f : List D → Store → R D) (σ : Sl) (M : Store) : gOwn c m ok f g σ M = (g σ M).bind fun x M1 => ownR ok f M1 (hasIns c m M1 x) := rfl
@[simp] theorem ownR_some (ok : D → Bool) (f : List D → Store → R D) (M : Store) (k : Nat) : ownR ok f M (some k) = (methOn f k [] M).calm.bind fun d M2 => if ok d = true then .ok d M2 else .no := rfl
@[simp] theorem calm_ok {α : Type} (a : α) (M : Store) : (R.ok a M).calm = .ok a M := rfl
theorem okI_ok {F : Hp} {mm : List Addr} {d : D} {v : V} (p : Rep F mm d v) (h : okI d = true) : ∃ n : Int, v = .int n ∧ 0 ≤ n ∧ n < 2 ^ 63 := by
  cases p with
  | p p => cases p with
    | int i => exact ⟨i, rfl, by simpa [okI] using h⟩
    | _ => cases h
  | _ => cases h
theorem okS_ok {F : Hp} {mm : List Addr} {d : D} {v : V} (p : Rep F mm d v) (h : okS d = true) : ∃ n : Str, v = .str n := by
  cases p with
  | p p => cases p with
    | str i => exact ⟨i, rfl⟩
    | _ => cases h
  | _ => cases h
theorem own_ok {c : Str} {ok : D → Bool} {f : List D → Store → R D} (hok : ∀ {F : Hp} {mm : List Addr} {d : D} {v : V}, Rep F mm d v → ok d = true → B v) {σV : L2.St} {H : Hp} {Q : VK} (q : tE K W (gOwn c m ok f g) σV H Q) :
    tCB (rOwn K (He.ga K c) m (spG K 1 f) B) (tCons (tE K W g) tNil) σV H Q := by
  obtain ⟨ν, σ, M, rl, sl, h⟩ := q
  show tE K W g σV H fun x H1 => rOwn K (He.ga K c) m (spG K 1 f) B [x] H1 Q
  refine bindG rl sl h fun u H1 x ν1 M1 s1 r1 sl1 p1 h1 => ?_
  cases e1 : hasIns c m M1 x with
  | none => simp only [e1] at h1; exact h1.elim
  | some i =>
    rw [e1, ownR_some] at h1
    obtain ⟨a, rfl, rfl, hi, g⟩ := has_ok (A := True) r1 p1 e1 True.intro
    unfold U.insAt at g
    show U.insAt (He.ga K c) a m H1 _
    unfold U.insAt
    refine ⟨g.1, ?_⟩
    refine methOn_ok (W := fun _ _ _ _ => False) (σV := []) (f := f) rfl hi r1 .nil ?_
    revert h1
    cases methOn f i [] M1 with
    | ok d M2 =>
      intro h1 ν' H' v s' r' p'
      have h1 : PostG K W rE ν1 σV H1 Q (if ok d = true then .ok d M2 else .no) := h1
      by_cases c : ok d = true
      · rw [if_pos c] at h1
        exact ⟨hok p' c, h1 ν' H' v s' r' p'⟩
      · rw [if_neg c] at h1; exact h1.elim
    | ex e M2 => exact fun h => h.elim
    | no => exact fun h => h
theorem fe_lenO {c : Str} {f : List D → Store → R D} {p : Pos} (hK : X.K = K) (hm : Meth X.K (He.ga K c) "__len__" fa) (F : Df X.prog X.w X.K X.mg X.base k fa ps (spG K 1 f)) (Bd_ : Bd X.K fa ps []) (hr : Rm j X.A) (hk : k + 1 ≤ j) (hg : Gl X "len") (hn : X.mg "len" = none) (hv : bootBuiltins "len" = some (.builtin "len")) (ha : PE X e (tE K W g))
    (hs : starEach [e] X.env = [(false, eval e X.env)] := by rfl) : PE X (.Call (.Name "len" p) [e] [] pos) (tE K W (gOwn c "__len__" okI f g)) := by
  subst hK
  exact pe_is (pe_callB (c_lenO hm F Bd_ hr hk) hg hn hv (pa_cons ha pa_nil hs) (by decide) (by decide) hs rfl) fun _ _ _ q => own_ok (fun p h => okI_ok p h) q
theorem fe_reprO {c : Str} {f : List D → Store → R D} {p : Pos} (hK : X.K = K) (hm : Meth X.K (He.ga K c) "__repr__" fa) (F : Df X.prog X.w X.K X.mg X.base k fa ps (spG K 1 f)) (Bd_ : Bd X.K fa ps []) (hr : Rm j X.A) (hk : k + 1 ≤ j) (hg : Gl X "repr") (hn : X.mg "repr" = none) (hv : bootBuiltins "repr" = some (.builtin "repr")) (ha : PE X e (tE K W g))
    (hs : starEach [e] X.env = [(false, eval e X.env)] := by rfl) : PE X (.Call (.Name "repr" p) [e] [] pos) (tE K W (gOwn c "__repr__" okS f g)) := by
  subst hK
  exact pe_is (pe_callB (c_reprO hm F Bd_ hr hk) hg hn hv (pa_cons ha pa_nil hs) (by decide) (by decide) hs rfl) fun _ _ _ q => own_ok (fun p h => okS_ok p h) q
theorem fe_strO {c : Str} {f : List D → Store → R D} {p : Pos} (hK : X.K = K) (hm : Meth X.K (He.ga K c) "__str__" fa) (F : Df X.prog X.w X.K X.mg X.base k fa ps (spG K 1 f)) (Bd_ : Bd X.K fa ps []) (hr : Rm j X.A) (hk : k + 2 ≤ j) (hg : Gl X "str") (hn : X.mg "str" = none) (hv : bootBuiltins "str" = some (.type "str")) (ha : PE X e (tE K W g))
    (hs : starEach [e] X.env = [(false, eval e X.env)] := by rfl) : PE X (.Call (.Name "str" p) [e] [] pos) (tE K W (gOwn c "__str__" okS f g)) := by
  subst hK
  exact pe_is (pe_callTy (c_strO hm F Bd_ hr hk) hg hn hv (pa_cons ha pa_nil hs) (by decide) (by decide) hs rfl) fun _ _ _ q => own_ok (fun p h => okS_ok p h) q
end
end Fn
namespace Fn
open PySem PySem.Spec PyProof.Rows L2
/-- what is never reached -/
def gNever : GE := fun _ _ => .no
@[simp] theorem gNever_eq (σ : Sl) (M : Store) : gNever σ M = .no := rfl
theorem fe_never {X : Cx} {K : PySem.W.Frag} {W : WX} {e : Expr} : PE X e (tE K W gNever) := ⟨fun pins s σV H Q I q => by
  obtain ⟨ν, σ, M, rl, sl, h⟩ := q
  exact h.elim⟩
end Fn
namespace Fn
open PySem PySem.Spec PyProof.Rows L2
theorem ft_chain {X : Cx} {K : PySem.W.Frag} {W : WX} {a b c : Expr} {pos : Pos} {ga gb : GE} {op op' : D → D → Store → R D} {o o' : CmpOp} {r r' : R2} {gc : GE} (ho : OpR X (compareOp o) r) (ho' : OpR X (compareOp o') r') (hs : OpS K op r) (hs' : OpS K op' r') (ha : PE X a (tE K W ga)) (hb : PE X b (tE K W gb)) (hc : PE X c (tE K W gc))
    (hm : lastMarks [o, o'] [b, c] = false := by with_unfolding_all rfl) : PT X (.Compare a [o, o'] [b, c] pos) (tT K W (gTB (gChain op op' ga gb gc))) := U.thnP (U.pt_chain ho ho' ha hb hc hm) fun _ _ _ q => chain_ok (Q := _) hs hs' (tb_ok q)
end Fn

set_option Elab.async false
set_option linter.all false
set_option maxRecDepth 100000
set_option maxHeartbeats 4000000
/-! FN: the end of a law. The head's written part holds no list, so the script is none of its objects -/
namespace Fn
open PySem PySem.Spec PyProof.Rows L2
/-- no plain list -/
def nlO (o : Obj) : Bool := match o.cls with
  | .type c => !(c == "list")
  | _ => true
def noL (g : Addr → Option Obj) (a : Addr) : Option Obj := match g a with
  | some o => if nlO o = true then some o else none
  | none => none
theorem noL_at {g : Addr → Option Obj} {a : Addr} {o : Obj} (h : noL g a = some o) : g a = some o ∧ nlO o = true := by
  unfold noL at h
  cases e : g a with
  | none => rw [e] at h; cases h
  | some u =>
    rw [e] at h
    have h : (if nlO u = true then some u else none) = some o := h
    by_cases q : nlO u = true
    · rw [if_pos q] at h
      cases h
      exact ⟨rfl, q⟩
    · rw [if_neg q] at h; cases h
def obsN (n : Nat) (fa : List He.Fa) (fn : List He.DefD) (g : Addr → Option Obj) : He.AlD := He.obsD fa fn (He.frG (noL g) (He.asD g n))
def NL (K : PySem.W.Frag) : Prop := ∀ a o, K.lookup a = some o → nlO o = true
def hookN (n : Nat) (fa : List He.Fa) (fn : List He.DefD) : PySem.W.Hook where
  α := He.AlD
  obs := fun s => obsN n fa fn s.heap.get?
  val := fun _ => He.valD fn
  says := fun _ h => ∃ K : PySem.W.Frag, K.In h ∧ NL K ∧ He.SaysD fa fn K
  of := fun _ _ e => ⟨_, fun a o h => (noL_at (He.frG_at _ h)).1, fun a o h => (noL_at (He.frG_at _ h)).2, e⟩
  keeps := fun _ _ _ ⟨K, hK, n, c⟩ k => ⟨K, PySem.W.Frag.In.keeps hK k, n, c⟩
theorem obsN_eq {n : Nat} {fa : List He.Fa} {fn : List He.DefD} {g : Addr → Option Obj} {s : Shared} (h : ∀ a, g a = s.heap.get? a) : obsN n fa fn g = (hookN n fa fn).obs s := by
  have e : g = s.heap.get? := funext h
  rw [e] <;> rfl
theorem vs_ints {F : Hp} : ∀ ns : List Int, Vs F (ns.map V.int) (ns.map PyData.int)
  | [] => .nil
  | n :: r => .cons (.int n) (vs_ints r)
/-- the law's call, by the law's function of values -/
theorem law_callF {P : Program} {w : World} {K : PySem.W.Frag} {mg mb : Str → Option Value} {k : Nat} {fa a : Addr} {fd : FuncData} {x : Str} {g : List D → Store → R D} {s₁ : Shared} {vs : List Value} {ns : List Int}
    (KX : K.In s₁.heap) (KN : NL K) (hns : s₁.heap.Ns mainGlobals mg) (hb : s₁.heap.Ns builtinsNs mb) (hbb : ∀ x : Str, x ≠ "__name__" → mb x = bootBuiltins x) (hlim : s₁.heap.NoLimit) (hg : s₁.gens = #[])
    (ha : s₁.heap.get? a = some { cls := .type "list", data := .seq vs.toArray }) (hi : IntsAre vs ns) (hl : ns.length ≤ sizeLine) (hr : U.Rm k callerA)
    (F : ∀ base : Heap, K.In base → base.Ns mainGlobals mg → U.Df P w K mg base k fa [x] (spG K 1 g)) (hfd : U.FdAt K fa fd) (hbind : ∀ (s : Shared) (u : Value), BindsTo s fd ⟨[u], []⟩ [(x, u)])
    (hgo : ∃ M, g [.p (.list (ns.map PyData.int))] [] = .ok (.p (.bool true)) M) :
    codeAny (model P w) callerA (.call (.ref fa) ⟨[.ref a], []⟩) (fun r s' => r = .ok (.ret (.bool true)) ∧ OldK s₁.heap s'.heap ∧ s'.os = s₁.os ∧ AllBare s'.gens) s₁ := by
  have rv := vals_ints hi
  have lenV := hi.length
  have hka : K.lookup a = none := by
    cases q : K.lookup a with
    | none => rfl
    | some o =>
      have e := KX a o q
      rw [ha] at e
      cases e
      cases KN a _ q
  let H : Hp := fun b => if b = a then some (.frz { cls := .type "list", data := .seq vs.toArray } (.lst (ns.map V.int))) else none
  have Ha : H a = some (.frz { cls := .type "list", data := .seq vs.toArray } (.lst (ns.map V.int))) := if_pos rfl
  have Hn : ∀ b, b ≠ a → H b = none := fun b h => if_neg h
  have hok : HOk P w H s₁.heap := fun b u z => by
    by_cases hb : b = a
    · subst hb
      rw [Ha] at z
      cases z
      exact ⟨ha, by rw [List.length_map]; exact hl, vs, _, rv, ha⟩
    · rw [Hn b hb] at z; cases z
  have noA : ∀ {b : Addr} {o : Obj} {es : Array DictEntry} {ep : Nat}, s₁.heap.get? b = some o → o.data = .dict es ep → H b = none := fun {b o es ep} e d => Hn b fun e' => by
    subst e'
    rw [ha] at e; cases e
    have d' : Data.seq vs.toArray _ = Data.dict es ep := d
    cases d'
  have nsK : ∀ {b : Addr} {m : Str → Option Value}, s₁.heap.Ns b m → (hidT s₁.heap H).Ns b m := fun {b m} ⟨o, es, ep, e, d, r⟩ => ⟨o, es, ep, hidT_get e (noA e d), d, r⟩
  have hKb : K.In (hidT s₁.heap H) := fun b o e => hidT_get (KX b o e) (Hn b fun e' => by
    subst e'
    rw [hka] at e; cases e)
  have hM : Mod K mg (hidT s₁.heap H) := ⟨hKb, nsK hns, ⟨mb, nsK hb, hbb⟩, let ⟨mc, h1, h2⟩ := hlim; ⟨mc, nsK h1, h2⟩⟩
  have e0 : Env0 P w K mg (hidT s₁.heap H) callerA [] s₁ H := ⟨rfl, hM, fun b o e => of_hidT e, Nat.le_of_eq (hidT_size _ _), trivial, fun b hb => absurd (show b ∈ ([] : List Addr) from hb) (by simp), hok, .of_eq hg⟩
  have sp : spG K 1 g [.ref a] H (fun v _ => v = .bl true) fun _ _ _ => False := by
    obtain ⟨M', hM'⟩ := hgo
    refine ⟨rfl, ⟨H, [], fun _ => none⟩, [.p (.list (ns.map PyData.int))], [], ⟨fun _ _ h => h, rfl, fun n c b e => by simp at e, fun x n e => by cases e⟩, .cons (.p (.lst (.inr ⟨_, Ha⟩) (vs_ints ns))) .nil, ?_⟩
    rw [hM']
    intro ν' H' v _ _ r
    cases r with
    | p h => cases h; rfl
  refine codeAny_mono (((F _ hKb (nsK hns)) fd hfd).run callerA [] s₁ H ⟨[.ref a], []⟩ [.ref a] [.ref a] _ _ hr e0 (hbind s₁ (.ref a)) (.cons rfl .nil) sp) fun r s' h => ?_
  cases r with
  | error e =>
    obtain ⟨_, _, _, _, _, _, _, _, _, _, _, _, hE⟩ := h
    exact hE.elim
  | ok fl =>
    cases fl with
    | next => exact False.elim h
    | brk => exact False.elim h
    | cont => exact False.elim h
    | ret u =>
      obtain ⟨v, H', os, bare, un, hok', r', q⟩ := h
      have q' : v = .bl true := q
      subst q'
      obtain rfl : u = Value.bool true := r'
      refine ⟨rfl, OldK.of_keep fun b o e => ?_, os, bare⟩
      by_cases hb : b = a
      · subst hb
        have z2 := un.frzs b _ _ Ha
        obtain ⟨e1, _⟩ := hok b _ Ha
        obtain ⟨e2, _⟩ := hok' b _ z2
        rw [e] at e1; cases e1
        exact e2
      · exact un.keep b o e (Hn b hb) (by intro z; exact absurd (show b ∈ ([] : List Addr) from z) (by simp)) (by simp)
theorem rm_caller {k : Nat} (h : Room k callerA) : U.Rm k callerA := ⟨h, rfl⟩
/-- a law: from its function of values -/
theorem walk_ofF {l : PySem.W.OpenLaw} {n k : Nat} {q : Program} {loose : List Str} {XP : (Str → Option Value) → Heap → Prop} {YP : World → Heap → Prop} {d : DefRec} {x : Str} {g : List D → Store → R D}
    (hn : l.most = some n) (hn2 : n ≤ sizeLine) (hdf : d.params.defaults = []) (hr : Room k callerA)
    (F : ∀ (w : World) (mg : Str → Option Value) (fa : Addr) (h : Heap), YP w h → h.Ns mainGlobals mg → mg d.name = some (.ref fa) →
      ∃ (K : PySem.W.Frag) (fd : FuncData), K.In h ∧ NL K ∧ U.FdAt K fa fd ∧ (∀ (s : Shared) (u : Value), BindsTo s fd ⟨[u], []⟩ [(x, u)]) ∧
        ∀ base : Heap, K.In base → base.Ns mainGlobals mg → U.Df l.prog w K mg base k fa [x] (spG K 1 g))
    (hgo : ∀ ns : List Int, ns.length ≤ n → ∃ M, g [.p (.list (ns.map PyData.int))] [] = .ok (.p (.bool true)) M) :
    PySem.W.WalkO q loose XP YP l.row.toRowW d [] (fun f vs => PySem.call f vs) := by
  refine Att.attach_call hn hdf fun w s₀ s₁ mg mb fa o pm cd doc a vs ns G Y ho hd hcd hmg hobj hints hlen hg => ?_
  obtain ⟨K, fd, KX, KN, hfd, hb, hF⟩ := F w mg fa _ Y G.T.g hmg
  exact law_callF KX KN G.T.g G.T.b G.T.builtins G.T.nolimit hg hobj hints (Nat.le_trans hlen hn2) (rm_caller hr) hF hfd hb (hgo ns hlen)
end Fn

set_option Elab.async false
set_option linter.all false
set_option maxRecDepth 100000
set_option maxHeartbeats 4000000
/-! FO: calls and loops worked out -/
namespace Fn
open PySem PySem.Spec PyProof.Rows L2
/-! ### calls -/
theorem labs_p (o : Nat) (ns : List Nat) : ∀ xs : List PyData, labs o ns (xs.map D.p) = some (xs.map D.p, ns)
  | [] => rfl
  | x :: r => by rw [List.map_cons, labs, lab]; simp only [labs_p o ns r]
/-- a call with plain arguments and a plain result -/
theorem callB_p {f : List D → Store → R D} {xs : List PyData} {y : PyData} {M0 : Store} (h : f (xs.map D.p) [] = .ok (.p y) M0) (M : Store) : callB f (xs.map D.p) M = .ok (.p y) M := by
  unfold callB
  rw [labs_p]
  simp only [lent, h, back]
theorem callB_1 {f : List D → Store → R D} {a y : PyData} {M0 : Store} (h : f [.p a] [] = .ok (.p y) M0) (M : Store) : callB f [.p a] M = .ok (.p y) M := callB_p (xs := [a]) h M
theorem callB_2 {f : List D → Store → R D} {a b y : PyData} {M0 : Store} (h : f [.p a, .p b] [] = .ok (.p y) M0) (M : Store) : callB f [.p a, .p b] M = .ok (.p y) M := callB_p (xs := [a, b]) h M
theorem callB_3 {f : List D → Store → R D} {a b c y : PyData} {M0 : Store} (h : f [.p a, .p b, .p c] [] = .ok (.p y) M0) (M : Store) : callB f [.p a, .p b, .p c] M = .ok (.p y) M := callB_p (xs := [a, b, c]) h M
theorem callB_4 {f : List D → Store → R D} {a b c d y : PyData} {M0 : Store} (h : f [.p a, .p b, .p c, .p d] [] = .ok (.p y) M0) (M : Store) : callB f [.p a, .p b, .p c, .p d] M = .ok (.p y) M := callB_p (xs := [a, b, c, d]) h M
theorem labs_c (n : Nat) (xs : List PyData) : labs 0 [] (.cell n :: xs.map D.p) = some (.cell 0 :: xs.map D.p, [n]) := by
  have e : lab 0 [] (.cell n) = some (.cell 0, [n]) := rfl
  rw [labs, e]
  simp only [labs_p]
/-- a call with one cell ahead, a plain result -/
theorem callB_c {f : List D → Store → R D} {n : Nat} {xs : List PyData} {y : PyData} {c c' : Cell} {r M : Store} (hc : M[n]? = some c) (ho : c.own = true) (h : f (.cell 0 :: xs.map D.p) [c] = .ok (.p y) (c' :: r)) (ho' : c'.own = true) :
    callB f (.cell n :: xs.map D.p) M = .ok (.p y) (M.set n c') := by
  unfold callB
  rw [labs_c]
  simp only [lent, hc, if_pos ho, h, back, if_pos ho']
theorem callB_c0 {f : List D → Store → R D} {n : Nat} {y : PyData} {c c' : Cell} {r M : Store} (hc : M[n]? = some c) (ho : c.own = true) (h : f [.cell 0] [c] = .ok (.p y) (c' :: r)) (ho' : c'.own = true) :
    callB f [.cell n] M = .ok (.p y) (M.set n c') := callB_c (xs := []) hc ho h ho'
theorem callB_c1 {f : List D → Store → R D} {n : Nat} {a y : PyData} {c c' : Cell} {r M : Store} (hc : M[n]? = some c) (ho : c.own = true) (h : f [.cell 0, .p a] [c] = .ok (.p y) (c' :: r)) (ho' : c'.own = true) :
    callB f [.cell n, .p a] M = .ok (.p y) (M.set n c') := callB_c (xs := [a]) hc ho h ho'
theorem callB_c2 {f : List D → Store → R D} {n : Nat} {a b y : PyData} {c c' : Cell} {r M : Store} (hc : M[n]? = some c) (ho : c.own = true) (h : f [.cell 0, .p a, .p b] [c] = .ok (.p y) (c' :: r)) (ho' : c'.own = true) :
    callB f [.cell n, .p a, .p b] M = .ok (.p y) (M.set n c') := callB_c (xs := [a, b]) hc ho h ho'
/-- the same, a new cell as the result -/
theorem callB_cn {f : List D → Store → R D} {n j : Nat} {xs : List PyData} {c c' c2 : Cell} {r M : Store} (hc : M[n]? = some c) (ho : c.own = true) (h : f (.cell 0 :: xs.map D.p) [c] = .ok (.cell (j + 1)) (c' :: r)) (ho' : c'.own = true) (hj : r[j]? = some c2) (h2 : c2.own = true) :
    callB f (.cell n :: xs.map D.p) M = .ok (.cell M.length) (M.set n c' ++ [c2]) := by
  unfold callB
  rw [labs_c]
  have e : (c' :: r)[j + 1]? = some c2 := by simpa using hj
  have z : ¬(j + 1 < [n].length) := by simp
  simp only [lent, hc, if_pos ho, h, back, if_pos ho', e, if_neg z, if_pos h2, List.length_set]
theorem callB_n {f : List D → Store → R D} {j : Nat} {xs : List PyData} {c2 : Cell} {r M : Store} (h : f (xs.map D.p) [] = .ok (.cell j) r) (hj : r[j]? = some c2) (h2 : c2.own = true) :
    callB f (xs.map D.p) M = .ok (.cell M.length) (M ++ [c2]) := by
  unfold callB
  rw [labs_p]
  have z : ¬(j < ([] : List Nat).length) := by simp
  simp only [lent, h, back, hj, if_neg z, if_pos h2]
/-! ### loops -/
theorem gd0 {M : Store} : gdOk [] M := fun p hp => by cases hp
/-- how a run of statements may end -/
def Go (r : SR) (P : Sl → Store → Prop) (Q : D → Store → Prop) : Prop := (∃ σ M, r = .nx σ M ∧ P σ M) ∨ ∃ d M, r = .rt d M ∧ Q d M
theorem Go.nx {σ : Sl} {M : Store} {P : Sl → Store → Prop} {Q : D → Store → Prop} (h : P σ M) : Go (.nx σ M) P Q := .inl ⟨σ, M, rfl, h⟩
theorem Go.rt {d : D} {M : Store} {P : Sl → Store → Prop} {Q : D → Store → Prop} (h : Q d M) : Go (.rt d M) P Q := .inr ⟨d, M, rfl, h⟩
theorem Go.seq {r : SR} {b : GS} {P P' : Sl → Store → Prop} {Q : D → Store → Prop} (h : Go r P Q) (k : ∀ σ M, P σ M → Go (b σ M) P' Q) : Go (r.seq b) P' Q := by
  rcases h with ⟨σ, M, rfl, h⟩ | ⟨d, M, rfl, h⟩
  · exact k σ M h
  · exact .rt h
theorem Go.fin {r : SR} {Q : D → Store → Prop} (h : Go r (fun _ M => Q (.p .none) M) Q) : ∃ d M, r.fin = .ok d M ∧ Q d M := by
  rcases h with ⟨σ, M, rfl, h⟩ | ⟨d, M, rfl, h⟩
  · exact ⟨_, _, rfl, h⟩
  · exact ⟨_, _, rfl, h⟩
theorem Go.mono {r : SR} {P P' : Sl → Store → Prop} {Q Q' : D → Store → Prop} (h : Go r P Q) (p : ∀ σ M, P σ M → P' σ M) (q : ∀ d M, Q d M → Q' d M) : Go r P' Q' := by
  rcases h with ⟨σ, M, rfl, h⟩ | ⟨d, M, rfl, h⟩
  · exact .nx (p _ _ h)
  · exact .rt (q _ _ h)
/-- for, by an invariant: a turn starts at σ1 (the target is set) and ends as Go says -/
theorem for_go {gd : List (Nat × List PyData)} {o : Option Nat} {t : Tg} {body : GS} {Q : D → Store → Prop} (I : Nat → Sl → Store → Prop) :
    ∀ (ds : List D) (k : Nat) (σ : Sl) (M : Store), I k σ M → (∀ i σ M, k ≤ i → i ≤ k + ds.length → I i σ M → gdOk gd M) →
      (∀ i d σ M, ds[i]? = some d → I (k + i) σ M → ∃ σ1, dT t d σ = some σ1 ∧ Go (body σ1 M) (fun σ2 M2 => I (k + i + 1) (tidO o σ2 M2).1 (tidO o σ2 M2).2) Q) →
      Go (forL gd o t body ds σ M) (I (k + ds.length)) Q
  | [], k, σ, M, h, hg, hb => by
    rw [forL, if_pos (hg k σ M (Nat.le_refl _) (by simp) h)]
    exact .nx h
  | d :: ds, k, σ, M, h, hg, hb => by
    rw [forL, if_pos (hg k σ M (Nat.le_refl _) (by simp) h)]
    obtain ⟨σ1, e1, g⟩ := hb 0 d σ M rfl h
    rw [e1]
    rcases g with ⟨σ2, M2, e2, h2⟩ | ⟨x, M2, e2, h2⟩
    · simp only [e2]
      have z := for_go I ds (k + 1) _ _ h2 (fun i σ M a b => hg i σ M (by omega) (by rw [List.length_cons]; omega)) fun i d' σ M hd hi => by
        have := hb (i + 1) d' σ M (by simpa using hd) (by rw [show k + (i + 1) = k + 1 + i by omega]; exact hi)
        rw [show k + (i + 1) = k + 1 + i by omega] at this
        exact this
      rw [show k + 1 + ds.length = k + (d :: ds).length by rw [List.length_cons]; omega] at z
      exact z
    · simp only [e2]
      exact .rt h2
/-- for over plain things -/
theorem for_go0 {t : Tg} {body : GS} {Q : D → Store → Prop} {ds : List D} {σ : Sl} {M : Store} (I : Nat → Sl → Store → Prop) (h : I 0 σ M)
    (hb : ∀ i d σ M, ds[i]? = some d → I i σ M → ∃ σ1, dT t d σ = some σ1 ∧ Go (body σ1 M) (fun σ2 M2 => I (i + 1) σ2 M2) Q) :
    Go (forL [] none t body ds σ M) (I ds.length) Q := by
  have z := for_go (gd := []) (o := none) (t := t) (body := body) (Q := Q) I ds 0 σ M h (fun _ _ _ _ _ _ => gd0) fun i d σ M hd hi => by
    rw [Nat.zero_add] at hi ⊢
    exact hb i d σ M hd hi
  rw [Nat.zero_add] at z
  exact z
/-- while: ends by a measure -/
theorem while_go {o : Option Nat} {c : GT} {body : GS} {Q : D → Store → Prop} (I : Nat → Sl → Store → Prop) {E : Sl → Store → Prop} :
    ∀ (m f : Nat) (σ : Sl) (M : Store), m < f → I m σ M →
      (∀ m σ M, I m σ M → (∃ M1, c σ M = .ok false M1 ∧ E σ M1) ∨ ∃ M1, c σ M = .ok true M1 ∧ Go (body σ M1) (fun σ2 M2 => ∃ m2, m2 < m ∧ I m2 (tidO o σ2 M2).1 (tidO o σ2 M2).2) Q) →
      Go (whileL o c body f σ M) E Q
  | m, 0, σ, M, hf, _, _ => absurd hf (Nat.not_lt_zero _)
  | m, f + 1, σ, M, hf, h, hb => by
    rw [whileL]
    rcases hb m σ M h with ⟨M1, e, h1⟩ | ⟨M1, e, g⟩
    · rw [e]
      exact .nx h1
    · rw [e]
      simp only [if_true]
      rcases g with ⟨σ2, M2, e2, m2, l, h2⟩ | ⟨x, M2, e2, h2⟩
      · simp only [e2]
        exact while_go I m2 f _ _ (by omega) h2 hb
      · simp only [e2]
        exact .rt h2
/-- a comprehension over plain things that keeps the store -/
theorem lc_map {t : Tg} {te : GE} {σ : Sl} {M : Store} {fin : List D → Store → R D} (f : D → D) :
    ∀ (ds acc : List D), acc.length + ds.length ≤ 16777216 → (∀ d ∈ ds, ∃ σ1, dT t d σ = some σ1 ∧ te σ1 M = .ok (f d) M) →
      lcL [] t gYes te fin σ ds M acc = fin (acc ++ ds.map f) M
  | [], acc, _, _ => by
    rw [lcL, if_pos gd0]
    simp
  | d :: ds, acc, hl, h => by
    rw [lcL, if_pos gd0]
    obtain ⟨σ1, e1, e2⟩ := h d (List.mem_cons_self ..)
    rw [List.length_cons] at hl
    simp only [e1, gYes, R.calm, bind_ok, if_true, e2]
    rw [if_pos (by rw [sizeLine_eq]; omega), lc_map f ds (acc ++ [f d]) (by simp; omega) fun d hd => h d (List.mem_cons_of_mem _ hd)]
    simp
/-- .. some of them -/
theorem lc_filter {t : Tg} {tt : GT} {te : GE} {σ : Sl} {M : Store} {fin : List D → Store → R D} (q : D → Bool) (f : D → D) :
    ∀ (ds acc : List D), acc.length + ds.length ≤ 16777216 → (∀ d ∈ ds, ∃ σ1, dT t d σ = some σ1 ∧ tt σ1 M = .ok (q d) M ∧ (q d = true → te σ1 M = .ok (f d) M)) →
      lcL [] t tt te fin σ ds M acc = fin (acc ++ (ds.filter q).map f) M
  | [], acc, _, _ => by
    rw [lcL, if_pos gd0]
    simp
  | d :: ds, acc, hl, h => by
    rw [lcL, if_pos gd0]
    obtain ⟨σ1, e1, e2, e3⟩ := h d (List.mem_cons_self ..)
    rw [List.length_cons] at hl
    simp only [e1, e2, R.calm, bind_ok]
    by_cases z : q d = true
    · rw [if_pos z]
      simp only [e3 z, bind_ok]
      rw [if_pos (by rw [sizeLine_eq]; omega), lc_filter q f ds (acc ++ [f d]) (by simp; omega) fun d hd => h d (List.mem_cons_of_mem _ hd), List.filter_cons_of_pos z]
      simp
    · rw [if_neg z, lc_filter q f ds acc (by omega) fun d hd => h d (List.mem_cons_of_mem _ hd), List.filter_cons_of_neg z]
/-- .. that changes the store: by an invariant over what is gathered -/
theorem lc_inv {t : Tg} {te : GE} {σ : Sl} {fin : List D → Store → R D} (I : Nat → Store → List D → Prop) :
    ∀ (ds acc : List D) (k : Nat) (M : Store), acc.length + ds.length ≤ 16777216 → I k M acc → (∀ i M acc, k ≤ i → i < k + ds.length → ∀ d ∈ ds, I i M acc → ∃ σ1 y M2, dT t d σ = some σ1 ∧ te σ1 M = .ok y M2 ∧ I (i + 1) M2 (acc ++ [y])) →
      ∃ M2 acc2, lcL [] t gYes te fin σ ds M acc = fin acc2 M2 ∧ I (k + ds.length) M2 acc2
  | [], acc, k, M, _, h, _ => by
    rw [lcL, if_pos gd0]
    exact ⟨M, acc, rfl, h⟩
  | d :: ds, acc, k, M, hl, h, hb => by
    rw [lcL, if_pos gd0]
    obtain ⟨σ1, y, M2, e1, e2, h2⟩ := hb k M acc (Nat.le_refl _) (by rw [List.length_cons]; omega) d (List.mem_cons_self ..) h
    rw [List.length_cons] at hl
    simp only [e1, gYes, R.calm, bind_ok, if_true, e2]
    rw [if_pos (by rw [sizeLine_eq]; omega)]
    obtain ⟨M3, acc3, e3, h3⟩ := lc_inv (fin := fin) I ds (acc ++ [y]) (k + 1) M2 (by simp; omega) h2 fun i M acc a b d hd => hb i M acc (by omega) (by rw [List.length_cons]; omega) d (List.mem_cons_of_mem _ hd)
    exact ⟨M3, acc3, e3, by rw [List.length_cons, show k + (ds.length + 1) = k + 1 + ds.length by omega]; exact h3⟩
end Fn
namespace Fn
open PySem PySem.Spec PyProof.Rows L2
/-- for without a return -/
theorem for_nx {t : Tg} {body : GS} {ds : List D} {σ : Sl} {M : Store} {r : SR} (e : forL [] none t body ds σ M = r) (I : Nat → Sl → Store → Prop) (h : I 0 σ M)
    (hb : ∀ i d σ M, ds[i]? = some d → I i σ M → ∃ σ1 σ2 M2, dT t d σ = some σ1 ∧ body σ1 M = .nx σ2 M2 ∧ I (i + 1) σ2 M2) : ∃ σ2 M2, r = .nx σ2 M2 ∧ I ds.length σ2 M2 := by
  subst e
  rcases for_go0 (Q := fun _ _ => False) (body := body) I h fun i d σ M hd hi => (by
    obtain ⟨σ1, σ2, M2, e1, e2, h2⟩ := hb i d σ M hd hi
    exact ⟨σ1, e1, .inl ⟨σ2, M2, e2, h2⟩⟩) with z | ⟨_, _, _, z⟩
  · exact z
  · exact z.elim
theorem for_rt {t : Tg} {body : GS} {ds : List D} {σ : Sl} {M : Store} {r : SR} (e : forL [] none t body ds σ M = r) (I : Nat → Sl → Store → Prop) (Q : D → Store → Prop) (h : I 0 σ M)
    (hb : ∀ i d σ M, ds[i]? = some d → I i σ M → ∃ σ1, dT t d σ = some σ1 ∧ Go (body σ1 M) (fun σ2 M2 => I (i + 1) σ2 M2) Q) : Go r (I ds.length) Q := by
  subst e
  exact for_go0 I h hb
theorem while_nx {c : GT} {body : GS} {σ : Sl} {M : Store} {r : SR} (e : whileL none c body wfuel σ M = r) (I : Nat → Sl → Store → Prop) {E : Sl → Store → Prop} (m : Nat) (hm : m < 1000000000000) (h : I m σ M)
    (hb : ∀ m σ M, I m σ M → (c σ M = .ok false M ∧ E σ M) ∨ (c σ M = .ok true M ∧ ∃ m2 σ2 M2, body σ M = .nx σ2 M2 ∧ m2 < m ∧ I m2 σ2 M2)) : ∃ σ2 M2, r = .nx σ2 M2 ∧ E σ2 M2 := by
  subst e
  rcases while_go (Q := fun _ _ => False) (o := none) (E := E) (body := body) I m wfuel σ M (by unfold wfuel; exact hm) h fun m σ M hi => (by
    rcases hb m σ M hi with ⟨a, b⟩ | ⟨a, m2, σ2, M2, e2, l, h2⟩
    · exact .inl ⟨M, a, b⟩
    · exact .inr ⟨M, a, .inl ⟨σ2, M2, e2, m2, l, h2⟩⟩) with z | ⟨_, _, _, z⟩
  · exact z
  · exact z.elim
theorem while_rt {c : GT} {body : GS} {σ : Sl} {M : Store} {r : SR} (e : whileL none c body wfuel σ M = r) (I : Nat → Sl → Store → Prop) {E : Sl → Store → Prop} (Q : D → Store → Prop) (m : Nat) (hm : m < 1000000000000) (h : I m σ M)
    (hb : ∀ m σ M, I m σ M → (c σ M = .ok false M ∧ E σ M) ∨ (c σ M = .ok true M ∧ Go (body σ M) (fun σ2 M2 => ∃ m2, m2 < m ∧ I m2 σ2 M2) Q)) : Go r E Q := by
  subst e
  exact while_go (o := none) (E := E) (body := body) I m wfuel σ M (by unfold wfuel; exact hm) h fun m σ M hi => (by
    rcases hb m σ M hi with ⟨a, b⟩ | ⟨a, b⟩
    · exact .inl ⟨M, a, b⟩
    · exact .inr ⟨M, a, b⟩)
@[simp] theorem gFor_eq (src : GI) (t : Tg) (body : GS) (σ : Sl) (M : Store) : gFor false src t body σ M = (src σ M).toS σ fun a M1 => forL a.2 none t body a.1 σ M1 := rfl
@[simp] theorem gFor_eqT (src : GI) (t : Tg) (body : GS) (σ : Sl) (M : Store) : gFor true src t body σ M = (src σ M).toS σ fun a M1 => forL a.2 (some M1.length) t body a.1 σ M1 := rfl
@[simp] theorem gWhile_eq (c : GT) (body : GS) (σ : Sl) (M : Store) : gWhile false c body σ M = whileL none c body wfuel σ M := rfl
@[simp] theorem gIts_eq (g : GE) (σ : Sl) (M : Store) : gIts g σ M = (g σ M).bind pIts := rfl
@[simp] theorem pIts_list (xs : List PyData) (M : Store) : pIts (.p (.list xs)) M = .ok (xs.map D.p, []) M := rfl
@[simp] theorem pIts_tuple (xs : List PyData) (M : Store) : pIts (.p (.tuple xs)) M = .ok (xs.map D.p, []) M := rfl
@[simp] theorem pIts_str (z : Str) (M : Store) : pIts (.p (.str z)) M = .ok (z.cps.toList.map sgD, []) M := rfl
@[simp] theorem gRng1_eq (gs : GA) (σ : Sl) (M : Store) : gRng1 gs σ M = (gs σ M).bind pRng1 := rfl
@[simp] theorem gRng2_eq (gs : GA) (σ : Sl) (M : Store) : gRng2 gs σ M = (gs σ M).bind pRng2 := rfl
@[simp] theorem gEnum_eq (gs : GA) (σ : Sl) (M : Store) : gEnum gs σ M = (gs σ M).bind pEnum := rfl
@[simp] theorem gLc_eq (fin : List D → Store → R D) (src : GI) (t : Tg) (own : List Nat) (tt : GT) (te : GE) (σ : Sl) (M : Store) : gLc fin src t own tt te σ M = (src σ M).bind fun a M1 => lcL a.2 t tt te fin (wipeD σ own) a.1 M1 [] := rfl
theorem cut_to {xs : List PyData} {i : Int} (h : 0 ≤ i) : cutP xs none (some i) = xs.take i.toNat := by
  obtain ⟨k, rfl⟩ := Int.eq_ofNat_of_zero_le h
  unfold cutP
  rw [HT.sIx_none, HT.sIx_nat, List.drop_zero, Nat.sub_zero, Int.toNat_natCast]
  by_cases hk : k ≤ xs.length
  · rw [Nat.min_eq_left hk]
  · rw [Nat.min_eq_right (by omega), List.take_of_length_le (Nat.le_refl _), List.take_of_length_le (by omega)]
theorem cut_from {xs : List PyData} {i : Int} (h : 0 ≤ i) : cutP xs (some i) none = xs.drop i.toNat := by
  obtain ⟨k, rfl⟩ := Int.eq_ofNat_of_zero_le h
  unfold cutP
  rw [HT.sIx_none, HT.sIx_nat, Int.toNat_natCast]
  by_cases hk : k ≤ xs.length
  · rw [Nat.min_eq_left hk, List.take_of_length_le (by rw [List.length_drop]; omega)]
  · rw [Nat.min_eq_right (by omega), List.drop_of_length_le (Nat.le_refl _), List.drop_of_length_le (by omega)]
    simp
section
open U
variable {M : Store} {s a b : List Nat} {i j : Int}
theorem pSl_to (hl : s.length ≤ 10000) (h : 0 ≤ i) : pSl (.p (.str (tx s))) none (some i) M = .ok (.p (.str (tx (s.take i.toNat)))) M := by
  show (if (tx s).length ≤ sizeLine then _ else _) = _
  rw [if_pos (tx_small hl), cutS_to h]
theorem pSl_from (hl : s.length ≤ 10000) (h : 0 ≤ i) : pSl (.p (.str (tx s))) (some i) none M = .ok (.p (.str (tx (s.drop i.toNat)))) M := by
  show (if (tx s).length ≤ sizeLine then _ else _) = _
  rw [if_pos (tx_small hl), cutS_from h]
theorem pSl_mid (hl : s.length ≤ 10000) (h : 0 ≤ i) (hj : 0 ≤ j) : pSl (.p (.str (tx s))) (some i) (some j) M = .ok (.p (.str (tx ((s.drop i.toNat).take (j.toNat - i.toNat))))) M := by
  show (if (tx s).length ≤ sizeLine then _ else _) = _
  rw [if_pos (tx_small hl), cutS_mid h hj]
theorem pAdd_tx (hl : a.length + b.length ≤ 10000) : pAdd (.p (.str (tx a))) (.p (.str (tx b))) M = .ok (.p (.str (tx (a ++ b)))) M := by
  rw [pAdd_str _ _ _ (by show a.length + b.length ≤ _; omega), tx_app]
theorem pIx_tx {c : Nat} (hl : s.length ≤ 10000) (h : 0 ≤ i) (hc : s[i.toNat]? = some c) : pIx (.p (.str (tx s))) (.p (.int i)) M = .ok (.p (.str (tx [c]))) M := by
  rw [pIx_str _ _ _ (by show s.length ≤ _; omega)]
  have e : atI (tx s).cps.toList i = some c := atI_get h hc
  rw [e]
  rfl
theorem pIx_lst {xs : List PyData} {d : PyData} (h : 0 ≤ i) (hc : xs[i.toNat]? = some d) : pIx (.p (.list xs)) (.p (.int i)) M = .ok (.p d) M := by
  rw [pIx_list, atI_get h hc]; rfl
theorem pIx_tup {xs : List PyData} {d : PyData} (h : 0 ≤ i) (hc : xs[i.toNat]? = some d) : pIx (.p (.tuple xs)) (.p (.int i)) M = .ok (.p d) M := by
  rw [pIx_tuple, atI_get h hc]; rfl
theorem pIx_cel {n : Nat} {xs : List PyData} {d : PyData} (hm : M[n]? = some (.lst xs)) (h : 0 ≤ i) (hc : xs[i.toNat]? = some d) : pIx (.cell n) (.p (.int i)) M = .ok (.p d) M := by
  rw [pIx_cell _ _ _ _ hm, atI_get h hc]; rfl
theorem cLen_tx (hl : s.length ≤ 10000) : cLen [.p (.str (tx s))] M = .ok (.p (.int s.length)) M := cLen_str _ _ (by show s.length ≤ _; omega)
theorem pEq_tx (ne : Bool) : pEq ne (.p (.str (tx a))) (.p (.str (tx b))) M = .ok (.p (.bool (ne ^^ decide (a = b)))) M := by
  rw [pEq_str]
  simp [tx_inj]
end
end Fn
namespace Fn
open PySem PySem.Spec PyProof.Rows L2
/-- comprehensions over plain things with plain results -/
theorem lc_pp {t : Tg} {te : GE} {σ : Sl} {M : Store} (f : PyData → PyData) {xs : List PyData} (hl : xs.length ≤ 16777216) (h : ∀ x ∈ xs, ∃ σ1, dT t (.p x) σ = some σ1 ∧ te σ1 M = .ok (.p (f x)) M) :
    lcL [] t gYes te finP σ (xs.map D.p) M [] = .ok (.p (.list (xs.map f))) M := by
  rw [lc_map (fun d => match d with | .p x => .p (f x) | d => d) _ _ (by simpa using hl)]
  · have e : (xs.map D.p).map (fun d => match d with | .p x => D.p (f x) | d => d) = (xs.map f).map D.p := by rw [List.map_map, List.map_map]; rfl
    rw [List.nil_append, e]
    unfold finP
    rw [mkL_eq, pures_mp]
    rfl
  · intro d hd
    obtain ⟨x, hx, rfl⟩ := List.mem_map.mp hd
    exact h x hx
theorem lc_pf {t : Tg} {tt : GT} {te : GE} {σ : Sl} {M : Store} (q : PyData → Bool) (f : PyData → PyData) {xs : List PyData} (hl : xs.length ≤ 16777216) (h : ∀ x ∈ xs, ∃ σ1, dT t (.p x) σ = some σ1 ∧ tt σ1 M = .ok (q x) M ∧ (q x = true → te σ1 M = .ok (.p (f x)) M)) :
    lcL [] t tt te finP σ (xs.map D.p) M [] = .ok (.p (.list ((xs.filter q).map f))) M := by
  rw [lc_filter (fun d => match d with | .p x => q x | d => false) (fun d => match d with | .p x => .p (f x) | d => d) _ _ (by simpa using hl)]
  · have e : ((xs.map D.p).filter (fun d => match d with | .p x => q x | d => false)).map (fun d => match d with | .p x => D.p (f x) | d => d) = ((xs.filter q).map f).map D.p := by
      rw [List.filter_map, List.map_map, List.map_map]; rfl
    rw [List.nil_append, e]
    unfold finP
    rw [mkL_eq, pures_mp]
    rfl
  · intro d hd
    obtain ⟨x, hx, rfl⟩ := List.mem_map.mp hd
    exact h x hx
theorem set_same {α : Type} {l : List α} {i : Nat} {a : α} (h : i < l.length) : (l.set i a)[i]? = some a := List.getElem?_set_self h
end Fn
namespace Fn
open PySem PySem.Spec PyProof.Rows L2
section
variable (a b c : PyData) (r : List PyData) (M : Store)
@[simp] theorem pIx_t0 : pIx (.p (.tuple (a :: r))) (.p (.int 0)) M = .ok (.p a) M := pIx_tup (by decide) rfl
@[simp] theorem pIx_t1 : pIx (.p (.tuple (a :: b :: r))) (.p (.int 1)) M = .ok (.p b) M := pIx_tup (by decide) rfl
@[simp] theorem pIx_t2 : pIx (.p (.tuple (a :: b :: c :: r))) (.p (.int 2)) M = .ok (.p c) M := pIx_tup (by decide) rfl
@[simp] theorem pIx_l0 : pIx (.p (.list (a :: r))) (.p (.int 0)) M = .ok (.p a) M := pIx_lst (by decide) rfl
end
theorem pIx_last {n : Nat} {xs : List PyData} {x : PyData} {M : Store} (h : M[n]? = some (.lst (xs ++ [x]))) : pIx (.cell n) (.p (.int (-1))) M = .ok (.p x) M := by
  rw [pIx_cell _ _ _ _ h, U.atI_neg (by decide) (by simp; omega)]
  have e : ((-1 : Int) + ((xs ++ [x]).length : Nat)).toNat = xs.length := by simp; omega
  rw [e]
  simp
theorem pIx_last2 {n : Nat} {xs : List PyData} {x y : PyData} {M : Store} (h : M[n]? = some (.lst (xs ++ [x, y]))) : pIx (.cell n) (.p (.int (-2))) M = .ok (.p x) M := by
  rw [pIx_cell _ _ _ _ h, U.atI_neg (by decide) (by simp; omega)]
  have e : ((-2 : Int) + ((xs ++ [x, y]).length : Nat)).toNat = xs.length := by simp; omega
  rw [e]
  simp
end Fn
namespace Fn
open PySem PySem.Spec PyProof.Rows L2
theorem for_nxG {gd : List (Nat × List PyData)} {t : Tg} {body : GS} {ds : List D} {σ : Sl} {M : Store} {r : SR} (e : forL gd none t body ds σ M = r) (I : Nat → Sl → Store → Prop) (h : I 0 σ M) (hg : ∀ i σ M, I i σ M → gdOk gd M)
    (hb : ∀ i d σ M, ds[i]? = some d → I i σ M → ∃ σ1 σ2 M2, dT t d σ = some σ1 ∧ body σ1 M = .nx σ2 M2 ∧ I (i + 1) σ2 M2) : ∃ σ2 M2, r = .nx σ2 M2 ∧ I ds.length σ2 M2 := by
  subst e
  have z := for_go (o := none) (t := t) (body := body) (Q := fun _ _ => False) I ds 0 σ M h (fun i σ M _ _ hi => hg i σ M hi) fun i d σ M hd hi => (by
    rw [Nat.zero_add] at hi ⊢
    obtain ⟨σ1, σ2, M2, e1, e2, h2⟩ := hb i d σ M hd hi
    exact ⟨σ1, e1, .inl ⟨σ2, M2, e2, h2⟩⟩)
  rw [Nat.zero_add] at z
  rcases z with z | ⟨_, _, _, z⟩
  · exact z
  · exact z.elim
theorem set_eq {α : Type} {l : List α} {n : Nat} {a : α} (h : l[n]? = some a) : l.set n a = l := by
  obtain ⟨h1, h2⟩ := List.getElem?_eq_some_iff.mp h
  subst h2
  exact List.set_getElem_self h1
theorem callB_pcp {f : List D → Store → R D} {n : Nat} {a b y : PyData} {c c' : Cell} {r M : Store} (hc : M[n]? = some c) (ho : c.own = true) (h : f [.p a, .cell 0, .p b] [c] = .ok (.p y) (c' :: r)) (ho' : c'.own = true) :
    callB f [.p a, .cell n, .p b] M = .ok (.p y) (M.set n c') := by
  unfold callB
  have e : labs 0 [] [.p a, .cell n, .p b] = some ([.p a, .cell 0, .p b], [n]) := rfl
  rw [e]
  simp only [lent, hc, if_pos ho, h, back, if_pos ho']
section
variable (xs : List PyData) (M : Store)
@[simp] theorem pEnum_list : pEnum [.p (.list xs)] M = .ok (enD 0 (xs.map D.p), []) M := rfl
@[simp] theorem pEnum_tuple : pEnum [.p (.tuple xs)] M = .ok (enD 0 (xs.map D.p), []) M := rfl
theorem pEnum_cell {n : Nat} (h : M[n]? = some (.lst xs)) : pEnum [.cell n] M = .ok (enD 0 (xs.map D.p), [(n, xs)]) M := by
  unfold pEnum itOf
  simp only [h]
theorem pIts_cell {n : Nat} (h : M[n]? = some (.lst xs)) : pIts (.cell n) M = .ok (xs.map D.p, [(n, xs)]) M := by
  unfold pIts itOf
  simp only [h]
end
end Fn
namespace Fn
open PySem PySem.Spec PyProof.Rows L2
theorem lc_mapG {gd : List (Nat × List PyData)} {t : Tg} {te : GE} {σ : Sl} {M : Store} {fin : List D → Store → R D} (f : D → D) (g : gdOk gd M) :
    ∀ (ds acc : List D), acc.length + ds.length ≤ 16777216 → (∀ d ∈ ds, ∃ σ1, dT t d σ = some σ1 ∧ te σ1 M = .ok (f d) M) →
      lcL gd t gYes te fin σ ds M acc = fin (acc ++ ds.map f) M
  | [], acc, _, _ => by
    rw [lcL, if_pos g]
    simp
  | d :: ds, acc, hl, h => by
    rw [lcL, if_pos g]
    obtain ⟨σ1, e1, e2⟩ := h d (List.mem_cons_self ..)
    rw [List.length_cons] at hl
    simp only [e1, gYes, R.calm, bind_ok, if_true, e2]
    rw [if_pos (by rw [sizeLine_eq]; omega), lc_mapG f g ds (acc ++ [f d]) (by simp; omega) fun d hd => h d (List.mem_cons_of_mem _ hd)]
    simp
theorem lc_ppG {gd : List (Nat × List PyData)} {t : Tg} {te : GE} {σ : Sl} {M : Store} (f : PyData → PyData) (g : gdOk gd M) {xs : List PyData} (hl : xs.length ≤ 16777216) (h : ∀ x ∈ xs, ∃ σ1, dT t (.p x) σ = some σ1 ∧ te σ1 M = .ok (.p (f x)) M) :
    lcL gd t gYes te finP σ (xs.map D.p) M [] = .ok (.p (.list (xs.map f))) M := by
  rw [lc_mapG (fun d => match d with | .p x => .p (f x) | d => d) g _ _ (by simpa using hl)]
  · have e : (xs.map D.p).map (fun d => match d with | .p x => D.p (f x) | d => d) = (xs.map f).map D.p := by rw [List.map_map, List.map_map]; rfl
    rw [List.nil_append, e]
    unfold finP
    rw [mkL_eq, pures_mp]
    rfl
  · intro d hd
    obtain ⟨x, hx, rfl⟩ := List.mem_map.mp hd
    exact h x hx
end Fn

set_option Elab.async false
set_option linter.all false
set_option maxRecDepth 100000
set_option maxHeartbeats 4000000
namespace Lw
open PySem PySem.Spec PyProof.Rows L2 U
def top (i : Nat) : Stmt := PySem.Challenge.pw_strangerlots_k62_rounds_in_a_house.main.body.getD i (.Pass ⟨0, 0, 0, 0⟩)
abbrev s_wall : Stmt := top 0
abbrev s_NoTree_init : Stmt := inClass (top 3) 0
abbrev s_NoRow_init : Stmt := inClass (top 5) 0
abbrev s_NoPlace_init : Stmt := inClass (top 7) 0
abbrev s_Full_init : Stmt := inClass (top 9) 0
abbrev s_is_whole : Stmt := top 12
abbrev s_may_stand : Stmt := top 13
abbrev s_first_wrong : Stmt := top 14
abbrev s_tree_of : Stmt := top 15
abbrev s_is_place : Stmt := top 16
abbrev s_need_place : Stmt := top 17
abbrev s_ways_up : Stmt := top 18
abbrev s_places_above : Stmt := top 19
abbrev s_is_letter : Stmt := top 22
abbrev s_is_word : Stmt := top 23
abbrev s_with_letter : Stmt := top 24
abbrev s_letters_seen : Stmt := top 26
abbrev s_deed_done : Stmt := top 27
abbrev s_check_row : Stmt := top 29
abbrev s_stepped : Stmt := top 30
abbrev s_led_on : Stmt := top 31
abbrev s_ring_of : Stmt := top 33
abbrev s_rounds_done : Stmt := top 34
abbrev s_entry_done : Stmt := top 39
abbrev s_told_entry : Stmt := top 40
abbrev s_House_init : Stmt := inClass (top 41) 0
abbrev s_House_need_room : Stmt := inClass (top 41) 1
abbrev s_House_keep : Stmt := inClass (top 41) 2
abbrev s_House_redo : Stmt := inClass (top 41) 3
abbrev s_House_deed : Stmt := inClass (top 41) 4
abbrev s_House_go : Stmt := inClass (top 41) 5
abbrev s_House_rounds : Stmt := inClass (top 41) 6
abbrev s_House_back : Stmt := inClass (top 41) 7
abbrev s_House_slip : Stmt := inClass (top 41) 8
abbrev s_House_leave_out : Stmt := inClass (top 41) 9
abbrev s_House_tree : Stmt := inClass (top 41) 10
abbrev s_House_first : Stmt := inClass (top 41) 11
abbrev s_House_word : Stmt := inClass (top 41) 12
abbrev s_House_entries : Stmt := inClass (top 41) 13
abbrev s_House_box : Stmt := inClass (top 41) 14
abbrev s_House_leavings : Stmt := inClass (top 41) 15
abbrev s_House_twin : Stmt := inClass (top 41) 16
abbrev s_House_eq : Stmt := inClass (top 41) 17
abbrev s_House_len : Stmt := inClass (top 41) 18
abbrev s_House_str : Stmt := inClass (top 41) 19
abbrev s_House_repr : Stmt := inClass (top 41) 20
abbrev s_law_pen : Stmt := top 43
abbrev s_law_draw : Stmt := top 44
abbrev s_law_trunk : Stmt := top 45
abbrev s_law_spell : Stmt := top 46
abbrev s_law_road : Stmt := top 47
abbrev s_law_ups : Stmt := top 48
abbrev s_law_deed : Stmt := top 49
abbrev s_law_far : Stmt := top 50
abbrev s_law_behind : Stmt := top 51
abbrev s_law_stands : Stmt := top 52
abbrev s_law_often : Stmt := top 53
abbrev s_law_parts : Stmt := top 54
abbrev s_law : Stmt := top 55
def dd_wall : He.DefD := ⟨("_wall", none), "_wall", "_wall", defArgs s_wall, defBody s_wall, defScope s_wall, [], []⟩
def dd_NoTree_init : He.DefD := ⟨("NoTree", some "__init__"), "__init__", "NoTree.__init__", defArgs s_NoTree_init, defBody s_NoTree_init, defScope s_NoTree_init, [], []⟩
def dd_NoRow_init : He.DefD := ⟨("NoRow", some "__init__"), "__init__", "NoRow.__init__", defArgs s_NoRow_init, defBody s_NoRow_init, defScope s_NoRow_init, [], []⟩
def dd_NoPlace_init : He.DefD := ⟨("NoPlace", some "__init__"), "__init__", "NoPlace.__init__", defArgs s_NoPlace_init, defBody s_NoPlace_init, defScope s_NoPlace_init, [], []⟩
def dd_Full_init : He.DefD := ⟨("Full", some "__init__"), "__init__", "Full.__init__", defArgs s_Full_init, defBody s_Full_init, defScope s_Full_init, [], []⟩
def dd_is_whole : He.DefD := ⟨("is_whole", none), "is_whole", "is_whole", defArgs s_is_whole, defBody s_is_whole, defScope s_is_whole, [], []⟩
def dd_may_stand : He.DefD := ⟨("may_stand", none), "may_stand", "may_stand", defArgs s_may_stand, defBody s_may_stand, defScope s_may_stand, [], []⟩
def dd_first_wrong : He.DefD := ⟨("first_wrong", none), "first_wrong", "first_wrong", defArgs s_first_wrong, defBody s_first_wrong, defScope s_first_wrong, [], []⟩
def dd_tree_of : He.DefD := ⟨("tree_of", none), "tree_of", "tree_of", defArgs s_tree_of, defBody s_tree_of, defScope s_tree_of, [], []⟩
def dd_is_place : He.DefD := ⟨("is_place", none), "is_place", "is_place", defArgs s_is_place, defBody s_is_place, defScope s_is_place, [], []⟩
def dd_need_place : He.DefD := ⟨("need_place", none), "need_place", "need_place", defArgs s_need_place, defBody s_need_place, defScope s_need_place, [], []⟩
def dd_ways_up : He.DefD := ⟨("ways_up", none), "ways_up", "ways_up", defArgs s_ways_up, defBody s_ways_up, defScope s_ways_up, [], []⟩
def dd_places_above : He.DefD := ⟨("places_above", none), "places_above", "places_above", defArgs s_places_above, defBody s_places_above, defScope s_places_above, [], []⟩
def dd_is_letter : He.DefD := ⟨("is_letter", none), "is_letter", "is_letter", defArgs s_is_letter, defBody s_is_letter, defScope s_is_letter, [], []⟩
def dd_is_word : He.DefD := ⟨("is_word", none), "is_word", "is_word", defArgs s_is_word, defBody s_is_word, defScope s_is_word, [], []⟩
def dd_with_letter : He.DefD := ⟨("with_letter", none), "with_letter", "with_letter", defArgs s_with_letter, defBody s_with_letter, defScope s_with_letter, [], []⟩
def dd_letters_seen : He.DefD := ⟨("letters_seen", none), "letters_seen", "letters_seen", defArgs s_letters_seen, defBody s_letters_seen, defScope s_letters_seen, [], []⟩
def dd_deed_done : He.DefD := ⟨("deed_done", none), "deed_done", "deed_done", defArgs s_deed_done, defBody s_deed_done, defScope s_deed_done, [], []⟩
def dd_check_row : He.DefD := ⟨("check_row", none), "check_row", "check_row", defArgs s_check_row, defBody s_check_row, defScope s_check_row, [], []⟩
def dd_stepped : He.DefD := ⟨("stepped", none), "stepped", "stepped", defArgs s_stepped, defBody s_stepped, defScope s_stepped, [], []⟩
def dd_led_on : He.DefD := ⟨("led_on", none), "led_on", "led_on", defArgs s_led_on, defBody s_led_on, defScope s_led_on, [], []⟩
def dd_ring_of : He.DefD := ⟨("ring_of", none), "ring_of", "ring_of", defArgs s_ring_of, defBody s_ring_of, defScope s_ring_of, [], []⟩
def dd_rounds_done : He.DefD := ⟨("rounds_done", none), "rounds_done", "rounds_done", defArgs s_rounds_done, defBody s_rounds_done, defScope s_rounds_done, [], []⟩
def dd_entry_done : He.DefD := ⟨("entry_done", none), "entry_done", "entry_done", defArgs s_entry_done, defBody s_entry_done, defScope s_entry_done, [], []⟩
def dd_told_entry : He.DefD := ⟨("told_entry", none), "told_entry", "told_entry", defArgs s_told_entry, defBody s_told_entry, defScope s_told_entry, [], []⟩
def dd_House_init : He.DefD := ⟨("House", some "__init__"), "__init__", "House.__init__", defArgs s_House_init, defBody s_House_init, defScope s_House_init, [], []⟩
def dd_House_need_room : He.DefD := ⟨("House", some "need_room"), "need_room", "House.need_room", defArgs s_House_need_room, defBody s_House_need_room, defScope s_House_need_room, [], []⟩
def dd_House_keep : He.DefD := ⟨("House", some "keep"), "keep", "House.keep", defArgs s_House_keep, defBody s_House_keep, defScope s_House_keep, [], []⟩
def dd_House_redo : He.DefD := ⟨("House", some "redo"), "redo", "House.redo", defArgs s_House_redo, defBody s_House_redo, defScope s_House_redo, [], []⟩
def dd_House_deed : He.DefD := ⟨("House", some "deed"), "deed", "House.deed", defArgs s_House_deed, defBody s_House_deed, defScope s_House_deed, [], []⟩
def dd_House_go : He.DefD := ⟨("House", some "go"), "go", "House.go", defArgs s_House_go, defBody s_House_go, defScope s_House_go, [], [("watch", .non)]⟩
def dd_House_rounds : He.DefD := ⟨("House", some "rounds"), "rounds", "House.rounds", defArgs s_House_rounds, defBody s_House_rounds, defScope s_House_rounds, [], []⟩
def dd_House_back : He.DefD := ⟨("House", some "back"), "back", "House.back", defArgs s_House_back, defBody s_House_back, defScope s_House_back, [], [("many", .int 1)]⟩
def dd_House_slip : He.DefD := ⟨("House", some "slip"), "slip", "House.slip", defArgs s_House_slip, defBody s_House_slip, defScope s_House_slip, [], []⟩
def dd_House_leave_out : He.DefD := ⟨("House", some "leave_out"), "leave_out", "House.leave_out", defArgs s_House_leave_out, defBody s_House_leave_out, defScope s_House_leave_out, [], []⟩
def dd_House_tree : He.DefD := ⟨("House", some "tree"), "tree", "House.tree", defArgs s_House_tree, defBody s_House_tree, defScope s_House_tree, [], []⟩
def dd_House_first : He.DefD := ⟨("House", some "first"), "first", "House.first", defArgs s_House_first, defBody s_House_first, defScope s_House_first, [], []⟩
def dd_House_word : He.DefD := ⟨("House", some "word"), "word", "House.word", defArgs s_House_word, defBody s_House_word, defScope s_House_word, [], []⟩
def dd_House_entries : He.DefD := ⟨("House", some "entries"), "entries", "House.entries", defArgs s_House_entries, defBody s_House_entries, defScope s_House_entries, [], []⟩
def dd_House_box : He.DefD := ⟨("House", some "box"), "box", "House.box", defArgs s_House_box, defBody s_House_box, defScope s_House_box, [], []⟩
def dd_House_leavings : He.DefD := ⟨("House", some "leavings"), "leavings", "House.leavings", defArgs s_House_leavings, defBody s_House_leavings, defScope s_House_leavings, [], []⟩
def dd_House_twin : He.DefD := ⟨("House", some "twin"), "twin", "House.twin", defArgs s_House_twin, defBody s_House_twin, defScope s_House_twin, [], []⟩
def dd_House_eq : He.DefD := ⟨("House", some "__eq__"), "__eq__", "House.__eq__", defArgs s_House_eq, defBody s_House_eq, defScope s_House_eq, [], []⟩
def dd_House_len : He.DefD := ⟨("House", some "__len__"), "__len__", "House.__len__", defArgs s_House_len, defBody s_House_len, defScope s_House_len, [], []⟩
def dd_House_str : He.DefD := ⟨("House", some "__str__"), "__str__", "House.__str__", defArgs s_House_str, defBody s_House_str, defScope s_House_str, [], []⟩
def dd_House_repr : He.DefD := ⟨("House", some "__repr__"), "__repr__", "House.__repr__", defArgs s_House_repr, defBody s_House_repr, defScope s_House_repr, [], []⟩
def dd_law_pen : He.DefD := ⟨("_law_pen", none), "_law_pen", "_law_pen", defArgs s_law_pen, defBody s_law_pen, defScope s_law_pen, [], []⟩
def dd_law_draw : He.DefD := ⟨("_law_draw", none), "_law_draw", "_law_draw", defArgs s_law_draw, defBody s_law_draw, defScope s_law_draw, [], []⟩
def dd_law_trunk : He.DefD := ⟨("_law_trunk", none), "_law_trunk", "_law_trunk", defArgs s_law_trunk, defBody s_law_trunk, defScope s_law_trunk, [], []⟩
def dd_law_spell : He.DefD := ⟨("_law_spell", none), "_law_spell", "_law_spell", defArgs s_law_spell, defBody s_law_spell, defScope s_law_spell, [], []⟩
def dd_law_road : He.DefD := ⟨("_law_road", none), "_law_road", "_law_road", defArgs s_law_road, defBody s_law_road, defScope s_law_road, [], []⟩
def dd_law_ups : He.DefD := ⟨("_law_ups", none), "_law_ups", "_law_ups", defArgs s_law_ups, defBody s_law_ups, defScope s_law_ups, [], []⟩
def dd_law_deed : He.DefD := ⟨("_law_deed", none), "_law_deed", "_law_deed", defArgs s_law_deed, defBody s_law_deed, defScope s_law_deed, [], []⟩
def dd_law_far : He.DefD := ⟨("_law_far", none), "_law_far", "_law_far", defArgs s_law_far, defBody s_law_far, defScope s_law_far, [], []⟩
def dd_law_behind : He.DefD := ⟨("_law_behind", none), "_law_behind", "_law_behind", defArgs s_law_behind, defBody s_law_behind, defScope s_law_behind, [], []⟩
def dd_law_stands : He.DefD := ⟨("_law_stands", none), "_law_stands", "_law_stands", defArgs s_law_stands, defBody s_law_stands, defScope s_law_stands, [], []⟩
def dd_law_often : He.DefD := ⟨("_law_often", none), "_law_often", "_law_often", defArgs s_law_often, defBody s_law_often, defScope s_law_often, [], []⟩
def dd_law_parts : He.DefD := ⟨("_law_parts", none), "_law_parts", "_law_parts", defArgs s_law_parts, defBody s_law_parts, defScope s_law_parts, [], []⟩
def dd_law : He.DefD := ⟨("law", none), "law", "law", defArgs s_law, defBody s_law, defScope s_law, [], []⟩
def fn : List He.DefD := [dd_wall, dd_NoTree_init, dd_NoRow_init, dd_NoPlace_init, dd_Full_init, dd_is_whole, dd_may_stand, dd_first_wrong, dd_tree_of, dd_is_place, dd_need_place, dd_ways_up, dd_places_above, dd_is_letter, dd_is_word, dd_with_letter, dd_letters_seen, dd_deed_done, dd_check_row, dd_stepped, dd_led_on, dd_ring_of, dd_rounds_done, dd_entry_done, dd_told_entry, dd_House_init, dd_House_need_room, dd_House_keep, dd_House_redo, dd_House_deed, dd_House_go, dd_House_rounds, dd_House_back, dd_House_slip, dd_House_leave_out, dd_House_tree, dd_House_first, dd_House_word, dd_House_entries, dd_House_box, dd_House_leavings, dd_House_twin, dd_House_eq, dd_House_len, dd_House_str, dd_House_repr, dd_law_pen, dd_law_draw, dd_law_trunk, dd_law_spell, dd_law_road, dd_law_ups, dd_law_deed, dd_law_far, dd_law_behind, dd_law_stands, dd_law_often, dd_law_parts, dd_law]
def fa : List He.Fa := [.glo "_wall", .glo "is_whole", .glo "may_stand", .glo "first_wrong", .glo "tree_of", .glo "is_place", .glo "need_place", .glo "ways_up", .glo "places_above", .glo "is_letter", .glo "is_word", .glo "with_letter", .glo "letters_seen", .glo "deed_done", .glo "check_row", .glo "stepped", .glo "led_on", .glo "ring_of", .glo "rounds_done", .glo "entry_done", .glo "told_entry", .glo "_law_pen", .glo "_law_draw", .glo "_law_trunk", .glo "_law_spell", .glo "_law_road", .glo "_law_ups", .glo "_law_deed", .glo "_law_far", .glo "_law_behind", .glo "_law_stands", .glo "_law_often", .glo "_law_parts", .glo "law", .glo "LotError", .glo "NoTree", .glo "NoWord", .glo "NoRow", .glo "NoMany", .glo "NoPlace", .glo "NoBack", .glo "Full", .glo "House", .free "KeyError", .free "LookupError", .free "OverflowError", .free "ValueError", .free "abs", .free "all", .free "bool", .free "enumerate", .free "int", .free "isinstance", .free "len", .free "list", .free "max", .free "range", .free "repr", .free "str", .free "tuple", .cls "House", .mkr "House", .meth "House" "need_room", .meth "House" "keep", .meth "House" "redo", .meth "House" "deed", .meth "House" "go", .meth "House" "rounds", .meth "House" "back", .meth "House" "slip", .meth "House" "leave_out", .meth "House" "tree", .meth "House" "first", .meth "House" "word", .meth "House" "entries", .meth "House" "box", .meth "House" "leavings", .meth "House" "twin", .meth "House" "__eq__", .meth "House" "__len__", .meth "House" "__str__", .meth "House" "__repr__", .noat "House" "roots", .noat "House" "kept", .noat "House" "passed", .noat "House" "busy", .int "MOST_PLACES" 8, .str "SMALL" "abcdefghijklmnopqrstuvwxyz", .int "MOST_ENTRIES" 40, .int "MOST_IN_ROUND" 12, .int "MOST_ROUNDS" 1000000000000000000000000000000]
structure Vw (K : PySem.W.Frag) (mg : Str → Option Value) : Prop where
  c : He.SaysD fa fn K
  h : ∃ h : Heap, K.In h ∧ h.Ns mainGlobals mg
section
variable {K : PySem.W.Frag} {mg : Str → Option Value}
theorem Vw.glo (V : Vw K mg) {x : Str} (i : Nat) (e : fa[i]? = some (.glo x) := by rfl) : mg x = some (.ref (He.ga K x)) := let ⟨_, X, G⟩ := V.h; He.glo_ok X G (V.c.fact i e)
theorem Vw.free (V : Vw K mg) {x : Str} (i : Nat) (e : fa[i]? = some (.free x) := by rfl) : mg x = none := let ⟨_, X, G⟩ := V.h; He.free_ok X G (V.c.fact i e)
theorem Vw.int (V : Vw K mg) {x : Str} {z : Int} (i : Nat) (e : fa[i]? = some (.int x z) := by rfl) : ∃ t, mg x = some (.int z t) := let ⟨_, X, G⟩ := V.h; He.int_ok X G (V.c.fact i e)
theorem Vw.str (V : Vw K mg) {x z : Str} (i : Nat) (e : fa[i]? = some (.str x z) := by rfl) : ∃ t, mg x = some (.str z t) := let ⟨_, X, G⟩ := V.h; He.str_ok X G (V.c.fact i e)
theorem Vw.g_wall (V : Vw K mg) : mg "_wall" = some (.ref (He.ga K "_wall")) := V.glo 0
theorem Vw.g_is_whole (V : Vw K mg) : mg "is_whole" = some (.ref (He.ga K "is_whole")) := V.glo 1
theorem Vw.g_may_stand (V : Vw K mg) : mg "may_stand" = some (.ref (He.ga K "may_stand")) := V.glo 2
theorem Vw.g_first_wrong (V : Vw K mg) : mg "first_wrong" = some (.ref (He.ga K "first_wrong")) := V.glo 3
theorem Vw.g_tree_of (V : Vw K mg) : mg "tree_of" = some (.ref (He.ga K "tree_of")) := V.glo 4
theorem Vw.g_is_place (V : Vw K mg) : mg "is_place" = some (.ref (He.ga K "is_place")) := V.glo 5
theorem Vw.g_need_place (V : Vw K mg) : mg "need_place" = some (.ref (He.ga K "need_place")) := V.glo 6
theorem Vw.g_ways_up (V : Vw K mg) : mg "ways_up" = some (.ref (He.ga K "ways_up")) := V.glo 7
theorem Vw.g_places_above (V : Vw K mg) : mg "places_above" = some (.ref (He.ga K "places_above")) := V.glo 8
theorem Vw.g_is_letter (V : Vw K mg) : mg "is_letter" = some (.ref (He.ga K "is_letter")) := V.glo 9
theorem Vw.g_is_word (V : Vw K mg) : mg "is_word" = some (.ref (He.ga K "is_word")) := V.glo 10
theorem Vw.g_with_letter (V : Vw K mg) : mg "with_letter" = some (.ref (He.ga K "with_letter")) := V.glo 11
theorem Vw.g_letters_seen (V : Vw K mg) : mg "letters_seen" = some (.ref (He.ga K "letters_seen")) := V.glo 12
theorem Vw.g_deed_done (V : Vw K mg) : mg "deed_done" = some (.ref (He.ga K "deed_done")) := V.glo 13
theorem Vw.g_check_row (V : Vw K mg) : mg "check_row" = some (.ref (He.ga K "check_row")) := V.glo 14
theorem Vw.g_stepped (V : Vw K mg) : mg "stepped" = some (.ref (He.ga K "stepped")) := V.glo 15
theorem Vw.g_led_on (V : Vw K mg) : mg "led_on" = some (.ref (He.ga K "led_on")) := V.glo 16
theorem Vw.g_ring_of (V : Vw K mg) : mg "ring_of" = some (.ref (He.ga K "ring_of")) := V.glo 17
theorem Vw.g_rounds_done (V : Vw K mg) : mg "rounds_done" = some (.ref (He.ga K "rounds_done")) := V.glo 18
theorem Vw.g_entry_done (V : Vw K mg) : mg "entry_done" = some (.ref (He.ga K "entry_done")) := V.glo 19
theorem Vw.g_told_entry (V : Vw K mg) : mg "told_entry" = some (.ref (He.ga K "told_entry")) := V.glo 20
theorem Vw.g_law_pen (V : Vw K mg) : mg "_law_pen" = some (.ref (He.ga K "_law_pen")) := V.glo 21
theorem Vw.g_law_draw (V : Vw K mg) : mg "_law_draw" = some (.ref (He.ga K "_law_draw")) := V.glo 22
theorem Vw.g_law_trunk (V : Vw K mg) : mg "_law_trunk" = some (.ref (He.ga K "_law_trunk")) := V.glo 23
theorem Vw.g_law_spell (V : Vw K mg) : mg "_law_spell" = some (.ref (He.ga K "_law_spell")) := V.glo 24
theorem Vw.g_law_road (V : Vw K mg) : mg "_law_road" = some (.ref (He.ga K "_law_road")) := V.glo 25
theorem Vw.g_law_ups (V : Vw K mg) : mg "_law_ups" = some (.ref (He.ga K "_law_ups")) := V.glo 26
theorem Vw.g_law_deed (V : Vw K mg) : mg "_law_deed" = some (.ref (He.ga K "_law_deed")) := V.glo 27
theorem Vw.g_law_far (V : Vw K mg) : mg "_law_far" = some (.ref (He.ga K "_law_far")) := V.glo 28
theorem Vw.g_law_behind (V : Vw K mg) : mg "_law_behind" = some (.ref (He.ga K "_law_behind")) := V.glo 29
theorem Vw.g_law_stands (V : Vw K mg) : mg "_law_stands" = some (.ref (He.ga K "_law_stands")) := V.glo 30
theorem Vw.g_law_often (V : Vw K mg) : mg "_law_often" = some (.ref (He.ga K "_law_often")) := V.glo 31
theorem Vw.g_law_parts (V : Vw K mg) : mg "_law_parts" = some (.ref (He.ga K "_law_parts")) := V.glo 32
theorem Vw.g_law (V : Vw K mg) : mg "law" = some (.ref (He.ga K "law")) := V.glo 33
theorem Vw.g_LotError (V : Vw K mg) : mg "LotError" = some (.ref (He.ga K "LotError")) := V.glo 34
theorem Vw.g_NoTree (V : Vw K mg) : mg "NoTree" = some (.ref (He.ga K "NoTree")) := V.glo 35
theorem Vw.g_NoWord (V : Vw K mg) : mg "NoWord" = some (.ref (He.ga K "NoWord")) := V.glo 36
theorem Vw.g_NoRow (V : Vw K mg) : mg "NoRow" = some (.ref (He.ga K "NoRow")) := V.glo 37
theorem Vw.g_NoMany (V : Vw K mg) : mg "NoMany" = some (.ref (He.ga K "NoMany")) := V.glo 38
theorem Vw.g_NoPlace (V : Vw K mg) : mg "NoPlace" = some (.ref (He.ga K "NoPlace")) := V.glo 39
theorem Vw.g_NoBack (V : Vw K mg) : mg "NoBack" = some (.ref (He.ga K "NoBack")) := V.glo 40
theorem Vw.g_Full (V : Vw K mg) : mg "Full" = some (.ref (He.ga K "Full")) := V.glo 41
theorem Vw.g_House (V : Vw K mg) : mg "House" = some (.ref (He.ga K "House")) := V.glo 42
theorem Vw.n_KeyError (V : Vw K mg) : mg "KeyError" = none := V.free 43
theorem Vw.n_LookupError (V : Vw K mg) : mg "LookupError" = none := V.free 44
theorem Vw.n_OverflowError (V : Vw K mg) : mg "OverflowError" = none := V.free 45
theorem Vw.n_ValueError (V : Vw K mg) : mg "ValueError" = none := V.free 46
theorem Vw.n_abs (V : Vw K mg) : mg "abs" = none := V.free 47
theorem Vw.n_all (V : Vw K mg) : mg "all" = none := V.free 48
theorem Vw.n_bool (V : Vw K mg) : mg "bool" = none := V.free 49
theorem Vw.n_enumerate (V : Vw K mg) : mg "enumerate" = none := V.free 50
theorem Vw.n_int (V : Vw K mg) : mg "int" = none := V.free 51
theorem Vw.n_isinstance (V : Vw K mg) : mg "isinstance" = none := V.free 52
theorem Vw.n_len (V : Vw K mg) : mg "len" = none := V.free 53
theorem Vw.n_list (V : Vw K mg) : mg "list" = none := V.free 54
theorem Vw.n_max (V : Vw K mg) : mg "max" = none := V.free 55
theorem Vw.n_range (V : Vw K mg) : mg "range" = none := V.free 56
theorem Vw.n_repr (V : Vw K mg) : mg "repr" = none := V.free 57
theorem Vw.n_str (V : Vw K mg) : mg "str" = none := V.free 58
theorem Vw.n_tuple (V : Vw K mg) : mg "tuple" = none := V.free 59
theorem Vw.cl_House (V : Vw K mg) : Cls K (He.ga K "House") := He.cls_ok (V.c.fact 60)
theorem Vw.mk_House (V : Vw K mg) : Mk K (He.ga K "House") (He.ma K (He.ga K "House") "__init__") := He.mkr_ok (V.c.fact 61)
theorem Vw.m_House_need_room (V : Vw K mg) : Meth K (He.ga K "House") "need_room" (He.ma K (He.ga K "House") "need_room") := He.meth_ok (V.c.fact 62)
theorem Vw.m_House_keep (V : Vw K mg) : Meth K (He.ga K "House") "keep" (He.ma K (He.ga K "House") "keep") := He.meth_ok (V.c.fact 63)
theorem Vw.m_House_redo (V : Vw K mg) : Meth K (He.ga K "House") "redo" (He.ma K (He.ga K "House") "redo") := He.meth_ok (V.c.fact 64)
theorem Vw.m_House_deed (V : Vw K mg) : Meth K (He.ga K "House") "deed" (He.ma K (He.ga K "House") "deed") := He.meth_ok (V.c.fact 65)
theorem Vw.m_House_go (V : Vw K mg) : Meth K (He.ga K "House") "go" (He.ma K (He.ga K "House") "go") := He.meth_ok (V.c.fact 66)
theorem Vw.m_House_rounds (V : Vw K mg) : Meth K (He.ga K "House") "rounds" (He.ma K (He.ga K "House") "rounds") := He.meth_ok (V.c.fact 67)
theorem Vw.m_House_back (V : Vw K mg) : Meth K (He.ga K "House") "back" (He.ma K (He.ga K "House") "back") := He.meth_ok (V.c.fact 68)
theorem Vw.m_House_slip (V : Vw K mg) : Meth K (He.ga K "House") "slip" (He.ma K (He.ga K "House") "slip") := He.meth_ok (V.c.fact 69)
theorem Vw.m_House_leave_out (V : Vw K mg) : Meth K (He.ga K "House") "leave_out" (He.ma K (He.ga K "House") "leave_out") := He.meth_ok (V.c.fact 70)
theorem Vw.m_House_tree (V : Vw K mg) : Meth K (He.ga K "House") "tree" (He.ma K (He.ga K "House") "tree") := He.meth_ok (V.c.fact 71)
theorem Vw.m_House_first (V : Vw K mg) : Meth K (He.ga K "House") "first" (He.ma K (He.ga K "House") "first") := He.meth_ok (V.c.fact 72)
theorem Vw.m_House_word (V : Vw K mg) : Meth K (He.ga K "House") "word" (He.ma K (He.ga K "House") "word") := He.meth_ok (V.c.fact 73)
theorem Vw.m_House_entries (V : Vw K mg) : Meth K (He.ga K "House") "entries" (He.ma K (He.ga K "House") "entries") := He.meth_ok (V.c.fact 74)
theorem Vw.m_House_box (V : Vw K mg) : Meth K (He.ga K "House") "box" (He.ma K (He.ga K "House") "box") := He.meth_ok (V.c.fact 75)
theorem Vw.m_House_leavings (V : Vw K mg) : Meth K (He.ga K "House") "leavings" (He.ma K (He.ga K "House") "leavings") := He.meth_ok (V.c.fact 76)
theorem Vw.m_House_twin (V : Vw K mg) : Meth K (He.ga K "House") "twin" (He.ma K (He.ga K "House") "twin") := He.meth_ok (V.c.fact 77)
theorem Vw.m_House___eq__ (V : Vw K mg) : Meth K (He.ga K "House") "__eq__" (He.ma K (He.ga K "House") "__eq__") := He.meth_ok (V.c.fact 78)
theorem Vw.m_House___len__ (V : Vw K mg) : Meth K (He.ga K "House") "__len__" (He.ma K (He.ga K "House") "__len__") := He.meth_ok (V.c.fact 79)
theorem Vw.m_House___str__ (V : Vw K mg) : Meth K (He.ga K "House") "__str__" (He.ma K (He.ga K "House") "__str__") := He.meth_ok (V.c.fact 80)
theorem Vw.m_House___repr__ (V : Vw K mg) : Meth K (He.ga K "House") "__repr__" (He.ma K (He.ga K "House") "__repr__") := He.meth_ok (V.c.fact 81)
theorem Vw.na_House_roots (V : Vw K mg) : NoAttr K (He.ga K "House") "roots" := He.noat_ok (V.c.fact 82)
theorem Vw.na_House_kept (V : Vw K mg) : NoAttr K (He.ga K "House") "kept" := He.noat_ok (V.c.fact 83)
theorem Vw.na_House_passed (V : Vw K mg) : NoAttr K (He.ga K "House") "passed" := He.noat_ok (V.c.fact 84)
theorem Vw.na_House_busy (V : Vw K mg) : NoAttr K (He.ga K "House") "busy" := He.noat_ok (V.c.fact 85)
theorem Vw.i_MOST_PLACES (V : Vw K mg) : ∃ t, mg "MOST_PLACES" = some (.int 8 t) := V.int 86
theorem Vw.t_SMALL (V : Vw K mg) : ∃ t, mg "SMALL" = some (.str "abcdefghijklmnopqrstuvwxyz" t) := V.str 87
theorem Vw.i_MOST_ENTRIES (V : Vw K mg) : ∃ t, mg "MOST_ENTRIES" = some (.int 40 t) := V.int 88
theorem Vw.i_MOST_IN_ROUND (V : Vw K mg) : ∃ t, mg "MOST_IN_ROUND" = some (.int 12 t) := V.int 89
theorem Vw.i_MOST_ROUNDS (V : Vw K mg) : ∃ t, mg "MOST_ROUNDS" = some (.int 1000000000000000000000000000000 t) := V.int 90
theorem Vw.d_wall (V : Vw K mg) : ∃ fd, FunD K "_wall" "_wall" (defArgs s_wall) (defBody s_wall) (defScope s_wall) [] [] (He.ga K "_wall") fd := V.c.def_ 0 (d := dd_wall)
theorem Vw.b_wall (V : Vw K mg) : Bd K (He.ga K "_wall") ["k"] [] := bd_of V.d_wall fun _ _ _ _ _ _ us hl => match us, hl with | [_], _ => rfl
theorem Vw.d_NoTree_init (V : Vw K mg) : ∃ fd, FunD K "__init__" "NoTree.__init__" (defArgs s_NoTree_init) (defBody s_NoTree_init) (defScope s_NoTree_init) [] [] (He.ma K (He.ga K "NoTree") "__init__") fd := V.c.def_ 1 (d := dd_NoTree_init)
theorem Vw.b_NoTree_init (V : Vw K mg) : Bd K (He.ma K (He.ga K "NoTree") "__init__") ["self", "at"] [] := bd_of V.d_NoTree_init fun _ _ _ _ _ _ us hl => match us, hl with | [_, _], _ => rfl
theorem Vw.d_NoRow_init (V : Vw K mg) : ∃ fd, FunD K "__init__" "NoRow.__init__" (defArgs s_NoRow_init) (defBody s_NoRow_init) (defScope s_NoRow_init) [] [] (He.ma K (He.ga K "NoRow") "__init__") fd := V.c.def_ 2 (d := dd_NoRow_init)
theorem Vw.b_NoRow_init (V : Vw K mg) : Bd K (He.ma K (He.ga K "NoRow") "__init__") ["self", "at"] [] := bd_of V.d_NoRow_init fun _ _ _ _ _ _ us hl => match us, hl with | [_, _], _ => rfl
theorem Vw.d_NoPlace_init (V : Vw K mg) : ∃ fd, FunD K "__init__" "NoPlace.__init__" (defArgs s_NoPlace_init) (defBody s_NoPlace_init) (defScope s_NoPlace_init) [] [] (He.ma K (He.ga K "NoPlace") "__init__") fd := V.c.def_ 3 (d := dd_NoPlace_init)
theorem Vw.b_NoPlace_init (V : Vw K mg) : Bd K (He.ma K (He.ga K "NoPlace") "__init__") ["self", "place"] [] := bd_of V.d_NoPlace_init fun _ _ _ _ _ _ us hl => match us, hl with | [_, _], _ => rfl
theorem Vw.d_Full_init (V : Vw K mg) : ∃ fd, FunD K "__init__" "Full.__init__" (defArgs s_Full_init) (defBody s_Full_init) (defScope s_Full_init) [] [] (He.ma K (He.ga K "Full") "__init__") fd := V.c.def_ 4 (d := dd_Full_init)
theorem Vw.b_Full_init (V : Vw K mg) : Bd K (He.ma K (He.ga K "Full") "__init__") ["self", "most"] [] := bd_of V.d_Full_init fun _ _ _ _ _ _ us hl => match us, hl with | [_, _], _ => rfl
theorem Vw.d_is_whole (V : Vw K mg) : ∃ fd, FunD K "is_whole" "is_whole" (defArgs s_is_whole) (defBody s_is_whole) (defScope s_is_whole) [] [] (He.ga K "is_whole") fd := V.c.def_ 5 (d := dd_is_whole)
theorem Vw.b_is_whole (V : Vw K mg) : Bd K (He.ga K "is_whole") ["thing"] [] := bd_of V.d_is_whole fun _ _ _ _ _ _ us hl => match us, hl with | [_], _ => rfl
theorem Vw.d_may_stand (V : Vw K mg) : ∃ fd, FunD K "may_stand" "may_stand" (defArgs s_may_stand) (defBody s_may_stand) (defScope s_may_stand) [] [] (He.ga K "may_stand") fd := V.c.def_ 6 (d := dd_may_stand)
theorem Vw.b_may_stand (V : Vw K mg) : Bd K (He.ga K "may_stand") ["place", "thing"] [] := bd_of V.d_may_stand fun _ _ _ _ _ _ us hl => match us, hl with | [_, _], _ => rfl
theorem Vw.d_first_wrong (V : Vw K mg) : ∃ fd, FunD K "first_wrong" "first_wrong" (defArgs s_first_wrong) (defBody s_first_wrong) (defScope s_first_wrong) [] [] (He.ga K "first_wrong") fd := V.c.def_ 7 (d := dd_first_wrong)
theorem Vw.b_first_wrong (V : Vw K mg) : Bd K (He.ga K "first_wrong") ["things"] [] := bd_of V.d_first_wrong fun _ _ _ _ _ _ us hl => match us, hl with | [_], _ => rfl
theorem Vw.d_tree_of (V : Vw K mg) : ∃ fd, FunD K "tree_of" "tree_of" (defArgs s_tree_of) (defBody s_tree_of) (defScope s_tree_of) [] [] (He.ga K "tree_of") fd := V.c.def_ 8 (d := dd_tree_of)
theorem Vw.b_tree_of (V : Vw K mg) : Bd K (He.ga K "tree_of") ["parents"] [] := bd_of V.d_tree_of fun _ _ _ _ _ _ us hl => match us, hl with | [_], _ => rfl
theorem Vw.d_is_place (V : Vw K mg) : ∃ fd, FunD K "is_place" "is_place" (defArgs s_is_place) (defBody s_is_place) (defScope s_is_place) [] [] (He.ga K "is_place") fd := V.c.def_ 9 (d := dd_is_place)
theorem Vw.b_is_place (V : Vw K mg) : Bd K (He.ga K "is_place") ["tree", "thing"] [] := bd_of V.d_is_place fun _ _ _ _ _ _ us hl => match us, hl with | [_, _], _ => rfl
theorem Vw.d_need_place (V : Vw K mg) : ∃ fd, FunD K "need_place" "need_place" (defArgs s_need_place) (defBody s_need_place) (defScope s_need_place) [] [] (He.ga K "need_place") fd := V.c.def_ 10 (d := dd_need_place)
theorem Vw.b_need_place (V : Vw K mg) : Bd K (He.ga K "need_place") ["tree", "place"] [] := bd_of V.d_need_place fun _ _ _ _ _ _ us hl => match us, hl with | [_, _], _ => rfl
theorem Vw.d_ways_up (V : Vw K mg) : ∃ fd, FunD K "ways_up" "ways_up" (defArgs s_ways_up) (defBody s_ways_up) (defScope s_ways_up) [] [] (He.ga K "ways_up") fd := V.c.def_ 11 (d := dd_ways_up)
theorem Vw.b_ways_up (V : Vw K mg) : Bd K (He.ga K "ways_up") ["tree"] [] := bd_of V.d_ways_up fun _ _ _ _ _ _ us hl => match us, hl with | [_], _ => rfl
theorem Vw.d_places_above (V : Vw K mg) : ∃ fd, FunD K "places_above" "places_above" (defArgs s_places_above) (defBody s_places_above) (defScope s_places_above) [] [] (He.ga K "places_above") fd := V.c.def_ 12 (d := dd_places_above)
theorem Vw.b_places_above (V : Vw K mg) : Bd K (He.ga K "places_above") ["tree", "place"] [] := bd_of V.d_places_above fun _ _ _ _ _ _ us hl => match us, hl with | [_, _], _ => rfl
theorem Vw.d_is_letter (V : Vw K mg) : ∃ fd, FunD K "is_letter" "is_letter" (defArgs s_is_letter) (defBody s_is_letter) (defScope s_is_letter) [] [] (He.ga K "is_letter") fd := V.c.def_ 13 (d := dd_is_letter)
theorem Vw.b_is_letter (V : Vw K mg) : Bd K (He.ga K "is_letter") ["thing"] [] := bd_of V.d_is_letter fun _ _ _ _ _ _ us hl => match us, hl with | [_], _ => rfl
theorem Vw.d_is_word (V : Vw K mg) : ∃ fd, FunD K "is_word" "is_word" (defArgs s_is_word) (defBody s_is_word) (defScope s_is_word) [] [] (He.ga K "is_word") fd := V.c.def_ 14 (d := dd_is_word)
theorem Vw.b_is_word (V : Vw K mg) : Bd K (He.ga K "is_word") ["tree", "thing"] [] := bd_of V.d_is_word fun _ _ _ _ _ _ us hl => match us, hl with | [_, _], _ => rfl
theorem Vw.d_with_letter (V : Vw K mg) : ∃ fd, FunD K "with_letter" "with_letter" (defArgs s_with_letter) (defBody s_with_letter) (defScope s_with_letter) [] [] (He.ga K "with_letter") fd := V.c.def_ 15 (d := dd_with_letter)
theorem Vw.b_with_letter (V : Vw K mg) : Bd K (He.ga K "with_letter") ["word", "place", "letter"] [] := bd_of V.d_with_letter fun _ _ _ _ _ _ us hl => match us, hl with | [_, _, _], _ => rfl
theorem Vw.d_letters_seen (V : Vw K mg) : ∃ fd, FunD K "letters_seen" "letters_seen" (defArgs s_letters_seen) (defBody s_letters_seen) (defScope s_letters_seen) [] [] (He.ga K "letters_seen") fd := V.c.def_ 16 (d := dd_letters_seen)
theorem Vw.b_letters_seen (V : Vw K mg) : Bd K (He.ga K "letters_seen") ["tree", "word", "place"] [] := bd_of V.d_letters_seen fun _ _ _ _ _ _ us hl => match us, hl with | [_, _, _], _ => rfl
theorem Vw.d_deed_done (V : Vw K mg) : ∃ fd, FunD K "deed_done" "deed_done" (defArgs s_deed_done) (defBody s_deed_done) (defScope s_deed_done) [] [] (He.ga K "deed_done") fd := V.c.def_ 17 (d := dd_deed_done)
theorem Vw.b_deed_done (V : Vw K mg) : Bd K (He.ga K "deed_done") ["tree", "word", "place"] [] := bd_of V.d_deed_done fun _ _ _ _ _ _ us hl => match us, hl with | [_, _, _], _ => rfl
theorem Vw.d_check_row (V : Vw K mg) : ∃ fd, FunD K "check_row" "check_row" (defArgs s_check_row) (defBody s_check_row) (defScope s_check_row) [] [] (He.ga K "check_row") fd := V.c.def_ 18 (d := dd_check_row)
theorem Vw.b_check_row (V : Vw K mg) : Bd K (He.ga K "check_row") ["tree", "thing", "most"] [] := bd_of V.d_check_row fun _ _ _ _ _ _ us hl => match us, hl with | [_, _, _], _ => rfl
theorem Vw.d_stepped (V : Vw K mg) : ∃ fd, FunD K "stepped" "stepped" (defArgs s_stepped) (defBody s_stepped) (defScope s_stepped) [] [] (He.ga K "stepped") fd := V.c.def_ 19 (d := dd_stepped)
theorem Vw.b_stepped (V : Vw K mg) : Bd K (He.ga K "stepped") ["ways", "word", "place"] [] := bd_of V.d_stepped fun _ _ _ _ _ _ us hl => match us, hl with | [_, _, _], _ => rfl
theorem Vw.d_led_on (V : Vw K mg) : ∃ fd, FunD K "led_on" "led_on" (defArgs s_led_on) (defBody s_led_on) (defScope s_led_on) [] [] (He.ga K "led_on") fd := V.c.def_ 20 (d := dd_led_on)
theorem Vw.b_led_on (V : Vw K mg) : Bd K (He.ga K "led_on") ["tree", "word", "row"] [] := bd_of V.d_led_on fun _ _ _ _ _ _ us hl => match us, hl with | [_, _, _], _ => rfl
theorem Vw.d_ring_of (V : Vw K mg) : ∃ fd, FunD K "ring_of" "ring_of" (defArgs s_ring_of) (defBody s_ring_of) (defScope s_ring_of) [] [] (He.ga K "ring_of") fd := V.c.def_ 21 (d := dd_ring_of)
theorem Vw.b_ring_of (V : Vw K mg) : Bd K (He.ga K "ring_of") ["tree", "word", "row"] [] := bd_of V.d_ring_of fun _ _ _ _ _ _ us hl => match us, hl with | [_, _, _], _ => rfl
theorem Vw.d_rounds_done (V : Vw K mg) : ∃ fd, FunD K "rounds_done" "rounds_done" (defArgs s_rounds_done) (defBody s_rounds_done) (defScope s_rounds_done) [] [] (He.ga K "rounds_done") fd := V.c.def_ 22 (d := dd_rounds_done)
theorem Vw.bk_rounds_done (V : Vw K mg) : BdK K (He.ga K "rounds_done") ["tree", "word", "row", "many"] 3 ["many"] (fun vs zs => vs ++ zs) := bdk_of (g := fun us ws => us ++ ws) V.d_rounds_done (fun r rz => r.append rz) fun _ _ _ _ _ _ us ws h1 h2 => match us, ws, h1, h2 with | [_, _, _], [_], _, _ => rfl
theorem Vw.d_entry_done (V : Vw K mg) : ∃ fd, FunD K "entry_done" "entry_done" (defArgs s_entry_done) (defBody s_entry_done) (defScope s_entry_done) [] [] (He.ga K "entry_done") fd := V.c.def_ 23 (d := dd_entry_done)
theorem Vw.b_entry_done (V : Vw K mg) : Bd K (He.ga K "entry_done") ["tree", "word", "entry"] [] := bd_of V.d_entry_done fun _ _ _ _ _ _ us hl => match us, hl with | [_, _, _], _ => rfl
theorem Vw.d_told_entry (V : Vw K mg) : ∃ fd, FunD K "told_entry" "told_entry" (defArgs s_told_entry) (defBody s_told_entry) (defScope s_told_entry) [] [] (He.ga K "told_entry") fd := V.c.def_ 24 (d := dd_told_entry)
theorem Vw.b_told_entry (V : Vw K mg) : Bd K (He.ga K "told_entry") ["entry"] [] := bd_of V.d_told_entry fun _ _ _ _ _ _ us hl => match us, hl with | [_], _ => rfl
theorem Vw.d_House_init (V : Vw K mg) : ∃ fd, FunD K "__init__" "House.__init__" (defArgs s_House_init) (defBody s_House_init) (defScope s_House_init) [] [] (He.ma K (He.ga K "House") "__init__") fd := V.c.def_ 25 (d := dd_House_init)
theorem Vw.b_House_init (V : Vw K mg) : Bd K (He.ma K (He.ga K "House") "__init__") ["self", "tree", "word"] [] := bd_of V.d_House_init fun _ _ _ _ _ _ us hl => match us, hl with | [_, _, _], _ => rfl
theorem Vw.d_House_need_room (V : Vw K mg) : ∃ fd, FunD K "need_room" "House.need_room" (defArgs s_House_need_room) (defBody s_House_need_room) (defScope s_House_need_room) [] [] (He.ma K (He.ga K "House") "need_room") fd := V.c.def_ 26 (d := dd_House_need_room)
theorem Vw.b_House_need_room (V : Vw K mg) : Bd K (He.ma K (He.ga K "House") "need_room") ["self", "many"] [] := bd_of V.d_House_need_room fun _ _ _ _ _ _ us hl => match us, hl with | [_, _], _ => rfl
theorem Vw.d_House_keep (V : Vw K mg) : ∃ fd, FunD K "keep" "House.keep" (defArgs s_House_keep) (defBody s_House_keep) (defScope s_House_keep) [] [] (He.ma K (He.ga K "House") "keep") fd := V.c.def_ 27 (d := dd_House_keep)
theorem Vw.b_House_keep (V : Vw K mg) : Bd K (He.ma K (He.ga K "House") "keep") ["self", "entry"] [] := bd_of V.d_House_keep fun _ _ _ _ _ _ us hl => match us, hl with | [_, _], _ => rfl
theorem Vw.d_House_redo (V : Vw K mg) : ∃ fd, FunD K "redo" "House.redo" (defArgs s_House_redo) (defBody s_House_redo) (defScope s_House_redo) [] [] (He.ma K (He.ga K "House") "redo") fd := V.c.def_ 28 (d := dd_House_redo)
theorem Vw.b_House_redo (V : Vw K mg) : Bd K (He.ma K (He.ga K "House") "redo") ["self", "entries"] [] := bd_of V.d_House_redo fun _ _ _ _ _ _ us hl => match us, hl with | [_, _], _ => rfl
theorem Vw.d_House_deed (V : Vw K mg) : ∃ fd, FunD K "deed" "House.deed" (defArgs s_House_deed) (defBody s_House_deed) (defScope s_House_deed) [] [] (He.ma K (He.ga K "House") "deed") fd := V.c.def_ 29 (d := dd_House_deed)
theorem Vw.b_House_deed (V : Vw K mg) : Bd K (He.ma K (He.ga K "House") "deed") ["self", "place"] [] := bd_of V.d_House_deed fun _ _ _ _ _ _ us hl => match us, hl with | [_, _], _ => rfl
theorem Vw.d_House_go (V : Vw K mg) : ∃ fd, FunD K "go" "House.go" (defArgs s_House_go) (defBody s_House_go) (defScope s_House_go) [] [("watch", .non)] (He.ma K (He.ga K "House") "go") fd := V.c.def_ 30 (d := dd_House_go)
theorem Vw.bk_House_go (V : Vw K mg) : BdK K (He.ma K (He.ga K "House") "go") ["self", "row", "watch"] 2 ["watch"] (fun vs zs => vs ++ zs) := bdk_of (g := fun us ws => us ++ ws) V.d_House_go (fun r rz => r.append rz) fun _ _ _ _ _ _ us ws h1 h2 => match us, ws, h1, h2 with | [_, _], [_], _, _ => rfl
theorem Vw.b_House_go (V : Vw K mg) : Bd K (He.ma K (He.ga K "House") "go") ["self", "row", "watch"] [.non] := bd_kw V.d_House_go 2 (by simp) rfl fun _ _ _ _ _ _ us ks h1 h2 => match us, ks, h1, h2 with | [_, _], [_], _, _ => ⟨_, _, _, _, _, _, rfl, rfl, rfl⟩
theorem Vw.d_House_rounds (V : Vw K mg) : ∃ fd, FunD K "rounds" "House.rounds" (defArgs s_House_rounds) (defBody s_House_rounds) (defScope s_House_rounds) [] [] (He.ma K (He.ga K "House") "rounds") fd := V.c.def_ 31 (d := dd_House_rounds)
theorem Vw.bk_House_rounds (V : Vw K mg) : BdK K (He.ma K (He.ga K "House") "rounds") ["self", "row", "many"] 2 ["many"] (fun vs zs => vs ++ zs) := bdk_of (g := fun us ws => us ++ ws) V.d_House_rounds (fun r rz => r.append rz) fun _ _ _ _ _ _ us ws h1 h2 => match us, ws, h1, h2 with | [_, _], [_], _, _ => rfl
theorem Vw.d_House_back (V : Vw K mg) : ∃ fd, FunD K "back" "House.back" (defArgs s_House_back) (defBody s_House_back) (defScope s_House_back) [] [("many", .int 1)] (He.ma K (He.ga K "House") "back") fd := V.c.def_ 32 (d := dd_House_back)
theorem Vw.bk_House_back (V : Vw K mg) : BdK K (He.ma K (He.ga K "House") "back") ["self", "many"] 1 ["many"] (fun vs zs => vs ++ zs) := bdk_of (g := fun us ws => us ++ ws) V.d_House_back (fun r rz => r.append rz) fun _ _ _ _ _ _ us ws h1 h2 => match us, ws, h1, h2 with | [_], [_], _, _ => rfl
theorem Vw.b_House_back (V : Vw K mg) : Bd K (He.ma K (He.ga K "House") "back") ["self", "many"] [.int 1] := bd_kw V.d_House_back 1 (by simp) rfl fun _ _ _ _ _ _ us ks h1 h2 => match us, ks, h1, h2 with | [_], [_], _, _ => ⟨_, _, _, _, _, _, rfl, rfl, rfl⟩
theorem Vw.d_House_slip (V : Vw K mg) : ∃ fd, FunD K "slip" "House.slip" (defArgs s_House_slip) (defBody s_House_slip) (defScope s_House_slip) [] [] (He.ma K (He.ga K "House") "slip") fd := V.c.def_ 33 (d := dd_House_slip)
theorem Vw.b_House_slip (V : Vw K mg) : Bd K (He.ma K (He.ga K "House") "slip") ["self", "at", "place"] [] := bd_of V.d_House_slip fun _ _ _ _ _ _ us hl => match us, hl with | [_, _, _], _ => rfl
theorem Vw.d_House_leave_out (V : Vw K mg) : ∃ fd, FunD K "leave_out" "House.leave_out" (defArgs s_House_leave_out) (defBody s_House_leave_out) (defScope s_House_leave_out) [] [] (He.ma K (He.ga K "House") "leave_out") fd := V.c.def_ 34 (d := dd_House_leave_out)
theorem Vw.b_House_leave_out (V : Vw K mg) : Bd K (He.ma K (He.ga K "House") "leave_out") ["self", "at"] [] := bd_of V.d_House_leave_out fun _ _ _ _ _ _ us hl => match us, hl with | [_, _], _ => rfl
theorem Vw.d_House_tree (V : Vw K mg) : ∃ fd, FunD K "tree" "House.tree" (defArgs s_House_tree) (defBody s_House_tree) (defScope s_House_tree) [] [] (He.ma K (He.ga K "House") "tree") fd := V.c.def_ 35 (d := dd_House_tree)
theorem Vw.b_House_tree (V : Vw K mg) : Bd K (He.ma K (He.ga K "House") "tree") ["self"] [] := bd_of V.d_House_tree fun _ _ _ _ _ _ us hl => match us, hl with | [_], _ => rfl
theorem Vw.d_House_first (V : Vw K mg) : ∃ fd, FunD K "first" "House.first" (defArgs s_House_first) (defBody s_House_first) (defScope s_House_first) [] [] (He.ma K (He.ga K "House") "first") fd := V.c.def_ 36 (d := dd_House_first)
theorem Vw.b_House_first (V : Vw K mg) : Bd K (He.ma K (He.ga K "House") "first") ["self"] [] := bd_of V.d_House_first fun _ _ _ _ _ _ us hl => match us, hl with | [_], _ => rfl
theorem Vw.d_House_word (V : Vw K mg) : ∃ fd, FunD K "word" "House.word" (defArgs s_House_word) (defBody s_House_word) (defScope s_House_word) [] [] (He.ma K (He.ga K "House") "word") fd := V.c.def_ 37 (d := dd_House_word)
theorem Vw.b_House_word (V : Vw K mg) : Bd K (He.ma K (He.ga K "House") "word") ["self"] [] := bd_of V.d_House_word fun _ _ _ _ _ _ us hl => match us, hl with | [_], _ => rfl
theorem Vw.d_House_entries (V : Vw K mg) : ∃ fd, FunD K "entries" "House.entries" (defArgs s_House_entries) (defBody s_House_entries) (defScope s_House_entries) [] [] (He.ma K (He.ga K "House") "entries") fd := V.c.def_ 38 (d := dd_House_entries)
theorem Vw.b_House_entries (V : Vw K mg) : Bd K (He.ma K (He.ga K "House") "entries") ["self"] [] := bd_of V.d_House_entries fun _ _ _ _ _ _ us hl => match us, hl with | [_], _ => rfl
theorem Vw.d_House_box (V : Vw K mg) : ∃ fd, FunD K "box" "House.box" (defArgs s_House_box) (defBody s_House_box) (defScope s_House_box) [] [] (He.ma K (He.ga K "House") "box") fd := V.c.def_ 39 (d := dd_House_box)
theorem Vw.b_House_box (V : Vw K mg) : Bd K (He.ma K (He.ga K "House") "box") ["self"] [] := bd_of V.d_House_box fun _ _ _ _ _ _ us hl => match us, hl with | [_], _ => rfl
theorem Vw.d_House_leavings (V : Vw K mg) : ∃ fd, FunD K "leavings" "House.leavings" (defArgs s_House_leavings) (defBody s_House_leavings) (defScope s_House_leavings) [] [] (He.ma K (He.ga K "House") "leavings") fd := V.c.def_ 40 (d := dd_House_leavings)
theorem Vw.b_House_leavings (V : Vw K mg) : Bd K (He.ma K (He.ga K "House") "leavings") ["self"] [] := bd_of V.d_House_leavings fun _ _ _ _ _ _ us hl => match us, hl with | [_], _ => rfl
theorem Vw.d_House_twin (V : Vw K mg) : ∃ fd, FunD K "twin" "House.twin" (defArgs s_House_twin) (defBody s_House_twin) (defScope s_House_twin) [] [] (He.ma K (He.ga K "House") "twin") fd := V.c.def_ 41 (d := dd_House_twin)
theorem Vw.b_House_twin (V : Vw K mg) : Bd K (He.ma K (He.ga K "House") "twin") ["self"] [] := bd_of V.d_House_twin fun _ _ _ _ _ _ us hl => match us, hl with | [_], _ => rfl
theorem Vw.d_House_eq (V : Vw K mg) : ∃ fd, FunD K "__eq__" "House.__eq__" (defArgs s_House_eq) (defBody s_House_eq) (defScope s_House_eq) [] [] (He.ma K (He.ga K "House") "__eq__") fd := V.c.def_ 42 (d := dd_House_eq)
theorem Vw.b_House_eq (V : Vw K mg) : Bd K (He.ma K (He.ga K "House") "__eq__") ["self", "other"] [] := bd_of V.d_House_eq fun _ _ _ _ _ _ us hl => match us, hl with | [_, _], _ => rfl
theorem Vw.d_House_len (V : Vw K mg) : ∃ fd, FunD K "__len__" "House.__len__" (defArgs s_House_len) (defBody s_House_len) (defScope s_House_len) [] [] (He.ma K (He.ga K "House") "__len__") fd := V.c.def_ 43 (d := dd_House_len)
theorem Vw.b_House_len (V : Vw K mg) : Bd K (He.ma K (He.ga K "House") "__len__") ["self"] [] := bd_of V.d_House_len fun _ _ _ _ _ _ us hl => match us, hl with | [_], _ => rfl
theorem Vw.d_House_str (V : Vw K mg) : ∃ fd, FunD K "__str__" "House.__str__" (defArgs s_House_str) (defBody s_House_str) (defScope s_House_str) [] [] (He.ma K (He.ga K "House") "__str__") fd := V.c.def_ 44 (d := dd_House_str)
theorem Vw.b_House_str (V : Vw K mg) : Bd K (He.ma K (He.ga K "House") "__str__") ["self"] [] := bd_of V.d_House_str fun _ _ _ _ _ _ us hl => match us, hl with | [_], _ => rfl
theorem Vw.d_House_repr (V : Vw K mg) : ∃ fd, FunD K "__repr__" "House.__repr__" (defArgs s_House_repr) (defBody s_House_repr) (defScope s_House_repr) [] [] (He.ma K (He.ga K "House") "__repr__") fd := V.c.def_ 45 (d := dd_House_repr)
theorem Vw.b_House_repr (V : Vw K mg) : Bd K (He.ma K (He.ga K "House") "__repr__") ["self"] [] := bd_of V.d_House_repr fun _ _ _ _ _ _ us hl => match us, hl with | [_], _ => rfl
theorem Vw.d_law_pen (V : Vw K mg) : ∃ fd, FunD K "_law_pen" "_law_pen" (defArgs s_law_pen) (defBody s_law_pen) (defScope s_law_pen) [] [] (He.ga K "_law_pen") fd := V.c.def_ 46 (d := dd_law_pen)
theorem Vw.b_law_pen (V : Vw K mg) : Bd K (He.ga K "_law_pen") ["script"] [] := bd_of V.d_law_pen fun _ _ _ _ _ _ us hl => match us, hl with | [_], _ => rfl
theorem Vw.d_law_draw (V : Vw K mg) : ∃ fd, FunD K "_law_draw" "_law_draw" (defArgs s_law_draw) (defBody s_law_draw) (defScope s_law_draw) [] [] (He.ga K "_law_draw") fd := V.c.def_ 47 (d := dd_law_draw)
theorem Vw.b_law_draw (V : Vw K mg) : Bd K (He.ga K "_law_draw") ["pen", "size"] [] := bd_of V.d_law_draw fun _ _ _ _ _ _ us hl => match us, hl with | [_, _], _ => rfl
theorem Vw.d_law_trunk (V : Vw K mg) : ∃ fd, FunD K "_law_trunk" "_law_trunk" (defArgs s_law_trunk) (defBody s_law_trunk) (defScope s_law_trunk) [] [] (He.ga K "_law_trunk") fd := V.c.def_ 48 (d := dd_law_trunk)
theorem Vw.b_law_trunk (V : Vw K mg) : Bd K (He.ga K "_law_trunk") ["pen", "most"] [] := bd_of V.d_law_trunk fun _ _ _ _ _ _ us hl => match us, hl with | [_, _], _ => rfl
theorem Vw.d_law_spell (V : Vw K mg) : ∃ fd, FunD K "_law_spell" "_law_spell" (defArgs s_law_spell) (defBody s_law_spell) (defScope s_law_spell) [] [] (He.ga K "_law_spell") fd := V.c.def_ 49 (d := dd_law_spell)
theorem Vw.b_law_spell (V : Vw K mg) : Bd K (He.ga K "_law_spell") ["pen", "trunk"] [] := bd_of V.d_law_spell fun _ _ _ _ _ _ us hl => match us, hl with | [_, _], _ => rfl
theorem Vw.d_law_road (V : Vw K mg) : ∃ fd, FunD K "_law_road" "_law_road" (defArgs s_law_road) (defBody s_law_road) (defScope s_law_road) [] [] (He.ga K "_law_road") fd := V.c.def_ 50 (d := dd_law_road)
theorem Vw.b_law_road (V : Vw K mg) : Bd K (He.ga K "_law_road") ["pen", "trunk", "most"] [] := bd_of V.d_law_road fun _ _ _ _ _ _ us hl => match us, hl with | [_, _, _], _ => rfl
theorem Vw.d_law_ups (V : Vw K mg) : ∃ fd, FunD K "_law_ups" "_law_ups" (defArgs s_law_ups) (defBody s_law_ups) (defScope s_law_ups) [] [] (He.ga K "_law_ups") fd := V.c.def_ 51 (d := dd_law_ups)
theorem Vw.b_law_ups (V : Vw K mg) : Bd K (He.ga K "_law_ups") ["trunk", "nook"] [] := bd_of V.d_law_ups fun _ _ _ _ _ _ us hl => match us, hl with | [_, _], _ => rfl
theorem Vw.d_law_deed (V : Vw K mg) : ∃ fd, FunD K "_law_deed" "_law_deed" (defArgs s_law_deed) (defBody s_law_deed) (defScope s_law_deed) [] [] (He.ga K "_law_deed") fd := V.c.def_ 52 (d := dd_law_deed)
theorem Vw.b_law_deed (V : Vw K mg) : Bd K (He.ga K "_law_deed") ["trunk", "spell", "nook"] [] := bd_of V.d_law_deed fun _ _ _ _ _ _ us hl => match us, hl with | [_, _, _], _ => rfl
theorem Vw.d_law_far (V : Vw K mg) : ∃ fd, FunD K "_law_far" "_law_far" (defArgs s_law_far) (defBody s_law_far) (defScope s_law_far) [] [] (He.ga K "_law_far") fd := V.c.def_ 53 (d := dd_law_far)
theorem Vw.b_law_far (V : Vw K mg) : Bd K (He.ga K "_law_far") ["trunk", "spell", "road", "often"] [] := bd_of V.d_law_far fun _ _ _ _ _ _ us hl => match us, hl with | [_, _, _, _], _ => rfl
theorem Vw.d_law_behind (V : Vw K mg) : ∃ fd, FunD K "_law_behind" "_law_behind" (defArgs s_law_behind) (defBody s_law_behind) (defScope s_law_behind) [] [] (He.ga K "_law_behind") fd := V.c.def_ 54 (d := dd_law_behind)
theorem Vw.b_law_behind (V : Vw K mg) : Bd K (He.ga K "_law_behind") ["trunk", "spell", "rows_so"] [] := bd_of V.d_law_behind fun _ _ _ _ _ _ us hl => match us, hl with | [_, _, _], _ => rfl
theorem Vw.d_law_stands (V : Vw K mg) : ∃ fd, FunD K "_law_stands" "_law_stands" (defArgs s_law_stands) (defBody s_law_stands) (defScope s_law_stands) [] [] (He.ga K "_law_stands") fd := V.c.def_ 55 (d := dd_law_stands)
theorem Vw.b_law_stands (V : Vw K mg) : Bd K (He.ga K "_law_stands") ["house", "trunk", "spell", "rows_so"] [] := bd_of V.d_law_stands fun _ _ _ _ _ _ us hl => match us, hl with | [_, _, _, _], _ => rfl
theorem Vw.d_law_often (V : Vw K mg) : ∃ fd, FunD K "_law_often" "_law_often" (defArgs s_law_often) (defBody s_law_often) (defScope s_law_often) [] [] (He.ga K "_law_often") fd := V.c.def_ 56 (d := dd_law_often)
theorem Vw.b_law_often (V : Vw K mg) : Bd K (He.ga K "_law_often") ["pen"] [] := bd_of V.d_law_often fun _ _ _ _ _ _ us hl => match us, hl with | [_], _ => rfl
theorem Vw.d_law_parts (V : Vw K mg) : ∃ fd, FunD K "_law_parts" "_law_parts" (defArgs s_law_parts) (defBody s_law_parts) (defScope s_law_parts) [] [] (He.ga K "_law_parts") fd := V.c.def_ 57 (d := dd_law_parts)
theorem Vw.b_law_parts (V : Vw K mg) : Bd K (He.ga K "_law_parts") ["pen", "often"] [] := bd_of V.d_law_parts fun _ _ _ _ _ _ us hl => match us, hl with | [_, _], _ => rfl
theorem Vw.d_law (V : Vw K mg) : ∃ fd, FunD K "law" "law" (defArgs s_law) (defBody s_law) (defScope s_law) [] [] (He.ga K "law") fd := V.c.def_ 58 (d := dd_law)
theorem Vw.b_law (V : Vw K mg) : Bd K (He.ga K "law") ["script"] [] := bd_of V.d_law fun _ _ _ _ _ _ us hl => match us, hl with | [_], _ => rfl
end
end Lw

set_option Elab.async false
set_option linter.all false
set_option maxRecDepth 100000
set_option maxHeartbeats 4000000
namespace Lw
open PySem Fn
noncomputable def g_is_whole : List D → Store → R D := gF 1 (gRet (gAnd (gIsi .int (gVar 0)) (gNot (gIsi .bool (gVar 0)))))
noncomputable def g_is_place : List D → Store → R D := gF 2 (gRet (gAnd (gCallF 1 g_is_whole [] (gCons (gVar 1) gNil)) (gChain pLe pLt (gK (.int 0)) (gVar 1) (gCall cLen (gCons (gVar 0) gNil)))))
noncomputable def g_need_place : List D → Store → R D := gF 2 (gIfS (gNotT (gTru (gCallF 2 g_is_place [] (gCons (gVar 0) (gCons (gVar 1) gNil))))) gStuck
    gNx)
noncomputable def g_ways_up : List D → Store → R D := gF 3 (gSeq (gSet 1 (gLstC gNil))
    (gSeq (gFor false (gIts (gVar 0)) (.nm 2)
    (gExp (gMet "list" mApp (gVar 1) (gCons (gIf (gTB (gBin (pIsN false) (gVar 2) (gK .none))) (gLst gNil) (gBin pAdd (gLst (gCons (gVar 2) gNil)) (gBin pIx (gVar 1) (gVar 2)))) gNil))))
    (gRet (gFrz (gVar 1)))))
noncomputable def g_places_above : List D → Store → R D := gF 2 (gSeq (gExp (gCallF 2 g_need_place [] (gCons (gVar 0) (gCons (gVar 1) gNil))))
    (gRet (gBin pIx (gCallF 1 g_ways_up [] (gCons (gVar 0) gNil)) (gVar 1))))
noncomputable def g_letters_seen : List D → Store → R D := gF 9 (gSeq (gSet 3 (gLc finP (gIts (gCallF 2 g_places_above [] (gCons (gVar 0) (gCons (gVar 2) gNil)))) (.nm 4) [4] gYes (gBin pIx (gVar 1) (gVar 4))))
    (gSeq (gIfS (gTB (gBin (pEq false) (gVar 3) (gLst gNil))) (gRet (gTup (gCons (gK .none) (gCons (gK .none) gNil))))
    gNx)
    (gSeq (gStar 1 [(.nm 5), (.nm 6)] (gVar 3))
    (gSeq (gSet 7 (gLc finP (gIts (gVar 6)) (.nm 8) [8] (gTB (gBin (pEq true) (gVar 8) (gVar 5))) (gVar 8)))
    (gRet (gTup (gCons (gVar 5) (gCons (gIf (gTB (gBin (pEq true) (gVar 7) (gLst gNil))) (gBin pIx (gVar 7) (gK (.int 0))) (gK .none)) gNil))))))))
noncomputable def g_with_letter : List D → Store → R D := gF 3 (gRet (gBin pAdd (gBin pAdd (gSlice (gVar 0) gNone (gPart (gVar 1))) (gVar 2)) (gSlice (gVar 0) (gPart (gBin pAdd (gVar 1) (gK (.int 1)))) gNone)))
noncomputable def g_deed_done : List D → Store → R D := gF 6 (gSeq (gExp (gCallF 2 g_need_place [] (gCons (gVar 0) (gCons (gVar 2) gNil))))
    (gSeq (gAsg (.tp [(.nm 3), (.nm 4)]) (gCallF 3 g_letters_seen [] (gCons (gVar 0) (gCons (gVar 1) (gCons (gVar 2) gNil)))))
    (gSeq (gSet 5 (gIf (gTB (gBin (pEq false) (gBin pIx (gVar 1) (gVar 2)) (gVar 3))) (gVar 4) (gVar 3)))
    (gRet (gIf (gTB (gBin (pIsN false) (gVar 5) (gK .none))) (gVar 1) (gCallF 3 g_with_letter [] (gCons (gVar 1) (gCons (gVar 2) (gCons (gVar 5) gNil)))))))))
noncomputable def g_stepped : List D → Store → R D := gF 4 (gSeq (gFor false (gIts (gBin pIx (gVar 0) (gVar 2))) (.nm 3)
    (gIfS (gTB (gBin (pEq true) (gBin pIx (gVar 1) (gVar 3)) (gBin pIx (gVar 1) (gVar 2)))) (gRet (gCallF 3 g_with_letter [] (gCons (gVar 1) (gCons (gVar 2) (gCons (gBin pIx (gVar 1) (gVar 3)) gNil)))))
    gNx))
    (gRet (gVar 1)))
noncomputable def g_led_on : List D → Store → R D := gF 5 (gSeq (gSet 3 (gCallF 1 g_ways_up [] (gCons (gVar 0) gNil)))
    (gSeq (gFor false (gIts (gVar 2)) (.nm 4)
    (gSet 1 (gCallF 3 g_stepped [] (gCons (gVar 3) (gCons (gVar 1) (gCons (gVar 4) gNil))))))
    (gRet (gVar 1))))
noncomputable def g_ring_of : List D → Store → R D := gF 5 (gSeq (gSet 3 (gLstC gNil))
    (gSeq (gSet 4 gDic)
    (gSeq (gWhile false (gTB (gDIn true (gVar 1) (gVar 4)))
    (gSeq (gDPut (gVar 4) (gVar 1) (gCall cLen (gCons (gVar 3) gNil)))
    (gSeq (gExp (gMet "list" mApp (gVar 3) (gCons (gVar 1) gNil)))
    (gSet 1 (gCallF 3 g_led_on [] (gCons (gVar 0) (gCons (gVar 1) (gCons (gVar 2) gNil))))))))
    (gRet (gTup (gCons (gSlice (gVar 3) gNone (gPart (gDGet (gVar 4) (gVar 1)))) (gCons (gSlice (gVar 3) (gPart (gDGet (gVar 4) (gVar 1))) gNone) gNil)))))))
noncomputable def g_rounds_done : List D → Store → R D := gF 6 (gSeq (gAsg (.tp [(.nm 4), (.nm 5)]) (gCallF 3 g_ring_of [] (gCons (gVar 0) (gCons (gVar 1) (gCons (gVar 2) gNil)))))
    (gSeq (gIfS (gTB (gBin pLt (gVar 3) (gCall cLen (gCons (gVar 4) gNil)))) (gRet (gBin pIx (gVar 4) (gVar 3)))
    gNx)
    (gRet (gBin pIx (gVar 5) (gBin pMod (gBin pSub (gVar 3) (gCall cLen (gCons (gVar 4) gNil))) (gCall cLen (gCons (gVar 5) gNil)))))))
noncomputable def g_entry_done : List D → Store → R D := gF 3 (gSeq (gIfS (gTB (gBin (pEq false) (gBin pIx (gVar 2) (gK (.int 0))) (gK (.str "deed")))) (gRet (gCallF 3 g_deed_done [] (gCons (gVar 0) (gCons (gVar 1) (gCons (gBin pIx (gVar 2) (gK (.int 1))) gNil)))))
    gNx)
    (gRet (gCallK 3 1 g_rounds_done (fun a b => a ++ b) (gCons (gVar 0) (gCons (gVar 1) (gCons (gCall cList (gCons (gBin pIx (gVar 2) (gK (.int 1))) gNil)) gNil))) (gCons (gBin pIx (gVar 2) (gK (.int 2))) gNil))))
noncomputable def g_House_keep : List D → Store → R D := gF 2 (gSeq (gExp (gMet "list" mApp (gFld "House" "passed" (gVar 0)) (gCons (gCallF 3 g_entry_done [] (gCons (gFld "House" "roots" (gVar 0)) (gCons (gBin pIx (gFld "House" "passed" (gVar 0)) (gUn pNeg (gK (.int 1)))) (gCons (gVar 1) gNil)))) gNil)))
    (gExp (gMet "list" mApp (gFld "House" "kept" (gVar 0)) (gCons (gVar 1) gNil))))
noncomputable def g_House_need_room : List D → Store → R D := gF 2 (gIfS (gTB (gBin pGt (gBin pAdd (gCall cLen (gCons (gFld "House" "kept" (gVar 0)) gNil)) (gVar 1)) (gK (.int 40)))) gStuck
    gNx)
noncomputable def g_House_deed : List D → Store → R D := gF 2 (gSeq (gExp (gCallF 2 g_need_place [] (gCons (gFld "House" "roots" (gVar 0)) (gCons (gVar 1) gNil))))
    (gSeq (gExp (gMeth "House" "need_room" 2 g_House_need_room [] (gVar 0) (gCons (gK (.int 1)) gNil)))
    (gSeq (gExp (gMeth "House" "keep" 2 g_House_keep [] (gVar 0) (gCons (gTup (gCons (gK (.str "deed")) (gCons (gVar 1) gNil))) gNil)))
    (gRet (gBin pIx (gBin pIx (gFld "House" "passed" (gVar 0)) (gUn pNeg (gK (.int 1)))) (gVar 1))))))
noncomputable def g_check_row : List D → Store → R D := gF 5 (gSeq (gIfS (gOrT (gNotT (gTru (gIsi .list (gVar 1)))) (gTB (gBin pGt (gCall cLen (gCons (gVar 1) gNil)) (gVar 2)))) gStuck
    gNx)
    (gFor false (gEnum (gCons (gVar 1) gNil)) (.tp [(.nm 3), (.nm 4)])
    (gIfS (gNotT (gTru (gCallF 2 g_is_place [] (gCons (gVar 0) (gCons (gVar 4) gNil))))) gStuck
    gNx)))
noncomputable def g_House_go : List D → Store → R D := gF 8 (gSeq (gExp (gCallF 3 g_check_row [] (gCons (gFld "House" "roots" (gVar 0)) (gCons (gVar 1) (gCons (gK (.int 40)) gNil)))))
    (gSeq (gExp (gMeth "House" "need_room" 2 g_House_need_room [] (gVar 0) (gCons (gCall cLen (gCons (gVar 1) gNil)) gNil)))
    (gSeq (gPar 3 4 (gCons (gCall cList (gCons (gFld "House" "kept" (gVar 0)) gNil)) (gCons (gCall cList (gCons (gFld "House" "passed" (gVar 0)) gNil)) gNil)))
    (gSeq (gSet 5 (gK (.int 0)))
    (gSeq (gSet 6 (gK (.bool true)))
    (gSeq (gSetF "House" "busy" (gVar 0) (gK (.bool true)))
    (gSeq (gFin (gSeq (gFor false (gIts (gCall cList (gCons (gVar 1) gNil))) (.nm 7)
    (gSeq (gExp (gMeth "House" "keep" 2 g_House_keep [] (gVar 0) (gCons (gTup (gCons (gK (.str "deed")) (gCons (gVar 7) gNil))) gNil)))
    (gIfS (gTB (gBin (pEq true) (gBin pIx (gFld "House" "passed" (gVar 0)) (gUn pNeg (gK (.int 1)))) (gBin pIx (gFld "House" "passed" (gVar 0)) (gUn pNeg (gK (.int 2)))))) (gSeq (gAug 5 (gK (.int 1)))
    (gIfS (gTB (gBin (pIsN true) (gVar 2) (gK .none))) (gExp gNever)
    gNx))
    gNx)))
    (gSet 6 (gK .none)))
    fun σ M => ((gSeq (gSetF "House" "busy" (gVar 0) (gK (.bool false)))
    (gIfS (gTB (gBin (pIsN true) (gVar 6) (gK .none))) gStuck
    gNx)) σ M).calm)
    (gRet (gVar 5)))))))))
noncomputable def g_House_rounds : List D → Store → R D := gF 3 (gSeq (gExp (gCallF 3 g_check_row [] (gCons (gFld "House" "roots" (gVar 0)) (gCons (gVar 1) (gCons (gK (.int 12)) gNil)))))
    (gSeq (gIfS (gOrT (gNotT (gTru (gCallF 1 g_is_whole [] (gCons (gVar 2) gNil)))) (gNotT (gTB (gChain pLe pLe (gK (.int 0)) (gVar 2) (gK (.int 1000000000000000000000000000000)))))) gStuck
    gNx)
    (gSeq (gExp (gMeth "House" "need_room" 2 g_House_need_room [] (gVar 0) (gCons (gK (.int 1)) gNil)))
    (gSeq (gExp (gMeth "House" "keep" 2 g_House_keep [] (gVar 0) (gCons (gTup (gCons (gK (.str "rounds")) (gCons (gCall cTuple (gCons (gVar 1) gNil)) (gCons (gVar 2) gNil)))) gNil)))
    (gRet (gBin pIx (gFld "House" "passed" (gVar 0)) (gUn pNeg (gK (.int 1)))))))))
noncomputable def g_House_word : List D → Store → R D := gF 1 (gRet (gBin pIx (gFld "House" "passed" (gVar 0)) (gUn pNeg (gK (.int 1)))))
noncomputable def g_is_letter : List D → Store → R D := gF 1 (gRet (gAnd (gIsi .str (gVar 0)) (gAnd (gBin (pEq false) (gCall cLen (gCons (gVar 0) gNil)) (gK (.int 1))) (gBin (pIn false) (gVar 0) (gK (.str "abcdefghijklmnopqrstuvwxyz"))))))
noncomputable def g_is_word : List D → Store → R D := gF 3 (gRet (gAnd (gIsi .str (gVar 1)) (gAnd (gBin (pEq false) (gCall cLen (gCons (gVar 1) gNil)) (gCall cLen (gCons (gVar 0) gNil))) (gCall (cAll true) (gCons (gLc finP (gIts (gVar 1)) (.nm 2) [2] gYes (gCallF 1 g_is_letter [] (gCons (gVar 2) gNil))) gNil)))))
noncomputable def g_may_stand : List D → Store → R D := gF 2 (gSeq (gIfS (gTB (gBin (pEq false) (gVar 0) (gK (.int 0)))) (gRet (gBin (pIsN false) (gVar 1) (gK .none)))
    gNx)
    (gRet (gAnd (gCallF 1 g_is_whole [] (gCons (gVar 1) gNil)) (gChain pLe pLt (gK (.int 0)) (gVar 1) (gVar 0)))))
noncomputable def g_first_wrong : List D → Store → R D := gF 3 (gSeq (gFor false (gEnum (gCons (gVar 0) gNil)) (.tp [(.nm 1), (.nm 2)])
    (gIfS (gOrT (gTB (gBin (pEq false) (gVar 1) (gK (.int 8)))) (gNotT (gTru (gCallF 2 g_may_stand [] (gCons (gVar 1) (gCons (gVar 2) gNil)))))) (gRet (gVar 1))
    gNx))
    (gRet (gK .none)))
noncomputable def g_tree_of : List D → Store → R D := gF 2 (gSeq (gIfS (gOrT (gNotT (gTru (gIsiLT (gVar 0)))) (gTB (gBin (pEq false) (gCall cLen (gCons (gVar 0) gNil)) (gK (.int 0))))) gStuck
    gNx)
    (gSeq (gSet 1 (gCallF 1 g_first_wrong [] (gCons (gVar 0) gNil)))
    (gSeq (gIfS (gTB (gBin (pIsN true) (gVar 1) (gK .none))) gStuck
    gNx)
    (gRet (gCall cTuple (gCons (gVar 0) gNil))))))
noncomputable def g_House_init : List D → Store → R D := gF 3 (gSeq (gSetF "House" "roots" (gVar 0) (gCallF 1 g_tree_of [] (gCons (gVar 1) gNil)))
    (gSeq (gIfS (gNotT (gTru (gCallF 2 g_is_word [] (gCons (gFld "House" "roots" (gVar 0)) (gCons (gVar 2) gNil))))) gStuck
    gNx)
    (gSeq (gSetF "House" "kept" (gVar 0) (gLstC gNil))
    (gSeq (gSetF "House" "passed" (gVar 0) (gLstC (gCons (gVar 2) gNil)))
    (gSetF "House" "busy" (gVar 0) (gK (.bool false)))))))
noncomputable def g_House_len : List D → Store → R D := gF 1 (gRet (gCall cLen (gCons (gFld "House" "kept" (gVar 0)) gNil)))
noncomputable def g_law_ups : List D → Store → R D := gF 3 (gSeq (gSet 2 (gLstC gNil))
    (gSeq (gWhile false (gTB (gBin (pIsN true) (gBin pIx (gVar 0) (gVar 1)) (gK .none)))
    (gSeq (gSet 1 (gBin pIx (gVar 0) (gVar 1)))
    (gExp (gMet "list" mApp (gVar 2) (gCons (gVar 1) gNil)))))
    (gRet (gFrz (gVar 2)))))
noncomputable def g_law_deed : List D → Store → R D := gF 4 (gSeq (gFor false (gIts (gCallF 2 g_law_ups [] (gCons (gVar 0) (gCons (gVar 2) gNil)))) (.nm 3)
    (gIfS (gTB (gBin (pEq true) (gBin pIx (gVar 1) (gVar 3)) (gBin pIx (gVar 1) (gVar 2)))) (gRet (gBin pAdd (gBin pAdd (gSlice (gVar 1) gNone (gPart (gVar 2))) (gBin pIx (gVar 1) (gVar 3))) (gSlice (gVar 1) (gPart (gBin pAdd (gVar 2) (gK (.int 1)))) gNone)))
    gNx))
    (gRet (gVar 1)))
noncomputable def g_law_far : List D → Store → R D := gF 8 (gSeq (gSet 4 (gLstC (gCons (gVar 1) gNil)))
    (gSeq (gWhile false (gTB (gBin pLe (gCall cLen (gCons (gVar 4) gNil)) (gVar 3)))
    (gSeq (gSet 5 (gBin pIx (gVar 4) (gUn pNeg (gK (.int 1)))))
    (gSeq (gFor false (gIts (gVar 2)) (.nm 6)
    (gSet 5 (gCallF 3 g_law_deed [] (gCons (gVar 0) (gCons (gVar 5) (gCons (gVar 6) gNil))))))
    (gSeq (gIfS (gTB (gBin (pIn false) (gVar 5) (gVar 4))) (gSeq (gSet 7 (gMet "list" mInd (gVar 4) (gCons (gVar 5) gNil)))
    (gRet (gBin pIx (gVar 4) (gBin pAdd (gVar 7) (gBin pMod (gBin pSub (gVar 3) (gVar 7)) (gBin pSub (gCall cLen (gCons (gVar 4) gNil)) (gVar 7)))))))
    gNx)
    (gExp (gMet "list" mApp (gVar 4) (gCons (gVar 5) gNil)))))))
    (gRet (gBin pIx (gVar 4) (gVar 3)))))
noncomputable def g_law_behind : List D → Store → R D := gF 4 (gSeq (gFor false (gIts (gVar 2)) (.nm 3)
    (gIfS (gTB (gBin (pEq false) (gBin pIx (gVar 3) (gK (.int 0))) (gK (.str "deed")))) (gSet 1 (gCallF 3 g_law_deed [] (gCons (gVar 0) (gCons (gVar 1) (gCons (gBin pIx (gVar 3) (gK (.int 1))) gNil)))))
    (gSet 1 (gCallF 4 g_law_far [] (gCons (gVar 0) (gCons (gVar 1) (gCons (gBin pIx (gVar 3) (gK (.int 1))) (gCons (gBin pIx (gVar 3) (gK (.int 2))) gNil))))))))
    (gRet (gVar 1)))
noncomputable def g_law_draw : List D → Store → R D := gF 8 (gSeq (gIfS (gTB (gBin pGt (gBin pIx (gVar 0) (gK (.int 2))) (gK (.int 0)))) (gSeq (gSet 2 (gBin pMod (gBin pIx (gVar 0) (gK (.int 2))) (gVar 1)))
    (gSeq (gSetIx (gBin pFdiv (gBin pIx (gVar 0) (gK (.int 2))) (gVar 1)) (gVar 0) (gK (.int 2)))
    (gRet (gVar 2))))
    gNx)
    (gSeq (gSet 3 (gBin pIx (gVar 0) (gK (.int 1))))
    (gSeq (gSetIx (gBin pAdd (gVar 3) (gK (.int 1))) (gVar 0) (gK (.int 1)))
    (gSeq (gSet 4 (gBin pAdd (gBin pMul (gK (.int 30011)) (gVar 3)) (gK (.int 17))))
    (gSeq (gIfS (gTB (gBin (pEq true) (gBin pIx (gVar 0) (gK (.int 0))) (gLst gNil))) (gSet 4 (gBin pIx (gBin pIx (gVar 0) (gK (.int 0))) (gBin pMod (gVar 3) (gCall cLen (gCons (gBin pIx (gVar 0) (gK (.int 0))) gNil)))))
    gNx)
    (gSeq (gIfS (gAndT (gTB (gBin pLt (gVar 3) (gCall cLen (gCons (gBin pIx (gVar 0) (gK (.int 0))) gNil)))) (gTB (gBin pGe (gCall cAbs (gCons (gVar 4) gNil)) (gBin pPow (gK (.int 10)) (gK (.int 18)))))) (gSeq (gSet 5 (gBin pAdd (gBin pMul (gK (.int 2)) (gCall cAbs (gCons (gVar 4) gNil))) (gCall cInt (gCons (gBin pLt (gVar 4) (gK (.int 0))) gNil))))
    (gSeq (gSetIx (gBin pFdiv (gVar 5) (gVar 1)) (gVar 0) (gK (.int 2)))
    (gRet (gBin pMod (gVar 5) (gVar 1)))))
    gNx)
    (gSeq (gSet 6 (gBin pMod (gBin pPow (gBin pAdd (gBin pAdd (gBin pMod (gVar 4) (gK (.int 2147483563))) (gBin pMul (gK (.int 70009)) (gVar 3))) (gK (.int 43))) (gK (.int 5))) (gK (.int 2147483647))))
    (gSeq (gSet 7 (gBin pMod (gBin pPow (gBin pAdd (gBin pMul (gVar 6) (gBin pAdd (gBin pMul (gK (.int 2)) (gVar 3)) (gK (.int 11)))) (gBin pMul (gBin pMul (gK (.int 90001)) (gVar 3)) (gVar 3))) (gK (.int 3))) (gK (.int 2147483399))))
    (gRet (gBin pMod (gBin pFdiv (gVar 7) (gK (.int 32))) (gVar 1)))))))))))
noncomputable def g_law_often : List D → Store → R D := gF 1 (gRet (gBin pIx (gLst (gCons (gK (.int 0)) (gCons (gK (.int 1)) (gCons (gCallF 2 g_law_draw [] (gCons (gVar 0) (gCons (gK (.int 40)) gNil))) (gCons (gBin pSub (gBin pPow (gK (.int 10)) (gK (.int 30))) (gCallF 2 g_law_draw [] (gCons (gVar 0) (gCons (gK (.int 9)) gNil)))) (gCons (gCallF 2 g_law_draw [] (gCons (gVar 0) (gCons (gBin pPow (gK (.int 10)) (gK (.int 9))) gNil))) gNil)))))) (gCallF 2 g_law_draw [] (gCons (gVar 0) (gCons (gK (.int 5)) gNil)))))
noncomputable def g_law_parts : List D → Store → R D := gF 3 (gSeq (gSet 2 (gBin pFdiv (gBin pMul (gCallF 2 g_law_draw [] (gCons (gVar 0) (gCons (gBin pPow (gK (.int 10)) (gK (.int 6))) gNil))) (gVar 1)) (gBin pPow (gK (.int 10)) (gK (.int 6)))))
    (gRet (gTup (gCons (gVar 2) (gCons (gBin pSub (gVar 1) (gVar 2)) gNil)))))
noncomputable def g_law_pen : List D → Store → R D := gF 1 (gRet (gLstC (gCons (gSlice (gVar 0) gNone (gPart (gK (.int 63)))) (gCons (gK (.int 0)) (gCons (gK (.int 0)) gNil)))))
noncomputable def g_law_road : List D → Store → R D := gF 6 (gSeq (gSet 3 (gCall cLen (gCons (gVar 1) gNil)))
    (gSeq (gSet 4 (gLstC gNil))
    (gSeq (gFor false (gRng1 (gCons (gCallF 2 g_law_draw [] (gCons (gVar 0) (gCons (gBin pAdd (gVar 2) (gK (.int 1))) gNil))) gNil)) (.nm 5)
    (gExp (gMet "list" mApp (gVar 4) (gCons (gCall cMax (gCons (gCallF 2 g_law_draw [] (gCons (gVar 0) (gCons (gVar 3) gNil))) (gCons (gCallF 2 g_law_draw [] (gCons (gVar 0) (gCons (gVar 3) gNil))) gNil))) gNil))))
    (gRet (gVar 4)))))
noncomputable def g_law_spell : List D → Store → R D := gF 9 (gSeq (gSet 2 (gK (.str "abcdefghijklmnopqrstuvwxyz")))
    (gSeq (gSet 3 (gCallF 2 g_law_draw [] (gCons (gVar 0) (gCons (gK (.int 5)) gNil))))
    (gSeq (gIfS (gTB (gBin (pEq false) (gVar 3) (gK (.int 3)))) (gSeq (gSet 4 (gBin pIx (gLst (gCons (gK (.int 1)) (gCons (gK (.int 3)) (gCons (gK (.int 5)) (gCons (gK (.int 7)) (gCons (gK (.int 9)) (gCons (gK (.int 11)) gNil))))))) (gCallF 2 g_law_draw [] (gCons (gVar 0) (gCons (gK (.int 6)) gNil)))))
    (gSeq (gSet 5 (gCallF 2 g_law_draw [] (gCons (gVar 0) (gCons (gK (.int 26)) gNil))))
    (gRet (gMet "str" mJoin (gK (.str "")) (gCons (gLc finP (gRng1 (gCons (gCall cLen (gCons (gVar 1) gNil)) gNil)) (.nm 6) [6] gYes (gBin pIx (gVar 2) (gBin pMod (gBin pAdd (gVar 5) (gBin pMul (gVar 4) (gVar 6))) (gK (.int 26))))) gNil)))))
    gNx)
    (gSeq (gSet 7 (gCallF 2 g_law_draw [] (gCons (gVar 0) (gCons (gK (.int 23)) gNil))))
    (gSeq (gSet 8 (gBin pIx (gLst (gCons (gSlice (gVar 2) (gPart (gVar 7)) (gPart (gBin pAdd (gVar 7) (gK (.int 2))))) (gCons (gSlice (gVar 2) (gPart (gVar 7)) (gPart (gBin pAdd (gVar 7) (gK (.int 3))))) (gCons (gSlice (gVar 2) (gPart (gVar 7)) (gPart (gBin pAdd (gVar 7) (gK (.int 4))))) (gCons (gK (.str "")) (gCons (gVar 2) gNil)))))) (gVar 3)))
    (gRet (gMet "str" mJoin (gK (.str "")) (gCons (gLc finP (gRng1 (gCons (gCall cLen (gCons (gVar 1) gNil)) gNil)) (.nm 6) [6] gYes (gBin pIx (gVar 8) (gCallF 2 g_law_draw [] (gCons (gVar 0) (gCons (gCall cLen (gCons (gVar 8) gNil)) gNil))))) gNil))))))))
noncomputable def g_told_entry : List D → Store → R D := gF 4 (gSeq (gStar 2 [(.nm 1), (.nm 2), (.nm 3)] (gVar 0))
    (gRet (gIf (gTB (gBin (pEq false) (gVar 1) (gK (.str "deed")))) (gTup (gCons (gVar 1) (gCons (gVar 2) gNil))) (gTup (gCons (gVar 1) (gCons (gCall cList (gCons (gVar 2) gNil)) (gCons (gBin pIx (gVar 3) (gK (.int 0))) gNil)))))))
noncomputable def g_House_entries : List D → Store → R D := gF 2 (gRet (gLc finP (gIts (gFld "House" "kept" (gVar 0))) (.nm 1) [1] gYes (gCallF 1 g_told_entry [] (gCons (gVar 1) gNil))))
noncomputable def g_House_first : List D → Store → R D := gF 1 (gRet (gBin pIx (gFld "House" "passed" (gVar 0)) (gK (.int 0))))
noncomputable def g_House_tree : List D → Store → R D := gF 1 (gRet (gFld "House" "roots" (gVar 0)))
noncomputable def g_House_repr : List D → Store → R D := gF 1 (gRet (gJs [(gK (.str "House(")), (gFmt (gCall cLen (gCons (gFld "House" "roots" (gVar 0)) gNil))), (gK (.str " places, ")), (gFmt (gCall cLen (gCons (gFld "House" "kept" (gVar 0)) gNil))), (gK (.str " entries)"))] PySem.Str.empty))
noncomputable def g_House_str : List D → Store → R D := gF 1 (gRet (gCall cStr (gCons (gBin pIx (gFld "House" "passed" (gVar 0)) (gUn pNeg (gK (.int 1)))) gNil)))
noncomputable def g_law_stands : List D → Store → R D := gF 7 (gSeq (gSet 4 (gCallF 3 g_law_behind [] (gCons (gVar 1) (gCons (gVar 2) (gCons (gVar 3) gNil)))))
    (gSeq (gSet 5 (gBin pAdd (gBin pAdd (gBin pAdd (gCall cStr (gCons (gCall cLen (gCons (gVar 1) gNil)) gNil)) (gK (.str " places, "))) (gCall cStr (gCons (gCall cLen (gCons (gVar 3) gNil)) gNil))) (gK (.str " entries"))))
    (gSeq (gSet 6 (gLst (gCons (gMeth "House" "tree" 1 g_House_tree [] (gVar 0) gNil) (gCons (gMeth "House" "first" 1 g_House_first [] (gVar 0) gNil) (gCons (gMeth "House" "word" 1 g_House_word [] (gVar 0) gNil) (gCons (gMeth "House" "entries" 1 g_House_entries [] (gVar 0) gNil) (gCons (gOwn "House" "__len__" okI g_House_len (gVar 0)) (gCons (gOwn "House" "__str__" okS g_House_str (gVar 0)) (gCons (gOwn "House" "__repr__" okS g_House_repr (gVar 0)) gNil)))))))))
    (gRet (gBin (pEq false) (gCall cRepr (gCons (gVar 6) gNil)) (gCall cRepr (gCons (gLst (gCons (gVar 1) (gCons (gVar 2) (gCons (gVar 4) (gCons (gVar 3) (gCons (gCall cLen (gCons (gVar 3) gNil)) (gCons (gVar 4) (gCons (gBin pAdd (gBin pAdd (gK (.str "House(")) (gVar 5)) (gK (.str ")"))) gNil)))))))) gNil)))))))
noncomputable def g_law_trunk : List D → Store → R D := gF 7 (gSeq (gSet 2 (gCallF 2 g_law_draw [] (gCons (gVar 0) (gCons (gK (.int 5)) gNil))))
    (gSeq (gSet 3 (gVar 1))
    (gSeq (gIfS (gTB (gBin pGt (gCallF 2 g_law_draw [] (gCons (gVar 0) (gCons (gK (.int 3)) gNil))) (gK (.int 0)))) (gSet 3 (gBin pAdd (gK (.int 1)) (gCallF 2 g_law_draw [] (gCons (gVar 0) (gCons (gVar 1) gNil)))))
    gNx)
    (gSeq (gSet 4 (gLstC (gCons (gK .none) gNil)))
    (gSeq (gFor false (gRng2 (gCons (gK (.int 1)) (gCons (gVar 3) gNil))) (.nm 5)
    (gSeq (gSet 6 (gK (.int 0)))
    (gSeq (gIfS (gTB (gBin pGt (gVar 2) (gK (.int 1)))) (gSet 6 (gCallF 2 g_law_draw [] (gCons (gVar 0) (gCons (gBin pIx (gLst (gCons (gK (.int 2)) (gCons (gVar 5) (gCons (gVar 5) gNil)))) (gBin pSub (gVar 2) (gK (.int 2)))) gNil))))
    gNx)
    (gSeq (gIfS (gTB (gBin (pEq false) (gVar 2) (gK (.int 1)))) (gSet 6 (gBin pFdiv (gCallF 2 g_law_draw [] (gCons (gVar 0) (gCons (gK (.int 4)) gNil))) (gK (.int 3))))
    gNx)
    (gExp (gMet "list" mApp (gVar 4) (gCons (gCall cMax (gCons (gK (.int 0)) (gCons (gBin pSub (gBin pSub (gVar 5) (gK (.int 1))) (gVar 6)) gNil))) gNil)))))))
    (gRet (gCall cTuple (gCons (gVar 4) gNil))))))))
noncomputable def g_law : List D → Store → R D := gF 16 (gSeq (gSet 1 (gCallF 1 g_law_pen [] (gCons (gVar 0) gNil)))
    (gSeq (gFor true (gRng1 (gCons (gK (.int 2)) gNil)) (.nm 2)
    (gSeq (gSet 3 (gCallF 2 g_law_trunk [] (gCons (gVar 1) (gCons (gK (.int 8)) gNil))))
    (gSeq (gSet 4 (gCallF 2 g_law_spell [] (gCons (gVar 1) (gCons (gVar 3) gNil))))
    (gSeq (gSet 5 (gMake "House" 3 g_House_init (gCons (gVar 3) (gCons (gVar 4) gNil))))
    (gSeq (gSet 6 (gMake "House" 3 g_House_init (gCons (gVar 3) (gCons (gVar 4) gNil))))
    (gSeq (gSet 7 (gLstC gNil))
    (gSeq (gFor true (gRng1 (gCons (gBin pAdd (gK (.int 1)) (gCallF 2 g_law_draw [] (gCons (gVar 1) (gCons (gK (.int 5)) gNil)))) gNil)) (.nm 8)
    (gSeq (gSet 9 (gCallF 3 g_law_road [] (gCons (gVar 1) (gCons (gVar 3) (gCons (gK (.int 12)) gNil)))))
    (gSeq (gSet 10 (gCallF 1 g_law_often [] (gCons (gVar 1) gNil)))
    (gSeq (gExp (gMet "list" mApp (gVar 7) (gCons (gTup (gCons (gK (.str "rounds")) (gCons (gCall cList (gCons (gVar 9) gNil)) (gCons (gVar 10) gNil)))) gNil)))
    (gSeq (gSet 11 (gCall cListC (gCons (gVar 9) gNil)))
    (gSeq (gIfS (gTB (gBin (pEq true) (gMethK "House" "rounds" 2 1 g_House_rounds (gVar 5) (gCons (gVar 11) gNil) (gCons (gVar 10) gNil)) (gCallF 3 g_law_behind [] (gCons (gVar 3) (gCons (gVar 4) (gCons (gVar 7) gNil)))))) (gRet (gK (.bool false)))
    gNx)
    (gSeq (gExp (gMet0 "list" mRev (gVar 11)))
    (gSeq (gExp (gMet "list" mApp (gVar 11) (gCons (gK (.int 0)) gNil)))
    (gSeq (gFor false (gIts (gCallF 2 g_law_parts [] (gCons (gVar 1) (gCons (gVar 10) gNil)))) (.nm 12)
    (gExp (gMethK "House" "rounds" 2 1 g_House_rounds (gVar 6) (gCons (gVar 9) gNil) (gCons (gVar 12) gNil))))
    (gSeq (gSet 13 (gCallF 2 g_law_draw [] (gCons (gVar 1) (gCons (gCall cLen (gCons (gVar 3) gNil)) gNil))))
    (gSeq (gExp (gMet "list" mApp (gVar 7) (gCons (gTup (gCons (gK (.str "deed")) (gCons (gVar 13) gNil))) gNil)))
    (gIfS (gOrT (gTB (gBin (pEq true) (gMeth "House" "deed" 2 g_House_deed [] (gVar 5) (gCons (gVar 13) gNil)) (gMeth "House" "deed" 2 g_House_deed [] (gVar 6) (gCons (gVar 13) gNil)))) (gTB (gBin (pEq true) (gMeth "House" "word" 1 g_House_word [] (gVar 5) gNil) (gMeth "House" "word" 1 g_House_word [] (gVar 6) gNil)))) (gRet (gK (.bool false)))
    gNx))))))))))))
    (gSeq (gIfS (gOrT (gNotT (gTru (gCallF 4 g_law_stands [] (gCons (gVar 5) (gCons (gVar 3) (gCons (gVar 4) (gCons (gVar 7) gNil))))))) (gTB (gBin (pEq true) (gOwn "House" "__len__" okI g_House_len (gVar 6)) (gBin pMul (gBin pFdiv (gCall cLen (gCons (gVar 7) gNil)) (gK (.int 2))) (gK (.int 3)))))) (gRet (gK (.bool false)))
    gNx)
    (gSeq (gSet 14 (gMake "House" 3 g_House_init (gCons (gVar 3) (gCons (gVar 4) gNil))))
    (gSeq (gSet 9 (gCallF 3 g_law_road [] (gCons (gVar 1) (gCons (gVar 3) (gCons (gK (.int 6)) gNil)))))
    (gSeq (gSet 12 (gCallF 2 g_law_draw [] (gCons (gVar 1) (gCons (gK (.int 7)) gNil))))
    (gSeq (gFor false (gRng1 (gCons (gVar 12) gNil)) (.nm 8)
    (gExp (gMeth "House" "go" 3 g_House_go [.none] (gVar 14) (gCons (gVar 9) gNil))))
    (gSeq (gSet 15 (gMake "House" 3 g_House_init (gCons (gVar 3) (gCons (gVar 4) gNil))))
    (gIfS (gOrT (gTB (gBin (pEq true) (gMethK "House" "rounds" 2 1 g_House_rounds (gVar 15) (gCons (gVar 9) gNil) (gCons (gVar 12) gNil)) (gMeth "House" "word" 1 g_House_word [] (gVar 14) gNil))) (gTB (gBin (pEq true) (gOwn "House" "__len__" okI g_House_len (gVar 14)) (gBin pMul (gVar 12) (gCall cLen (gCons (gVar 9) gNil)))))) (gRet (gK (.bool false)))
    gNx))))))))))))))
    (gRet (gK (.bool true)))))
end Lw

set_option Elab.async false
set_option linter.all false
set_option maxRecDepth 100000
set_option maxHeartbeats 4000000
namespace Lw
open PySem PySem.Spec PyProof.Rows Fn
open L2 (FnScope)
section
variable {P : Program} {w : World} {K : PySem.W.Frag} {mg : Str → Option Value} {base : Heap}
abbrev N_is_whole : List Str := ["thing"]
theorem sc_is_whole : FnScope N_is_whole ["thing"] (L2.defScope s_is_whole) := ⟨rfl, rfl, rfl, by decide +kernel, rfl, by decide +kernel, by decide +kernel⟩
theorem ok_is_whole (Z : Vw K mg) : U.Df P w K mg base 1 (He.ga K "is_whole") ["thing"] (spG K 1 g_is_whole) := by
  refine df_g Z.d_is_whole sc_is_whole (by decide) fun cdv A outer s H E hr tk po => ?_
  exact (fs_one (fs_ret (fe_and (fe_isi .int rfl (by rfl) Z.n_isinstance (by decide +kernel) (fe_pv 0) (L2.pe_bltn (v := .ty "int") (by rfl) Z.n_int (by decide +kernel) rfl)) (L2.pe_one (fe_not (fe_isi .bool rfl (by rfl) Z.n_isinstance (by decide +kernel) (fe_pv 0) (L2.pe_bltn (v := .ty "bool") (by rfl) Z.n_bool (by decide +kernel) rfl)))))))
abbrev N_is_place : List Str := ["tree", "thing"]
theorem sc_is_place : FnScope N_is_place ["tree", "thing"] (L2.defScope s_is_place) := ⟨rfl, rfl, rfl, by decide +kernel, rfl, by decide +kernel, by decide +kernel⟩
theorem ok_is_place (Z : Vw K mg) : U.Df P w K mg base 2 (He.ga K "is_place") ["tree", "thing"] (spG K 2 g_is_place) := by
  refine df_g Z.d_is_place sc_is_place (by decide) fun cdv A outer s H E hr tk po => ?_
  exact (fs_one (fs_ret (fe_and (fe_call tk rfl (fun _ => .nil) (ok_is_whole Z) Z.b_is_whole hr (by decide) (by rfl) Z.g_is_whole (fa_cons (fe_pv 1) fa_nil)) (L2.pe_one (fe_chain U.u_le U.u_lt s_le s_lt fe_int (fe_pv 1) (fe_callB s_len (U.c_lenK K rfl) (by rfl) Z.n_len (by decide +kernel) (fa_cons (fe_pv 0) fa_nil)))))))
abbrev N_need_place : List Str := ["tree", "place"]
theorem sc_need_place : FnScope N_need_place ["tree", "place"] (L2.defScope s_need_place) := ⟨rfl, rfl, rfl, by decide +kernel, rfl, by decide +kernel, by decide +kernel⟩
theorem ok_need_place (Z : Vw K mg) : U.Df P w K mg base 3 (He.ga K "need_place") ["tree", "place"] (spG K 2 g_need_place) := by
  refine df_g Z.d_need_place sc_need_place (by decide) fun cdv A outer s H E hr tk po => ?_
  exact (fs_one (fs_if (ft_not (ft_truth rfl (fe_call tk rfl (fun _ => .nil) (ok_is_place Z) Z.b_is_place hr (by decide) (by rfl) Z.g_is_place (fa_cons (fe_pv 0) (fa_cons (fe_pv 1) fa_nil))))) (fs_one fs_never)
    fs_nil))
abbrev N_ways_up : List Str := ["tree", "found", "parent"]
theorem sc_ways_up : FnScope N_ways_up ["tree"] (L2.defScope s_ways_up) := ⟨rfl, rfl, rfl, by decide +kernel, rfl, by decide +kernel, by decide +kernel⟩
theorem ok_ways_up (Z : Vw K mg) : U.Df P w K mg base 1 (He.ga K "ways_up") ["tree"] (spG K 1 g_ways_up) := by
  refine df_g Z.d_ways_up sc_ways_up (by decide) fun cdv A outer s H E hr tk po => ?_
  exact (fs_cons (fs_set (i := 1) sc_ways_up.nd rfl (by first | exact Or.inl rfl | exact Or.inr rfl) (fe_lstC fa_nil))
    (fs_cons (fs_for (tid := false) po rfl (pi_its rfl (fe_pv 0)) (pt_name (i := 2) sc_ways_up.nd rfl (by first | exact Or.inl rfl | exact Or.inr rfl))
    (fs_one (fs_expr (fe_met s_app rfl PySem.F.plainAttrs_list PySem.F.slot_list_append PySem.F.type_list_append U.m_append (fe_pv 1) (fa_cons (fe_if (ft_cmp U.u_isN s_isN (fe_pv 2) fe_non (L2.nomark _)) (fe_lst fa_nil) (fe_add (fe_lst (fa_cons (fe_pv 2) fa_nil)) (fe_ix rfl (fe_pv 1) (fe_pv 2)))) fa_nil)))))
    (fs_one (fs_ret (fe_frz (fe_pv 1))))))
abbrev N_places_above : List Str := ["tree", "place"]
theorem sc_places_above : FnScope N_places_above ["tree", "place"] (L2.defScope s_places_above) := ⟨rfl, rfl, rfl, by decide +kernel, rfl, by decide +kernel, by decide +kernel⟩
theorem ok_places_above (Z : Vw K mg) : U.Df P w K mg base 4 (He.ga K "places_above") ["tree", "place"] (spG K 2 g_places_above) := by
  refine df_g Z.d_places_above sc_places_above (by decide) fun cdv A outer s H E hr tk po => ?_
  exact (fs_cons (fs_expr (fe_call tk rfl (fun _ => .nil) (ok_need_place Z) Z.b_need_place hr (by decide) (by rfl) Z.g_need_place (fa_cons (fe_pv 0) (fa_cons (fe_pv 1) fa_nil))))
    (fs_one (fs_ret (fe_ix rfl (fe_call tk rfl (fun _ => .nil) (ok_ways_up Z) Z.b_ways_up hr (by decide) (by rfl) Z.g_ways_up (fa_cons (fe_pv 0) fa_nil)) (fe_pv 1)))))
abbrev N_letters_seen : List Str := ["tree", "word", "place", "letters", "other", "near", "far", "unlike", "letter"]
theorem sc_letters_seen : FnScope N_letters_seen ["tree", "word", "place"] (L2.defScope s_letters_seen) := ⟨rfl, rfl, rfl, by decide +kernel, rfl, by decide +kernel, by decide +kernel⟩
theorem ok_letters_seen (Z : Vw K mg) : U.Df P w K mg base 5 (He.ga K "letters_seen") ["tree", "word", "place"] (spG K 3 g_letters_seen) := by
  refine df_g Z.d_letters_seen sc_letters_seen (by decide) fun cdv A outer s H E hr tk po => ?_
  exact (fs_cons (fs_setLc finP_ok (i := 3) (own := [("other", 4)]) (by decide) rfl sc_letters_seen.nd rfl rfl (L2.sw_true rfl rfl rfl (by decide +kernel)) (pi_its rfl (fe_call tk rfl (fun _ => .nil) (ok_places_above Z) Z.b_places_above hr (by decide) (by rfl) Z.g_places_above (fa_cons (fe_pv 0) (fa_cons (fe_pv 2) fa_nil)))) (L2.blkOk_by (own := [("other", 4)]) (N := N_letters_seen) (sc := L2.defScope s_letters_seen) (by decide +kernel)) (fun _ _ _ _ _ => (pt_name (i := 4) sc_letters_seen.nd rfl (by first | exact Or.inl rfl | exact Or.inr rfl))) (fun _ _ _ _ _ => fts_nil) (fun _ _ _ _ _ => (fe_ix rfl (fe_pv 1) (fe_pv 4))))
    (fs_cons (fs_if (ft_cmp (c_eq rfl hr.units65) s_eq (fe_pv 3) (fe_lst fa_nil) (L2.nomark _)) (fs_one (fs_ret (fe_tup (fa_cons fe_non (fa_cons fe_non fa_nil)))))
    fs_nil)
    (fs_cons (fs_star (i := 1) rfl rfl (fe_pv 3) (Fn.pts_cons (pt_name (i := 5) sc_letters_seen.nd rfl (by first | exact Or.inl rfl | exact Or.inr rfl)) (pts_star (pt_name (i := 6) sc_letters_seen.nd rfl (by first | exact Or.inl rfl | exact Or.inr rfl)) Fn.pts_nil)))
    (fs_cons (fs_setLc finP_ok (i := 7) (own := [("letter", 8)]) (by decide) rfl sc_letters_seen.nd rfl rfl (L2.sw_true rfl rfl rfl (by decide +kernel)) (pi_its rfl (fe_pv 6)) (L2.blkOk_by (own := [("letter", 8)]) (N := N_letters_seen) (sc := L2.defScope s_letters_seen) (by decide +kernel)) (fun _ _ _ _ _ => (pt_name (i := 8) sc_letters_seen.nd rfl (by first | exact Or.inl rfl | exact Or.inr rfl))) (fun _ _ _ _ _ => (fts_one (ft_cmp (c_ne rfl hr.units65) s_eq (fe_pv 8) (fe_pv 5) (L2.nomark _)))) (fun _ _ _ _ _ => (fe_pv 8)))
    (fs_one (fs_ret (fe_tup (fa_cons (fe_pv 5) (fa_cons (fe_if (ft_cmp (c_ne rfl hr.units65) s_eq (fe_pv 7) (fe_lst fa_nil) (L2.nomark _)) (fe_ix rfl (fe_pv 7) fe_int) fe_non) fa_nil)))))))))
abbrev N_with_letter : List Str := ["word", "place", "letter"]
theorem sc_with_letter : FnScope N_with_letter ["word", "place", "letter"] (L2.defScope s_with_letter) := ⟨rfl, rfl, rfl, by decide +kernel, rfl, by decide +kernel, by decide +kernel⟩
theorem ok_with_letter (Z : Vw K mg) : U.Df P w K mg base 1 (He.ga K "with_letter") ["word", "place", "letter"] (spG K 3 g_with_letter) := by
  refine df_g Z.d_with_letter sc_with_letter (by decide) fun cdv A outer s H E hr tk po => ?_
  exact (fs_one (fs_ret (fe_add (fe_add (fe_slice rfl (fe_pv 0) fo_none (fo_some (fe_pv 1))) (fe_pv 2)) (fe_slice rfl (fe_pv 0) (fo_some (fe_add (fe_pv 1) fe_int)) fo_none))))
abbrev N_deed_done : List Str := ["tree", "word", "place", "near", "far", "taken"]
theorem sc_deed_done : FnScope N_deed_done ["tree", "word", "place"] (L2.defScope s_deed_done) := ⟨rfl, rfl, rfl, by decide +kernel, rfl, by decide +kernel, by decide +kernel⟩
theorem ok_deed_done (Z : Vw K mg) : U.Df P w K mg base 6 (He.ga K "deed_done") ["tree", "word", "place"] (spG K 3 g_deed_done) := by
  refine df_g Z.d_deed_done sc_deed_done (by decide) fun cdv A outer s H E hr tk po => ?_
  exact (fs_cons (fs_expr (fe_call tk rfl (fun _ => .nil) (ok_need_place Z) Z.b_need_place hr (by decide) (by rfl) Z.g_need_place (fa_cons (fe_pv 0) (fa_cons (fe_pv 2) fa_nil))))
    (fs_cons (fs_asg (fe_call tk rfl (fun _ => .nil) (ok_letters_seen Z) Z.b_letters_seen hr (by decide) (by rfl) Z.g_letters_seen (fa_cons (fe_pv 0) (fa_cons (fe_pv 1) (fa_cons (fe_pv 2) fa_nil)))) (pt_tup rfl rfl (Fn.pts_cons (pt_name (i := 3) sc_deed_done.nd rfl (by first | exact Or.inl rfl | exact Or.inr rfl)) (Fn.pts_cons (pt_name (i := 4) sc_deed_done.nd rfl (by first | exact Or.inl rfl | exact Or.inr rfl)) Fn.pts_nil))))
    (fs_cons (fs_set (i := 5) sc_deed_done.nd rfl (by first | exact Or.inl rfl | exact Or.inr rfl) (fe_if (ft_cmp (c_eq rfl hr.units65) s_eq (fe_ix rfl (fe_pv 1) (fe_pv 2)) (fe_pv 3) (L2.nomark _)) (fe_pv 4) (fe_pv 3)))
    (fs_one (fs_ret (fe_if (ft_cmp U.u_isN s_isN (fe_pv 5) fe_non (L2.nomark _)) (fe_pv 1) (fe_call tk rfl (fun _ => .nil) (ok_with_letter Z) Z.b_with_letter hr (by decide) (by rfl) Z.g_with_letter (fa_cons (fe_pv 1) (fa_cons (fe_pv 2) (fa_cons (fe_pv 5) fa_nil))))))))))
abbrev N_stepped : List Str := ["ways", "word", "place", "other"]
theorem sc_stepped : FnScope N_stepped ["ways", "word", "place"] (L2.defScope s_stepped) := ⟨rfl, rfl, rfl, by decide +kernel, rfl, by decide +kernel, by decide +kernel⟩
theorem ok_stepped (Z : Vw K mg) : U.Df P w K mg base 2 (He.ga K "stepped") ["ways", "word", "place"] (spG K 3 g_stepped) := by
  refine df_g Z.d_stepped sc_stepped (by decide) fun cdv A outer s H E hr tk po => ?_
  exact (fs_cons (fs_for (tid := false) po rfl (pi_its rfl (fe_ix rfl (fe_pv 0) (fe_pv 2))) (pt_name (i := 3) sc_stepped.nd rfl (by first | exact Or.inl rfl | exact Or.inr rfl))
    (fs_one (fs_if (ft_cmp (c_ne rfl hr.units65) s_eq (fe_ix rfl (fe_pv 1) (fe_pv 3)) (fe_ix rfl (fe_pv 1) (fe_pv 2)) (L2.nomark _)) (fs_one (fs_ret (fe_call tk rfl (fun _ => .nil) (ok_with_letter Z) Z.b_with_letter hr (by decide) (by rfl) Z.g_with_letter (fa_cons (fe_pv 1) (fa_cons (fe_pv 2) (fa_cons (fe_ix rfl (fe_pv 1) (fe_pv 3)) fa_nil))))))
    fs_nil)))
    (fs_one (fs_ret (fe_pv 1))))
abbrev N_led_on : List Str := ["tree", "word", "row", "ways", "place"]
theorem sc_led_on : FnScope N_led_on ["tree", "word", "row"] (L2.defScope s_led_on) := ⟨rfl, rfl, rfl, by decide +kernel, rfl, by decide +kernel, by decide +kernel⟩
theorem ok_led_on (Z : Vw K mg) : U.Df P w K mg base 3 (He.ga K "led_on") ["tree", "word", "row"] (spG K 3 g_led_on) := by
  refine df_g Z.d_led_on sc_led_on (by decide) fun cdv A outer s H E hr tk po => ?_
  exact (fs_cons (fs_set (i := 3) sc_led_on.nd rfl (by first | exact Or.inl rfl | exact Or.inr rfl) (fe_call tk rfl (fun _ => .nil) (ok_ways_up Z) Z.b_ways_up hr (by decide) (by rfl) Z.g_ways_up (fa_cons (fe_pv 0) fa_nil)))
    (fs_cons (fs_for (tid := false) po rfl (pi_its rfl (fe_pv 2)) (pt_name (i := 4) sc_led_on.nd rfl (by first | exact Or.inl rfl | exact Or.inr rfl))
    (fs_one (fs_set (i := 1) sc_led_on.nd rfl (by first | exact Or.inl rfl | exact Or.inr rfl) (fe_call tk rfl (fun _ => .nil) (ok_stepped Z) Z.b_stepped hr (by decide) (by rfl) Z.g_stepped (fa_cons (fe_pv 3) (fa_cons (fe_pv 1) (fa_cons (fe_pv 4) fa_nil)))))))
    (fs_one (fs_ret (fe_pv 1)))))
abbrev N_ring_of : List Str := ["tree", "word", "row", "met", "spots"]
theorem sc_ring_of : FnScope N_ring_of ["tree", "word", "row"] (L2.defScope s_ring_of) := ⟨rfl, rfl, rfl, by decide +kernel, rfl, by decide +kernel, by decide +kernel⟩
theorem ok_ring_of (Z : Vw K mg) : U.Df P w K mg base 4 (He.ga K "ring_of") ["tree", "word", "row"] (spG K 3 g_ring_of) := by
  refine df_g Z.d_ring_of sc_ring_of (by decide) fun cdv A outer s H E hr tk po => ?_
  exact (fs_cons (fs_set (i := 3) sc_ring_of.nd rfl (by first | exact Or.inl rfl | exact Or.inr rfl) (fe_lstC fa_nil))
    (fs_cons (fs_set (i := 4) sc_ring_of.nd rfl (by first | exact Or.inl rfl | exact Or.inr rfl) fe_dic)
    (fs_cons (fs_while (tid := false) po (ft_pc (fc_dnotin hr.units1 (fe_pv 1) (fe_pv 4)) rfl)
    (fs_cons (fs_dput hr.units1 (fe_pv 4) (fe_pv 1) (fe_callB s_len (U.c_lenK K rfl) (by rfl) Z.n_len (by decide +kernel) (fa_cons (fe_pv 3) fa_nil)))
    (fs_cons (fs_expr (fe_met s_app rfl PySem.F.plainAttrs_list PySem.F.slot_list_append PySem.F.type_list_append U.m_append (fe_pv 3) (fa_cons (fe_pv 1) fa_nil)))
    (fs_one (fs_set (i := 1) sc_ring_of.nd rfl (by first | exact Or.inl rfl | exact Or.inr rfl) (fe_call tk rfl (fun _ => .nil) (ok_led_on Z) Z.b_led_on hr (by decide) (by rfl) Z.g_led_on (fa_cons (fe_pv 0) (fa_cons (fe_pv 1) (fa_cons (fe_pv 2) fa_nil)))))))))
    (fs_one (fs_ret (fe_tup (fa_cons (fe_slice rfl (fe_pv 3) fo_none (fo_some (fe_dget hr.units1 (fe_pv 4) (fe_pv 1) (fun _ _ => rfl)))) (fa_cons (fe_slice rfl (fe_pv 3) (fo_some (fe_dget hr.units1 (fe_pv 4) (fe_pv 1) (fun _ _ => rfl))) fo_none) fa_nil))))))))
abbrev N_rounds_done : List Str := ["tree", "word", "row", "many", "ahead", "again"]
theorem sc_rounds_done : FnScope N_rounds_done ["tree", "word", "row", "many"] (L2.defScope s_rounds_done) := ⟨rfl, rfl, rfl, by decide +kernel, rfl, by decide +kernel, by decide +kernel⟩
theorem ok_rounds_done (Z : Vw K mg) : U.Df P w K mg base 5 (He.ga K "rounds_done") ["tree", "word", "row", "many"] (spG K 4 g_rounds_done) := by
  refine df_g Z.d_rounds_done sc_rounds_done (by decide) fun cdv A outer s H E hr tk po => ?_
  exact (fs_cons (fs_asg (fe_call tk rfl (fun _ => .nil) (ok_ring_of Z) Z.b_ring_of hr (by decide) (by rfl) Z.g_ring_of (fa_cons (fe_pv 0) (fa_cons (fe_pv 1) (fa_cons (fe_pv 2) fa_nil)))) (pt_tup rfl rfl (Fn.pts_cons (pt_name (i := 4) sc_rounds_done.nd rfl (by first | exact Or.inl rfl | exact Or.inr rfl)) (Fn.pts_cons (pt_name (i := 5) sc_rounds_done.nd rfl (by first | exact Or.inl rfl | exact Or.inr rfl)) Fn.pts_nil))))
    (fs_cons (fs_if (ft_cmp U.u_lt s_lt (fe_pv 3) (fe_callB s_len (U.c_lenK K rfl) (by rfl) Z.n_len (by decide +kernel) (fa_cons (fe_pv 4) fa_nil)) (L2.nomark _)) (fs_one (fs_ret (fe_ix rfl (fe_pv 4) (fe_pv 3))))
    fs_nil)
    (fs_one (fs_ret (fe_ix rfl (fe_pv 5) (fe_mod (fe_sub (fe_pv 3) (fe_callB s_len (U.c_lenK K rfl) (by rfl) Z.n_len (by decide +kernel) (fa_cons (fe_pv 4) fa_nil))) (fe_callB s_len (U.c_lenK K rfl) (by rfl) Z.n_len (by decide +kernel) (fa_cons (fe_pv 5) fa_nil))))))))
abbrev N_entry_done : List Str := ["tree", "word", "entry"]
theorem sc_entry_done : FnScope N_entry_done ["tree", "word", "entry"] (L2.defScope s_entry_done) := ⟨rfl, rfl, rfl, by decide +kernel, rfl, by decide +kernel, by decide +kernel⟩
theorem ok_entry_done (Z : Vw K mg) : U.Df P w K mg base 7 (He.ga K "entry_done") ["tree", "word", "entry"] (spG K 3 g_entry_done) := by
  refine df_g Z.d_entry_done sc_entry_done (by decide) fun cdv A outer s H E hr tk po => ?_
  exact (fs_cons (fs_if (ft_cmp (c_eq rfl hr.units65) s_eq (fe_ix rfl (fe_pv 2) fe_int) fe_str (L2.nomark _)) (fs_one (fs_ret (fe_call tk rfl (fun _ => .nil) (ok_deed_done Z) Z.b_deed_done hr (by decide) (by rfl) Z.g_deed_done (fa_cons (fe_pv 0) (fa_cons (fe_pv 1) (fa_cons (fe_ix rfl (fe_pv 2) fe_int) fa_nil))))))
    fs_nil)
    (fs_one (fs_ret (fe_callK tk rfl (ok_rounds_done Z) Z.bk_rounds_done hr (by decide) (by rfl) Z.g_rounds_done rfl (fa_cons (fe_pv 0) (fa_cons (fe_pv 1) (fa_cons (fe_callTy s_list (U.c_listK K rfl) (by rfl) Z.n_list (by decide +kernel) (fa_cons (fe_ix rfl (fe_pv 2) fe_int) fa_nil)) fa_nil))) (fk_cons (fe_ix rfl (fe_pv 2) fe_int) fk_nil)))))
abbrev N_House_keep : List Str := ["self", "entry"]
theorem sc_House_keep : FnScope N_House_keep ["self", "entry"] (L2.defScope s_House_keep) := ⟨rfl, rfl, rfl, by decide +kernel, rfl, by decide +kernel, by decide +kernel⟩
theorem ok_House_keep (Z : Vw K mg) : U.Df P w K mg base 8 (He.ma K (He.ga K "House") "keep") ["self", "entry"] (spG K 2 g_House_keep) := by
  refine df_g Z.d_House_keep sc_House_keep (by decide) fun cdv A outer s H E hr tk po => ?_
  exact (fs_cons (fs_expr (fe_met s_app rfl PySem.F.plainAttrs_list PySem.F.slot_list_append PySem.F.type_list_append U.m_append (fe_fld Z.cl_House Z.na_House_passed (fe_pv 0)) (fa_cons (fe_call tk rfl (fun _ => .nil) (ok_entry_done Z) Z.b_entry_done hr (by decide) (by rfl) Z.g_entry_done (fa_cons (fe_fld Z.cl_House Z.na_House_roots (fe_pv 0)) (fa_cons (fe_ix rfl (fe_fld Z.cl_House Z.na_House_passed (fe_pv 0)) (fe_neg fe_int)) (fa_cons (fe_pv 1) fa_nil)))) fa_nil)))
    (fs_one (fs_expr (fe_met s_app rfl PySem.F.plainAttrs_list PySem.F.slot_list_append PySem.F.type_list_append U.m_append (fe_fld Z.cl_House Z.na_House_kept (fe_pv 0)) (fa_cons (fe_pv 1) fa_nil)))))
abbrev N_House_need_room : List Str := ["self", "many"]
theorem sc_House_need_room : FnScope N_House_need_room ["self", "many"] (L2.defScope s_House_need_room) := ⟨rfl, rfl, rfl, by decide +kernel, rfl, by decide +kernel, by decide +kernel⟩
theorem ok_House_need_room (Z : Vw K mg) : U.Df P w K mg base 3 (He.ma K (He.ga K "House") "need_room") ["self", "many"] (spG K 2 g_House_need_room) := by
  refine df_g Z.d_House_need_room sc_House_need_room (by decide) fun cdv A outer s H E hr tk po => ?_
  exact (fs_one (fs_if (ft_cmp U.u_gt s_gt (fe_add (fe_callB s_len (U.c_lenK K rfl) (by rfl) Z.n_len (by decide +kernel) (fa_cons (fe_fld Z.cl_House Z.na_House_kept (fe_pv 0)) fa_nil)) (fe_pv 1)) (fe_constI rfl Z.i_MOST_ENTRIES) (L2.nomark _)) (fs_one fs_never)
    fs_nil))
abbrev N_House_deed : List Str := ["self", "place"]
theorem sc_House_deed : FnScope N_House_deed ["self", "place"] (L2.defScope s_House_deed) := ⟨rfl, rfl, rfl, by decide +kernel, rfl, by decide +kernel, by decide +kernel⟩
theorem ok_House_deed (Z : Vw K mg) : U.Df P w K mg base 9 (He.ma K (He.ga K "House") "deed") ["self", "place"] (spG K 2 g_House_deed) := by
  refine df_g Z.d_House_deed sc_House_deed (by decide) fun cdv A outer s H E hr tk po => ?_
  exact (fs_cons (fs_expr (fe_call tk rfl (fun _ => .nil) (ok_need_place Z) Z.b_need_place hr (by decide) (by rfl) Z.g_need_place (fa_cons (fe_fld Z.cl_House Z.na_House_roots (fe_pv 0)) (fa_cons (fe_pv 1) fa_nil))))
    (fs_cons (fs_expr (fe_meth tk rfl (fun _ => .nil) (fe_pv 0) Z.cl_House Z.m_House_need_room (ok_House_need_room Z) Z.b_House_need_room hr (by decide) (fa_cons fe_int fa_nil)))
    (fs_cons (fs_expr (fe_meth tk rfl (fun _ => .nil) (fe_pv 0) Z.cl_House Z.m_House_keep (ok_House_keep Z) Z.b_House_keep hr (by decide) (fa_cons (fe_tup (fa_cons fe_str (fa_cons (fe_pv 1) fa_nil))) fa_nil)))
    (fs_one (fs_ret (fe_ix rfl (fe_ix rfl (fe_fld Z.cl_House Z.na_House_passed (fe_pv 0)) (fe_neg fe_int)) (fe_pv 1)))))))
abbrev N_check_row : List Str := ["tree", "thing", "most", "at", "place"]
theorem sc_check_row : FnScope N_check_row ["tree", "thing", "most"] (L2.defScope s_check_row) := ⟨rfl, rfl, rfl, by decide +kernel, rfl, by decide +kernel, by decide +kernel⟩
theorem ok_check_row (Z : Vw K mg) : U.Df P w K mg base 3 (He.ga K "check_row") ["tree", "thing", "most"] (spG K 3 g_check_row) := by
  refine df_g Z.d_check_row sc_check_row (by decide) fun cdv A outer s H E hr tk po => ?_
  exact (fs_cons (fs_if (L2.PW.pt (ft_or (ft_not (ft_truth rfl (fe_isi .list rfl (by rfl) Z.n_isinstance (by decide +kernel) (fe_pv 1) (L2.pe_bltn (v := .ty "list") (by rfl) Z.n_list (by decide +kernel) rfl)))) (L2.pw_or1 (ft_cmp U.u_gt s_gt (fe_callB s_len (U.c_lenK K rfl) (by rfl) Z.n_len (by decide +kernel) (fa_cons (fe_pv 1) fa_nil)) (fe_pv 2) (L2.nomark _))))) (fs_one fs_never)
    fs_nil)
    (fs_one (fs_for (tid := false) po rfl (Fn.pi_enum rfl (by rfl) Z.n_enumerate (fa_cons (fe_pv 1) fa_nil)) (pt_tup rfl rfl (Fn.pts_cons (pt_name (i := 3) sc_check_row.nd rfl (by first | exact Or.inl rfl | exact Or.inr rfl)) (Fn.pts_cons (pt_name (i := 4) sc_check_row.nd rfl (by first | exact Or.inl rfl | exact Or.inr rfl)) Fn.pts_nil)))
    (fs_one (fs_if (ft_not (ft_truth rfl (fe_call tk rfl (fun _ => .nil) (ok_is_place Z) Z.b_is_place hr (by decide) (by rfl) Z.g_is_place (fa_cons (fe_pv 0) (fa_cons (fe_pv 4) fa_nil))))) (fs_one fs_never)
    fs_nil)))))
abbrev N_House_go : List Str := ["self", "row", "watch", "kept", "passed", "many", "fallen", "place"]
theorem sc_House_go : FnScope N_House_go ["self", "row", "watch"] (L2.defScope s_House_go) := ⟨rfl, rfl, rfl, by decide +kernel, rfl, by decide +kernel, by decide +kernel⟩
theorem ok_House_go (Z : Vw K mg) : U.Df P w K mg base 9 (He.ma K (He.ga K "House") "go") ["self", "row", "watch"] (spG K 3 g_House_go) := by
  refine df_g Z.d_House_go sc_House_go (by decide) fun cdv A outer s H E hr tk po => ?_
  exact (fs_cons (fs_expr (fe_call tk rfl (fun _ => .nil) (ok_check_row Z) Z.b_check_row hr (by decide) (by rfl) Z.g_check_row (fa_cons (fe_fld Z.cl_House Z.na_House_roots (fe_pv 0)) (fa_cons (fe_pv 1) (fa_cons (fe_constI rfl Z.i_MOST_ENTRIES) fa_nil)))))
    (fs_cons (fs_expr (fe_meth tk rfl (fun _ => .nil) (fe_pv 0) Z.cl_House Z.m_House_need_room (ok_House_need_room Z) Z.b_House_need_room hr (by decide) (fa_cons (fe_callB s_len (U.c_lenK K rfl) (by rfl) Z.n_len (by decide +kernel) (fa_cons (fe_pv 1) fa_nil)) fa_nil)))
    (fs_cons (fs_par (i := 3) (j := 4) rfl sc_House_go.nd rfl rfl (by decide) rfl rfl (fa_cons (fe_callTy s_list (U.c_listK K rfl) (by rfl) Z.n_list (by decide +kernel) (fa_cons (fe_fld Z.cl_House Z.na_House_kept (fe_pv 0)) fa_nil)) (fa_cons (fe_callTy s_list (U.c_listK K rfl) (by rfl) Z.n_list (by decide +kernel) (fa_cons (fe_fld Z.cl_House Z.na_House_passed (fe_pv 0)) fa_nil)) fa_nil)) (by rfl))
    (fs_cons (fs_set (i := 5) sc_House_go.nd rfl (by first | exact Or.inl rfl | exact Or.inr rfl) fe_int)
    (fs_cons (fs_set (i := 6) sc_House_go.nd rfl (by first | exact Or.inl rfl | exact Or.inr rfl) fe_bl)
    (fs_cons (fs_fld Z.cl_House Z.na_House_busy (fe_pv 0) fe_bl)
    (fs_cons (fs_fin (fs_cons (fs_for (tid := false) PassesOwn.never rfl (pi_its rfl (fe_callTy s_list (U.c_listK K rfl) (by rfl) Z.n_list (by decide +kernel) (fa_cons (fe_pv 1) fa_nil))) (pt_name (i := 7) sc_House_go.nd rfl (by first | exact Or.inl rfl | exact Or.inr rfl))
    (fs_cons (fs_expr (fe_meth U.takes_no rfl (fun _ => .nil) (fe_pv 0) Z.cl_House Z.m_House_keep (ok_House_keep Z) Z.b_House_keep hr (by decide) (fa_cons (fe_tup (fa_cons fe_str (fa_cons (fe_pv 7) fa_nil))) fa_nil)))
    (fs_one (fs_if (ft_cmp (c_ne rfl hr.units65) s_eq (fe_ix rfl (fe_fld Z.cl_House Z.na_House_passed (fe_pv 0)) (fe_neg fe_int)) (fe_ix rfl (fe_fld Z.cl_House Z.na_House_passed (fe_pv 0)) (fe_neg fe_int)) (L2.nomark _)) (fs_cons (fs_augI (i := 5) sc_House_go.nd rfl (by first | exact Or.inl rfl | exact Or.inr rfl) fe_int)
    (fs_one (fs_if (ft_cmp U.u_notN s_isN (fe_pv 2) fe_non (L2.nomark _)) (fs_one (fs_expr fe_never))
    fs_nil)))
    fs_nil))))
    (fs_one (fs_set (i := 6) sc_House_go.nd rfl (by first | exact Or.inl rfl | exact Or.inr rfl) fe_non)))
    (fs_cons (fs_fld Z.cl_House Z.na_House_busy (fe_pv 0) fe_bl)
    (fs_one (fs_if (ft_cmp U.u_notN s_isN (fe_pv 6) fe_non (L2.nomark _)) (fs_one fs_never)
    fs_nil))))
    (fs_one (fs_ret (fe_pv 5))))))))))
abbrev N_House_rounds : List Str := ["self", "row", "many"]
theorem sc_House_rounds : FnScope N_House_rounds ["self", "row", "many"] (L2.defScope s_House_rounds) := ⟨rfl, rfl, rfl, by decide +kernel, rfl, by decide +kernel, by decide +kernel⟩
theorem ok_House_rounds (Z : Vw K mg) : U.Df P w K mg base 9 (He.ma K (He.ga K "House") "rounds") ["self", "row", "many"] (spG K 3 g_House_rounds) := by
  refine df_g Z.d_House_rounds sc_House_rounds (by decide) fun cdv A outer s H E hr tk po => ?_
  exact (fs_cons (fs_expr (fe_call tk rfl (fun _ => .nil) (ok_check_row Z) Z.b_check_row hr (by decide) (by rfl) Z.g_check_row (fa_cons (fe_fld Z.cl_House Z.na_House_roots (fe_pv 0)) (fa_cons (fe_pv 1) (fa_cons (fe_constI rfl Z.i_MOST_IN_ROUND) fa_nil)))))
    (fs_cons (fs_if (L2.PW.pt (ft_or (ft_not (ft_truth rfl (fe_call tk rfl (fun _ => .nil) (ok_is_whole Z) Z.b_is_whole hr (by decide) (by rfl) Z.g_is_whole (fa_cons (fe_pv 2) fa_nil)))) (L2.pw_or1 (ft_not (ft_chain U.u_le U.u_le s_le s_le fe_int (fe_pv 2) (fe_constI rfl Z.i_MOST_ROUNDS)))))) (fs_one fs_never)
    fs_nil)
    (fs_cons (fs_expr (fe_meth tk rfl (fun _ => .nil) (fe_pv 0) Z.cl_House Z.m_House_need_room (ok_House_need_room Z) Z.b_House_need_room hr (by decide) (fa_cons fe_int fa_nil)))
    (fs_cons (fs_expr (fe_meth tk rfl (fun _ => .nil) (fe_pv 0) Z.cl_House Z.m_House_keep (ok_House_keep Z) Z.b_House_keep hr (by decide) (fa_cons (fe_tup (fa_cons fe_str (fa_cons (fe_callTy s_tuple (U.c_tupleK K rfl) (by rfl) Z.n_tuple (by decide +kernel) (fa_cons (fe_pv 1) fa_nil)) (fa_cons (fe_pv 2) fa_nil)))) fa_nil)))
    (fs_one (fs_ret (fe_ix rfl (fe_fld Z.cl_House Z.na_House_passed (fe_pv 0)) (fe_neg fe_int))))))))
abbrev N_House_word : List Str := ["self"]
theorem sc_House_word : FnScope N_House_word ["self"] (L2.defScope s_House_word) := ⟨rfl, rfl, rfl, by decide +kernel, rfl, by decide +kernel, by decide +kernel⟩
theorem ok_House_word (Z : Vw K mg) : U.Df P w K mg base 1 (He.ma K (He.ga K "House") "word") ["self"] (spG K 1 g_House_word) := by
  refine df_g Z.d_House_word sc_House_word (by decide) fun cdv A outer s H E hr tk po => ?_
  exact (fs_one (fs_ret (fe_ix rfl (fe_fld Z.cl_House Z.na_House_passed (fe_pv 0)) (fe_neg fe_int))))
abbrev N_is_letter : List Str := ["thing"]
theorem sc_is_letter : FnScope N_is_letter ["thing"] (L2.defScope s_is_letter) := ⟨rfl, rfl, rfl, by decide +kernel, rfl, by decide +kernel, by decide +kernel⟩
theorem ok_is_letter (Z : Vw K mg) : U.Df P w K mg base 1 (He.ga K "is_letter") ["thing"] (spG K 1 g_is_letter) := by
  refine df_g Z.d_is_letter sc_is_letter (by decide) fun cdv A outer s H E hr tk po => ?_
  exact (fs_one (fs_ret (fe_and (fe_isi .str rfl (by rfl) Z.n_isinstance (by decide +kernel) (fe_pv 0) (L2.pe_bltn (v := .ty "str") (by rfl) Z.n_str (by decide +kernel) rfl)) (fe_and (fe_cmp (c_eq rfl hr.units65) s_eq (fe_callB s_len (U.c_lenK K rfl) (by rfl) Z.n_len (by decide +kernel) (fa_cons (fe_pv 0) fa_nil)) fe_int (L2.nomark _)) (L2.pe_one (fe_cmp (U.u_inK K rfl hr.units65) s_in (fe_pv 0) (fe_constS rfl Z.t_SMALL) rfl))))))
abbrev N_is_word : List Str := ["tree", "thing", "sign"]
theorem sc_is_word : FnScope N_is_word ["tree", "thing"] (L2.defScope s_is_word) := ⟨rfl, rfl, rfl, by decide +kernel, rfl, by decide +kernel, by decide +kernel⟩
theorem ok_is_word (Z : Vw K mg) : U.Df P w K mg base 2 (He.ga K "is_word") ["tree", "thing"] (spG K 2 g_is_word) := by
  refine df_g Z.d_is_word sc_is_word (by decide) fun cdv A outer s H E hr tk po => ?_
  exact (fs_one (fs_ret (fe_and (fe_isi .str rfl (by rfl) Z.n_isinstance (by decide +kernel) (fe_pv 1) (L2.pe_bltn (v := .ty "str") (by rfl) Z.n_str (by decide +kernel) rfl)) (fe_and (fe_cmp (c_eq rfl hr.units65) s_eq (fe_callB s_len (U.c_lenK K rfl) (by rfl) Z.n_len (by decide +kernel) (fa_cons (fe_pv 1) fa_nil)) (fe_callB s_len (U.c_lenK K rfl) (by rfl) Z.n_len (by decide +kernel) (fa_cons (fe_pv 0) fa_nil)) (L2.nomark _)) (L2.pe_one (fe_callB s_all (U.c_allK K rfl rfl) (by rfl) Z.n_all (by decide +kernel) (fa_cons (fe_lc finP_ok (own := [("sign", 2)]) (by decide) rfl sc_is_word.nd (pi_its rfl (fe_pv 1)) (L2.blkOk_by (own := [("sign", 2)]) (N := N_is_word) (sc := L2.defScope s_is_word) (by decide +kernel)) (fun _ _ _ _ _ => (pt_name (i := 2) sc_is_word.nd rfl (by first | exact Or.inl rfl | exact Or.inr rfl))) (fun _ _ _ _ _ => fts_nil) (fun _ _ _ _ _ => (fe_call U.takes_no rfl (fun _ => .nil) (ok_is_letter Z) Z.b_is_letter hr (by decide) (by rfl) Z.g_is_letter (fa_cons (fe_pv 2) fa_nil)))) fa_nil)))))))
abbrev N_may_stand : List Str := ["place", "thing"]
theorem sc_may_stand : FnScope N_may_stand ["place", "thing"] (L2.defScope s_may_stand) := ⟨rfl, rfl, rfl, by decide +kernel, rfl, by decide +kernel, by decide +kernel⟩
theorem ok_may_stand (Z : Vw K mg) : U.Df P w K mg base 2 (He.ga K "may_stand") ["place", "thing"] (spG K 2 g_may_stand) := by
  refine df_g Z.d_may_stand sc_may_stand (by decide) fun cdv A outer s H E hr tk po => ?_
  exact (fs_cons (fs_if (ft_cmp (c_eq rfl hr.units65) s_eq (fe_pv 0) fe_int (L2.nomark _)) (fs_one (fs_ret (fe_cmp U.u_isN s_isN (fe_pv 1) fe_non (L2.nomark _))))
    fs_nil)
    (fs_one (fs_ret (fe_and (fe_call tk rfl (fun _ => .nil) (ok_is_whole Z) Z.b_is_whole hr (by decide) (by rfl) Z.g_is_whole (fa_cons (fe_pv 1) fa_nil)) (L2.pe_one (fe_chain U.u_le U.u_lt s_le s_lt fe_int (fe_pv 1) (fe_pv 0)))))))
abbrev N_first_wrong : List Str := ["things", "place", "thing"]
theorem sc_first_wrong : FnScope N_first_wrong ["things"] (L2.defScope s_first_wrong) := ⟨rfl, rfl, rfl, by decide +kernel, rfl, by decide +kernel, by decide +kernel⟩
theorem ok_first_wrong (Z : Vw K mg) : U.Df P w K mg base 3 (He.ga K "first_wrong") ["things"] (spG K 1 g_first_wrong) := by
  refine df_g Z.d_first_wrong sc_first_wrong (by decide) fun cdv A outer s H E hr tk po => ?_
  exact (fs_cons (fs_for (tid := false) po rfl (Fn.pi_enum rfl (by rfl) Z.n_enumerate (fa_cons (fe_pv 0) fa_nil)) (pt_tup rfl rfl (Fn.pts_cons (pt_name (i := 1) sc_first_wrong.nd rfl (by first | exact Or.inl rfl | exact Or.inr rfl)) (Fn.pts_cons (pt_name (i := 2) sc_first_wrong.nd rfl (by first | exact Or.inl rfl | exact Or.inr rfl)) Fn.pts_nil)))
    (fs_one (fs_if (L2.PW.pt (ft_or (ft_cmp (c_eq rfl hr.units65) s_eq (fe_pv 1) (fe_constI rfl Z.i_MOST_PLACES) (L2.nomark _)) (L2.pw_or1 (ft_not (ft_truth rfl (fe_call tk rfl (fun _ => .nil) (ok_may_stand Z) Z.b_may_stand hr (by decide) (by rfl) Z.g_may_stand (fa_cons (fe_pv 1) (fa_cons (fe_pv 2) fa_nil)))))))) (fs_one (fs_ret (fe_pv 1)))
    fs_nil)))
    (fs_one (fs_ret fe_non)))
abbrev N_tree_of : List Str := ["parents", "wrong"]
theorem sc_tree_of : FnScope N_tree_of ["parents"] (L2.defScope s_tree_of) := ⟨rfl, rfl, rfl, by decide +kernel, rfl, by decide +kernel, by decide +kernel⟩
theorem ok_tree_of (Z : Vw K mg) : U.Df P w K mg base 4 (He.ga K "tree_of") ["parents"] (spG K 1 g_tree_of) := by
  refine df_g Z.d_tree_of sc_tree_of (by decide) fun cdv A outer s H E hr tk po => ?_
  exact (fs_cons (fs_if (L2.PW.pt (ft_or (ft_not (ft_truth rfl (fe_isiLT rfl (by rfl) Z.n_isinstance (by decide +kernel) (fe_pv 0) (U.pe_tup (L2.pa_cons (L2.pe_bltn (v := .ty "list") (by rfl) Z.n_list (by decide +kernel) rfl) (L2.pa_cons (L2.pe_bltn (v := .ty "tuple") (by rfl) Z.n_tuple (by decide +kernel) rfl) L2.pa_nil)))))) (L2.pw_or1 (ft_cmp (c_eq rfl hr.units65) s_eq (fe_callB s_len (U.c_lenK K rfl) (by rfl) Z.n_len (by decide +kernel) (fa_cons (fe_pv 0) fa_nil)) fe_int (L2.nomark _))))) (fs_one fs_never)
    fs_nil)
    (fs_cons (fs_set (i := 1) sc_tree_of.nd rfl (by first | exact Or.inl rfl | exact Or.inr rfl) (fe_call tk rfl (fun _ => .nil) (ok_first_wrong Z) Z.b_first_wrong hr (by decide) (by rfl) Z.g_first_wrong (fa_cons (fe_pv 0) fa_nil)))
    (fs_cons (fs_if (ft_cmp U.u_notN s_isN (fe_pv 1) fe_non (L2.nomark _)) (fs_one fs_never)
    fs_nil)
    (fs_one (fs_ret (fe_callTy s_tuple (U.c_tupleK K rfl) (by rfl) Z.n_tuple (by decide +kernel) (fa_cons (fe_pv 0) fa_nil)))))))
abbrev N_House_init : List Str := ["self", "tree", "word"]
theorem sc_House_init : FnScope N_House_init ["self", "tree", "word"] (L2.defScope s_House_init) := ⟨rfl, rfl, rfl, by decide +kernel, rfl, by decide +kernel, by decide +kernel⟩
theorem ok_House_init (Z : Vw K mg) : U.Df P w K mg base 5 (He.ma K (He.ga K "House") "__init__") ["self", "tree", "word"] (spG K 3 g_House_init) := by
  refine df_g Z.d_House_init sc_House_init (by decide) fun cdv A outer s H E hr tk po => ?_
  exact (fs_cons (fs_fld Z.cl_House Z.na_House_roots (fe_pv 0) (fe_call tk rfl (fun _ => .nil) (ok_tree_of Z) Z.b_tree_of hr (by decide) (by rfl) Z.g_tree_of (fa_cons (fe_pv 1) fa_nil)))
    (fs_cons (fs_if (ft_not (ft_truth rfl (fe_call tk rfl (fun _ => .nil) (ok_is_word Z) Z.b_is_word hr (by decide) (by rfl) Z.g_is_word (fa_cons (fe_fld Z.cl_House Z.na_House_roots (fe_pv 0)) (fa_cons (fe_pv 2) fa_nil))))) (fs_one fs_never)
    fs_nil)
    (fs_cons (fs_fld Z.cl_House Z.na_House_kept (fe_pv 0) (fe_lstC fa_nil))
    (fs_cons (fs_fld Z.cl_House Z.na_House_passed (fe_pv 0) (fe_lstC (fa_cons (fe_pv 2) fa_nil)))
    (fs_one (fs_fld Z.cl_House Z.na_House_busy (fe_pv 0) fe_bl))))))
abbrev N_House_len : List Str := ["self"]
theorem sc_House_len : FnScope N_House_len ["self"] (L2.defScope s_House_len) := ⟨rfl, rfl, rfl, by decide +kernel, rfl, by decide +kernel, by decide +kernel⟩
theorem ok_House_len (Z : Vw K mg) : U.Df P w K mg base 1 (He.ma K (He.ga K "House") "__len__") ["self"] (spG K 1 g_House_len) := by
  refine df_g Z.d_House_len sc_House_len (by decide) fun cdv A outer s H E hr tk po => ?_
  exact (fs_one (fs_ret (fe_callB s_len (U.c_lenK K rfl) (by rfl) Z.n_len (by decide +kernel) (fa_cons (fe_fld Z.cl_House Z.na_House_kept (fe_pv 0)) fa_nil))))
abbrev N_law_ups : List Str := ["trunk", "nook", "found"]
theorem sc_law_ups : FnScope N_law_ups ["trunk", "nook"] (L2.defScope s_law_ups) := ⟨rfl, rfl, rfl, by decide +kernel, rfl, by decide +kernel, by decide +kernel⟩
theorem ok_law_ups (Z : Vw K mg) : U.Df P w K mg base 1 (He.ga K "_law_ups") ["trunk", "nook"] (spG K 2 g_law_ups) := by
  refine df_g Z.d_law_ups sc_law_ups (by decide) fun cdv A outer s H E hr tk po => ?_
  exact (fs_cons (fs_set (i := 2) sc_law_ups.nd rfl (by first | exact Or.inl rfl | exact Or.inr rfl) (fe_lstC fa_nil))
    (fs_cons (fs_while (tid := false) po (ft_cmp U.u_notN s_isN (fe_ix rfl (fe_pv 0) (fe_pv 1)) fe_non (L2.nomark _))
    (fs_cons (fs_set (i := 1) sc_law_ups.nd rfl (by first | exact Or.inl rfl | exact Or.inr rfl) (fe_ix rfl (fe_pv 0) (fe_pv 1)))
    (fs_one (fs_expr (fe_met s_app rfl PySem.F.plainAttrs_list PySem.F.slot_list_append PySem.F.type_list_append U.m_append (fe_pv 2) (fa_cons (fe_pv 1) fa_nil))))))
    (fs_one (fs_ret (fe_frz (fe_pv 2))))))
abbrev N_law_deed : List Str := ["trunk", "spell", "nook", "other"]
theorem sc_law_deed : FnScope N_law_deed ["trunk", "spell", "nook"] (L2.defScope s_law_deed) := ⟨rfl, rfl, rfl, by decide +kernel, rfl, by decide +kernel, by decide +kernel⟩
theorem ok_law_deed (Z : Vw K mg) : U.Df P w K mg base 2 (He.ga K "_law_deed") ["trunk", "spell", "nook"] (spG K 3 g_law_deed) := by
  refine df_g Z.d_law_deed sc_law_deed (by decide) fun cdv A outer s H E hr tk po => ?_
  exact (fs_cons (fs_for (tid := false) po rfl (pi_its rfl (fe_call tk rfl (fun _ => .nil) (ok_law_ups Z) Z.b_law_ups hr (by decide) (by rfl) Z.g_law_ups (fa_cons (fe_pv 0) (fa_cons (fe_pv 2) fa_nil)))) (pt_name (i := 3) sc_law_deed.nd rfl (by first | exact Or.inl rfl | exact Or.inr rfl))
    (fs_one (fs_if (ft_cmp (c_ne rfl hr.units65) s_eq (fe_ix rfl (fe_pv 1) (fe_pv 3)) (fe_ix rfl (fe_pv 1) (fe_pv 2)) (L2.nomark _)) (fs_one (fs_ret (fe_add (fe_add (fe_slice rfl (fe_pv 1) fo_none (fo_some (fe_pv 2))) (fe_ix rfl (fe_pv 1) (fe_pv 3))) (fe_slice rfl (fe_pv 1) (fo_some (fe_add (fe_pv 2) fe_int)) fo_none))))
    fs_nil)))
    (fs_one (fs_ret (fe_pv 1))))
abbrev N_law_far : List Str := ["trunk", "spell", "road", "often", "met", "later", "nook", "start"]
theorem sc_law_far : FnScope N_law_far ["trunk", "spell", "road", "often"] (L2.defScope s_law_far) := ⟨rfl, rfl, rfl, by decide +kernel, rfl, by decide +kernel, by decide +kernel⟩
theorem ok_law_far (Z : Vw K mg) : U.Df P w K mg base 3 (He.ga K "_law_far") ["trunk", "spell", "road", "often"] (spG K 4 g_law_far) := by
  refine df_g Z.d_law_far sc_law_far (by decide) fun cdv A outer s H E hr tk po => ?_
  exact (fs_cons (fs_set (i := 4) sc_law_far.nd rfl (by first | exact Or.inl rfl | exact Or.inr rfl) (fe_lstC (fa_cons (fe_pv 1) fa_nil)))
    (fs_cons (fs_while (tid := false) po (ft_cmp U.u_le s_le (fe_callB s_len (U.c_lenK K rfl) (by rfl) Z.n_len (by decide +kernel) (fa_cons (fe_pv 4) fa_nil)) (fe_pv 3) (L2.nomark _))
    (fs_cons (fs_set (i := 5) sc_law_far.nd rfl (by first | exact Or.inl rfl | exact Or.inr rfl) (fe_ix rfl (fe_pv 4) (fe_neg fe_int)))
    (fs_cons (fs_for (tid := false) po rfl (pi_its rfl (fe_pv 2)) (pt_name (i := 6) sc_law_far.nd rfl (by first | exact Or.inl rfl | exact Or.inr rfl))
    (fs_one (fs_set (i := 5) sc_law_far.nd rfl (by first | exact Or.inl rfl | exact Or.inr rfl) (fe_call tk rfl (fun _ => .nil) (ok_law_deed Z) Z.b_law_deed hr (by decide) (by rfl) Z.g_law_deed (fa_cons (fe_pv 0) (fa_cons (fe_pv 5) (fa_cons (fe_pv 6) fa_nil)))))))
    (fs_cons (fs_if (ft_cmp (U.u_inK K rfl hr.units65) s_in (fe_pv 5) (fe_pv 4) rfl) (fs_cons (fs_set (i := 7) sc_law_far.nd rfl (by first | exact Or.inl rfl | exact Or.inr rfl) (fe_met s_ind rfl PySem.F.plainAttrs_list PySem.F.slot_list_index PySem.F.type_list_index (U.m_indexK K rfl hr.units65) (fe_pv 4) (fa_cons (fe_pv 5) fa_nil)))
    (fs_one (fs_ret (fe_ix rfl (fe_pv 4) (fe_add (fe_pv 7) (fe_mod (fe_sub (fe_pv 3) (fe_pv 7)) (fe_sub (fe_callB s_len (U.c_lenK K rfl) (by rfl) Z.n_len (by decide +kernel) (fa_cons (fe_pv 4) fa_nil)) (fe_pv 7))))))))
    fs_nil)
    (fs_one (fs_expr (fe_met s_app rfl PySem.F.plainAttrs_list PySem.F.slot_list_append PySem.F.type_list_append U.m_append (fe_pv 4) (fa_cons (fe_pv 5) fa_nil))))))))
    (fs_one (fs_ret (fe_ix rfl (fe_pv 4) (fe_pv 3))))))
abbrev N_law_behind : List Str := ["trunk", "spell", "rows_so", "entry"]
theorem sc_law_behind : FnScope N_law_behind ["trunk", "spell", "rows_so"] (L2.defScope s_law_behind) := ⟨rfl, rfl, rfl, by decide +kernel, rfl, by decide +kernel, by decide +kernel⟩
theorem ok_law_behind (Z : Vw K mg) : U.Df P w K mg base 4 (He.ga K "_law_behind") ["trunk", "spell", "rows_so"] (spG K 3 g_law_behind) := by
  refine df_g Z.d_law_behind sc_law_behind (by decide) fun cdv A outer s H E hr tk po => ?_
  exact (fs_cons (fs_for (tid := false) po rfl (pi_its rfl (fe_pv 2)) (pt_name (i := 3) sc_law_behind.nd rfl (by first | exact Or.inl rfl | exact Or.inr rfl))
    (fs_one (fs_if (ft_cmp (c_eq rfl hr.units65) s_eq (fe_ix rfl (fe_pv 3) fe_int) fe_str (L2.nomark _)) (fs_one (fs_set (i := 1) sc_law_behind.nd rfl (by first | exact Or.inl rfl | exact Or.inr rfl) (fe_call tk rfl (fun _ => .nil) (ok_law_deed Z) Z.b_law_deed hr (by decide) (by rfl) Z.g_law_deed (fa_cons (fe_pv 0) (fa_cons (fe_pv 1) (fa_cons (fe_ix rfl (fe_pv 3) fe_int) fa_nil))))))
    (fs_one (fs_set (i := 1) sc_law_behind.nd rfl (by first | exact Or.inl rfl | exact Or.inr rfl) (fe_call tk rfl (fun _ => .nil) (ok_law_far Z) Z.b_law_far hr (by decide) (by rfl) Z.g_law_far (fa_cons (fe_pv 0) (fa_cons (fe_pv 1) (fa_cons (fe_ix rfl (fe_pv 3) fe_int) (fa_cons (fe_ix rfl (fe_pv 3) fe_int) fa_nil))))))))))
    (fs_one (fs_ret (fe_pv 1))))
abbrev N_law_draw : List Str := ["pen", "size", "digit", "spot", "cell", "whole", "first", "second"]
theorem sc_law_draw : FnScope N_law_draw ["pen", "size"] (L2.defScope s_law_draw) := ⟨rfl, rfl, rfl, by decide +kernel, rfl, by decide +kernel, by decide +kernel⟩
theorem ok_law_draw (Z : Vw K mg) : U.Df P w K mg base 1 (He.ga K "_law_draw") ["pen", "size"] (spG K 2 g_law_draw) := by
  refine df_g Z.d_law_draw sc_law_draw (by decide) fun cdv A outer s H E hr tk po => ?_
  exact (fs_cons (fs_if (ft_cmp U.u_gt s_gt (fe_ix rfl (fe_pv 0) fe_int) fe_int (L2.nomark _)) (fs_cons (fs_set (i := 2) sc_law_draw.nd rfl (by first | exact Or.inl rfl | exact Or.inr rfl) (fe_mod (fe_ix rfl (fe_pv 0) fe_int) (fe_pv 1)))
    (fs_cons (fs_setIx (fe_fdiv (fe_ix rfl (fe_pv 0) fe_int) (fe_pv 1)) (fe_pv 0) fe_int)
    (fs_one (fs_ret (fe_pv 2)))))
    fs_nil)
    (fs_cons (fs_set (i := 3) sc_law_draw.nd rfl (by first | exact Or.inl rfl | exact Or.inr rfl) (fe_ix rfl (fe_pv 0) fe_int))
    (fs_cons (fs_setIx (fe_add (fe_pv 3) fe_int) (fe_pv 0) fe_int)
    (fs_cons (fs_set (i := 4) sc_law_draw.nd rfl (by first | exact Or.inl rfl | exact Or.inr rfl) (fe_add (fe_mul fe_int (fe_pv 3)) fe_int))
    (fs_cons (fs_if (ft_cmp (c_ne rfl hr.units65) s_eq (fe_ix rfl (fe_pv 0) fe_int) (fe_lst fa_nil) (L2.nomark _)) (fs_one (fs_set (i := 4) sc_law_draw.nd rfl (by first | exact Or.inl rfl | exact Or.inr rfl) (fe_ix rfl (fe_ix rfl (fe_pv 0) fe_int) (fe_mod (fe_pv 3) (fe_callB s_len (U.c_lenK K rfl) (by rfl) Z.n_len (by decide +kernel) (fa_cons (fe_ix rfl (fe_pv 0) fe_int) fa_nil))))))
    fs_nil)
    (fs_cons (fs_if (L2.PW.pt (ft_and (ft_cmp U.u_lt s_lt (fe_pv 3) (fe_callB s_len (U.c_lenK K rfl) (by rfl) Z.n_len (by decide +kernel) (fa_cons (fe_ix rfl (fe_pv 0) fe_int) fa_nil)) (L2.nomark _)) (L2.pw_and1 (ft_cmp U.u_ge s_ge (fe_callB s_abs U.c_abs (by rfl) Z.n_abs (by decide +kernel) (fa_cons (fe_pv 4) fa_nil)) (fe_pow fe_int fe_int) (L2.nomark _))))) (fs_cons (fs_set (i := 5) sc_law_draw.nd rfl (by first | exact Or.inl rfl | exact Or.inr rfl) (fe_add (fe_mul fe_int (fe_callB s_abs U.c_abs (by rfl) Z.n_abs (by decide +kernel) (fa_cons (fe_pv 4) fa_nil))) (fe_callTy s_int U.c_int (by rfl) Z.n_int (by decide +kernel) (fa_cons (fe_cmp U.u_lt s_lt (fe_pv 4) fe_int (L2.nomark _)) fa_nil))))
    (fs_cons (fs_setIx (fe_fdiv (fe_pv 5) (fe_pv 1)) (fe_pv 0) fe_int)
    (fs_one (fs_ret (fe_mod (fe_pv 5) (fe_pv 1))))))
    fs_nil)
    (fs_cons (fs_set (i := 6) sc_law_draw.nd rfl (by first | exact Or.inl rfl | exact Or.inr rfl) (fe_mod (fe_pow (fe_add (fe_add (fe_mod (fe_pv 4) fe_int) (fe_mul fe_int (fe_pv 3))) fe_int) fe_int) fe_int))
    (fs_cons (fs_set (i := 7) sc_law_draw.nd rfl (by first | exact Or.inl rfl | exact Or.inr rfl) (fe_mod (fe_pow (fe_add (fe_mul (fe_pv 6) (fe_add (fe_mul fe_int (fe_pv 3)) fe_int)) (fe_mul (fe_mul fe_int (fe_pv 3)) (fe_pv 3))) fe_int) fe_int))
    (fs_one (fs_ret (fe_mod (fe_fdiv (fe_pv 7) fe_int) (fe_pv 1))))))))))))
abbrev N_law_often : List Str := ["pen"]
theorem sc_law_often : FnScope N_law_often ["pen"] (L2.defScope s_law_often) := ⟨rfl, rfl, rfl, by decide +kernel, rfl, by decide +kernel, by decide +kernel⟩
theorem ok_law_often (Z : Vw K mg) : U.Df P w K mg base 2 (He.ga K "_law_often") ["pen"] (spG K 1 g_law_often) := by
  refine df_g Z.d_law_often sc_law_often (by decide) fun cdv A outer s H E hr tk po => ?_
  exact (fs_one (fs_ret (fe_ix rfl (fe_lst (fa_cons fe_int (fa_cons fe_int (fa_cons (fe_call tk rfl (fun _ => .nil) (ok_law_draw Z) Z.b_law_draw hr (by decide) (by rfl) Z.g_law_draw (fa_cons (fe_pv 0) (fa_cons fe_int fa_nil))) (fa_cons (fe_sub (fe_pow fe_int fe_int) (fe_call tk rfl (fun _ => .nil) (ok_law_draw Z) Z.b_law_draw hr (by decide) (by rfl) Z.g_law_draw (fa_cons (fe_pv 0) (fa_cons fe_int fa_nil)))) (fa_cons (fe_call tk rfl (fun _ => .nil) (ok_law_draw Z) Z.b_law_draw hr (by decide) (by rfl) Z.g_law_draw (fa_cons (fe_pv 0) (fa_cons (fe_pow fe_int fe_int) fa_nil))) fa_nil)))))) (fe_call tk rfl (fun _ => .nil) (ok_law_draw Z) Z.b_law_draw hr (by decide) (by rfl) Z.g_law_draw (fa_cons (fe_pv 0) (fa_cons fe_int fa_nil))))))
abbrev N_law_parts : List Str := ["pen", "often", "first"]
theorem sc_law_parts : FnScope N_law_parts ["pen", "often"] (L2.defScope s_law_parts) := ⟨rfl, rfl, rfl, by decide +kernel, rfl, by decide +kernel, by decide +kernel⟩
theorem ok_law_parts (Z : Vw K mg) : U.Df P w K mg base 2 (He.ga K "_law_parts") ["pen", "often"] (spG K 2 g_law_parts) := by
  refine df_g Z.d_law_parts sc_law_parts (by decide) fun cdv A outer s H E hr tk po => ?_
  exact (fs_cons (fs_set (i := 2) sc_law_parts.nd rfl (by first | exact Or.inl rfl | exact Or.inr rfl) (fe_fdiv (fe_mul (fe_call tk rfl (fun _ => .nil) (ok_law_draw Z) Z.b_law_draw hr (by decide) (by rfl) Z.g_law_draw (fa_cons (fe_pv 0) (fa_cons (fe_pow fe_int fe_int) fa_nil))) (fe_pv 1)) (fe_pow fe_int fe_int)))
    (fs_one (fs_ret (fe_tup (fa_cons (fe_pv 2) (fa_cons (fe_sub (fe_pv 1) (fe_pv 2)) fa_nil))))))
abbrev N_law_pen : List Str := ["script"]
theorem sc_law_pen : FnScope N_law_pen ["script"] (L2.defScope s_law_pen) := ⟨rfl, rfl, rfl, by decide +kernel, rfl, by decide +kernel, by decide +kernel⟩
theorem ok_law_pen (Z : Vw K mg) : U.Df P w K mg base 1 (He.ga K "_law_pen") ["script"] (spG K 1 g_law_pen) := by
  refine df_g Z.d_law_pen sc_law_pen (by decide) fun cdv A outer s H E hr tk po => ?_
  exact (fs_one (fs_ret (fe_lstC (fa_cons (fe_slice rfl (fe_pv 0) fo_none (fo_some fe_int)) (fa_cons fe_int (fa_cons fe_int fa_nil))))))
abbrev N_law_road : List Str := ["pen", "trunk", "most", "size", "road", "k"]
theorem sc_law_road : FnScope N_law_road ["pen", "trunk", "most"] (L2.defScope s_law_road) := ⟨rfl, rfl, rfl, by decide +kernel, rfl, by decide +kernel, by decide +kernel⟩
theorem ok_law_road (Z : Vw K mg) : U.Df P w K mg base 2 (He.ga K "_law_road") ["pen", "trunk", "most"] (spG K 3 g_law_road) := by
  refine df_g Z.d_law_road sc_law_road (by decide) fun cdv A outer s H E hr tk po => ?_
  exact (fs_cons (fs_set (i := 3) sc_law_road.nd rfl (by first | exact Or.inl rfl | exact Or.inr rfl) (fe_callB s_len (U.c_lenK K rfl) (by rfl) Z.n_len (by decide +kernel) (fa_cons (fe_pv 1) fa_nil)))
    (fs_cons (fs_set (i := 4) sc_law_road.nd rfl (by first | exact Or.inl rfl | exact Or.inr rfl) (fe_lstC fa_nil))
    (fs_cons (fs_for (tid := false) po rfl (Fn.pi_rng1 (by rfl) Z.n_range (fa_cons (fe_call tk rfl (fun _ => .nil) (ok_law_draw Z) Z.b_law_draw hr (by decide) (by rfl) Z.g_law_draw (fa_cons (fe_pv 0) (fa_cons (fe_add (fe_pv 2) fe_int) fa_nil))) fa_nil)) (pt_name (i := 5) sc_law_road.nd rfl (by first | exact Or.inl rfl | exact Or.inr rfl))
    (fs_one (fs_expr (fe_met s_app rfl PySem.F.plainAttrs_list PySem.F.slot_list_append PySem.F.type_list_append U.m_append (fe_pv 4) (fa_cons (fe_callB s_max (U.c_max rfl) (by rfl) Z.n_max (by decide +kernel) (fa_cons (fe_call tk rfl (fun _ => .nil) (ok_law_draw Z) Z.b_law_draw hr (by decide) (by rfl) Z.g_law_draw (fa_cons (fe_pv 0) (fa_cons (fe_pv 3) fa_nil))) (fa_cons (fe_call tk rfl (fun _ => .nil) (ok_law_draw Z) Z.b_law_draw hr (by decide) (by rfl) Z.g_law_draw (fa_cons (fe_pv 0) (fa_cons (fe_pv 3) fa_nil))) fa_nil))) fa_nil)))))
    (fs_one (fs_ret (fe_pv 4))))))
abbrev N_law_spell : List Str := ["pen", "trunk", "abc", "way", "leap", "first", "k", "start", "some"]
theorem sc_law_spell : FnScope N_law_spell ["pen", "trunk"] (L2.defScope s_law_spell) := ⟨rfl, rfl, rfl, by decide +kernel, rfl, by decide +kernel, by decide +kernel⟩
theorem ok_law_spell (Z : Vw K mg) : U.Df P w K mg base 2 (He.ga K "_law_spell") ["pen", "trunk"] (spG K 2 g_law_spell) := by
  refine df_g Z.d_law_spell sc_law_spell (by decide) fun cdv A outer s H E hr tk po => ?_
  exact (fs_cons (fs_set (i := 2) sc_law_spell.nd rfl (by first | exact Or.inl rfl | exact Or.inr rfl) fe_str)
    (fs_cons (fs_set (i := 3) sc_law_spell.nd rfl (by first | exact Or.inl rfl | exact Or.inr rfl) (fe_call tk rfl (fun _ => .nil) (ok_law_draw Z) Z.b_law_draw hr (by decide) (by rfl) Z.g_law_draw (fa_cons (fe_pv 0) (fa_cons fe_int fa_nil))))
    (fs_cons (fs_if (ft_cmp (c_eq rfl hr.units65) s_eq (fe_pv 3) fe_int (L2.nomark _)) (fs_cons (fs_set (i := 4) sc_law_spell.nd rfl (by first | exact Or.inl rfl | exact Or.inr rfl) (fe_ix rfl (fe_lst (fa_cons fe_int (fa_cons fe_int (fa_cons fe_int (fa_cons fe_int (fa_cons fe_int (fa_cons fe_int fa_nil))))))) (fe_call tk rfl (fun _ => .nil) (ok_law_draw Z) Z.b_law_draw hr (by decide) (by rfl) Z.g_law_draw (fa_cons (fe_pv 0) (fa_cons fe_int fa_nil)))))
    (fs_cons (fs_set (i := 5) sc_law_spell.nd rfl (by first | exact Or.inl rfl | exact Or.inr rfl) (fe_call tk rfl (fun _ => .nil) (ok_law_draw Z) Z.b_law_draw hr (by decide) (by rfl) Z.g_law_draw (fa_cons (fe_pv 0) (fa_cons fe_int fa_nil))))
    (fs_one (fs_ret (fe_met s_join rfl PySem.F.plainAttrs_str PySem.F.slot_str_join PySem.F.type_str_join (U.m_joinK K rfl) fe_str (fa_cons (fe_lc finP_ok (own := [("k", 6)]) (by decide) rfl sc_law_spell.nd (Fn.pi_rng1 (by rfl) Z.n_range (fa_cons (fe_callB s_len (U.c_lenK K rfl) (by rfl) Z.n_len (by decide +kernel) (fa_cons (fe_pv 1) fa_nil)) fa_nil)) (L2.blkOk_by (own := [("k", 6)]) (N := N_law_spell) (sc := L2.defScope s_law_spell) (by decide +kernel)) (fun _ _ _ _ _ => (pt_name (i := 6) sc_law_spell.nd rfl (by first | exact Or.inl rfl | exact Or.inr rfl))) (fun _ _ _ _ _ => fts_nil) (fun _ _ _ _ _ => (fe_ix rfl (fe_pv 2) (fe_mod (fe_add (fe_pv 5) (fe_mul (fe_pv 4) (fe_pv 6))) fe_int)))) fa_nil))))))
    fs_nil)
    (fs_cons (fs_set (i := 7) sc_law_spell.nd rfl (by first | exact Or.inl rfl | exact Or.inr rfl) (fe_call tk rfl (fun _ => .nil) (ok_law_draw Z) Z.b_law_draw hr (by decide) (by rfl) Z.g_law_draw (fa_cons (fe_pv 0) (fa_cons fe_int fa_nil))))
    (fs_cons (fs_set (i := 8) sc_law_spell.nd rfl (by first | exact Or.inl rfl | exact Or.inr rfl) (fe_ix rfl (fe_lst (fa_cons (fe_slice rfl (fe_pv 2) (fo_some (fe_pv 7)) (fo_some (fe_add (fe_pv 7) fe_int))) (fa_cons (fe_slice rfl (fe_pv 2) (fo_some (fe_pv 7)) (fo_some (fe_add (fe_pv 7) fe_int))) (fa_cons (fe_slice rfl (fe_pv 2) (fo_some (fe_pv 7)) (fo_some (fe_add (fe_pv 7) fe_int))) (fa_cons fe_str (fa_cons (fe_pv 2) fa_nil)))))) (fe_pv 3)))
    (fs_one (fs_ret (fe_met s_join rfl PySem.F.plainAttrs_str PySem.F.slot_str_join PySem.F.type_str_join (U.m_joinK K rfl) fe_str (fa_cons (fe_lc finP_ok (own := [("k", 6)]) (by decide) rfl sc_law_spell.nd (Fn.pi_rng1 (by rfl) Z.n_range (fa_cons (fe_callB s_len (U.c_lenK K rfl) (by rfl) Z.n_len (by decide +kernel) (fa_cons (fe_pv 1) fa_nil)) fa_nil)) (L2.blkOk_by (own := [("k", 6)]) (N := N_law_spell) (sc := L2.defScope s_law_spell) (by decide +kernel)) (fun _ _ _ _ _ => (pt_name (i := 6) sc_law_spell.nd rfl (by first | exact Or.inl rfl | exact Or.inr rfl))) (fun _ _ _ _ _ => fts_nil) (fun _ _ _ _ _ => (fe_ix rfl (fe_pv 8) (fe_call U.takes_no rfl (fun _ => .nil) (ok_law_draw Z) Z.b_law_draw hr (by decide) (by rfl) Z.g_law_draw (fa_cons (fe_pv 0) (fa_cons (fe_callB s_len (U.c_lenK K rfl) (by rfl) Z.n_len (by decide +kernel) (fa_cons (fe_pv 8) fa_nil)) fa_nil)))))) fa_nil)))))))))
abbrev N_told_entry : List Str := ["entry", "kind", "what", "rest"]
theorem sc_told_entry : FnScope N_told_entry ["entry"] (L2.defScope s_told_entry) := ⟨rfl, rfl, rfl, by decide +kernel, rfl, by decide +kernel, by decide +kernel⟩
theorem ok_told_entry (Z : Vw K mg) : U.Df P w K mg base 1 (He.ga K "told_entry") ["entry"] (spG K 1 g_told_entry) := by
  refine df_g Z.d_told_entry sc_told_entry (by decide) fun cdv A outer s H E hr tk po => ?_
  exact (fs_cons (fs_star (i := 2) rfl rfl (fe_pv 0) (Fn.pts_cons (pt_name (i := 1) sc_told_entry.nd rfl (by first | exact Or.inl rfl | exact Or.inr rfl)) (Fn.pts_cons (pt_name (i := 2) sc_told_entry.nd rfl (by first | exact Or.inl rfl | exact Or.inr rfl)) (pts_star (pt_name (i := 3) sc_told_entry.nd rfl (by first | exact Or.inl rfl | exact Or.inr rfl)) Fn.pts_nil))))
    (fs_one (fs_ret (fe_if (ft_cmp (c_eq rfl hr.units65) s_eq (fe_pv 1) fe_str (L2.nomark _)) (fe_tup (fa_cons (fe_pv 1) (fa_cons (fe_pv 2) fa_nil))) (fe_tup (fa_cons (fe_pv 1) (fa_cons (fe_callTy s_list (U.c_listK K rfl) (by rfl) Z.n_list (by decide +kernel) (fa_cons (fe_pv 2) fa_nil)) (fa_cons (fe_ix rfl (fe_pv 3) fe_int) fa_nil))))))))
abbrev N_House_entries : List Str := ["self", "entry"]
theorem sc_House_entries : FnScope N_House_entries ["self"] (L2.defScope s_House_entries) := ⟨rfl, rfl, rfl, by decide +kernel, rfl, by decide +kernel, by decide +kernel⟩
theorem ok_House_entries (Z : Vw K mg) : U.Df P w K mg base 2 (He.ma K (He.ga K "House") "entries") ["self"] (spG K 1 g_House_entries) := by
  refine df_g Z.d_House_entries sc_House_entries (by decide) fun cdv A outer s H E hr tk po => ?_
  exact (fs_one (fs_ret (fe_lc finP_ok (own := [("entry", 1)]) (by decide) rfl sc_House_entries.nd (pi_its rfl (fe_fld Z.cl_House Z.na_House_kept (fe_pv 0))) (L2.blkOk_by (own := [("entry", 1)]) (N := N_House_entries) (sc := L2.defScope s_House_entries) (by decide +kernel)) (fun _ _ _ _ _ => (pt_name (i := 1) sc_House_entries.nd rfl (by first | exact Or.inl rfl | exact Or.inr rfl))) (fun _ _ _ _ _ => fts_nil) (fun _ _ _ _ _ => (fe_call U.takes_no rfl (fun _ => .nil) (ok_told_entry Z) Z.b_told_entry hr (by decide) (by rfl) Z.g_told_entry (fa_cons (fe_pv 1) fa_nil))))))
abbrev N_House_first : List Str := ["self"]
theorem sc_House_first : FnScope N_House_first ["self"] (L2.defScope s_House_first) := ⟨rfl, rfl, rfl, by decide +kernel, rfl, by decide +kernel, by decide +kernel⟩
theorem ok_House_first (Z : Vw K mg) : U.Df P w K mg base 1 (He.ma K (He.ga K "House") "first") ["self"] (spG K 1 g_House_first) := by
  refine df_g Z.d_House_first sc_House_first (by decide) fun cdv A outer s H E hr tk po => ?_
  exact (fs_one (fs_ret (fe_ix rfl (fe_fld Z.cl_House Z.na_House_passed (fe_pv 0)) fe_int)))
abbrev N_House_tree : List Str := ["self"]
theorem sc_House_tree : FnScope N_House_tree ["self"] (L2.defScope s_House_tree) := ⟨rfl, rfl, rfl, by decide +kernel, rfl, by decide +kernel, by decide +kernel⟩
theorem ok_House_tree (Z : Vw K mg) : U.Df P w K mg base 1 (He.ma K (He.ga K "House") "tree") ["self"] (spG K 1 g_House_tree) := by
  refine df_g Z.d_House_tree sc_House_tree (by decide) fun cdv A outer s H E hr tk po => ?_
  exact (fs_one (fs_ret (fe_fld Z.cl_House Z.na_House_roots (fe_pv 0))))
abbrev N_House_repr : List Str := ["self"]
theorem sc_House_repr : FnScope N_House_repr ["self"] (L2.defScope s_House_repr) := ⟨rfl, rfl, rfl, by decide +kernel, rfl, by decide +kernel, by decide +kernel⟩
theorem ok_House_repr (Z : Vw K mg) : U.Df P w K mg base 1 (He.ma K (He.ga K "House") "__repr__") ["self"] (spG K 1 g_House_repr) := by
  refine df_g Z.d_House_repr sc_House_repr (by decide) fun cdv A outer s H E hr tk po => ?_
  exact (fs_one (fs_ret (fe_joined (FJs.cons fe_str (FJs.cons (fe_fmt (fe_callB s_len (U.c_lenK K rfl) (by rfl) Z.n_len (by decide +kernel) (fa_cons (fe_fld Z.cl_House Z.na_House_roots (fe_pv 0)) fa_nil))) (FJs.cons fe_str (FJs.cons (fe_fmt (fe_callB s_len (U.c_lenK K rfl) (by rfl) Z.n_len (by decide +kernel) (fa_cons (fe_fld Z.cl_House Z.na_House_kept (fe_pv 0)) fa_nil))) (FJs.cons fe_str FJs.nil))))))))
abbrev N_House_str : List Str := ["self"]
theorem sc_House_str : FnScope N_House_str ["self"] (L2.defScope s_House_str) := ⟨rfl, rfl, rfl, by decide +kernel, rfl, by decide +kernel, by decide +kernel⟩
theorem ok_House_str (Z : Vw K mg) : U.Df P w K mg base 1 (He.ma K (He.ga K "House") "__str__") ["self"] (spG K 1 g_House_str) := by
  refine df_g Z.d_House_str sc_House_str (by decide) fun cdv A outer s H E hr tk po => ?_
  exact (fs_one (fs_ret (fe_callTy s_str U.c_str (by rfl) Z.n_str (by decide +kernel) (fa_cons (fe_ix rfl (fe_fld Z.cl_House Z.na_House_passed (fe_pv 0)) (fe_neg fe_int)) fa_nil))))
abbrev N_law_stands : List Str := ["house", "trunk", "spell", "rows_so", "now", "count", "found"]
theorem sc_law_stands : FnScope N_law_stands ["house", "trunk", "spell", "rows_so"] (L2.defScope s_law_stands) := ⟨rfl, rfl, rfl, by decide +kernel, rfl, by decide +kernel, by decide +kernel⟩
theorem ok_law_stands (Z : Vw K mg) : U.Df P w K mg base 5 (He.ga K "_law_stands") ["house", "trunk", "spell", "rows_so"] (spG K 4 g_law_stands) := by
  refine df_g Z.d_law_stands sc_law_stands (by decide) fun cdv A outer s H E hr tk po => ?_
  exact (fs_cons (fs_set (i := 4) sc_law_stands.nd rfl (by first | exact Or.inl rfl | exact Or.inr rfl) (fe_call tk rfl (fun _ => .nil) (ok_law_behind Z) Z.b_law_behind hr (by decide) (by rfl) Z.g_law_behind (fa_cons (fe_pv 1) (fa_cons (fe_pv 2) (fa_cons (fe_pv 3) fa_nil)))))
    (fs_cons (fs_set (i := 5) sc_law_stands.nd rfl (by first | exact Or.inl rfl | exact Or.inr rfl) (fe_add (fe_add (fe_add (fe_callTy s_str U.c_str (by rfl) Z.n_str (by decide +kernel) (fa_cons (fe_callB s_len (U.c_lenK K rfl) (by rfl) Z.n_len (by decide +kernel) (fa_cons (fe_pv 1) fa_nil)) fa_nil)) fe_str) (fe_callTy s_str U.c_str (by rfl) Z.n_str (by decide +kernel) (fa_cons (fe_callB s_len (U.c_lenK K rfl) (by rfl) Z.n_len (by decide +kernel) (fa_cons (fe_pv 3) fa_nil)) fa_nil))) fe_str))
    (fs_cons (fs_set (i := 6) sc_law_stands.nd rfl (by first | exact Or.inl rfl | exact Or.inr rfl) (fe_lst (fa_cons (fe_meth0 tk rfl (fun _ => .nil) (fe_pv 0) Z.cl_House Z.m_House_tree (ok_House_tree Z) Z.b_House_tree hr (by decide)) (fa_cons (fe_meth0 tk rfl (fun _ => .nil) (fe_pv 0) Z.cl_House Z.m_House_first (ok_House_first Z) Z.b_House_first hr (by decide)) (fa_cons (fe_meth0 tk rfl (fun _ => .nil) (fe_pv 0) Z.cl_House Z.m_House_word (ok_House_word Z) Z.b_House_word hr (by decide)) (fa_cons (fe_meth0 tk rfl (fun _ => .nil) (fe_pv 0) Z.cl_House Z.m_House_entries (ok_House_entries Z) Z.b_House_entries hr (by decide)) (fa_cons (fe_lenO rfl Z.m_House___len__ (ok_House_len Z) Z.b_House_len hr (by decide) (by rfl) Z.n_len (by decide +kernel) (fe_pv 0)) (fa_cons (fe_strO rfl Z.m_House___str__ (ok_House_str Z) Z.b_House_str hr (by decide) (by rfl) Z.n_str (by decide +kernel) (fe_pv 0)) (fa_cons (fe_reprO rfl Z.m_House___repr__ (ok_House_repr Z) Z.b_House_repr hr (by decide) (by rfl) Z.n_repr (by decide +kernel) (fe_pv 0)) fa_nil)))))))))
    (fs_one (fs_ret (fe_cmp (c_eq rfl hr.units65) s_eq (fe_callB s_repr (U.c_reprK K rfl hr) (by rfl) Z.n_repr (by decide +kernel) (fa_cons (fe_pv 6) fa_nil)) (fe_callB s_repr (U.c_reprK K rfl hr) (by rfl) Z.n_repr (by decide +kernel) (fa_cons (fe_lst (fa_cons (fe_pv 1) (fa_cons (fe_pv 2) (fa_cons (fe_pv 4) (fa_cons (fe_pv 3) (fa_cons (fe_callB s_len (U.c_lenK K rfl) (by rfl) Z.n_len (by decide +kernel) (fa_cons (fe_pv 3) fa_nil)) (fa_cons (fe_pv 4) (fa_cons (fe_add (fe_add fe_str (fe_pv 5)) fe_str) fa_nil)))))))) fa_nil)) (L2.nomark _)))))))
abbrev N_law_trunk : List Str := ["pen", "most", "way", "size", "parents", "k", "back"]
theorem sc_law_trunk : FnScope N_law_trunk ["pen", "most"] (L2.defScope s_law_trunk) := ⟨rfl, rfl, rfl, by decide +kernel, rfl, by decide +kernel, by decide +kernel⟩
theorem ok_law_trunk (Z : Vw K mg) : U.Df P w K mg base 2 (He.ga K "_law_trunk") ["pen", "most"] (spG K 2 g_law_trunk) := by
  refine df_g Z.d_law_trunk sc_law_trunk (by decide) fun cdv A outer s H E hr tk po => ?_
  exact (fs_cons (fs_set (i := 2) sc_law_trunk.nd rfl (by first | exact Or.inl rfl | exact Or.inr rfl) (fe_call tk rfl (fun _ => .nil) (ok_law_draw Z) Z.b_law_draw hr (by decide) (by rfl) Z.g_law_draw (fa_cons (fe_pv 0) (fa_cons fe_int fa_nil))))
    (fs_cons (fs_set (i := 3) sc_law_trunk.nd rfl (by first | exact Or.inl rfl | exact Or.inr rfl) (fe_pv 1))
    (fs_cons (fs_if (ft_cmp U.u_gt s_gt (fe_call tk rfl (fun _ => .nil) (ok_law_draw Z) Z.b_law_draw hr (by decide) (by rfl) Z.g_law_draw (fa_cons (fe_pv 0) (fa_cons fe_int fa_nil))) fe_int (L2.nomark _)) (fs_one (fs_set (i := 3) sc_law_trunk.nd rfl (by first | exact Or.inl rfl | exact Or.inr rfl) (fe_add fe_int (fe_call tk rfl (fun _ => .nil) (ok_law_draw Z) Z.b_law_draw hr (by decide) (by rfl) Z.g_law_draw (fa_cons (fe_pv 0) (fa_cons (fe_pv 1) fa_nil))))))
    fs_nil)
    (fs_cons (fs_set (i := 4) sc_law_trunk.nd rfl (by first | exact Or.inl rfl | exact Or.inr rfl) (fe_lstC (fa_cons fe_non fa_nil)))
    (fs_cons (fs_for (tid := false) po rfl (Fn.pi_rng2 (by rfl) Z.n_range (fa_cons fe_int (fa_cons (fe_pv 3) fa_nil))) (pt_name (i := 5) sc_law_trunk.nd rfl (by first | exact Or.inl rfl | exact Or.inr rfl))
    (fs_cons (fs_set (i := 6) sc_law_trunk.nd rfl (by first | exact Or.inl rfl | exact Or.inr rfl) fe_int)
    (fs_cons (fs_if (ft_cmp U.u_gt s_gt (fe_pv 2) fe_int (L2.nomark _)) (fs_one (fs_set (i := 6) sc_law_trunk.nd rfl (by first | exact Or.inl rfl | exact Or.inr rfl) (fe_call tk rfl (fun _ => .nil) (ok_law_draw Z) Z.b_law_draw hr (by decide) (by rfl) Z.g_law_draw (fa_cons (fe_pv 0) (fa_cons (fe_ix rfl (fe_lst (fa_cons fe_int (fa_cons (fe_pv 5) (fa_cons (fe_pv 5) fa_nil)))) (fe_sub (fe_pv 2) fe_int)) fa_nil)))))
    fs_nil)
    (fs_cons (fs_if (ft_cmp (c_eq rfl hr.units65) s_eq (fe_pv 2) fe_int (L2.nomark _)) (fs_one (fs_set (i := 6) sc_law_trunk.nd rfl (by first | exact Or.inl rfl | exact Or.inr rfl) (fe_fdiv (fe_call tk rfl (fun _ => .nil) (ok_law_draw Z) Z.b_law_draw hr (by decide) (by rfl) Z.g_law_draw (fa_cons (fe_pv 0) (fa_cons fe_int fa_nil))) fe_int)))
    fs_nil)
    (fs_one (fs_expr (fe_met s_app rfl PySem.F.plainAttrs_list PySem.F.slot_list_append PySem.F.type_list_append U.m_append (fe_pv 4) (fa_cons (fe_callB s_max (U.c_max rfl) (by rfl) Z.n_max (by decide +kernel) (fa_cons fe_int (fa_cons (fe_sub (fe_sub (fe_pv 5) fe_int) (fe_pv 6)) fa_nil))) fa_nil))))))))
    (fs_one (fs_ret (fe_callTy s_tuple (U.c_tupleK K rfl) (by rfl) Z.n_tuple (by decide +kernel) (fa_cons (fe_pv 4) fa_nil)))))))))
abbrev N_law : List Str := ["script", "pen", "turn", "trunk", "spell", "house", "parted", "rows_so", "k", "road", "often", "given", "count", "nook", "single", "other"]
theorem sc_law : FnScope N_law ["script"] (L2.defScope s_law) := ⟨rfl, rfl, rfl, by decide +kernel, rfl, by decide +kernel, by decide +kernel⟩
theorem ok_law (Z : Vw K mg) : U.Df P w K mg base 10 (He.ga K "law") ["script"] (spG K 1 g_law) := by
  refine df_g Z.d_law sc_law (by decide) fun cdv A outer s H E hr tk po => ?_
  exact (fs_cons (fs_set (i := 1) sc_law.nd rfl (by first | exact Or.inl rfl | exact Or.inr rfl) (fe_call tk rfl (fun _ => .nil) (ok_law_pen Z) Z.b_law_pen hr (by decide) (by rfl) Z.g_law_pen (fa_cons (fe_pv 0) fa_nil)))
    (fs_cons (fs_for (tid := true) po rfl (Fn.pi_rng1 (by rfl) Z.n_range (fa_cons fe_int fa_nil)) (pt_name (i := 2) sc_law.nd rfl (by first | exact Or.inl rfl | exact Or.inr rfl))
    (fs_cons (fs_set (i := 3) sc_law.nd rfl (by first | exact Or.inl rfl | exact Or.inr rfl) (fe_call tk rfl (fun _ => .nil) (ok_law_trunk Z) Z.b_law_trunk hr (by decide) (by rfl) Z.g_law_trunk (fa_cons (fe_pv 1) (fa_cons fe_int fa_nil))))
    (fs_cons (fs_set (i := 4) sc_law.nd rfl (by first | exact Or.inl rfl | exact Or.inr rfl) (fe_call tk rfl (fun _ => .nil) (ok_law_spell Z) Z.b_law_spell hr (by decide) (by rfl) Z.g_law_spell (fa_cons (fe_pv 1) (fa_cons (fe_pv 3) fa_nil))))
    (fs_cons (fs_set (i := 5) sc_law.nd rfl (by first | exact Or.inl rfl | exact Or.inr rfl) (fe_make tk rfl Z.mk_House (ok_House_init Z) Z.b_House_init hr (by decide) (by rfl) Z.g_House (fa_cons (fe_pv 3) (fa_cons (fe_pv 4) fa_nil))))
    (fs_cons (fs_set (i := 6) sc_law.nd rfl (by first | exact Or.inl rfl | exact Or.inr rfl) (fe_make tk rfl Z.mk_House (ok_House_init Z) Z.b_House_init hr (by decide) (by rfl) Z.g_House (fa_cons (fe_pv 3) (fa_cons (fe_pv 4) fa_nil))))
    (fs_cons (fs_set (i := 7) sc_law.nd rfl (by first | exact Or.inl rfl | exact Or.inr rfl) (fe_lstC fa_nil))
    (fs_cons (fs_for (tid := true) po rfl (Fn.pi_rng1 (by rfl) Z.n_range (fa_cons (fe_add fe_int (fe_call tk rfl (fun _ => .nil) (ok_law_draw Z) Z.b_law_draw hr (by decide) (by rfl) Z.g_law_draw (fa_cons (fe_pv 1) (fa_cons fe_int fa_nil)))) fa_nil)) (pt_name (i := 8) sc_law.nd rfl (by first | exact Or.inl rfl | exact Or.inr rfl))
    (fs_cons (fs_set (i := 9) sc_law.nd rfl (by first | exact Or.inl rfl | exact Or.inr rfl) (fe_call tk rfl (fun _ => .nil) (ok_law_road Z) Z.b_law_road hr (by decide) (by rfl) Z.g_law_road (fa_cons (fe_pv 1) (fa_cons (fe_pv 3) (fa_cons fe_int fa_nil)))))
    (fs_cons (fs_set (i := 10) sc_law.nd rfl (by first | exact Or.inl rfl | exact Or.inr rfl) (fe_call tk rfl (fun _ => .nil) (ok_law_often Z) Z.b_law_often hr (by decide) (by rfl) Z.g_law_often (fa_cons (fe_pv 1) fa_nil)))
    (fs_cons (fs_expr (fe_met s_app rfl PySem.F.plainAttrs_list PySem.F.slot_list_append PySem.F.type_list_append U.m_append (fe_pv 7) (fa_cons (fe_tup (fa_cons fe_str (fa_cons (fe_callTy s_list (U.c_listK K rfl) (by rfl) Z.n_list (by decide +kernel) (fa_cons (fe_pv 9) fa_nil)) (fa_cons (fe_pv 10) fa_nil)))) fa_nil)))
    (fs_cons (fs_set (i := 11) sc_law.nd rfl (by first | exact Or.inl rfl | exact Or.inr rfl) (fe_callTy s_listC (U.c_listK K rfl) (by rfl) Z.n_list (by decide +kernel) (fa_cons (fe_pv 9) fa_nil)))
    (fs_cons (fs_if (ft_cmp (c_ne rfl hr.units65) s_eq (fe_methK tk rfl (fe_pv 5) Z.cl_House Z.m_House_rounds (ok_House_rounds Z) Z.bk_House_rounds hr (by decide) rfl (fa_cons (fe_pv 11) fa_nil) (fk_cons (fe_pv 10) fk_nil)) (fe_call tk rfl (fun _ => .nil) (ok_law_behind Z) Z.b_law_behind hr (by decide) (by rfl) Z.g_law_behind (fa_cons (fe_pv 3) (fa_cons (fe_pv 4) (fa_cons (fe_pv 7) fa_nil)))) (L2.nomark _)) (fs_one (fs_ret fe_bl))
    fs_nil)
    (fs_cons (fs_expr (fe_met0 s_rev rfl PySem.F.plainAttrs_list PySem.F.slot_list_reverse PySem.F.type_list_reverse L2.mt_reverse (fe_pv 11)))
    (fs_cons (fs_expr (fe_met s_app rfl PySem.F.plainAttrs_list PySem.F.slot_list_append PySem.F.type_list_append U.m_append (fe_pv 11) (fa_cons fe_int fa_nil)))
    (fs_cons (fs_for (tid := false) po rfl (pi_its rfl (fe_call tk rfl (fun _ => .nil) (ok_law_parts Z) Z.b_law_parts hr (by decide) (by rfl) Z.g_law_parts (fa_cons (fe_pv 1) (fa_cons (fe_pv 10) fa_nil)))) (pt_name (i := 12) sc_law.nd rfl (by first | exact Or.inl rfl | exact Or.inr rfl))
    (fs_one (fs_expr (fe_methK tk rfl (fe_pv 6) Z.cl_House Z.m_House_rounds (ok_House_rounds Z) Z.bk_House_rounds hr (by decide) rfl (fa_cons (fe_pv 9) fa_nil) (fk_cons (fe_pv 12) fk_nil)))))
    (fs_cons (fs_set (i := 13) sc_law.nd rfl (by first | exact Or.inl rfl | exact Or.inr rfl) (fe_call tk rfl (fun _ => .nil) (ok_law_draw Z) Z.b_law_draw hr (by decide) (by rfl) Z.g_law_draw (fa_cons (fe_pv 1) (fa_cons (fe_callB s_len (U.c_lenK K rfl) (by rfl) Z.n_len (by decide +kernel) (fa_cons (fe_pv 3) fa_nil)) fa_nil))))
    (fs_cons (fs_expr (fe_met s_app rfl PySem.F.plainAttrs_list PySem.F.slot_list_append PySem.F.type_list_append U.m_append (fe_pv 7) (fa_cons (fe_tup (fa_cons fe_str (fa_cons (fe_pv 13) fa_nil))) fa_nil)))
    (fs_one (fs_if (L2.PW.pt (ft_or (ft_cmp (c_ne rfl hr.units65) s_eq (fe_meth tk rfl (fun _ => .nil) (fe_pv 5) Z.cl_House Z.m_House_deed (ok_House_deed Z) Z.b_House_deed hr (by decide) (fa_cons (fe_pv 13) fa_nil)) (fe_meth tk rfl (fun _ => .nil) (fe_pv 6) Z.cl_House Z.m_House_deed (ok_House_deed Z) Z.b_House_deed hr (by decide) (fa_cons (fe_pv 13) fa_nil)) (L2.nomark _)) (L2.pw_or1 (ft_cmp (c_ne rfl hr.units65) s_eq (fe_meth0 tk rfl (fun _ => .nil) (fe_pv 5) Z.cl_House Z.m_House_word (ok_House_word Z) Z.b_House_word hr (by decide)) (fe_meth0 tk rfl (fun _ => .nil) (fe_pv 6) Z.cl_House Z.m_House_word (ok_House_word Z) Z.b_House_word hr (by decide)) (L2.nomark _))))) (fs_one (fs_ret fe_bl))
    fs_nil)))))))))))))
    (fs_cons (fs_if (L2.PW.pt (ft_or (ft_not (ft_truth rfl (fe_call tk rfl (fun _ => .nil) (ok_law_stands Z) Z.b_law_stands hr (by decide) (by rfl) Z.g_law_stands (fa_cons (fe_pv 5) (fa_cons (fe_pv 3) (fa_cons (fe_pv 4) (fa_cons (fe_pv 7) fa_nil))))))) (L2.pw_or1 (ft_cmp (c_ne rfl hr.units65) s_eq (fe_lenO rfl Z.m_House___len__ (ok_House_len Z) Z.b_House_len hr (by decide) (by rfl) Z.n_len (by decide +kernel) (fe_pv 6)) (fe_mul (fe_fdiv (fe_callB s_len (U.c_lenK K rfl) (by rfl) Z.n_len (by decide +kernel) (fa_cons (fe_pv 7) fa_nil)) fe_int) fe_int) (L2.nomark _))))) (fs_one (fs_ret fe_bl))
    fs_nil)
    (fs_cons (fs_set (i := 14) sc_law.nd rfl (by first | exact Or.inl rfl | exact Or.inr rfl) (fe_make tk rfl Z.mk_House (ok_House_init Z) Z.b_House_init hr (by decide) (by rfl) Z.g_House (fa_cons (fe_pv 3) (fa_cons (fe_pv 4) fa_nil))))
    (fs_cons (fs_set (i := 9) sc_law.nd rfl (by first | exact Or.inl rfl | exact Or.inr rfl) (fe_call tk rfl (fun _ => .nil) (ok_law_road Z) Z.b_law_road hr (by decide) (by rfl) Z.g_law_road (fa_cons (fe_pv 1) (fa_cons (fe_pv 3) (fa_cons fe_int fa_nil)))))
    (fs_cons (fs_set (i := 12) sc_law.nd rfl (by first | exact Or.inl rfl | exact Or.inr rfl) (fe_call tk rfl (fun _ => .nil) (ok_law_draw Z) Z.b_law_draw hr (by decide) (by rfl) Z.g_law_draw (fa_cons (fe_pv 1) (fa_cons fe_int fa_nil))))
    (fs_cons (fs_for (tid := false) po rfl (Fn.pi_rng1 (by rfl) Z.n_range (fa_cons (fe_pv 12) fa_nil)) (pt_name (i := 8) sc_law.nd rfl (by first | exact Or.inl rfl | exact Or.inr rfl))
    (fs_one (fs_expr (fe_meth tk rfl (fun _ => (.cons .non .nil)) (fe_pv 14) Z.cl_House Z.m_House_go (ok_House_go Z) Z.b_House_go hr (by decide) (fa_cons (fe_pv 9) fa_nil)))))
    (fs_cons (fs_set (i := 15) sc_law.nd rfl (by first | exact Or.inl rfl | exact Or.inr rfl) (fe_make tk rfl Z.mk_House (ok_House_init Z) Z.b_House_init hr (by decide) (by rfl) Z.g_House (fa_cons (fe_pv 3) (fa_cons (fe_pv 4) fa_nil))))
    (fs_one (fs_if (L2.PW.pt (ft_or (ft_cmp (c_ne rfl hr.units65) s_eq (fe_methK tk rfl (fe_pv 15) Z.cl_House Z.m_House_rounds (ok_House_rounds Z) Z.bk_House_rounds hr (by decide) rfl (fa_cons (fe_pv 9) fa_nil) (fk_cons (fe_pv 12) fk_nil)) (fe_meth0 tk rfl (fun _ => .nil) (fe_pv 14) Z.cl_House Z.m_House_word (ok_House_word Z) Z.b_House_word hr (by decide)) (L2.nomark _)) (L2.pw_or1 (ft_cmp (c_ne rfl hr.units65) s_eq (fe_lenO rfl Z.m_House___len__ (ok_House_len Z) Z.b_House_len hr (by decide) (by rfl) Z.n_len (by decide +kernel) (fe_pv 14)) (fe_mul (fe_pv 12) (fe_callB s_len (U.c_lenK K rfl) (by rfl) Z.n_len (by decide +kernel) (fa_cons (fe_pv 9) fa_nil))) (L2.nomark _))))) (fs_one (fs_ret fe_bl))
    fs_nil)))))))))))))))
    (fs_one (fs_ret fe_bl))))
end
end Lw

set_option Elab.async false
set_option linter.all false
set_option maxRecDepth 100000
set_option maxHeartbeats 0
namespace Lw
open PySem PySem.Spec PyProof.Rows L2
def nm0 : List PySem.Str := [("_wall" : PySem.Str), ("NoTree" : PySem.Str), ("NoRow" : PySem.Str), ("NoPlace" : PySem.Str), ("Full" : PySem.Str), ("is_whole" : PySem.Str), ("may_stand" : PySem.Str), ("first_wrong" : PySem.Str), ("tree_of" : PySem.Str), ("is_place" : PySem.Str), ("need_place" : PySem.Str), ("ways_up" : PySem.Str), ("places_above" : PySem.Str), ("is_letter" : PySem.Str), ("is_word" : PySem.Str), ("with_letter" : PySem.Str), ("letters_seen" : PySem.Str), ("deed_done" : PySem.Str), ("check_row" : PySem.Str), ("stepped" : PySem.Str), ("led_on" : PySem.Str), ("ring_of" : PySem.Str), ("rounds_done" : PySem.Str), ("entry_done" : PySem.Str), ("told_entry" : PySem.Str), ("House" : PySem.Str), ("_law_pen" : PySem.Str), ("_law_draw" : PySem.Str), ("_law_trunk" : PySem.Str), ("_law_spell" : PySem.Str)]
def nm1 : List PySem.Str := [("_law_road" : PySem.Str), ("_law_ups" : PySem.Str), ("_law_deed" : PySem.Str), ("_law_far" : PySem.Str), ("_law_behind" : PySem.Str), ("_law_stands" : PySem.Str), ("_law_often" : PySem.Str), ("_law_parts" : PySem.Str), ("LotError" : PySem.Str), ("NoWord" : PySem.Str), ("NoMany" : PySem.Str), ("NoBack" : PySem.Str), ("MOST_PLACES" : PySem.Str), ("SMALL" : PySem.Str), ("MOST_ENTRIES" : PySem.Str), ("MOST_IN_ROUND" : PySem.Str), ("MOST_ROUNDS" : PySem.Str)]
def names : List PySem.Str := nm0 ++ nm1
abbrev R : PySem.W.OpenRow := PySem.W.OpenLaw.row PySem.Challenge.rw_strangerlots_k62_rounds_in_a_house
abbrev hk : PySem.W.Hook := Fn.hookN 6 fa fn
def ob (s : PySem.W.SharedT) : He.AlD := Fn.obsN 6 fa fn (HandSHeadRun.getT s)
theorem ob_eq (s : PySem.W.SharedT) : ob s = hk.obs s.abs := Fn.obsN_eq (HandSHeadRun.getT_eq s)
theorem run (w : World) : HandSHeadRun.RunEq R (PySem.W.view R.prog [55]) hk ob 6000 names w := by
  intro os
  kernel_rfl
theorem facts {P : Program} {w : World} {K : PySem.W.Frag} {h : Heap} {mg : Str → Option Value} {f : Addr} (X : K.In h) (G : h.Ns mainGlobals mg) (hfa : mg ("law" : Str) = some (.ref f)) (c : He.SaysD fa fn K) :
    ∃ fd : FuncData, U.FdAt K f fd ∧ (∀ (s : Shared) (v : Value), BindsTo s fd ⟨[v], []⟩ [("script", v)]) ∧ ∀ base : Heap, K.In base → base.Ns mainGlobals mg → U.Df P w K mg base 10 f ["script"] (Fn.spG K 1 g_law) := by
  have e := hfa.symm.trans (He.glo_ok X G (c.fact 33 (f := .glo "law") rfl))
  cases e
  obtain ⟨fd, F⟩ := (⟨c, h, X, G⟩ : Vw K mg).d_law
  have b := FunD.bindsA (ps := ["script"]) F fun _ _ _ _ _ _ us hl => match us, hl with | [_], _ => rfl
  have e2 : U.FdAt K (He.ga K "law") fd := let ⟨oc, od, dV, kV, doc, pm, an, cdv, ct, osl, e1, lk, _⟩ := F.ex; ⟨oc, od, osl, lk⟩
  exact ⟨fd, e2, fun s v => b s [v] rfl, fun base k1 k2 => ok_law ⟨c, base, k1, k2⟩⟩
end Lw
open PySem PySem.W PySem.Calls PyProof.Rows
theorem Lw.holds_of (hgo : ∀ ns : List Int, ns.length ≤ 63 → ∃ M, Lw.g_law [.p (.list (ns.map PyData.int))] [] = .ok (.p (.bool true)) M) : PySem.Challenge.rw_strangerlots_k62_rounds_in_a_house.Holds := by
  w_on; o_law
  refine HandSHeadRun.head_any (r := OpenLaw.row PySem.Challenge.rw_strangerlots_k62_rounds_in_a_house) (q := view (OpenLaw.row PySem.Challenge.rw_strangerlots_k62_rounds_in_a_house).prog [55]) (H := Lw.hk) (ob := Lw.ob) (M := 6000) (loose := Lw.names) (d := HandSHeadRun.topDef (OpenLaw.row PySem.Challenge.rw_strangerlots_k62_rounds_in_a_house).prog 55) (kwd := []) Lw.ob_eq
    (by kernel_rfl) (fun s => by kernel_rfl) Lw.run (by kernel_rfl) (by kernel_rfl) (by kernel_rfl) (by rfl) (by first | assumption | decide +kernel) (by decide +kernel) ⟨rfl, rfl, rfl, rfl, rfl, by decide +kernel⟩ ?hw ?hc
  case hw => w_witness2
  case hc =>
    refine Fn.walk_ofF (l := PySem.Challenge.rw_strangerlots_k62_rounds_in_a_house) (n := 63) (k := 10) (x := "script") (g := Lw.g_law) rfl (by decide) (by kernel_rfl) ⟨rfl, by decide, by decide⟩ ?F hgo
    intro w mg fa h Y G hmg0
    obtain ⟨K, KX, KN, c⟩ := Y
    have hmg : mg ("law" : PySem.Str) = some (.ref fa) := by
      have e : (HandSHeadRun.topDef (OpenLaw.row PySem.Challenge.rw_strangerlots_k62_rounds_in_a_house).prog 55).name = ("law" : PySem.Str) := by kernel_rfl
      rw [← e]
      exact hmg0
    obtain ⟨fd, hfd, hb, hF⟩ := Lw.facts (P := (PySem.Challenge.rw_strangerlots_k62_rounds_in_a_house).prog) (w := w) KX G hmg c
    exact ⟨K, fd, KX, KN, hfd, hb, hF⟩

set_option Elab.async false
set_option linter.all false
set_option maxRecDepth 100000
set_option maxHeartbeats 4000000
namespace Lw
open PySem Fn U
abbrev tD (T : Tr) : PyData := .tuple (T.map pD)
abbrev wd (s : List Nat) : PyData := .str (tx s)
abbrev nD (k : Nat) : PyData := .int (k : Nat)
variable {T : Tr} {s : List Nat} {k : Nat} {M : Store}
@[simp] theorem iD_len (l : List Nat) : (iD l).length = l.length := List.length_map ..
@[simp] theorem wD_len (l : List (List Nat)) : (wD l).length = l.length := List.length_map ..
theorem c_is_whole (i : Int) : callB g_is_whole [.p (.int i)] M = .ok (.p (.bool true)) M := callB_1 (M0 := []) (by simp [g_is_whole, isiB]) M
theorem c_is_place (xs : List PyData) (i : Int) : callB g_is_place [.p (.tuple xs), .p (.int i)] M = .ok (.p (.bool (decide (0 ≤ i) && decide (i < xs.length)))) M := callB_2 (M0 := []) (by
  simp [g_is_place, c_is_whole]
  by_cases h : 0 ≤ i <;> simp [h]) M
theorem c_need_place (h : k < T.length) : callB g_need_place [.p (tD T), .p (nD k)] M = .ok (.p .none) M := callB_2 (M0 := []) (by
  simp [g_need_place, c_is_place, h]) M
def upsD (T : Tr) (n : Nat) : List PyData := (List.range n).map fun k => PyData.list (iD (ups T k))
theorem upsD_get {n j : Nat} (h : j < n) : (upsD T n)[j]? = some (.list (iD (ups T j))) := by
  rw [upsD, List.getElem?_map, List.getElem?_range h]; rfl
theorem upsD_succ {n : Nat} : upsD T (n + 1) = upsD T n ++ [.list (iD (ups T n))] := by
  rw [upsD, List.range_succ, List.map_append]; rfl
theorem upsD_len {n : Nat} : (upsD T n).length = n := by rw [upsD, List.length_map, List.length_range]
theorem c_ways_up (h : TreeOk T) (h8 : T.length ≤ 8) : callB g_ways_up [.p (tD T)] M = .ok (.p (.list (upsD T T.length))) M := callB_1 (M0 := [.gone]) (by
  simp [g_ways_up, lstC]
  generalize hr : forL _ _ _ _ _ _ _ = r
  obtain ⟨σ2, M2, rfl, x, rfl, rfl⟩ := for_nx hr (fun i σ M => ∃ x, σ = [some (.p (tD T)), some (.cell 0), x] ∧ M = [.lst (upsD T i)]) ⟨none, rfl, rfl⟩ (by
    rintro i d σ M hd ⟨x, rfl, rfl⟩
    have hi : i < T.length := by simpa using (List.getElem?_eq_some_iff.mp hd).1
    refine ⟨_, [some (.p (tD T)), some (.cell 0), some d], [.lst (upsD T (i + 1))], dT_nm _ _ _, ?_, _, rfl, rfl⟩
    rcases h.case hi with ⟨rfl, e⟩ | ⟨h0, j, hj, e⟩
    · have : d = .p .none := by simpa [e, pD] using hd.symm
      subst this
      simp [mApp, lstC', upsD_succ, upsD_len, ups_root e, tyD, kdC, Fn.sizeLine_eq]
    · have : d = .p (.int (j : Nat)) := by simpa [e, pD] using hd.symm
      subst this
      have l1 := ups_len h j (by omega)
      have hx : pIx (.cell 0) (.p (.int (j : Nat))) [Cell.lst (upsD T i)] = .ok (.p (.list (iD (ups T j)))) [Cell.lst (upsD T i)] := pIx_cel rfl (by omega) (by simpa using upsD_get hj)
      have l2 : [PyData.int (j : Nat)].length + (iD (ups T j)).length ≤ 16777216 := by rw [iD_len]; show 1 + _ ≤ _; omega
      simp [mApp, lstC', upsD_succ, upsD_len, ups_up e hj, tyD, kdC, hx, pAdd_lst _ _ _ l2, Fn.sizeLine_eq]
      omega)
  simp [pFrz_cell]) M
theorem c_places_above (h : TreeOk T) (h8 : T.length ≤ 8) (hk : k < T.length) : callB g_places_above [.p (tD T), .p (nD k)] M = .ok (.p (.list (iD (ups T k)))) M := callB_2 (M0 := []) (by
  have hx : ∀ M, pIx (.p (.list (upsD T T.length))) (.p (.int (k : Nat))) M = .ok (.p (.list (iD (ups T k)))) M := fun M => pIx_lst (by omega) (by simpa using upsD_get hk)
  simp [g_places_above, c_need_place hk, c_ways_up h h8, hx]) M
theorem c_with_letter {c : Nat} (hs : s.length ≤ 8) (hk : k < s.length) : callB g_with_letter [.p (wd s), .p (nD k), .p (wd [c])] M = .ok (.p (wd (s.set k c))) M := callB_3 (M0 := []) (by
  have e : (((k : Nat) : Int) + 1).toNat = k + 1 := by omega
  have l1 : (s.take k).length + [c].length ≤ 10000 := by simp; omega
  have l2 : (s.take k ++ [c]).length + (s.drop (k + 1)).length ≤ 10000 := by simp; omega
  simp [g_with_letter, pSl_to (s := s) (by omega) (Int.natCast_nonneg k), pSl_from (s := s) (i := (k : Int) + 1) (by omega) (by omega), e]
  rw [pAdd_tx l1]
  simp
  have := pAdd_tx (M := []) l2
  simp at this
  rw [this]
  simp [← take_drop_set (c := c) hk]) M
/-- the letters at places of a way -/
theorem sgs_iD (row : List Nat) (hr : ∀ j ∈ row, j < s.length) : ∀ d ∈ (iD row).map D.p, ∃ j c, d = .p (nD j) ∧ s[j]? = some c ∧ s.getD j 0 = c := by
  intro d hd
  simp at hd
  obtain ⟨j, hj, rfl⟩ := hd
  have := hr j hj
  refine ⟨j, s[j], rfl, by simp [this], by simp [this]⟩
end Lw

set_option Elab.async false
set_option linter.all false
set_option maxRecDepth 100000
set_option maxHeartbeats 4000000
namespace Lw
open PySem Fn U
variable {T : Tr} {s : List Nat} {k : Nat} {M : Store}
def letD : Option Nat → PyData
  | none => .none
  | some c => wd [c]
theorem lc_seen {t : Nat} {σ : Sl} {row : List Nat} (h1 : σ[1]? = some (some (.p (wd s)))) (h4 : t < σ.length) (ht : t ≠ 1) (hr : ∀ j ∈ row, j < s.length) (hs : s.length ≤ 8) (hl : row.length ≤ 1000) :
    lcL [] (.nm t) gYes (gBin pIx (gVar 1) (gVar t)) finP σ ((iD row).map D.p) M [] = .ok (.p (.list ((iD row).map fun x => match x with | .int j => wd [s.getD j.toNat 0] | x => x))) M := by
  refine lc_pp _ (by simp; omega) fun x hx => ?_
  obtain ⟨j, hj, rfl⟩ := List.mem_map.mp hx
  have hj2 := hr j hj
  refine ⟨_, dT_nm _ _ _, ?_⟩
  have e2 : (σ.set t (some (.p (.int (j : Nat)))))[1]? = some (some (.p (wd s))) := by rw [List.getElem?_set_ne ht]; exact h1
  have e4 : s[((j : Nat) : Int).toNat]? = some s[j] := by simp [hj2]
  simp only [gBin_eq, gVar_eq, e2, set_same h4, varR_some, bind_ok]
  rw [pIx_tx (by omega) (by omega) e4]
  simp [hj2]
theorem seen_map : ((iD (ups T k)).map fun x => match x with | .int j => wd [s.getD j.toNat 0] | x => x) = (seenL T s k).map fun c => wd [c] := by
  simp [seenL]
theorem good_seen {L : List Nat} (h : Sgs L) : SeqAt.shaped (.list (L.map fun c => wd [c])) = true := by
  have z := good_sgs (L := L) h (n := 3)
  simp only [List.map_map] at z
  exact Good.shaped z
theorem eq_nil {xs : List PyData} (h : SeqAt.shaped (.list xs) = true) (ne : Bool) : pEq ne (.p (.list xs)) (.p (.list [])) M = .ok (.p (.bool (ne ^^ xs.isEmpty))) M := by
  rw [pEq_deep _ _ _ _ rfl h (by decide), eqv_nil]
theorem c_letters_seen (h : TreeOk T) (h8 : T.length ≤ 8) (w : Wd T s) (hk : k < T.length) : callB g_letters_seen [.p (tD T), .p (wd s), .p (nD k)] M = .ok (.p (.tuple [letD (seenL T s k).head?, letD (farL (seenL T s k))])) M := callB_3 (M0 := []) (by
  have hsl := w.len
  have hl := ups_len h k hk
  have hr : ∀ j ∈ ups T k, j < s.length := fun j hj => by have := ups_lt h k hk j hj; omega
  simp [-List.map_map, g_letters_seen, c_places_above h h8 hk]
  rw [lc_seen rfl (by simp [wipeD]) (by decide) hr (by omega) (by omega), seen_map]
  have sgl : Sgs (seenL T s k) := seenL_sgs h w.len hk w.lets.sgs
  have sll : (seenL T s k).length ≤ 8 := by rw [seenL, List.length_map]; omega
  revert sgl sll
  generalize seenL T s k = L
  intro sgl sll
  simp [-List.map_map, eq_nil (good_seen sgl)]
  cases L with
  | nil => simp [letD, farL]
  | cons c r =>
    have sgr : Sgs r := fun d hd => sgl d (List.mem_cons_of_mem _ hd)
    have hf : (r.map fun d => wd [d]).filter (fun x => match x with | .str z => decide (z ≠ tx [c]) | _ => false) = (r.filter fun d => decide (d ≠ c)).map fun d => wd [d] := by
      rw [List.filter_map]
      congr 1
      apply List.filter_congr
      intro d hd
      simp [tx_inj]
    simp [-List.map_map, dTs, unc]
    simp at sll
    rw [if_pos (by omega)]
    simp [-List.map_map, dTs, dT, unc]
    rw [lc_pf (fun x => match x with | .str z => decide (z ≠ tx [c]) | _ => false) id (by simp; omega)]
    · have sgf : Sgs (r.filter fun d => decide (d ≠ c)) := fun d hd => sgr d (List.mem_filter.mp hd).1
      have hfar : farL (c :: r) = (r.filter fun d => decide (d ≠ c)).head? := (filter_head r).symm
      rw [hf, hfar]
      revert sgf
      generalize (r.filter fun d => decide (d ≠ c)) = F
      intro sgf
      simp [-List.map_map, eq_nil (good_seen sgf)]
      cases F with
      | nil => simp [letD]
      | cons e q =>
        have hx : ∀ M, pIx (.p (.list (wd [e] :: q.map fun d => wd [d]))) (.p (.int 0)) M = .ok (.p (wd [e])) M := fun M => pIx_lst (by omega) rfl
        simp [-List.map_map, letD, hx]
    · intro x hx
      obtain ⟨d, hd, rfl⟩ := List.mem_map.mp hx
      refine ⟨_, dT_nm _ _ _, ?_, fun _ => ?_⟩
      · simp [wipeD]
      · simp [wipeD]) M
theorem pIsN_let (o : Option Nat) : pIsN false (.p (letD o)) (.p .none) M = .ok (.p (.bool o.isNone)) M := by
  cases o <;> rfl
theorem letD_eq {c : Nat} (o : Option Nat) : pEq false (.p (wd [c])) (.p (letD o)) M = .ok (.p (.bool (decide (o = some c)))) M := by
  cases o with
  | none => rfl
  | some d => 
    rw [letD, pEq_tx]
    simp
    exact eq_comm
theorem c_deed_done (h : TreeOk T) (h8 : T.length ≤ 8) (w : Wd T s) (hk : k < T.length) : callB g_deed_done [.p (tD T), .p (wd s), .p (nD k)] M = .ok (.p (wd (deed T s k))) M := callB_3 (M0 := []) (by
  have hsl := w.len
  obtain ⟨c, hc⟩ : ∃ c, s[k]? = some c := ⟨s[k], by simp [hsl, hk]⟩
  have hx : ∀ M, pIx (.p (.str (tx s))) (.p (.int (k : Nat))) M = .ok (.p (wd [c])) M := fun M => pIx_tx (by omega) (by omega) (by simpa using hc)
  have cw : ∀ d M, callB g_with_letter [.p (wd s), .p (nD k), .p (wd [d])] M = .ok (.p (wd (s.set k d))) M := fun d M => c_with_letter (by omega) (by omega)
  rw [deed_seen h hsl hk hc]
  simp [g_deed_done, c_need_place hk, c_letters_seen h h8 w hk, tupOf, dTs, dT, unc, dT_nm, hx]
  generalize seenL T s k = L
  cases L with
  | nil => simp [letD, farL, letD_eq, pEq_sn]
  | cons e q =>
    by_cases hec : e = c
    · subst hec
      simp [letD_eq]
      cases hf : farL (e :: q) with
      | none =>
        have : q.find? (fun d => decide (d ≠ e)) = none := hf
        simp at this
        simp [letD]
        have e2 : q.find? (fun d => !decide (d = e)) = none := by simpa using this
        rw [e2]
      | some d => 
        have : q.find? (fun x => decide (x ≠ e)) = some d := hf
        simp at this
        simp [letD, cw, this]
    · have hec2 : ¬(some e = some c) := by simpa using hec
      simp [letD_eq, hec]
      simp [letD, cw]) M
end Lw

set_option Elab.async false
set_option linter.all false
set_option maxRecDepth 100000
set_option maxHeartbeats 4000000
namespace Lw
open PySem Fn U
open L2 (Key)
variable {T : Tr} {s : List Nat} {k : Nat} {M : Store}
theorem c_stepped (h : TreeOk T) (h8 : T.length ≤ 8) (w : Wd T s) (hk : k < T.length) : callB g_stepped [.p (.list (upsD T T.length)), .p (wd s), .p (nD k)] M = .ok (.p (wd (deed T s k))) M := callB_3 (M0 := []) (by
  have hsl := w.len
  obtain ⟨c, hc⟩ : ∃ c, s[k]? = some c := ⟨s[k], by simp [hsl, hk]⟩
  have hu : ∀ M, pIx (.p (.list (upsD T T.length))) (.p (.int (k : Nat))) M = .ok (.p (.list (iD (ups T k)))) M := fun M => pIx_lst (by omega) (by simpa using upsD_get hk)
  have hx : ∀ (j c : Nat) M, s[j]? = some c → pIx (.p (.str (tx s))) (.p (.int (j : Nat))) M = .ok (.p (wd [c])) M := fun j c M hj => pIx_tx (by omega) (by omega) (by simpa using hj)
  have cw : ∀ d M, callB g_with_letter [.p (wd s), .p (nD k), .p (wd [d])] M = .ok (.p (wd (s.set k d))) M := fun d M => c_with_letter (by omega) (by omega)
  simp [-List.map_map, g_stepped, hu]
  generalize hr : forL _ _ _ _ _ _ _ = r
  rcases for_rt hr (fun i σ M => (∃ x, σ = [some (.p (.list (upsD T T.length))), some (.p (wd s)), some (.p (nD k)), x]) ∧ M = [] ∧ ∀ j y, j < i → (ups T k)[j]? = some y → s[y]? = s[k]?)
    (fun d M => d = .p (wd (deed T s k)) ∧ M = []) ⟨⟨none, rfl⟩, rfl, fun j y hj => by omega⟩ (by
    rintro i d σ M hd ⟨⟨x, rfl⟩, rfl, hi⟩
    simp at hd
    obtain ⟨o, ho, rfl⟩ := hd
    have hol : o < s.length := by have := ups_lt h k hk o (List.mem_of_getElem? ho); omega
    have ho2 : s[o]? = some s[o] := by simp [hol]
    refine ⟨_, dT_nm _ _ _, ?_⟩
    simp [hx _ _ _ hc, hx _ _ _ ho2, pEq_tx, cw]
    by_cases e : s[o] = c
    · rw [if_pos e]
      refine .nx ⟨⟨_, rfl⟩, rfl, fun j y hj hy => ?_⟩
      by_cases hji : j < i
      · exact hi j y hji hy
      · have : j = i := by omega
        subst this
        rw [ho] at hy; cases hy
        rw [ho2, hc, e]
    · rw [if_neg e]
      refine .rt ⟨?_, rfl⟩
      rw [deed_hit ho hi (by rw [ho2, hc]; simpa using e) ho2]) with ⟨σ, M, rfl, ⟨x, rfl⟩, rfl, hi⟩ | ⟨d, M, rfl, rfl, rfl⟩
  · simp
    rw [deed_none fun j y _ hy => hi j y (by simp; exact (List.getElem?_eq_some_iff.mp hy).1) hy]
  · simp) M
theorem c_led_on (h : TreeOk T) (h8 : T.length ≤ 8) (w : Wd T s) {row : List Nat} (hr : ∀ j ∈ row, j < T.length) : callB g_led_on [.p (tD T), .p (wd s), .p (.list (iD row))] M = .ok (.p (wd (led T s row))) M := callB_3 (M0 := []) (by
  simp [-List.map_map, g_led_on, c_ways_up h h8]
  generalize hq : forL _ _ _ _ _ _ _ = r
  obtain ⟨σ, M, rfl, x, rfl, rfl⟩ := for_nx hq (fun i σ M => ∃ x, σ = [some (.p (tD T)), some (.p (wd (led T s (row.take i)))), some (.p (.list (iD row))), some (.p (.list (upsD T T.length))), x] ∧ M = []) ⟨none, rfl, rfl⟩ (by
    rintro i d σ M hd ⟨x, rfl, rfl⟩
    simp at hd
    obtain ⟨o, ho, rfl⟩ := hd
    have hm := List.mem_of_getElem? ho
    have w2 : Wd T (led T s (row.take i)) := w.led h fun j hj => hr j (List.mem_of_mem_take hj)
    refine ⟨_, [some (.p (tD T)), some (.p (wd (led T s (row.take (i + 1))))), some (.p (.list (iD row))), some (.p (.list (upsD T T.length))), some (.p (nD o))], [], dT_nm _ _ _, ?_, _, rfl, rfl⟩
    simp [c_stepped h h8 w2 (hr o hm), led_take ho])
  simp) M
/-- the dict of ring_of -/
def spD (f : Nat → List Nat) (i : Nat) : List (Key × PyData) := (List.range i).map fun j => (Sum.inr (tx (f j)), PyData.int (j : Nat))
theorem spD_succ {f : Nat → List Nat} {i : Nat} : spD f (i + 1) = spD f i ++ [(Sum.inr (tx (f i)), PyData.int (i : Nat))] := by
  rw [spD, List.range_succ, List.map_append]; rfl
theorem spD_len {f : Nat → List Nat} {i : Nat} : (spD f i).length = i := by rw [spD, List.length_map, List.length_range]
theorem spD_none {f : Nat → List Nat} {w : List Nat} {i : Nat} (h : w ∉ lst f i) : getP (spD f i) (.inr (tx w)) = none := by
  unfold getP
  rw [Option.map_eq_none_iff, List.find?_eq_none]
  intro kv hkv
  obtain ⟨j, hj, rfl⟩ := List.mem_map.mp hkv
  simp [tx_inj]
  intro e
  exact h (mem_lst.mpr ⟨j, List.mem_range.mp hj, e⟩)
theorem spD_any {f : Nat → List Nat} {w : List Nat} {i : Nat} (h : w ∉ lst f i) : putP (spD f i) (.inr (tx w)) (.int (i : Nat)) = spD f i ++ [(.inr (tx w), .int (i : Nat))] := by
  unfold putP
  rw [if_neg]
  intro e
  obtain ⟨kv, hkv, e2⟩ := List.any_eq_true.mp e
  obtain ⟨j, hj, rfl⟩ := List.mem_map.mp hkv
  simp [tx_inj] at e2
  exact h (mem_lst.mpr ⟨j, List.mem_range.mp hj, e2⟩)
theorem spD_some {f : Nat → List Nat} {j : Nat} : ∀ {i : Nat}, (lst f i).Nodup → j < i → getP (spD f i) (.inr (tx (f j))) = some (.int (j : Nat))
  | 0, _, h => by omega
  | i + 1, hn, h => by
    rw [lst_succ, List.nodup_append] at hn
    rw [spD_succ]
    by_cases e : j < i
    · have := spD_some hn.1 e
      unfold getP at this ⊢
      rw [List.find?_append]
      rw [Option.map_eq_some_iff] at this ⊢
      obtain ⟨a, e1, e2⟩ := this
      exact ⟨a, by rw [e1]; rfl, e2⟩
    · have e2 : j = i := by omega
      subst e2
      have hm : f j ∉ lst f j := fun hm => hn.2.2 _ hm _ (List.mem_singleton.mpr rfl) rfl
      have := spD_none hm
      unfold getP at this ⊢
      rw [Option.map_eq_none_iff] at this
      rw [List.find?_append, this]
      simp
theorem c_ring_of (h : TreeOk T) (h8 : T.length ≤ 8) (w : Wd T s) {row : List Nat} (hr : ∀ j ∈ row, j < T.length) : ∃ i j, j < i ∧ rnd T row i s = rnd T row j s ∧
    ∀ M, callB g_ring_of [.p (tD T), .p (wd s), .p (.list (iD row))] M = .ok (.p (.tuple [.list (wD ((lst (fun j => rnd T row j s) i).take j)), .list (wD ((lst (fun j => rnd T row j s) i).drop j))])) M := by
  have key : ∃ i j M0, j < i ∧ rnd T row i s = rnd T row j s ∧ g_ring_of [.p (tD T), .p (wd s), .p (.list (iD row))] [] = .ok (.p (.tuple [.list (wD ((lst (fun j => rnd T row j s) i).take j)), .list (wD ((lst (fun j => rnd T row j s) i).drop j))])) M0 := by
    let f : Nat → List Nat := fun j => rnd T row j s
    simp [-List.map_map, g_ring_of, lstC]
    generalize hq : whileL _ _ _ _ _ _ = r
    obtain ⟨σ, M, rfl, i, hm, hn, rfl, rfl⟩ := while_nx hq (fun m σ M => ∃ i, m + i = 2097153 ∧ (lst f i).Nodup ∧ σ = [some (.p (tD T)), some (.p (wd (f i))), some (.p (.list (iD row))), some (.cell 0), some (.cell 1)] ∧ M = [.lst (wD (lst f i)), .dic (spD f i)])
      (E := fun σ M => ∃ i, f i ∈ lst f i ∧ (lst f i).Nodup ∧ σ = [some (.p (tD T)), some (.p (wd (f i))), some (.p (.list (iD row))), some (.cell 0), some (.cell 1)] ∧ M = [.lst (wD (lst f i)), .dic (spD f i)]) 2097153 (by decide) ⟨0, rfl, by simp [lst], rfl, rfl⟩ (by
      rintro m σ M ⟨i, hm, hn, rfl, rfl⟩
      have few := lst_few h w h8 hr hn
      by_cases hi : f i ∈ lst f i
      · obtain ⟨j, hj, e⟩ := mem_lst.mp hi
        refine .inl ⟨?_, i, hi, hn, rfl, rfl⟩
        simp [keyOf]
        rw [← e, spD_some hn hj]
        simp
      · refine .inr ⟨?_, m - 1, [some (.p (tD T)), some (.p (wd (f (i + 1)))), some (.p (.list (iD row))), some (.cell 0), some (.cell 1)], [.lst (wD (lst f (i + 1))), .dic (spD f (i + 1))], ?_, by omega, i + 1, by omega, ?_, rfl, rfl⟩
        · simp [keyOf, spD_none hi]
        · have hl : i < 16777216 := by omega
          have w2 : Wd T (f i) := w.rnd h hr
          simp [keyOf, cLen_cell, lst_len, spD_len, hl, spD_any hi, tyD, kdC, mApp, lstC', Fn.sizeLine_eq, c_led_on h h8 w2 hr, spD_succ, lst_succ]
          rfl
        · rw [lst_succ]
          exact List.nodup_append.mpr ⟨hn, nodup_one _, fun a ha b hb => by rw [List.mem_singleton.mp hb]; intro e; exact hi (e ▸ ha)⟩)
    obtain ⟨j, hj, e⟩ := mem_lst.mp hm
    have hg := spD_some hn hj
    rw [e] at hg
    refine ⟨i, j, hj, e.symm, [.lst (wD (lst f i)), .dic (spD f i)], ?_⟩
    simp [keyOf, dgetR, hg, pSl, cut_to, cut_from]
    exact ⟨rfl, rfl⟩
  obtain ⟨i, j, M0, a, b, c⟩ := key
  exact ⟨i, j, a, b, fun M => callB_3 c M⟩
end Lw

set_option Elab.async false
set_option linter.all false
set_option maxRecDepth 100000
set_option maxHeartbeats 4000000
namespace Lw
open PySem Fn U
open L2 (Key)
variable {T : Tr} {s : List Nat} {k : Nat} {M : Store}
theorem c_rounds_done (h : TreeOk T) (h8 : T.length ≤ 8) (w : Wd T s) {row : List Nat} (hr : ∀ j ∈ row, j < T.length) (n : Nat) : callB g_rounds_done [.p (tD T), .p (wd s), .p (.list (iD row)), .p (.int (n : Nat))] M = .ok (.p (wd (rnd T row n s))) M := callB_4 (M0 := []) (by
  obtain ⟨i, j, hj, e, hc⟩ := c_ring_of h h8 w hr
  revert hc
  have l1 : ((lst (fun j => rnd T row j s) i).take j).length = j := by rw [List.length_take, lst_len]; omega
  have l2 : ((lst (fun j => rnd T row j s) i).drop j).length = i - j := by rw [List.length_drop, lst_len]
  have g1 : ∀ m, m < j → ((lst (fun j => rnd T row j s) i).take j)[m]? = some (rnd T row m s) := fun m hm => by rw [List.getElem?_take_of_lt hm, lst_get (by omega)]
  have g2 : ∀ m, m < i - j → ((lst (fun j => rnd T row j s) i).drop j)[m]? = some (rnd T row (j + m) s) := fun m hm => by rw [List.getElem?_drop, lst_get (by omega)]
  revert l1 l2 g1 g2
  generalize (lst (fun j => rnd T row j s) i).take j = A
  generalize (lst (fun j => rnd T row j s) i).drop j = B
  intro l1 l2 g1 g2 hc
  simp [g_rounds_done, hc, tupOf, dTs, dT, unc, l1, l2]
  by_cases hn : n < j
  · have hx : ∀ M, pIx (.p (.list (wD A))) (.p (.int (n : Nat))) M = .ok (.p (wd (rnd T row n s))) M := fun M => pIx_lst (by omega) (by simp [g1 n hn])
    simp [hn, hx]
  · have hm : (n - j) % (i - j) < i - j := Nat.mod_lt _ (by omega)
    have e3 : ((n : Int) - (j : Nat)) % ((i - j : Nat) : Int) = (((n - j) % (i - j) : Nat) : Int) := by
      rw [show (n : Int) - (j : Nat) = ((n - j : Nat) : Int) by omega]; rfl
    have hx : ∀ M, pIx (.p (.list (wD B))) (.p (.int (((n - j) % (i - j) : Nat) : Int))) M = .ok (.p (wd (rnd T row n s))) M := fun M => pIx_lst (by omega) (by
      rw [Int.toNat_natCast, List.getElem?_map, g2 _ hm]
      have : rnd T row (j + (n - j) % (i - j)) s = rnd T row n s := rep_mod (f := fun z => led T z row) (by rw [show j + (i - j) = i by omega]; exact e) (by omega)
      rw [this]; rfl)
    rw [if_neg hn, pMod_int _ _ _ (by omega), e3]
    simp only [toS_ok, hx, fin_rt]) M
theorem str_ne : (Str.ofString "rounds" = Str.ofString "deed") = False := deed_ne_rounds
theorem c_entry_done (h : TreeOk T) (h8 : T.length ≤ 8) (w : Wd T s) {e : Ent} (he : EntOk T e) : callB g_entry_done [.p (tD T), .p (wd s), .p (entD false e)] M = .ok (.p (wd (entW T s e))) M := callB_3 (M0 := []) (by
  cases e with
  | deed k =>
    have hk : k < T.length := he
    simp [g_entry_done, entD, c_deed_done h h8 w hk, entW]
  | rounds row n =>
    simp [g_entry_done, entD, c_rounds_done h h8 w he.1.lt, entW, str_ne]) M
theorem r_check_row {row : List Nat} {m : Nat} (hr : ∀ j ∈ row, j < T.length) (hl : row.length ≤ m) : g_check_row [.p (tD T), .cell 0, .p (.int (m : Nat))] [.lst (iD row)] = .ok (.p .none) [.lst (iD row)] := by
  have e1 : pEnum [.cell 0] [.lst (iD row)] = .ok (enD 0 ((iD row).map D.p), [(0, iD row)]) [.lst (iD row)] := pEnum_cell _ _ rfl
  simp [-List.map_map, g_check_row, isiB, cLen_cell, e1]
  rw [if_neg (by omega)]
  generalize hq : forL _ _ _ _ _ _ _ = r
  obtain ⟨σ, M, rfl, _, rfl⟩ := for_nxG hq (fun i σ M => (∃ x y, σ = [some (.p (tD T)), some (.cell 0), some (.p (.int (m : Nat))), x, y]) ∧ M = [.lst (iD row)]) ⟨⟨_, _, rfl⟩, rfl⟩ (by
    rintro i σ M ⟨_, rfl⟩ p hp
    rw [List.mem_singleton.mp hp]
    rfl) (by
    rintro i d σ M hd ⟨⟨x, y, rfl⟩, rfl⟩
    obtain ⟨x, hx, rfl⟩ := enD_get _ _ _ hd
    simp at hx
    obtain ⟨o, ho, rfl⟩ := hx
    have := hr o (List.mem_of_getElem? ho)
    refine ⟨[some (.p (tD T)), some (.cell 0), some (.p (.int (m : Nat))), some (.p (.int ((0 + i : Nat) : Int))), some (.p (nD o))], [some (.p (tD T)), some (.cell 0), some (.p (.int (m : Nat))), some (.p (.int ((0 + i : Nat) : Int))), some (.p (nD o))], _, ?_, ?_, ⟨_, _, rfl⟩, rfl⟩
    · simp [prD, tupOf, dTs, dT, unc]
    · simp [c_is_place, this])
  simp
theorem c_check_row {row : List Nat} {m n : Nat} (hr : ∀ j ∈ row, j < T.length) (hl : row.length ≤ m) (hc : M[n]? = some (.lst (iD row))) : callB g_check_row [.p (tD T), .cell n, .p (.int (m : Nat))] M = .ok (.p .none) M := by
  have := callB_pcp hc rfl (r_check_row hr hl) rfl
  rwa [set_eq hc] at this
/-! ### the house -/
def hF (T : Tr) (i j : Nat) (b : Bool) : List (Str × D) := [("roots", .p (tD T)), ("kept", .cell i), ("passed", .cell j), ("busy", .p (.bool b))]
section
variable {i j : Nat} {b : Bool}
@[simp] theorem hF_roots : (hF T i j b).lookup ("roots" : Str) = some (.p (tD T)) := by rfl
@[simp] theorem hF_kept : (hF T i j b).lookup ("kept" : Str) = some (.cell i) := by rfl
@[simp] theorem hF_passed : (hF T i j b).lookup ("passed" : Str) = some (.cell j) := by rfl
@[simp] theorem hF_busy : (hF T i j b).lookup ("busy" : Str) = some (.p (.bool b)) := by rfl
@[simp] theorem hF_put {c : Bool} : putD ("busy" : Str) (.p (.bool c)) (hF T i j b) = hF T i j c := by rfl
@[simp] theorem hF_len : (hF T i j b).length = 4 := by rfl
@[simp] theorem hF_rounds : (hF T i j b).lookup ("rounds" : Str) = none := by rfl
@[simp] theorem hF_deed : (hF T i j b).lookup ("deed" : Str) = none := by rfl
@[simp] theorem hF_keep : (hF T i j b).lookup ("keep" : Str) = none := by rfl
@[simp] theorem hF_need_room : (hF T i j b).lookup ("need_room" : Str) = none := by rfl
@[simp] theorem hF_word : (hF T i j b).lookup ("word" : Str) = none := by rfl
@[simp] theorem hF_first : (hF T i j b).lookup ("first" : Str) = none := by rfl
@[simp] theorem hF_tree : (hF T i j b).lookup ("tree" : Str) = none := by rfl
@[simp] theorem hF_entries : (hF T i j b).lookup ("entries" : Str) = none := by rfl
@[simp] theorem hF_go : (hF T i j b).lookup ("go" : Str) = none := by rfl
@[simp] theorem hF_ln : (hF T i j b).lookup ("__len__" : Str) = none := by rfl
@[simp] theorem hF_st : (hF T i j b).lookup ("__str__" : Str) = none := by rfl
@[simp] theorem hF_re : (hF T i j b).lookup ("__repr__" : Str) = none := by rfl
end
/-- a house as the cells of a box -/
def hM (T : Tr) (s : List Nat) (es : List Ent) (b : Bool) : Store := [.ins "House" (hF T 1 2 b), .lst (es.map (entD false)), .lst (wD (passed T s es))]
structure HOk (T : Tr) (s : List Nat) (es : List Ent) : Prop where
  t : TreeOk T
  t8 : T.length ≤ 8
  w : Wd T s
  e : ∀ e ∈ es, EntOk T e
theorem HOk.wb {es : List Ent} (h : HOk T s es) : Wd T (behind T s es) := Wd.behind h.t h.w h.e
theorem HOk.snoc {es : List Ent} (h : HOk T s es) {e : Ent} (he : EntOk T e) : HOk T s (es ++ [e]) := ⟨h.t, h.t8, h.w, fun x hx => (List.mem_append.mp hx).elim (h.e x) fun z => by rw [List.mem_singleton.mp z]; exact he⟩
theorem passed_end {es : List Ent} : ∃ xs, wD (passed T s es) = xs ++ [wd (behind T s es)] := by
  refine ⟨wD ((passed T s es).take es.length), ?_⟩
  have h := passed_last (T := T) (s := s) (es := es)
  have e : passed T s es = (passed T s es).take es.length ++ [behind T s es] := by
    rw [← take_succ_of h, List.take_of_length_le (by rw [passed_len]; omega)]
  exact (congrArg wD e).trans (by rw [wD, List.map_append]; rfl)
theorem passed_app {es : List Ent} {e : Ent} : wD (passed T s (es ++ [e])) = wD (passed T s es) ++ [wd (behind T s (es ++ [e]))] := by rw [passed_snoc, behind_snoc, wD, List.map_append]; rfl
/-- passed[-1], wherever it stands -/
theorem ix_last {n : Nat} {es : List Ent} (h : M[n]? = some (.lst (wD (passed T s es)))) : pIx (.cell n) (.p (.int (-1))) M = .ok (.p (wd (behind T s es))) M := by
  obtain ⟨xs, hx⟩ := passed_end (T := T) (s := s) (es := es)
  rw [hx] at h
  exact pIx_last h
theorem ix_last2 {n : Nat} {es : List Ent} {e : Ent} (h : M[n]? = some (.lst (wD (passed T s (es ++ [e]))))) : pIx (.cell n) (.p (.int (-2))) M = .ok (.p (wd (behind T s es))) M := by
  obtain ⟨xs, hx⟩ := passed_end (T := T) (s := s) (es := es)
  rw [passed_app, hx, List.append_assoc] at h
  exact pIx_last2 h
theorem r_keep {es : List Ent} {b : Bool} {R : Store} (h : HOk T s es) {e : Ent} (he : EntOk T e) (hl : es.length < 1000) : g_House_keep [.cell 0, .p (entD false e)] (hM T s es b ++ R) = .ok (.p .none) (hM T s (es ++ [e]) b ++ R) := by
  have l1 : ∀ M : Store, M[2]? = some (.lst (wD (passed T s es))) → mApp (.cell 2) [.p (wd (behind T s (es ++ [e])))] M = .ok (.p .none) (M.set 2 (.lst (wD (passed T s (es ++ [e]))))) := fun M hm => by
    rw [mApp_ok _ _ _ _ hm (by rw [wD_len, passed_len]; omega), passed_app]
  have l2 : ∀ M : Store, M[1]? = some (.lst (es.map (entD false))) → mApp (.cell 1) [.p (entD false e)] M = .ok (.p .none) (M.set 1 (.lst ((es ++ [e]).map (entD false)))) := fun M hm => by
    rw [mApp_ok _ _ _ _ hm (by rw [List.length_map]; omega), List.map_append]; rfl
  have c1 : ∀ M, callB g_entry_done [.p (tD T), .p (wd (behind T s es)), .p (entD false e)] M = .ok (.p (wd (behind T s (es ++ [e])))) M := fun M => by
    rw [c_entry_done h.t h.t8 h.wb he, behind_snoc]
  have l3 : ∀ M : Store, M[2]? = some (.lst (wD (passed T s es))) → pIx (.cell 2) (.p (.int (-1))) M = .ok (.p (wd (behind T s es))) M := fun M hm => ix_last hm
  simp [-List.map_append, g_House_keep, hM, tyD_cell, l3, c1, l1, l2]
theorem r_need_room {es : List Ent} {b : Bool} {R : Store} {n : Nat} (hl : es.length + n ≤ 40) : g_House_need_room [.cell 0, .p (.int (n : Nat))] (hM T s es b ++ R) = .ok (.p .none) (hM T s es b ++ R) := by
  have l1 : ∀ M : Store, M[1]? = some (.lst (es.map (entD false))) → cLen [.cell 1] M = .ok (.p (.int (es.length : Nat))) M := fun M hm => by
    rw [cLen_cell _ _ _ hm, List.length_map]
  simp [g_House_need_room, hM, l1]
  omega
theorem has_house {es : List Ent} {b : Bool} {R : Store} {m : Str} (hm : (hF T 1 2 b).lookup m = none) : hasIns "House" m (hM T s es b ++ R) (.cell 0) = some 0 := by
  show (if ("House" : Str) = "House" ∧ (hF T 1 2 b).lookup m = none then some 0 else none) = _
  rw [if_pos ⟨rfl, hm⟩]
theorem methOn0 {es : List Ent} {b : Bool} {R : Store} (f : List D → Store → Fn.R D) (ds : List D) : methOn f 0 ds (hM T s es b ++ R) = f (.cell 0 :: ds) (hM T s es b ++ R) := rfl
theorem r_deed {es : List Ent} {R : Store} (h : HOk T s es) (hk : k < T.length) (hl : es.length + 1 ≤ 40) : ∃ c, (behind T s (es ++ [.deed k]))[k]? = some c ∧
    g_House_deed [.cell 0, .p (nD k)] (hM T s es false ++ R) = .ok (.p (wd [c])) (hM T s (es ++ [.deed k]) false ++ R) := by
  have w2 := (h.snoc (e := .deed k) hk).wb
  obtain ⟨c, hc⟩ : ∃ c, (behind T s (es ++ [.deed k]))[k]? = some c := ⟨_, List.getElem?_eq_getElem (by rw [w2.len]; exact hk)⟩
  refine ⟨c, hc, ?_⟩
  have l1 : gFld "House" "roots" (gVar 0) [some (.cell 0), some (.p (nD k))] (hM T s es false ++ R) = .ok (.p (tD T)) (hM T s es false ++ R) := by simp [hM]
  have l2 : gFld "House" "passed" (gVar 0) [some (.cell 0), some (.p (nD k))] (hM T s (es ++ [.deed k]) false ++ R) = .ok (.cell 2) (hM T s (es ++ [.deed k]) false ++ R) := by simp [-List.map_append, hM]
  have l3 : pIx (.cell 2) (.p (.int (-1))) (hM T s (es ++ [.deed k]) false ++ R) = .ok (.p (wd (behind T s (es ++ [.deed k])))) (hM T s (es ++ [.deed k]) false ++ R) := ix_last rfl
  have l4 := r_keep (b := false) (R := R) h (e := .deed k) hk (by omega)
  have l5 := r_need_room (T := T) (s := s) (b := false) (R := R) hl
  have l6 : ∀ M, pIx (.p (wd (behind T s (es ++ [.deed k])))) (.p (nD k)) M = .ok (.p (wd [c])) M := fun M => pIx_tx (by rw [w2.len]; have := h.t8; omega) (by omega) (by simpa using hc)
  have e1 : entD false (.deed k) = .tuple [.str "deed", nD k] := rfl
  rw [e1] at l4
  have e2 : ((1 : Nat) : Int) = 1 := rfl
  rw [e2] at l5
  simp [-List.map_append, -gFld_eq, g_House_deed, l1, l2, l3, l6, c_need_place hk, has_house, methOn0, l4, l5]
theorem r_word {es : List Ent} {b : Bool} {R : Store} : g_House_word [.cell 0] (hM T s es b ++ R) = .ok (.p (wd (behind T s es))) (hM T s es b ++ R) := by
  have l1 : gFld "House" "passed" (gVar 0) [some (.cell 0)] (hM T s es b ++ R) = .ok (.cell 2) (hM T s es b ++ R) := by simp [hM]
  have l3 : pIx (.cell 2) (.p (.int (-1))) (hM T s es b ++ R) = .ok (.p (wd (behind T s es))) (hM T s es b ++ R) := ix_last rfl
  simp [-gFld_eq, g_House_word, l1, l3]
theorem r_rounds {es : List Ent} {row : List Nat} {n : Nat} (h : HOk T s es) (hr : ∀ j ∈ row, j < T.length) (hrl : row.length ≤ 12) (hn : n ≤ 10 ^ 30) (hl : es.length + 1 ≤ 40) :
    g_House_rounds [.cell 0, .cell 3, .p (.int (n : Nat))] (hM T s es false ++ [.lst (iD row)]) = .ok (.p (wd (behind T s (es ++ [.rounds row n])))) (hM T s (es ++ [.rounds row n]) false ++ [.lst (iD row)]) := by
  have he : EntOk T (.rounds row n) := ⟨⟨hr, by omega⟩, hn⟩
  have l1 : gFld "House" "roots" (gVar 0) [some (.cell 0), some (.cell 3), some (.p (.int (n : Nat)))] (hM T s es false ++ [.lst (iD row)]) = .ok (.p (tD T)) (hM T s es false ++ [.lst (iD row)]) := by simp [hM]
  have l2 : gFld "House" "passed" (gVar 0) [some (.cell 0), some (.cell 3), some (.p (.int (n : Nat)))] (hM T s (es ++ [.rounds row n]) false ++ [.lst (iD row)]) = .ok (.cell 2) (hM T s (es ++ [.rounds row n]) false ++ [.lst (iD row)]) := by simp [-List.map_append, hM]
  have l3 : pIx (.cell 2) (.p (.int (-1))) (hM T s (es ++ [.rounds row n]) false ++ [.lst (iD row)]) = .ok (.p (wd (behind T s (es ++ [.rounds row n])))) (hM T s (es ++ [.rounds row n]) false ++ [.lst (iD row)]) := ix_last rfl
  have l4 := r_keep (b := false) (R := [.lst (iD row)]) h (e := .rounds row n) he (by omega)
  have l5 := r_need_room (T := T) (s := s) (b := false) (R := [.lst (iD row)]) hl
  have l6 : callB g_check_row [.p (tD T), .cell 3, .p (.int (12 : Nat))] (hM T s es false ++ [.lst (iD row)]) = .ok (.p .none) (hM T s es false ++ [.lst (iD row)]) := c_check_row hr hrl rfl
  have l7 : cTuple [.cell 3] (hM T s es false ++ [.lst (iD row)]) = .ok (.p (.tuple (iD row))) (hM T s es false ++ [.lst (iD row)]) := cTuple_cell _ _ _ rfl
  have e1 : entD false (.rounds row n) = .tuple [.str "rounds", .tuple (iD row), .int (n : Nat)] := rfl
  rw [e1] at l4
  have e2 : ((1 : Nat) : Int) = 1 := rfl
  rw [e2] at l5
  have e3 : ((12 : Nat) : Int) = 12 := rfl
  rw [e3] at l6
  have hn2 : (n : Int) ≤ 1000000000000000000000000000000 := by
    have e : (10 : Nat) ^ 30 = 1000000000000000000000000000000 := by decide
    rw [e] at hn
    omega
  simp [-List.map_append, -gFld_eq, g_House_rounds, l1, l2, l3, l6, l7, c_is_whole, has_house, methOn0, l4, l5, hn2]
end Lw

set_option Elab.async false
set_option linter.all false
set_option maxRecDepth 100000
set_option maxHeartbeats 4000000
namespace Lw
open PySem Fn U
open L2 (Key)
variable {T : Tr} {s : List Nat} {k : Nat} {M : Store}
theorem abc_mem {c : Nat} (h : 97 ≤ c ∧ c < 123) : decide (c ∈ (Str.ofString "abcdefghijklmnopqrstuvwxyz").cps.toList) = true := by
  rw [abc_tx]
  exact decide_eq_true (mem_abc.mpr h)
theorem c_is_letter {c : Nat} (h : 97 ≤ c ∧ c < 123) : callB g_is_letter [.p (wd [c])] M = .ok (.p (.bool true)) M := callB_1 (M0 := []) (by
  have e : ∀ M, pIn false (.p (wd [c])) (.p (.str ("abcdefghijklmnopqrstuvwxyz" : Str))) M = .ok (.p (.bool true)) M := fun M => by
    show Fn.R.ok (D.p (.bool (false ^^ decide (c ∈ (Str.ofString "abcdefghijklmnopqrstuvwxyz").cps.toList)))) M = _
    rw [abc_mem h]; rfl
  have e2 : ∀ M, cLen [.p (wd [c])] M = .ok (.p (.int 1)) M := fun M => cLen_tx (by simp)
  simp [g_is_letter, isiB, e, e2]) M
theorem bools_true : ∀ (n : Nat), boolsOf (List.replicate n (.bool true)) = some (List.replicate n true)
  | 0 => rfl
  | n + 1 => by rw [List.replicate_succ, boolsOf, bools_true n]; rfl
theorem c_is_word (h8 : T.length ≤ 8) (w : Wd T s) : callB g_is_word [.p (tD T), .p (wd s)] M = .ok (.p (.bool true)) M := callB_2 (M0 := []) (by
  have e2 : ∀ M, cLen [.p (wd s)] M = .ok (.p (.int s.length)) M := fun M => cLen_tx (by have := w.len; omega)
  simp [-List.map_map, g_is_word, isiB, e2, w.len]
  have e3 : (s.map sgD) = (s.map fun c => wd [c]).map D.p := by rw [List.map_map]; rfl
  rw [e3, lc_pp (fun _ => .bool true)]
  · have e4 : (s.map fun c => wd [c]).map (fun _ => PyData.bool true) = List.replicate s.length (.bool true) := by
      rw [List.map_map, List.eq_replicate_iff]
      simp
    rw [e4]
    simp [cAll, bools_true]
  · simp; have := w.len; omega
  · intro x hx
    obtain ⟨c, hc, rfl⟩ := List.mem_map.mp hx
    refine ⟨_, dT_nm _ _ _, ?_⟩
    simp [wipeD, c_is_letter (w.lets c hc)]) M
theorem c_may_stand (h : TreeOk T) (hk : k < T.length) {o : Option Nat} (e : T[k]? = some o) : callB g_may_stand [.p (nD k), .p (pD o)] M = .ok (.p (.bool true)) M := callB_2 (M0 := []) (by
  rcases h.case hk with ⟨rfl, e2⟩ | ⟨h0, j, hj, e2⟩
  · rw [e] at e2; cases e2
    simp [g_may_stand, pD]
  · rw [e] at e2; cases e2
    have : ¬(k = 0) := by omega
    simp [g_may_stand, pD, this, c_is_whole, hj]) M
theorem c_first_wrong (h : TreeOk T) (h8 : T.length ≤ 8) : callB g_first_wrong [.p (tD T)] M = .ok (.p .none) M := callB_1 (M0 := []) (by
  simp [-List.map_map, g_first_wrong]
  generalize hq : forL _ _ _ _ _ _ _ = r
  obtain ⟨σ, M, rfl, _, rfl⟩ := for_nx hq (fun i σ M => (∃ x y, σ = [some (.p (tD T)), x, y]) ∧ M = []) ⟨⟨_, _, rfl⟩, rfl⟩ (by
    rintro i d σ M hd ⟨⟨x, y, rfl⟩, rfl⟩
    obtain ⟨x, hx, rfl⟩ := enD_get _ _ _ hd
    simp at hx
    obtain ⟨o, ho, rfl⟩ := hx
    have hi := (List.getElem?_eq_some_iff.mp ho).1
    refine ⟨[some (.p (tD T)), some (.p (nD i)), some (.p (pD o))], [some (.p (tD T)), some (.p (nD i)), some (.p (pD o))], _, ?_, ?_, ⟨_, _, rfl⟩, rfl⟩
    · cases o <;> simp [prD, tupOf, dTs, dT, unc, pD]
    · simp [c_may_stand h hi ho]
      omega)
  simp) M
theorem c_tree_of (h : TreeOk T) (h8 : T.length ≤ 8) : callB g_tree_of [.p (tD T)] M = .ok (.p (tD T)) M := callB_1 (M0 := []) (by
  have := h.pos
  simp [g_tree_of, isiB, c_first_wrong h h8]
  intro e
  rw [e] at this
  simp at this) M
section
variable {x y : D} {i j : Nat}
theorem pu1 : putD ("roots" : Str) x [] = ([("roots", x)] : List (Str × D)) := by rfl
theorem pu2 : putD ("kept" : Str) y [("roots", x)] = ([("roots", x), ("kept", y)] : List (Str × D)) := by rfl
theorem pu3 {z : D} : putD ("passed" : Str) z [("roots", x), ("kept", y)] = ([("roots", x), ("kept", y), ("passed", z)] : List (Str × D)) := by rfl
theorem pu4 : putD ("busy" : Str) (.p (.bool false)) [("roots", .p (tD T)), ("kept", .cell i), ("passed", .cell j)] = hF T i j false := by rfl
theorem lu1 : List.lookup ("roots" : Str) [("roots", x)] = some x := by rfl
end
theorem c_init (h : TreeOk T) (h8 : T.length ≤ 8) (w : Wd T s) : callN "House" g_House_init [.p (tD T), .p (wd s)] M = .ok (.cell M.length) (M ++ [.box (hM T s [] false)]) := by
  have e : g_House_init [.cell 0, .p (tD T), .p (wd s)] [.ins "House" []] = .ok (.p .none) (hM T s [] false) := by
    simp [g_House_init, c_tree_of h h8, c_is_word h8 w, pu1, pu2, pu3, lu1, lstC, hM]
    exact ⟨pu4, rfl⟩
  unfold callN
  have e2 : labs 1 [] [.p (tD T), .p (wd s)] = some ([.p (tD T), .p (wd s)], []) := rfl
  rw [e2]
  simp only [lent, e]
  rfl
/-! ### a house in a box -/
theorem box_hM {es : List Ent} {b : Bool} {R : Store} : boxAt (hM T s es b ++ R) 0 = some (hM T s es b, [0, 1, 2]) := by rfl
theorem meth0 {f : List D → Store → Fn.R D} {k : Nat} {xs : List PyData} {es es' : List Ent} {b b' : Bool} {y : PyData} {R : Store} (hk : M[k]? = some (.box (hM T s es b))) (h : f (.cell 0 :: xs.map D.p) (hM T s es b) = .ok (.p y) (hM T s es' b' ++ R)) :
    methOn f k (xs.map D.p) M = .ok (.p y) (M.set k (.box (hM T s es' b'))) := by
  unfold methOn
  simp only [hk]
  unfold callM
  simp only [hk, labs_p, lent, List.append_nil, h, box_hM, List.contains_nil]
  have e : (hM T s es' b' ++ R).drop (hM T s es b).length = R := rfl
  have e2 : apart [0, 1, 2] (hM T s es b).length ([] : List Nat).length = true := rfl
  rw [if_neg (by simp), if_pos e2, e]
  simp only [back]
  rfl
theorem meth1 {f : List D → Store → Fn.R D} {k n : Nat} {xs : List PyData} {es es' : List Ent} {b b' : Bool} {y : PyData} {c c' : Cell} {R : Store} (hk : M[k]? = some (.box (hM T s es b))) (hn : M[n]? = some c) (ho : c.own = true) (hne : n ≠ k)
    (h : f (.cell 0 :: .cell 3 :: xs.map D.p) (hM T s es b ++ [c]) = .ok (.p y) (hM T s es' b' ++ c' :: R)) (ho' : c'.own = true) :
    methOn f k (.cell n :: xs.map D.p) M = .ok (.p y) ((M.set k (.box (hM T s es' b'))).set n c') := by
  unfold methOn
  simp only [hk]
  unfold callM
  have l : labs (hM T s es b).length [] (.cell n :: xs.map D.p) = some (.cell 3 :: xs.map D.p, [n]) := by
    have e : lab (hM T s es b).length [] (.cell n) = some (.cell 3, [n]) := rfl
    rw [labs, e]
    simp only [labs_p]
  have z : ¬([n].contains k = true) := by simp; omega
  simp only [hk, l, lent, hn, if_pos ho, if_neg z, h, box_hM]
  have e : (hM T s es' b' ++ c' :: R).drop (hM T s es b).length = c' :: R := rfl
  have e2 : apart [0, 1, 2] (hM T s es b).length [n].length = true := rfl
  rw [if_pos e2, e]
  simp only [back, if_pos ho']
  rfl
theorem has_box {es : List Ent} {b : Bool} {m : Str} (hk : M[k]? = some (.box (hM T s es b))) (hm : (hF T 1 2 b).lookup m = none) : hasIns "House" m M (.cell k) = some k := by
  unfold hasIns
  simp only [hk]
  show (if ("House" : Str) = "House" ∧ (hF T 1 2 b).lookup m = none then some k else none) = _
  rw [if_pos ⟨rfl, hm⟩]
theorem r_tree {es : List Ent} {b : Bool} : g_House_tree [.cell 0] (hM T s es b) = .ok (.p (tD T)) (hM T s es b) := by
  simp [g_House_tree, hM]
theorem r_first {es : List Ent} {b : Bool} : g_House_first [.cell 0] (hM T s es b) = .ok (.p (wd s)) (hM T s es b) := by
  have e : pIx (.cell 2) (.p (.int 0)) (hM T s es b) = .ok (.p (wd s)) (hM T s es b) := pIx_cel (xs := wD (passed T s es)) rfl (by decide) (by
    have := passed_get (T := T) (s := s) (es := es) (i := 0) (by omega)
    simp only [Int.toNat_zero, List.getElem?_map]
    rw [this]
    rfl)
  have l2 : gFld "House" "passed" (gVar 0) [some (.cell 0)] (hM T s es b) = .ok (.cell 2) (hM T s es b) := by simp [hM]
  simp [-gFld_eq, g_House_first, l2, e]
theorem r_len {es : List Ent} {b : Bool} : g_House_len [.cell 0] (hM T s es b) = .ok (.p (.int es.length)) (hM T s es b) := by
  have l2 : gFld "House" "kept" (gVar 0) [some (.cell 0)] (hM T s es b) = .ok (.cell 1) (hM T s es b) := by simp [hM]
  have e : cLen [.cell 1] (hM T s es b) = .ok (.p (.int (es.map (entD false)).length)) (hM T s es b) := cLen_cell _ _ _ rfl
  rw [List.length_map] at e
  simp [-gFld_eq, g_House_len, l2, e]
theorem r_str {es : List Ent} {b : Bool} : g_House_str [.cell 0] (hM T s es b) = .ok (.p (wd (behind T s es))) (hM T s es b) := by
  have l1 : gFld "House" "passed" (gVar 0) [some (.cell 0)] (hM T s es b) = .ok (.cell 2) (hM T s es b) := by simp [hM]
  have l3 : pIx (.cell 2) (.p (.int (-1))) (hM T s es b) = .ok (.p (wd (behind T s es))) (hM T s es b) := ix_last rfl
  simp [-gFld_eq, g_House_str, l1, l3]
theorem c_told {e : Ent} : callB g_told_entry [.p (entD false e)] M = .ok (.p (entD true e)) M := callB_1 (M0 := []) (by
  cases e with
  | deed k => simp [g_told_entry, entD, dTs, dT, unc]
  | rounds row n => 
    simp [g_told_entry, entD, dTs, dT, unc, str_ne]) M
theorem r_entries {es : List Ent} {b : Bool} (hl : es.length ≤ 1000) : g_House_entries [.cell 0] (hM T s es b) = .ok (.p (.list (es.map (entD true)))) (hM T s es b) := by
  have l2 : gFld "House" "kept" (gVar 0) [some (.cell 0), none] (hM T s es b) = .ok (.cell 1) (hM T s es b) := by simp [hM]
  have e : pIts (.cell 1) (hM T s es b) = .ok ((es.map (entD false)).map D.p, [(1, es.map (entD false))]) (hM T s es b) := pIts_cell _ _ rfl
  have g : gdOk [(1, es.map (entD false))] (hM T s es b) := fun p hp => by rw [List.mem_singleton.mp hp]; rfl
  simp [-List.map_map, -gFld_eq, g_House_entries, l2, e]
  rw [lc_ppG (fun x => match x with | .tuple [a, b] => .tuple [a, b] | .tuple [a, .tuple b, c] => .tuple [a, .list b, c] | x => x) g (by simp; omega)]
  · have e3 : (es.map (entD false)).map (fun x => match x with | .tuple [a, b] => .tuple [a, b] | .tuple [a, .tuple b, c] => .tuple [a, .list b, c] | x => x) = es.map (entD true) := by
      rw [List.map_map]
      apply List.map_congr_left
      intro e _
      cases e <;> rfl
    rw [e3]
    simp
  · intro x hx
    obtain ⟨e, he, rfl⟩ := List.mem_map.mp hx
    refine ⟨_, dT_nm _ _ _, ?_⟩
    simp [wipeD, c_told]
    cases e <;> rfl
end Lw

set_option Elab.async false
set_option linter.all false
set_option maxRecDepth 100000
set_option maxHeartbeats 4000000
namespace Lw
open PySem Fn U
open L2 (Key)
variable {T : Tr} {s : List Nat} {k : Nat} {M : Store}
theorem behind_deeds {es : List Ent} : ∀ {row : List Nat}, behind T s (es ++ row.map .deed) = led T (behind T s es) row := by
  intro row
  rw [behind_app]
  generalize behind T s es = z
  induction row generalizing z with
  | nil => rfl
  | cons k r ih => exact ih (deed T z k)
theorem HOk.deeds {es : List Ent} (h : HOk T s es) {row : List Nat} (hr : ∀ j ∈ row, j < T.length) : HOk T s (es ++ row.map .deed) := ⟨h.t, h.t8, h.w, fun x hx => (List.mem_append.mp hx).elim (h.e x) fun z => by
  obtain ⟨k, hk, rfl⟩ := List.mem_map.mp z
  exact hr k hk⟩
theorem r_go {es : List Ent} {row : List Nat} (h : HOk T s es) (hr : ∀ j ∈ row, j < T.length) (hl : es.length + row.length ≤ 40) :
    g_House_go [.cell 0, .cell 3, .p .none] (hM T s es false ++ [.lst (iD row)]) = .ok (.p (.int (went T (behind T s es) row : Nat))) (hM T s (es ++ row.map .deed) false ++ [.lst (iD row)]) := by
  have l1 : ∀ σ : Sl, σ[0]? = some (some (.cell 0)) → ∀ (es' : List Ent) (b : Bool), gFld "House" "roots" (gVar 0) σ (hM T s es' b ++ [.lst (iD row)]) = .ok (.p (tD T)) (hM T s es' b ++ [.lst (iD row)]) := fun σ e es' b => by simp [hM, e]
  have l2 : ∀ σ : Sl, σ[0]? = some (some (.cell 0)) → ∀ (es' : List Ent) (b : Bool), gFld "House" "passed" (gVar 0) σ (hM T s es' b ++ [.lst (iD row)]) = .ok (.cell 2) (hM T s es' b ++ [.lst (iD row)]) := fun σ e es' b => by simp [-List.map_append, hM, e]
  have l2k : ∀ σ : Sl, σ[0]? = some (some (.cell 0)) → ∀ (es' : List Ent) (b : Bool), gFld "House" "kept" (gVar 0) σ (hM T s es' b ++ [.lst (iD row)]) = .ok (.cell 1) (hM T s es' b ++ [.lst (iD row)]) := fun σ e es' b => by simp [-List.map_append, hM, e]
  have l3 : ∀ es', pIx (.cell 2) (.p (.int (-1))) (hM T s es' true ++ [.lst (iD row)]) = .ok (.p (wd (behind T s es'))) (hM T s es' true ++ [.lst (iD row)]) := fun es' => ix_last rfl
  have l3b : ∀ es' e, pIx (.cell 2) (.p (.int (-2))) (hM T s (es' ++ [e]) true ++ [.lst (iD row)]) = .ok (.p (wd (behind T s es'))) (hM T s (es' ++ [e]) true ++ [.lst (iD row)]) := fun es' e => ix_last2 rfl
  have l5 := r_need_room (T := T) (s := s) (b := false) (R := [.lst (iD row)]) hl
  have l6 : callB g_check_row [.p (tD T), .cell 3, .p (.int (40 : Nat))] (hM T s es false ++ [.lst (iD row)]) = .ok (.p .none) (hM T s es false ++ [.lst (iD row)]) := c_check_row hr (by omega) rfl
  have e3 : ((40 : Nat) : Int) = 40 := rfl
  rw [e3] at l6
  have l7 : ∀ es b, cList [.cell 3] (hM T s es b ++ [.lst (iD row)]) = .ok (.p (.list (iD row))) (hM T s es b ++ [.lst (iD row)]) := fun es b => cList_cell _ _ _ rfl
  have l7a : cList [.cell 1] (hM T s es false ++ [.lst (iD row)]) = .ok (.p (.list (es.map (entD false)))) (hM T s es false ++ [.lst (iD row)]) := cList_cell _ _ _ rfl
  have l7b : cList [.cell 2] (hM T s es false ++ [.lst (iD row)]) = .ok (.p (.list (wD (passed T s es)))) (hM T s es false ++ [.lst (iD row)]) := cList_cell _ _ _ rfl
  have l8 : cLen [.cell 3] (hM T s es false ++ [.lst (iD row)]) = .ok (.p (.int (iD row).length)) (hM T s es false ++ [.lst (iD row)]) := cLen_cell _ _ _ rfl
  rw [iD_len] at l8
  have l9 : ∀ (es' : List Ent) (b c : Bool) σ, setFR "House" "busy" (.p (.bool c)) σ (hM T s es' b ++ [.lst (iD row)]) (Fn.insAt (hM T s es' b ++ [.lst (iD row)]) (.cell 0)) = .nx σ (hM T s es' c ++ [.lst (iD row)]) := fun es' b c σ => by simp [-List.map_append, hM]
  simp [-List.map_append, -List.map_map, -gFld_eq, -insAt_cell, g_House_go, l1, l2, l2k, l6, l5, l7, l7a, l7b, l8, l9, has_house, methOn0]
  generalize hq : forL _ _ _ _ _ _ _ = r
  obtain ⟨σ, M, rfl, x, rfl, rfl⟩ := for_nx hq (fun i σ M => ∃ x, σ = [some (.cell 0), some (.cell 3), some (.p .none), some (.p (.list (es.map (entD false)))), some (.p (.list (wD (passed T s es)))), some (.p (.int (went T (behind T s es) (row.take i) : Nat))), some (.p (.bool true)), x] ∧
      M = hM T s (es ++ (row.take i).map .deed) true ++ [.lst (iD row)]) ⟨none, by simp [went], by simp⟩ (by
    rintro i d σ M hd ⟨x, rfl, rfl⟩
    simp at hd
    obtain ⟨o, ho, rfl⟩ := hd
    have hlt := hr o (List.mem_of_getElem? ho)
    have hi := (List.getElem?_eq_some_iff.mp ho).1
    have h2 : HOk T s (es ++ (row.take i).map .deed) := h.deeds fun j hj => hr j (List.mem_of_mem_take hj)
    have ee : es ++ (row.take (i + 1)).map Ent.deed = (es ++ (row.take i).map .deed) ++ [.deed o] := by
      rw [take_succ_of ho, List.map_append, List.append_assoc]; rfl
    have l4 := r_keep (b := true) (R := [.lst (iD row)]) h2 (e := .deed o) hlt (by simp; omega)
    have e1 : entD false (.deed o) = .tuple [.str "deed", nD o] := rfl
    rw [e1] at l4
    refine ⟨[some (.cell 0), some (.cell 3), some (.p .none), some (.p (.list (es.map (entD false)))), some (.p (.list (wD (passed T s es)))), some (.p (.int (went T (behind T s es) (row.take i) : Nat))), some (.p (.bool true)), some (.p (nD o))],
      [some (.cell 0), some (.cell 3), some (.p .none), some (.p (.list (es.map (entD false)))), some (.p (.list (wD (passed T s es)))), some (.p (.int (went T (behind T s es) (row.take (i + 1)) : Nat))), some (.p (.bool true)), some (.p (nD o))],
      hM T s (es ++ (row.take (i + 1)).map .deed) true ++ [.lst (iD row)], dT_nm _ _ _, ?_, _, rfl, rfl⟩
    rw [ee]
    have hw := went_take (T := T) (s := behind T s es) ho
    rw [← behind_deeds] at hw
    simp [-List.map_append, -List.append_assoc, -List.map_take, -gFld_eq, -insAt_cell, l2, has_house, methOn0, l4, l3, l3b, pEq_tx, -pEq_str]
    rw [behind_snoc]
    show _
    by_cases hd : deed T (behind T s (es ++ (row.take i).map .deed)) o = behind T s (es ++ (row.take i).map .deed)
    · have e2 : entW T (behind T s (es ++ (row.take i).map .deed)) (.deed o) = behind T s (es ++ (row.take i).map .deed) := hd
      have hw2 : went T (behind T s es) (row.take (i + 1)) = went T (behind T s es) (row.take i) := by rw [hw, if_neg (fun z => z hd)]; rfl
      rw [hw2]
      simp [-List.map_append, -List.append_assoc, -List.map_take, e2]
    · have e2 : ¬(entW T (behind T s (es ++ (row.take i).map .deed)) (.deed o) = behind T s (es ++ (row.take i).map .deed)) := hd
      have hw2 : went T (behind T s es) (row.take (i + 1)) = went T (behind T s es) (row.take i) + 1 := by rw [hw, if_pos hd]
      rw [hw2]
      simp [-List.map_append, -List.append_assoc, -List.map_take, e2])
  simp [-List.map_append, -insAt_cell, l9]
end Lw

set_option Elab.async false
set_option linter.all false
set_option maxRecDepth 100000
set_option maxHeartbeats 4000000
namespace Lw
open PySem Fn U
open L2 (Key)
variable {T : Tr} {s : List Nat} {k : Nat} {M : Store}
/-! ### the pen -/
def penC (ns : List Int) (spot rest : Int) : Cell := .lst [.list (ns.map .int), .int spot, .int rest]
def PenOk (m : Nat) (c : Cell) : Prop := ∃ ns spot rest, c = penC ns spot rest ∧ ns.length ≤ 63 ∧ 0 ≤ spot ∧ spot ≤ (m : Nat)
theorem PenOk.own {m : Nat} {c : Cell} (h : PenOk m c) : c.own = true := by
  obtain ⟨_, _, _, rfl, _⟩ := h; rfl
theorem PenOk.mono {m n : Nat} {c : Cell} (h : PenOk m c) (l : m ≤ n) : PenOk n c := by
  obtain ⟨a, b, d, e, h1, h2, h3⟩ := h
  exact ⟨a, b, d, e, h1, h2, by omega⟩
section
variable {a b c y : PyData} {σ : Sl}
@[simp] theorem pen_ix0 : pIx (.cell 0) (.p (.int 0)) [.lst [a, b, c]] = .ok (.p a) [.lst [a, b, c]] := pIx_cel rfl (by decide) rfl
@[simp] theorem pen_ix1 : pIx (.cell 0) (.p (.int 1)) [.lst [a, b, c]] = .ok (.p b) [.lst [a, b, c]] := pIx_cel rfl (by decide) rfl
@[simp] theorem pen_ix2 : pIx (.cell 0) (.p (.int 2)) [.lst [a, b, c]] = .ok (.p c) [.lst [a, b, c]] := pIx_cel rfl (by decide) rfl
@[simp] theorem pen_set1 : setIxR (.p y) (.p (.int 1)) σ M (some (0, [a, b, c])) = .nx σ (M.set 0 (.lst [a, y, c])) := by rw [setIxR_ok (j := 1) _ _ (by rfl)]; rfl
@[simp] theorem pen_set2 : setIxR (.p y) (.p (.int 2)) σ M (some (0, [a, b, c])) = .nx σ (M.set 0 (.lst [a, b, y])) := by rw [setIxR_ok (j := 2) _ _ (by rfl)]; rfl
end
theorem sh_ints (ns : List Int) : SeqAt.shaped (.list (ns.map PyData.int)) = true := PySem.W.ke_shaped_ints ns
def DrawOk (m : Nat) (size : Int) (r : Fn.R D) : Prop := ∃ z c', r = .ok (.p (.int (z % size))) [c'] ∧ PenOk (m + 1) c'
theorem drawOk_ite {m : Nat} {size : Int} {c : Prop} [Decidable c] {a b : Fn.R D} (h1 : c → DrawOk m size a) (h2 : ¬c → DrawOk m size b) : DrawOk m size (if c then a else b) := by
  by_cases h : c
  · rw [if_pos h]; exact h1 h
  · rw [if_neg h]; exact h2 h
theorem drawOk_of {m : Nat} {size z : Int} {c : Cell} (h : PenOk (m + 1) c) : DrawOk m size (.ok (.p (.int (z % size))) [c]) := ⟨z, c, rfl, h⟩
theorem draw_ok {c : Cell} {m : Nat} {size : Int} (p : PenOk m c) (hm : m ≤ 100000) (h0 : 0 < size) (h1 : size < 1073741824) : DrawOk m size (g_law_draw [.cell 0, .p (.int size)] [c]) := by
  obtain ⟨ns, spot, rest, rfl, hl, hs0, hs1⟩ := p
  have e1 : ∀ x : Int, pMod (.p (.int x)) (.p (.int size)) = fun M => .ok (.p (.int (x % size))) M := fun x => funext fun M => pMod_int _ _ _ h0
  have e2 : ∀ x : Int, pFdiv (.p (.int x)) (.p (.int size)) = fun M => .ok (.p (.int (x / size))) M := fun x => funext fun M => pFdiv_int _ _ _ ⟨h0, h1⟩
  have pm : ∀ x j : Int, 0 < j → pMod (.p (.int x)) (.p (.int j)) = fun M => .ok (.p (.int (x % j))) M := fun x j hj => funext fun M => pMod_int _ _ _ hj
  have pf : ∀ x : Int, pFdiv (.p (.int x)) (.p (.int 32)) = fun M => .ok (.p (.int (x / 32))) M := fun x => funext fun M => pFdiv_int _ _ _ (by omega)
  have u1 : ∀ M, pMul (.p (.int 30011)) (.p (.int spot)) M = .ok (.p (.int (30011 * spot))) M := fun M => pMul_int _ _ _ (by omega)
  have u2 : ∀ M, pMul (.p (.int 70009)) (.p (.int spot)) M = .ok (.p (.int (70009 * spot))) M := fun M => pMul_int _ _ _ (by omega)
  have u3 : ∀ M, pMul (.p (.int 90001)) (.p (.int spot)) M = .ok (.p (.int (90001 * spot))) M := fun M => pMul_int _ _ _ (by omega)
  have u4 : ∀ M, pMul (.p (.int (90001 * spot))) (.p (.int spot)) M = .ok (.p (.int (90001 * spot * spot))) M := fun M => pMul_int _ _ _ (by omega)
  have u5 : ∀ M, pMul (.p (.int 2)) (.p (.int spot)) M = .ok (.p (.int (2 * spot))) M := fun M => pMul_int _ _ _ (by omega)
  have u6 : ∀ (y z : Int) M, pMul (.p (.int (y % 2147483647))) (.p (.int z)) M = .ok (.p (.int (y % 2147483647 * z))) M := fun y z M => pMul_int _ _ _ (by omega)
  have u7 : ∀ (y : Int) M, pMul (.p (.int 2)) (.p (.int y)) M = .ok (.p (.int (2 * y))) M := fun y M => pMul_int _ _ _ (by omega)
  have w1 : ∀ (x : Int) M, pPow (.p (.int (x % 2147483563 + 70009 * spot + 43))) (.p (.int 5)) M = .ok (.p (.int ((x % 2147483563 + 70009 * spot + 43) ^ 5))) M := fun x M => pPow_int _ _ _ (by omega)
  have w3 : ∀ M, pPow (.p (.int 10)) (.p (.int 18)) M = .ok (.p (.int 1000000000000000000)) M := fun M => pPow_int _ _ _ (by omega)
  have w2 : ∀ (y : Int) M, pPow (.p (.int (y % 2147483647 * (2 * spot + 11) + 90001 * spot * spot))) (.p (.int 3)) M = .ok (.p (.int ((y % 2147483647 * (2 * spot + 11) + 90001 * spot * spot) ^ 3))) M := fun y M => by
    have b0 : 0 ≤ y % 2147483647 := Int.emod_nonneg _ (by omega)
    have b1 : y % 2147483647 ≤ 2147483647 := by omega
    have b2 : y % 2147483647 * (2 * spot + 11) ≤ 2147483647 * 200100 := Int.mul_le_mul b1 (by omega) (by omega) (by omega)
    have b3 : 0 ≤ y % 2147483647 * (2 * spot + 11) := Int.mul_nonneg b0 (by omega)
    have b4 : 90001 * spot * spot ≤ 90001 * 100000 * 100000 := Int.mul_le_mul (by omega) (by omega) (by omega) (by omega)
    have b5 : 0 ≤ 90001 * spot * spot := Int.mul_nonneg (by omega) (by omega)
    exact pPow_int _ _ _ (by omega)
  have tail : ∀ (y : Int) (ns' : List Int), ns'.length ≤ 63 → PenOk (m + 1) (penC ns' (spot + 1) rest) := fun y ns' h => ⟨ns', spot + 1, rest, rfl, h, by omega, by omega⟩
  by_cases hr : rest > 0
  · simp [-List.map_map, g_law_draw, penC, hr, e1, e2]
    exact drawOk_of ⟨ns, spot, _, rfl, hl, hs0, by omega⟩
  have hr2 : ¬(0 < rest) := hr
  cases ns with
  | nil =>
    have hs2 : ¬(spot < 0) := by omega
    simp [-List.map_map, g_law_draw, penC, hr2, eq_nil (show SeqAt.shaped (.list []) = true by decide), pm, pf, u1, u2, u3, u4, u5, u6, u7, w1, w2, w3, hs2, e1, e2]
    exact drawOk_of (tail 0 [] (by simp))
  | cons a r =>
    have hsp : ∀ M, pEq true (.p (.list (.int a :: r.map .int))) (.p (.list [])) M = .ok (.p (.bool true)) M := fun M => by
      have := eq_nil (M := M) (sh_ints (a :: r)) true
      simpa using this
    obtain ⟨x, hx⟩ : ∃ x : Int, ((PyData.int a :: r.map PyData.int))[(spot % ((r.length : Int) + 1)).toNat]? = some (.int x) := by
      have h1 := Int.emod_nonneg spot (show ((r.length : Int) + 1) ≠ 0 by omega)
      have h2 := Int.emod_lt_of_pos spot (show 0 < ((r.length : Int) + 1) by omega)
      have h3 : (spot % ((r.length : Int) + 1)).toNat < (a :: r).length := by simp; omega
      refine ⟨(a :: r)[(spot % ((r.length : Int) + 1)).toNat], ?_⟩
      have := congrArg (Option.map PyData.int) (List.getElem?_eq_getElem h3)
      rw [← List.getElem?_map] at this
      exact this
    have hix : ∀ M, pIx (.p (.list (.int a :: r.map .int))) (.p (.int (spot % ((r.length : Int) + 1)))) M = .ok (.p (.int x)) M := fun M => pIx_lst (Int.emod_nonneg spot (by omega)) hx
    have hlen : (0 : Int) < (r.length : Int) + 1 := by omega
    simp [-List.map_map, g_law_draw, penC, hr2, pm _ _ hlen, hix, hsp, pm, pf, u1, u2, u3, u4, u5, u6, u7, w1, w2, w3, e1, e2]
    have tl : ∀ z : Int, PenOk (m + 1) (.lst [.list (.int a :: r.map .int), .int (spot + 1), .int z]) := fun z => ⟨a :: r, spot + 1, z, rfl, hl, by omega, by omega⟩
    exact drawOk_ite (fun _ => drawOk_ite (fun _ => drawOk_of (tl _)) fun _ => drawOk_of (tl _)) fun _ => drawOk_of (tl _)
theorem c_draw {c : Cell} {m n : Nat} {size : Int} (hc : M[n]? = some c) (p : PenOk m c) (hm : m ≤ 100000) (h0 : 0 < size) (h1 : size < 1073741824) :
    ∃ (v : Nat) (c' : Cell), (v : Int) < size ∧ PenOk (m + 1) c' ∧ callB g_law_draw [.cell n, .p (.int size)] M = .ok (.p (.int (v : Nat))) (M.set n c') := by
  obtain ⟨z, c', e, p'⟩ := draw_ok p hm h0 h1
  have a := Int.emod_nonneg z (show size ≠ 0 by omega)
  have b := Int.emod_lt_of_pos z h0
  refine ⟨(z % size).toNat, c', by omega, p', ?_⟩
  have e2 : (((z % size).toNat : Nat) : Int) = z % size := by omega
  rw [e2]
  exact callB_c1 hc p.own e p'.own
theorem c_pen (ns : List Int) : ∃ c, PenOk 0 c ∧ callB g_law_pen [.p (.list (ns.map .int))] M = .ok (.cell M.length) (M ++ [c]) := by
  refine ⟨penC (ns.take 63) 0 0, ⟨_, _, _, rfl, by simp; omega, by omega, by omega⟩, ?_⟩
  refine callB_n (xs := [.list (ns.map .int)]) (j := 0) (r := [penC (ns.take 63) 0 0]) ?_ rfl rfl
  simp [g_law_pen, lstC, penC, pSl, cut_to]
theorem rngD_get {lo : Int} {n i : Nat} {d : D} (h : (rngD lo n)[i]? = some d) : d = .p (.int (lo + (i : Nat))) ∧ i < n := by
  have hl : i < n := by simpa [rngD] using (List.getElem?_eq_some_iff.mp h).1
  rw [rngD, List.getElem?_map, List.getElem?_range hl] at h
  cases h
  exact ⟨rfl, hl⟩
@[simp] theorem rngD_len {lo : Int} {n : Nat} : (rngD lo n).length = n := by simp [rngD]
theorem pRng1_ok {j : Int} (h0 : -1000000 ≤ j) (h1 : j ≤ 1000000) : pRng1 [.p (.int j)] M = .ok (rngD 0 j.toNat, []) M := if_pos (by omega)
theorem pRng2_ok {i j : Int} (h0 : -1000000 ≤ j) (h1 : j ≤ 1000000) (g0 : -1000000 ≤ i) (g1 : i ≤ 1000000) : pRng2 [.p (.int i), .p (.int j)] M = .ok (rngD i (j - i).toNat, []) M := if_pos (by omega)
end Lw

set_option Elab.async false
set_option linter.all false
set_option maxRecDepth 100000
set_option maxHeartbeats 4000000
namespace Lw
open PySem Fn U
open L2 (Key)
variable {T : Tr} {s : List Nat} {k : Nat} {M : Store}
/-- a run from a pen alone: what it answers, the pen behind it -/
def Res (P : PyData → Cell → Prop) (r : Fn.R D) : Prop := ∃ y c' R, r = .ok (.p y) (c' :: R) ∧ P y c'
theorem Res.call {P : PyData → Cell → Prop} {f : List D → Store → Fn.R D} {n : Nat} {xs : List PyData} {c : Cell} (hc : M[n]? = some c) (ho : c.own = true) (h : Res P (f (.cell 0 :: xs.map D.p) [c])) (hP : ∀ y c', P y c' → c'.own = true) :
    ∃ y c', P y c' ∧ callB f (.cell n :: xs.map D.p) M = .ok (.p y) (M.set n c') := by
  obtain ⟨y, c', R, e, p⟩ := h
  exact ⟨y, c', p, callB_c hc ho e (hP _ _ p)⟩
def DrawSpec (dr : List D → Store → Fn.R D) : Prop := ∀ {M : Store} {c : Cell} {m n : Nat} {size : Int}, M[n]? = some c → PenOk m c → m ≤ 100000 → 0 < size → size < 1073741824 →
  ∃ (v : Nat) (c' : Cell), (v : Int) < size ∧ PenOk (m + 1) c' ∧ callB dr [.cell n, .p (.int size)] M = .ok (.p (.int (v : Nat))) (M.set n c')
theorem draw_any : ∃ dr, g_law_draw = dr ∧ DrawSpec dr := ⟨_, rfl, fun a b c d e => c_draw a b c d e⟩
def trunkG (dr : List D → Store → Fn.R D) : GS := (gSeq (Fn.gSet 6 (gK (PyData.int 0)))
                                    (gSeq
                                      (gIfS (gTB (gBin pGt (gVar 2) (gK (PyData.int 1))))
                                        (Fn.gSet 6
                                          (gCallF 2 dr []
                                            (gCons (gVar 0)
                                              (gCons
                                                (gBin pIx
                                                  (gLst
                                                    (gCons (gK (PyData.int 2)) (gCons (gVar 5) (gCons (gVar 5) gNil))))
                                                  (gBin pSub (gVar 2) (gK (PyData.int 2))))
                                                gNil))))
                                        gNx)
                                      (gSeq
                                        (gIfS (gTB (gBin (pEq false) (gVar 2) (gK (PyData.int 1))))
                                          (Fn.gSet 6
                                            (gBin pFdiv
                                              (gCallF 2 dr [] (gCons (gVar 0) (gCons (gK (PyData.int 4)) gNil)))
                                              (gK (PyData.int 3))))
                                          gNx)
                                        (gExp
                                          (gMet "list" mApp (gVar 4)
                                            (gCons
                                              (gCall cMax
                                                (gCons (gK (PyData.int 0))
                                                  (gCons (gBin pSub (gBin pSub (gVar 5) (gK (PyData.int 1))) (gVar 6))
                                                    gNil)))
                                              gNil))))))
theorem trunk_turn {dr : List D → Store → Fn.R D} (sp : DrawSpec dr) {c' : Cell} {m i way : Nat} {a b : D} {x y : Option D} (hT : TreeOk T) (hTl : T.length = i + 1) (pc : PenOk (m + i) c') (hm : m + i ≤ 100000) (hi8 : i < 8) (hw : (way : Int) < 5) :
    ∃ σ1 σ2 M2, dT (.nm 5) (.p (.int (1 + (i : Nat)))) [some (.cell 0), some a, some (.p (.int (way : Nat))), some b, some (.cell 1), x, y] = some σ1 ∧ trunkG dr σ1 [c', .lst (T.map pD)] = .nx σ2 M2 ∧
      ∃ (T : Tr) (c' : Cell) (x y : Option D), TreeOk T ∧ T.length = i + 1 + 1 ∧ PenOk (m + (i + 1)) c' ∧ σ2 = [some (.cell 0), some a, some (.p (.int (way : Nat))), some b, some (.cell 1), x, y] ∧ M2 = [c', .lst (T.map pD)] := by
  have fin : ∀ (back : Nat), ∃ j : Nat, j < T.length ∧ (max 0 ((1 + (i : Int)) - 1 - (back : Nat)) : Int) = (j : Nat) := fun back => ⟨i - back, by omega, by omega⟩
  have lapp : ∀ (c : Cell) (v : PyData), mApp (.cell 1) [.p v] [c, .lst (T.map pD)] = .ok (.p .none) [c, .lst (T.map pD ++ [v])] := fun c v => by
    rw [mApp_ok _ _ _ _ rfl (by simp; omega)]; rfl
  by_cases w0 : way = 0
  · obtain ⟨j, hj, ej⟩ := fin 0
    subst w0
    refine ⟨_, [some (.cell 0), some a, some (.p (.int (0 : Nat))), some b, some (.cell 1), some (.p (.int (1 + (i : Nat)))), some (.p (.int 0))], [c', .lst ((T ++ [some j]).map pD)], dT_nm _ _ _, ?_, T ++ [some j], c', _, _, hT.snoc hj, by simp; omega, pc.mono (by omega), rfl, rfl⟩
    simp at ej
    simp [trunkG, tyD, kdC, lapp, pD, ej]
  by_cases w1 : way = 1
  · subst w1
    obtain ⟨v, c2, hv, p2, e2⟩ := sp (M := [c', .lst (T.map pD)]) (n := 0) (size := 4) rfl pc (by omega) (by omega) (by omega)
    obtain ⟨j, hj, ej⟩ := fin (v / 3)
    refine ⟨_, [some (.cell 0), some a, some (.p (.int (1 : Nat))), some b, some (.cell 1), some (.p (.int (1 + (i : Nat)))), some (.p (.int ((v / 3 : Nat) : Int)))], [c2, .lst ((T ++ [some j]).map pD)], dT_nm _ _ _, ?_, T ++ [some j], c2, _, _, hT.snoc hj, by simp; omega, p2.mono (by omega), rfl, rfl⟩
    have e3 : ∀ M, pFdiv (.p (.int (v : Nat))) (.p (.int 3)) M = .ok (.p (.int ((v / 3 : Nat) : Int))) M := fun M => by
      rw [pFdiv_int _ _ _ (by omega)]; rfl
    simp at e2
    simp [-Int.natCast_ediv, trunkG, tyD, kdC, lapp, pD, ej, e2, e3]
  · have hx : ∃ z : Int, 0 < z ∧ z ≤ 9 ∧ ∀ M, pIx (.p (.list [.int 2, .int (1 + (i : Nat)), .int (1 + (i : Nat))])) (.p (.int ((way : Nat) - 2))) M = .ok (.p (.int z)) M := by
      have hc : way = 2 ∨ way = 3 ∨ way = 4 := by omega
      rcases hc with rfl | rfl | rfl
      · exact ⟨2, by omega, by omega, fun M => pIx_lst (by decide) rfl⟩
      · exact ⟨_, by omega, by omega, fun M => pIx_lst (by decide) rfl⟩
      · exact ⟨_, by omega, by omega, fun M => pIx_lst (by decide) rfl⟩
    obtain ⟨z, hz0, hz1, hx⟩ := hx
    obtain ⟨v, c2, hv, p2, e2⟩ := sp (M := [c', .lst (T.map pD)]) (n := 0) (size := z) rfl pc (by omega) (by omega) (by omega)
    obtain ⟨j, hj, ej⟩ := fin v
    refine ⟨_, [some (.cell 0), some a, some (.p (.int (way : Nat))), some b, some (.cell 1), some (.p (.int (1 + (i : Nat)))), some (.p (.int (v : Nat)))], [c2, .lst ((T ++ [some j]).map pD)], dT_nm _ _ _, ?_, T ++ [some j], c2, _, _, hT.snoc hj, by simp; omega, p2.mono (by omega), rfl, rfl⟩
    have w2 : 1 < (way : Int) := by omega
    have w3 : ¬((way : Int) = 1) := by omega
    have w4 : 1 < way := by omega
    simp at e2
    simp [trunkG, tyD, kdC, lapp, pD, ej, e2, hx, w1, w2, w3, w4]
theorem r_trunk {c : Cell} {m most : Nat} (p : PenOk m c) (hm : m ≤ 90000) (h1 : 1 ≤ most) (h8 : most ≤ 8) : Res (fun y c' => ∃ T : Tr, y = tD T ∧ TreeOk T ∧ T.length ≤ most ∧ PenOk (m + 12) c') (g_law_trunk [.cell 0, .p (.int (most : Nat))] [c]) := by
    unfold g_law_trunk
    obtain ⟨dr, hdr, sp⟩ := draw_any
    rw [hdr]
    obtain ⟨way, c1, hw, p1, e1⟩ := sp (M := [c]) (n := 0) (size := 5) rfl p (by omega) (by omega) (by omega)
    obtain ⟨d, c2, hd, p2, e2⟩ := sp (M := [c1]) (n := 0) (size := 3) rfl p1 (by omega) (by omega) (by omega)
    simp at e1 e2
    by_cases hd0 : 0 < d
    · obtain ⟨v, c3, hv, p3, e3⟩ := sp (M := [c2]) (n := 0) (size := (most : Nat)) rfl p2 (by omega) (by omega) (by omega)
      simp at e3
      simp -implicitDefEqProofs [e1, e2, e3, hd0, lstC]
      rw [pRng2_ok (by omega) (by omega) (by omega) (by omega)]
      simp only [toS_ok]
      generalize hq : forL _ _ _ _ _ _ _ = r
      obtain ⟨σ, M, rfl, T, c', x, y, hT, hTl, pc, rfl, rfl⟩ := for_nx hq (fun i σ M => ∃ (T : Tr) (c' : Cell) (x y : Option D), TreeOk T ∧ T.length = i + 1 ∧ PenOk (m + 3 + i) c' ∧ σ = [some (.cell 0), some (.p (.int (most : Nat))), some (.p (.int (way : Nat))), some (.p (.int (1 + (v : Nat)))), some (.cell 1), x, y] ∧ M = [c', .lst (T.map pD)])
        ⟨[none], c3, none, none, TreeOk.one, rfl, p3, rfl, rfl⟩ (by
        rintro i d' σ M hd' ⟨T, c', x, y, hT, hTl, pc, rfl, rfl⟩
        obtain ⟨rfl, hi⟩ := rngD_get hd'
        exact trunk_turn sp hT hTl pc (by omega) (by omega) hw)
      simp [rngD_len] at hTl pc ⊢
      exact ⟨_, _, _, rfl, T, rfl, hT, by omega, pc.mono (by omega)⟩
    · have hd1 : d = 0 := by omega
      subst hd1
      simp -implicitDefEqProofs [e1, e2,  hd0, lstC]
      rw [pRng2_ok (by omega) (by omega) (by omega) (by omega)]
      simp only [toS_ok]
      generalize hq : forL _ _ _ _ _ _ _ = r
      obtain ⟨σ, M, rfl, T, c', x, y, hT, hTl, pc, rfl, rfl⟩ := for_nx hq (fun i σ M => ∃ (T : Tr) (c' : Cell) (x y : Option D), TreeOk T ∧ T.length = i + 1 ∧ PenOk (m + 3 + i) c' ∧ σ = [some (.cell 0), some (.p (.int (most : Nat))), some (.p (.int (way : Nat))), some (.p (.int (most : Nat))), some (.cell 1), x, y] ∧ M = [c', .lst (T.map pD)])
        ⟨[none], c2, none, none, TreeOk.one, rfl, p2.mono (by omega), rfl, rfl⟩ (by
        rintro i d' σ M hd' ⟨T, c', x, y, hT, hTl, pc, rfl, rfl⟩
        obtain ⟨rfl, hi⟩ := rngD_get hd'
        exact trunk_turn sp hT hTl pc (by omega) (by omega) hw)
      simp [rngD_len] at hTl pc ⊢
      exact ⟨_, _, _, rfl, T, rfl, hT, by omega, pc.mono (by omega)⟩
end Lw

set_option Elab.async false
set_option linter.all false
set_option maxRecDepth 100000
set_option maxHeartbeats 4000000
namespace Lw
open PySem Fn U
open L2 (Key)
variable {T : Tr} {s : List Nat} {k : Nat} {M : Store}
theorem pIsN_pD (ne : Bool) (o : Option Nat) : pIsN ne (.p (pD o)) (.p .none) M = .ok (.p (.bool (ne ^^ o.isNone))) M := by
  cases o <;> rfl
/-- the way above k, by its first part -/
theorem c_law_ups (h : TreeOk T) (h8 : T.length ≤ 8) (hk : k < T.length) : callB g_law_ups [.p (tD T), .p (nD k)] M = .ok (.p (.list (iD (ups T k)))) M := by
  have hix : ∀ j, j < T.length → ∃ o, T[j]? = some o ∧ ∀ M, pIx (.p (tD T)) (.p (nD j)) M = .ok (.p (pD o)) M := fun j hj => ⟨T[j], by simp [hj], fun M => pIx_tup (by omega) (by simp [hj])⟩
  refine callB_2 (M0 := [.gone]) ?_ M
  simp [g_law_ups, lstC]
  generalize hq : whileL _ _ _ _ _ _ = r
  obtain ⟨σ, M, rfl, x, rfl, rfl⟩ := while_nx hq (fun m σ M => ∃ (j : Nat) (A : List Nat), m = j ∧ j < T.length ∧ A ++ ups T j = ups T k ∧ A.length ≤ 8 - j ∧ σ = [some (.p (tD T)), some (.p (nD j)), some (.cell 0)] ∧ M = [.lst (iD A)])
    (E := fun σ M => ∃ x, σ = [some (.p (tD T)), x, some (.cell 0)] ∧ M = [.lst (iD (ups T k))]) k (by omega) ⟨k, [], rfl, hk, rfl, by simp, rfl, rfl⟩ (by
    rintro m σ M ⟨j, A, rfl, hj, hA, hl, rfl, rfl⟩
    obtain ⟨o, ho, hx⟩ := hix m hj
    rcases h.case hj with ⟨rfl, e⟩ | ⟨h0, i, hi, e⟩
    · rw [ho] at e; cases e
      rw [ups_root ho, List.append_nil] at hA
      refine .inl ⟨by simp [hx, pD], _, rfl, by rw [hA]⟩
    · rw [ho] at e; cases e
      rw [ups_up ho hi] at hA
      refine .inr ⟨by simp [hx, pD], i, [some (.p (tD T)), some (.p (nD i)), some (.cell 0)], [.lst (iD (A ++ [i]))], ?_, hi, i, A ++ [i], rfl, by omega, by rw [List.append_assoc]; exact hA, by simp; omega, rfl, rfl⟩
      have lapp : mApp (.cell 0) [.p (nD i)] [.lst (iD A)] = .ok (.p .none) [.lst (iD (A ++ [i]))] := by
        rw [mApp_ok _ _ _ _ rfl (by rw [iD_len]; omega), iD, iD, List.map_append]; rfl
      simp [hx, pD, tyD, kdC, lapp])
  simp [pFrz_cell]
theorem c_law_deed (h : TreeOk T) (h8 : T.length ≤ 8) (w : Wd T s) (hk : k < T.length) : callB g_law_deed [.p (tD T), .p (wd s), .p (nD k)] M = .ok (.p (wd (deed T s k))) M := callB_3 (M0 := []) (by
  have hsl := w.len
  obtain ⟨c, hc⟩ : ∃ c, s[k]? = some c := ⟨s[k], by simp [hsl, hk]⟩
  have hx : ∀ (j c : Nat) M, s[j]? = some c → pIx (.p (.str (tx s))) (.p (.int (j : Nat))) M = .ok (.p (wd [c])) M := fun j c M hj => pIx_tx (by omega) (by omega) (by simpa using hj)
  have e : (((k : Nat) : Int) + 1).toNat = k + 1 := by omega
  have a1 : ∀ d M, pAdd (.p (.str (tx (s.take k)))) (.p (.str (tx [d]))) M = .ok (.p (.str (tx (s.take k ++ [d])))) M := fun d M => pAdd_tx (by simp; omega)
  have a2 : ∀ d M, pAdd (.p (.str (tx (s.take k ++ [d])))) (.p (.str (tx (s.drop (k + 1))))) M = .ok (.p (wd (s.set k d))) M := fun d M => by
    rw [pAdd_tx (by simp; omega), take_drop_set (by omega)]
  have s1 : ∀ M, pSl (.p (.str (tx s))) none (some (k : Nat)) M = .ok (.p (.str (tx (s.take k)))) M := fun M => by rw [pSl_to (by omega) (by omega)]; rfl
  have s2 : ∀ M, pSl (.p (.str (tx s))) (some ((k : Nat) + 1)) none M = .ok (.p (.str (tx (s.drop (k + 1))))) M := fun M => by rw [pSl_from (by omega) (by omega), e]
  simp [-List.map_map, g_law_deed, c_law_ups h h8 hk]
  generalize hr : forL _ _ _ _ _ _ _ = r
  rcases for_rt hr (fun i σ M => (∃ x, σ = [some (.p (tD T)), some (.p (wd s)), some (.p (nD k)), x]) ∧ M = [] ∧ ∀ j y, j < i → (ups T k)[j]? = some y → s[y]? = s[k]?)
    (fun d M => d = .p (wd (deed T s k)) ∧ M = []) ⟨⟨none, rfl⟩, rfl, fun j y hj => by omega⟩ (by
    rintro i d σ M hd ⟨⟨x, rfl⟩, rfl, hi⟩
    simp at hd
    obtain ⟨o, ho, rfl⟩ := hd
    have hol : o < s.length := by have := ups_lt h k hk o (List.mem_of_getElem? ho); omega
    have ho2 : s[o]? = some s[o] := by simp [hol]
    refine ⟨_, dT_nm _ _ _, ?_⟩
    simp [hx _ _ _ hc, hx _ _ _ ho2, pEq_tx, s1, s2, a1, a2]
    by_cases e : s[o] = c
    · rw [if_pos e]
      refine .nx ⟨⟨_, rfl⟩, rfl, fun j y hj hy => ?_⟩
      by_cases hji : j < i
      · exact hi j y hji hy
      · have : j = i := by omega
        subst this
        rw [ho] at hy; cases hy
        rw [ho2, hc, e]
    · rw [if_neg e]
      refine .rt ⟨?_, rfl⟩
      rw [deed_hit ho hi (by rw [ho2, hc]; simpa using e) ho2]) with ⟨σ, M, rfl, ⟨x, rfl⟩, rfl, hi⟩ | ⟨d, M, rfl, rfl, rfl⟩
  · simp
    rw [deed_none fun j y _ hy => hi j y (by simp; exact (List.getElem?_eq_some_iff.mp hy).1) hy]
  · simp) M
end Lw

set_option Elab.async false
set_option linter.all false
set_option maxRecDepth 100000
set_option maxHeartbeats 4000000
namespace Lw
open PySem Fn U
open L2 (Key)
variable {T : Tr} {s : List Nat} {k : Nat} {M : Store}
theorem any_w {w : List Nat} (hw : Sgs w) : ∀ {ws : List (List Nat)}, (∀ v ∈ ws, Sgs v) → ((wD ws).any fun z => PyData.eqv z (wd w)) = decide (w ∈ ws)
  | [], _ => rfl
  | v :: r, hs => by
    have e1 : PyData.eqv (wd v) (wd w) = decide (v = w) := eqv_w (hs v (List.mem_cons_self ..)) hw
    show (PyData.eqv (wd v) (wd w) || (wD r).any fun z => PyData.eqv z (wd w)) = _
    rw [e1, any_w hw fun v hv => hs v (List.mem_cons_of_mem _ hv)]
    by_cases h : v = w
    · simp [h]
    · have h2 : ¬(w = v) := fun e => h e.symm
      simp [h, h2]
theorem pIn_ws {w : List Nat} {ws : List (List Nat)} {n : Nat} (hM : M[n]? = some (.lst (wD ws))) (hw : Sgs w) (hs : ∀ v ∈ ws, Sgs v) : pIn false (.p (wd w)) (.cell n) M = .ok (.p (.bool (decide (w ∈ ws)))) M := by
  show (match dat M (.p (wd w)), dat M (.cell n) with
    | some d, some (.list ds) => if SeqAt.shaped d = true ∧ SeqAt.shaped (.list ds) = true then Fn.R.ok (D.p (.bool (false ^^ ds.any fun z => PyData.eqv z d))) M else .no
    | _, _ => .no) = _
  rw [dat_p, dat_cell, hM, datC_lst]
  show (if SeqAt.shaped (wd w) = true ∧ SeqAt.shaped (.list (wD ws)) = true then Fn.R.ok (D.p (.bool (false ^^ (wD ws).any fun z => PyData.eqv z (wd w)))) M else .no) = _
  rw [if_pos ⟨Good.shaped (good_w hw (n := 1)), Good.shaped (good_ws hs (n := 1))⟩, any_w hw hs]
  simp
theorem idx_w {w : List Nat} (hw : Sgs w) : ∀ {ws : List (List Nat)} {j : Nat}, (∀ v ∈ ws, Sgs v) → ws[j]? = some w → (∀ m v, m < j → ws[m]? = some v → v ≠ w) → idxEq (wd w) (wD ws) = some j
  | [], j, _, h, _ => by simp at h
  | v :: r, 0, hs, h, _ => by
    simp at h
    subst h
    have e1 : PyData.eqv (wd v) (wd v) = decide (v = v) := eqv_w hw hw
    show (if PyData.eqv (wd v) (wd v) = true then some 0 else _) = _
    rw [if_pos (by rw [e1]; simp)]
  | v :: r, j + 1, hs, h, hn => by
    have hv : v ≠ w := hn 0 v (by omega) rfl
    have e1 : PyData.eqv (wd v) (wd w) = decide (v = w) := eqv_w (hs v (List.mem_cons_self ..)) hw
    show (if PyData.eqv (wd v) (wd w) = true then some 0 else match idxEq (wd w) (wD r) with | some j => some (j + 1) | none => none) = _
    rw [if_neg (by rw [e1]; simpa using hv), idx_w hw (j := j) (fun v hv => hs v (List.mem_cons_of_mem _ hv)) (by simpa using h) fun m v hm hm2 => hn (m + 1) v (by omega) (by simpa using hm2)]
theorem mInd_ws {w : List Nat} {ws : List (List Nat)} {n j : Nat} (hM : M[n]? = some (.lst (wD ws))) (hw : Sgs w) (hs : ∀ v ∈ ws, Sgs v) (hj : ws[j]? = some w) (hn : ∀ m v, m < j → ws[m]? = some v → v ≠ w) : mInd (.cell n) [.p (wd w)] M = .ok (.p (.int (j : Nat))) M := by
  unfold mInd
  rw [dat_cell, hM, datC_lst]
  show (match dat M (.p (wd w)) with
    | some d => if SeqAt.shaped (.list (wD ws)) = true ∧ SeqAt.shaped d = true then (match idxEq d (wD ws) with
      | some j => Fn.R.ok (D.p (.int (j : Nat))) M
      | none => .no) else .no
    | none => .no) = _
  rw [dat_p]
  show (if SeqAt.shaped (.list (wD ws)) = true ∧ SeqAt.shaped (wd w) = true then (match idxEq (wd w) (wD ws) with
      | some j => Fn.R.ok (D.p (.int (j : Nat))) M
      | none => .no) else .no) = _
  rw [if_pos ⟨Good.shaped (good_ws hs (n := 1)), Good.shaped (good_w hw (n := 1))⟩, idx_w hw hs hj hn]
theorem c_law_far (h : TreeOk T) (h8 : T.length ≤ 8) (w : Wd T s) {row : List Nat} (hr : ∀ j ∈ row, j < T.length) (n : Nat) : callB g_law_far [.p (tD T), .p (wd s), .p (.list (iD row)), .p (.int (n : Nat))] M = .ok (.p (wd (rnd T row n s))) M := by
  obtain ⟨M0, e⟩ : ∃ M0, g_law_far [.p (tD T), .p (wd s), .p (.list (iD row)), .p (.int (n : Nat))] [] = .ok (.p (wd (rnd T row n s))) M0 := by
    let f : Nat → List Nat := fun j => rnd T row j s
    have wf : ∀ i, Wd T (f i) := fun i => w.rnd h hr
    have sl : ∀ i, ∀ v ∈ lst f i, Sgs v := fun i v hv => by
      obtain ⟨j, _, rfl⟩ := mem_lst.mp hv
      exact (wf j).lets.sgs
    unfold g_law_far
    simp [lstC]
    generalize hq : whileL _ _ _ _ _ _ = r
    rcases while_rt hq (fun m σ M => ∃ (i : Nat) (x y z : Option D), m + i = 2097153 ∧ i ≤ n ∧ (lst f (i + 1)).Nodup ∧ σ = [some (.p (tD T)), some (.p (wd s)), some (.p (.list (iD row))), some (.p (.int (n : Nat))), some (.cell 0), x, y, z] ∧ M = [.lst (wD (lst f (i + 1)))])
      (E := fun σ M => ∃ (x y z : Option D), σ = [some (.p (tD T)), some (.p (wd s)), some (.p (.list (iD row))), some (.p (.int (n : Nat))), some (.cell 0), x, y, z] ∧ M = [.lst (wD (lst f (n + 1)))]) (fun d M => d = .p (wd (f n))) 2097153 (by decide) ⟨0, none, none, none, rfl, by omega, by simp [lst], rfl, rfl⟩ (by
      rintro m σ M ⟨i, x, y, z, hm, hi, hn, rfl, rfl⟩
      have few := lst_few h w h8 hr hn
      have hlen : cLen [.cell 0] [.lst (wD (lst f (i + 1)))] = .ok (.p (.int ((i + 1 : Nat) : Int))) [.lst (wD (lst f (i + 1)))] := by
        rw [cLen_cell _ _ _ rfl, wD_len, lst_len]
      by_cases hin : n < i + 1
      · have : i = n := by omega
        subst this
        have hc : ¬(((i + 1 : Nat) : Int) ≤ (i : Nat)) := by omega
        refine .inl ⟨?_, x, y, z, rfl, rfl⟩
        simp only [gTB_eq, gBin_eq, gCall_eq, gCons_eq, gNil_eq, gVar_eq]
        simp [-Int.natCast_add, hlen]
      · refine .inr ⟨?_, ?_⟩
        · simp [-Int.natCast_add, hlen]
          omega
        · have hlast : pIx (.cell 0) (.p (.int (-1))) [.lst (wD (lst f (i + 1)))] = .ok (.p (wd (f i))) [.lst (wD (lst f (i + 1)))] := by
            refine pIx_last (xs := wD (lst f i)) ?_
            rw [lst_succ, wD, List.map_append]; rfl
          simp [hlast]
          generalize hq2 : forL _ _ _ _ _ _ _ = r2
          obtain ⟨σ, M, rfl, y2, rfl, rfl⟩ := for_nx hq2 (fun t σ M => ∃ y, σ = [some (.p (tD T)), some (.p (wd s)), some (.p (.list (iD row))), some (.p (.int (n : Nat))), some (.cell 0), some (.p (wd (led T (f i) (row.take t)))), y, z] ∧ M = [.lst (wD (lst f (i + 1)))]) ⟨y, rfl, rfl⟩ (by
            rintro t d σ M hd ⟨y, rfl, rfl⟩
            simp at hd
            obtain ⟨o, ho, rfl⟩ := hd
            have hlt := hr o (List.mem_of_getElem? ho)
            have w2 : Wd T (led T (f i) (row.take t)) := (wf i).led h fun j hj => hr j (List.mem_of_mem_take hj)
            refine ⟨_, [some (.p (tD T)), some (.p (wd s)), some (.p (.list (iD row))), some (.p (.int (n : Nat))), some (.cell 0), some (.p (wd (led T (f i) (row.take (t + 1))))), some (.p (nD o)), z], [.lst (wD (lst f (i + 1)))], dT_nm _ _ _, ?_, _, rfl, rfl⟩
            simp [c_law_deed h h8 w2 hlt, led_take ho])
          have eL : led T (f i) (row.take (List.map (D.p ∘ fun k => PyData.int (k : Nat)) row).length) = f (i + 1) := by simp; rfl
          rw [eL]
          have hin2 : pIn false (.p (wd (f (i + 1)))) (.cell 0) [.lst (wD (lst f (i + 1)))] = .ok (.p (.bool (decide (f (i + 1) ∈ lst f (i + 1))))) [.lst (wD (lst f (i + 1)))] := pIn_ws rfl (wf _).lets.sgs (sl _)
          simp [hin2]
          by_cases hmem : f (i + 1) ∈ lst f (i + 1)
          · obtain ⟨j, hj, hmin⟩ := first_at hmem
            have hjl : j < i + 1 := by
              have := (List.getElem?_eq_some_iff.mp hj).1
              rw [lst_len] at this; exact this
            have ej : f (i + 1) = f j := by
              rw [lst_get hjl] at hj; exact (Option.some.inj hj).symm
            have hind : mInd (.cell 0) [.p (wd (f (i + 1)))] [.lst (wD (lst f (i + 1)))] = .ok (.p (.int (j : Nat))) [.lst (wD (lst f (i + 1)))] := mInd_ws rfl (wf _).lets.sgs (sl _) hj hmin
            have hml : (n - j) % (i + 1 - j) < i + 1 - j := Nat.mod_lt _ (by omega)
            have e3 : ((n : Int) - (j : Nat)) % ((i + 1 : Nat) - (j : Nat)) = (((n - j) % (i + 1 - j) : Nat) : Int) := by
              rw [show (n : Int) - (j : Nat) = ((n - j : Nat) : Int) by omega, show ((i + 1 : Nat) : Int) - (j : Nat) = ((i + 1 - j : Nat) : Int) by omega]; rfl
            have hmod : ∀ M, pMod (.p (.int ((n : Int) - (j : Nat)))) (.p (.int (((i + 1 : Nat) : Int) - (j : Nat)))) M = .ok (.p (.int (((n - j) % (i + 1 - j) : Nat) : Int))) M := fun M => by
              rw [pMod_int _ _ _ (by omega), e3]
            have hix : pIx (.cell 0) (.p (.int ((j : Int) + (((n - j) % (i + 1 - j) : Nat) : Int)))) [.lst (wD (lst f (i + 1)))] = .ok (.p (wd (f n))) [.lst (wD (lst f (i + 1)))] := pIx_cel rfl (by omega) (by
              rw [show ((j : Int) + (((n - j) % (i + 1 - j) : Nat) : Int)).toNat = j + (n - j) % (i + 1 - j) by omega, List.getElem?_map, lst_get (by omega)]
              have : f (j + (n - j) % (i + 1 - j)) = f n := rep_mod (f := fun z => led T z row) (by rw [show j + (i + 1 - j) = i + 1 by omega]; exact ej) (by omega)
              rw [this]; rfl)
            simp [-Int.natCast_add, -Int.natCast_emod, hmem, hind, tyD, kdC, hlen, hmod, hix]
            exact .rt rfl
          · rw [if_neg hmem]
            have lapp : mApp (.cell 0) [.p (wd (f (i + 1)))] [.lst (wD (lst f (i + 1)))] = .ok (.p .none) [.lst (wD (lst f (i + 1 + 1)))] := by
              rw [mApp_ok _ _ _ _ rfl (by rw [wD_len, lst_len]; omega), lst_succ (i := i + 1), wD, wD, List.map_append]; rfl
            simp [lapp, tyD, kdC]
            refine .nx ⟨m - 1, by omega, i + 1, by omega, by omega, ?_, ⟨_, _, _, rfl⟩, rfl⟩
            rw [lst_succ]
            exact List.nodup_append.mpr ⟨hn, nodup_one _, fun a ha b hb => by rw [List.mem_singleton.mp hb]; intro e; exact hmem (e ▸ ha)⟩) with ⟨σ, M, rfl, x, y, z, rfl, rfl⟩ | ⟨d, M, rfl, rfl⟩
    · have hx : pIx (.cell 0) (.p (.int (n : Nat))) [.lst (wD (lst f (n + 1)))] = .ok (.p (wd (f n))) [.lst (wD (lst f (n + 1)))] := pIx_cel rfl (by omega) (by
        rw [Int.toNat_natCast, List.getElem?_map, lst_get (by omega)]; rfl)
      refine ⟨[.lst (wD (lst f (n + 1)))], ?_⟩
      simp [hx]
      rfl
    · exact ⟨M, by simp; rfl⟩
  exact callB_4 e M
end Lw

set_option Elab.async false
set_option linter.all false
set_option maxRecDepth 100000
set_option maxHeartbeats 4000000
namespace Lw
open PySem Fn U
open L2 (Key)
variable {T : Tr} {s : List Nat} {k : Nat} {M : Store}
theorem mJoin_sg {L : List Nat} (hl : L.length ≤ 100) : mJoin (.p (.str (tx []))) [.p (.list (L.map fun c => wd [c]))] M = .ok (.p (wd L)) M := by
  have e : (L.map fun c => wd [c]) = (L.map sg).map PyData.str := by rw [List.map_map]; rfl
  unfold mJoin
  simp only [seqOf_list, e, strsOf_map]
  rw [if_pos (by rw [sum_sg]; show L.length + _ * 0 ≤ _; omega), join_sg]
theorem rngD_map {lo : Int} {n : Nat} : rngD lo n = ((List.range n).map fun i => PyData.int (lo + (i : Nat))).map D.p := by
  rw [rngD, List.map_map]; rfl
theorem abc_get {i : Nat} (h : i < 26) : ∃ c, abcL[i]? = some c ∧ 97 ≤ c ∧ c < 123 := by
  have hl : i < abcL.length := h
  exact ⟨abcL[i], by simp, abcL_lets _ (List.getElem_mem hl)⟩
theorem lc_invE {t : Tg} {te : GE} {σ : Sl} {fin : List D → Store → Fn.R D} {ds : List D} {M : Store} {r : Fn.R D} (e : lcL [] t gYes te fin σ ds M [] = r) (I : Nat → Store → List D → Prop) (hl : ds.length ≤ 16777216) (h : I 0 M [])
    (hb : ∀ i M acc d, i < ds.length → I i M acc → ∃ σ1 y M2, dT t d σ = some σ1 ∧ te σ1 M = .ok y M2 ∧ I (i + 1) M2 (acc ++ [y])) : ∃ M2 acc2, r = fin acc2 M2 ∧ I ds.length M2 acc2 := by
  subst e
  have := lc_inv (t := t) (te := te) (σ := σ) (fin := fin) I ds [] 0 M (by simpa using hl) h fun i M acc _ h2 d _ hi => hb i M acc d (by omega) hi
  rw [Nat.zero_add] at this
  exact this
theorem r_spell {c : Cell} {m : Nat} (p : PenOk m c) (hm : m ≤ 90000) (hT : TreeOk T) (h8 : T.length ≤ 8) : Res (fun y c' => ∃ s, y = wd s ∧ Wd T s ∧ PenOk (m + 12) c') (g_law_spell [.cell 0, .p (tD T)] [c]) := by
  unfold g_law_spell
  obtain ⟨dr, hdr, sp⟩ := draw_any
  rw [hdr, abc_tx, nil_tx]
  obtain ⟨way, c1, hw, p1, e1⟩ := sp (M := [c]) (n := 0) (size := 5) rfl p (by omega) (by omega) (by omega)
  simp at e1
  have ab : ∀ i : Int, 0 ≤ i → i < 26 → ∃ c : Nat, 97 ≤ c ∧ c < 123 ∧ ∀ M, pIx (.p (.str (tx abcL))) (.p (.int i)) M = .ok (.p (wd [c])) M := fun i h0 h1 => by
    obtain ⟨c, hc, g⟩ := abc_get (i := i.toNat) (by omega)
    exact ⟨c, g.1, g.2, fun M => pIx_tx (by decide) h0 hc⟩
  by_cases w3 : way = 3
  · subst w3
    obtain ⟨lp, c2, hlp, p2, e2⟩ := sp (M := [c1]) (n := 0) (size := 6) rfl p1 (by omega) (by omega) (by omega)
    obtain ⟨fs, c3, hfs, p3, e3⟩ := sp (M := [c2]) (n := 0) (size := 26) rfl p2 (by omega) (by omega) (by omega)
    simp at e2 e3
    obtain ⟨leap, hleap, hx⟩ : ∃ leap : Int, -100 ≤ leap ∧ ∀ M, pIx (.p (.list [.int 1, .int 3, .int 5, .int 7, .int 9, .int 11])) (.p (.int (lp : Nat))) M = .ok (.p (.int leap)) M := by
      have : lp = 0 ∨ lp = 1 ∨ lp = 2 ∨ lp = 3 ∨ lp = 4 ∨ lp = 5 := by omega
      rcases this with rfl | rfl | rfl | rfl | rfl | rfl <;> exact ⟨_, by omega, fun M => pIx_lst (by decide) rfl⟩
    simp -implicitDefEqProofs [e1, e2, e3, hx]
    rw [pRng1_ok (by omega) (by omega)]
    simp only [toS_ok, rngD_map, wipeD]
    rw [lc_pp (fun x => match x with | .int k => wd [abcL.getD ((((fs : Nat) : Int) + leap * k) % 26).toNat 0] | x => x) (by simp; omega)]
    · have e4 : ((List.range (T.length : Int).toNat).map fun i => PyData.int ((0 : Int) + (i : Nat))).map (fun x => match x with | .int k => wd [abcL.getD ((((fs : Nat) : Int) + leap * k) % 26).toNat 0] | x => x) = ((List.range T.length).map fun (i : Nat) => abcL.getD ((((fs : Nat) : Int) + leap * (i : Nat)) % 26).toNat 0).map fun c => wd [c] := by
        rw [List.map_map, List.map_map, Int.toNat_natCast]
        apply List.map_congr_left
        intro i _
        simp
      rw [e4]
      simp only [bind_ok, toS_ok]
      rw [mJoin_sg (by simp; omega)]
      refine ⟨_, _, _, rfl, _, rfl, ⟨by simp, ?_⟩, p3.mono (by omega)⟩
      intro c hc
      obtain ⟨i, _, rfl⟩ := List.mem_map.mp hc
      have h1 := Int.emod_nonneg (((fs : Nat) : Int) + leap * (i : Nat)) (show (26 : Int) ≠ 0 by omega)
      have h2 := Int.emod_lt_of_pos (((fs : Nat) : Int) + leap * (i : Nat)) (show (0 : Int) < 26 by omega)
      obtain ⟨c, hc, g⟩ := abc_get (i := ((((fs : Nat) : Int) + leap * (i : Nat)) % 26).toNat) (by omega)
      rw [getD_some hc]
      exact g
    · intro x hx
      obtain ⟨i, hi, rfl⟩ := List.mem_map.mp hx
      have hi2 := List.mem_range.mp hi
      have h1 := Int.emod_nonneg (((fs : Nat) : Int) + leap * ((0 : Int) + (i : Nat))) (show (26 : Int) ≠ 0 by omega)
      have h2 := Int.emod_lt_of_pos (((fs : Nat) : Int) + leap * ((0 : Int) + (i : Nat))) (show (0 : Int) < 26 by omega)
      obtain ⟨c, hc, g⟩ := abc_get (i := ((((fs : Nat) : Int) + leap * ((0 : Int) + (i : Nat))) % 26).toNat) (by omega)
      have m1 : ∀ M, pMul (.p (.int leap)) (.p (.int ((0 : Int) + (i : Nat)))) M = .ok (.p (.int (leap * ((0 : Int) + (i : Nat))))) M := fun M => pMul_int _ _ _ (by omega)
      have m2 : ∀ z M, pMod (.p (.int z)) (.p (.int 26)) M = .ok (.p (.int (z % 26))) M := fun z M => pMod_int _ _ _ (by omega)
      have hx : ∀ M, pIx (.p (.str (tx abcL))) (.p (.int ((((fs : Nat) : Int) + leap * ((0 : Int) + (i : Nat))) % 26))) M = .ok (.p (wd [c])) M := fun M => pIx_tx (by decide) h1 hc
      refine ⟨_, dT_nm _ _ _, ?_⟩
      show _ = Fn.R.ok (D.p (wd [abcL.getD ((((fs : Nat) : Int) + leap * ((0 : Int) + (i : Nat))) % 26).toNat 0])) _
      rw [getD_some hc]
      simp [-Int.zero_add, m1, m2, hx]
  · obtain ⟨st, c2, hst, p2, e2⟩ := sp (M := [c1]) (n := 0) (size := 23) rfl p1 (by omega) (by omega) (by omega)
    simp at e2
    have w3b : ¬((way : Int) = 3) := by omega
    have t2 : ((st : Nat) : Int).toNat = st := by omega
    have sl : ∀ (j : Nat) M, pSl (.p (.str (tx abcL))) (some ((st : Nat) : Int)) (some ((st : Nat) + (j : Nat) : Int)) M = .ok (.p (.str (tx ((abcL.drop st).take j)))) M := fun j M => by
      rw [pSl_mid (by decide) (by omega) (by omega), t2, show (((st : Nat) : Int) + (j : Nat)).toNat - st = j by omega]
    have s2 : ∀ M, pSl (.p (.str (tx abcL))) (some ((st : Nat) : Int)) (some ((st : Nat) + 2 : Int)) M = .ok (.p (.str (tx ((abcL.drop st).take 2)))) M := sl 2
    have s3 : ∀ M, pSl (.p (.str (tx abcL))) (some ((st : Nat) : Int)) (some ((st : Nat) + 3 : Int)) M = .ok (.p (.str (tx ((abcL.drop st).take 3)))) M := sl 3
    have s4 : ∀ M, pSl (.p (.str (tx abcL))) (some ((st : Nat) : Int)) (some ((st : Nat) + 4 : Int)) M = .ok (.p (.str (tx ((abcL.drop st).take 4)))) M := sl 4
    obtain ⟨some_, hlen, hlets, hx⟩ : ∃ L : List Nat, (1 ≤ L.length ∧ L.length ≤ 26) ∧ Lets L ∧ ∀ M, pIx (.p (.list [.str (tx ((abcL.drop st).take 2)), .str (tx ((abcL.drop st).take 3)), .str (tx ((abcL.drop st).take 4)), .str (tx []), .str (tx abcL)])) (.p (.int (way : Nat))) M = .ok (.p (wd L)) M := by
      have : way = 0 ∨ way = 1 ∨ way = 2 ∨ way = 4 := by omega
      have hd : (abcL.drop st).length = 26 - st := by rw [List.length_drop]; rfl
      rcases this with rfl | rfl | rfl | rfl
      · exact ⟨_, by rw [List.length_take, hd]; omega, abcL_lets.drop.take, fun M => pIx_lst (by decide) rfl⟩
      · exact ⟨_, by rw [List.length_take, hd]; omega, abcL_lets.drop.take, fun M => pIx_lst (by decide) rfl⟩
      · exact ⟨_, by rw [List.length_take, hd]; omega, abcL_lets.drop.take, fun M => pIx_lst (by decide) rfl⟩
      · exact ⟨abcL, by decide, abcL_lets, fun M => pIx_lst (by decide) rfl⟩
    have hcl : ∀ M, cLen [.p (.str (tx some_))] M = .ok (.p (.int (some_.length : Nat))) M := fun M => cLen_tx (by omega)
    simp -implicitDefEqProofs [e1, e2, w3, w3b, s2, s3, s4, hx]
    rw [pRng1_ok (by omega) (by omega)]
    simp only [toS_ok, wipeD]
    generalize hq : lcL _ _ _ _ _ _ _ _ _ = r
    obtain ⟨M2, acc2, rfl, c', L, pc, rfl, rfl, hL, hLl⟩ := lc_invE hq (fun k M acc => ∃ (c' : Cell) (L : List Nat), PenOk (m + 2 + k) c' ∧ M = [c'] ∧ acc = (L.map fun c => wd [c]).map D.p ∧ Lets L ∧ L.length = k) (by simp; omega) ⟨c2, [], p2, rfl, rfl, by simp [Lets], rfl⟩ (by
      rintro i M acc d hi ⟨c', L, pc, rfl, rfl, hL, hLl⟩
      simp at hi
      obtain ⟨v, c3, hv, p3, e3⟩ := sp (M := [c']) (n := 0) (size := (some_.length : Nat)) rfl pc (by omega) (by omega) (by omega)
      simp at e3
      have hv2 : v < some_.length := by omega
      have hx2 : ∀ M, pIx (.p (.str (tx some_))) (.p (.int (v : Nat))) M = .ok (.p (wd [some_[v]])) M := fun M => pIx_tx (by omega) (by omega) (by simp [hv2])
      refine ⟨_, .p (wd [some_[v]]), [c3], dT_nm _ _ _, ?_, c3, L ++ [some_[v]], p3.mono (by omega), rfl, by simp, hL.app (Lets.one (hlets _ (List.getElem_mem hv2))), by simp; omega⟩
      simp [hcl, e3, hx2])
    simp at hLl pc
    simp only [finP, mkL_eq, pures_mp, mkL'_some, bind_ok, toS_ok]
    rw [mJoin_sg (by omega)]
    exact ⟨_, _, _, rfl, L, rfl, ⟨hLl, hL⟩, pc.mono (by omega)⟩
theorem r_road {c : Cell} {m most : Nat} (p : PenOk m c) (hm : m ≤ 90000) (hT : TreeOk T) (h8 : T.length ≤ 8) (hmost : most ≤ 40) : ∃ (row : List Nat) (c' : Cell), (∀ j ∈ row, j < T.length) ∧ row.length ≤ most ∧ PenOk (m + 100) c' ∧
    g_law_road [.cell 0, .p (tD T), .p (.int (most : Nat))] [c] = .ok (.cell 1) [c', .lst (iD row)] := by
  unfold g_law_road
  obtain ⟨dr, hdr, sp⟩ := draw_any
  rw [hdr]
  obtain ⟨n, c1, hn, p1, e1⟩ := sp (M := [c, .lst []]) (n := 0) (size := (most : Int) + 1) rfl p (by omega) (by omega) (by omega)
  simp at e1
  simp -implicitDefEqProofs [lstC, e1]
  rw [pRng1_ok (by omega) (by omega)]
  simp only [toS_ok]
  generalize hq : forL _ _ _ _ _ _ _ = r
  have hpos := hT.pos
  obtain ⟨σ, M, rfl, row, c', x, hr, hl, pc, rfl, rfl⟩ := for_nx hq (fun i σ M => ∃ (row : List Nat) (c' : Cell) (x : Option D), (∀ j ∈ row, j < T.length) ∧ row.length = i ∧ PenOk (m + 1 + 2 * i) c' ∧ σ = [some (.cell 0), some (.p (tD T)), some (.p (.int (most : Nat))), some (.p (.int T.length)), some (.cell 1), x] ∧ M = [c', .lst (iD row)])
    ⟨[], c1, none, by simp, rfl, p1, rfl, rfl⟩ (by
    rintro i d σ M hd ⟨row, c', x, hr, hl, pc, rfl, rfl⟩
    obtain ⟨rfl, hi⟩ := rngD_get hd
    obtain ⟨a, c2, ha, p2, e2⟩ := sp (M := [c', .lst (iD row)]) (n := 0) (size := (T.length : Nat)) rfl pc (by omega) (by omega) (by omega)
    obtain ⟨b, c3, hb, p3, e3⟩ := sp (M := [c2, .lst (iD row)]) (n := 0) (size := (T.length : Nat)) rfl p2 (by omega) (by omega) (by omega)
    simp at e2 e3
    have lapp : mApp (.cell 1) [.p (.int (max (a : Int) (b : Int)))] [c3, .lst (iD row)] = .ok (.p .none) [c3, .lst (iD (row ++ [max a b]))] := by
      rw [mApp_ok _ _ _ _ rfl (by rw [iD_len]; omega), iD, iD, List.map_append]
      have : (max (a : Int) (b : Int)) = ((max a b : Nat) : Int) := by omega
      rw [this]; rfl
    refine ⟨_, [some (.cell 0), some (.p (tD T)), some (.p (.int (most : Nat))), some (.p (.int T.length)), some (.cell 1), some (.p (.int (0 + (i : Nat))))], [c3, .lst (iD (row ++ [max a b]))], dT_nm _ _ _, ?_, row ++ [max a b], c3, _, ?_, by simp; omega, p3.mono (by omega), rfl, rfl⟩
    · simp [e2, e3, lapp, tyD, kdC]
    · intro j hj
      rcases List.mem_append.mp hj with h | h
      · exact hr j h
      · rw [List.mem_singleton.mp h]; omega)
  simp at hl pc
  refine ⟨row, hr, by omega, c', pc.mono (by omega), ?_⟩
  simp
theorem r_often {c : Cell} {m : Nat} (p : PenOk m c) (hm : m ≤ 90000) : Res (fun y c' => ∃ n : Nat, y = .int (n : Nat) ∧ n ≤ 10 ^ 30 ∧ PenOk (m + 4) c') (g_law_often [.cell 0] [c]) := by
  unfold g_law_often
  obtain ⟨dr, hdr, sp⟩ := draw_any
  rw [hdr]
  obtain ⟨a, c1, ha, p1, e1⟩ := sp (M := [c]) (n := 0) (size := 40) rfl p (by omega) (by omega) (by omega)
  obtain ⟨b, c2, hb, p2, e2⟩ := sp (M := [c1]) (n := 0) (size := 9) rfl p1 (by omega) (by omega) (by omega)
  obtain ⟨d, c3, hd, p3, e3⟩ := sp (M := [c2]) (n := 0) (size := 1000000000) rfl p2 (by omega) (by omega) (by omega)
  obtain ⟨x, c4, hx, p4, e4⟩ := sp (M := [c3]) (n := 0) (size := 5) rfl p3 (by omega) (by omega) (by omega)
  simp at e1 e2 e3 e4
  have w1 : ∀ M, pPow (.p (.int 10)) (.p (.int 30)) M = .ok (.p (.int 1000000000000000000000000000000)) M := fun M => pPow_int _ _ _ (by omega)
  have w2 : ∀ M, pPow (.p (.int 10)) (.p (.int 9)) M = .ok (.p (.int 1000000000)) M := fun M => pPow_int _ _ _ (by omega)
  have e30 : (10 : Nat) ^ 30 = 1000000000000000000000000000000 := by decide
  have hix : ∃ n : Nat, n ≤ 10 ^ 30 ∧ ∀ M, pIx (.p (.list [.int 0, .int 1, .int (a : Nat), .int (1000000000000000000000000000000 - (b : Nat)), .int (d : Nat)])) (.p (.int (x : Nat))) M = .ok (.p (.int (n : Nat))) M := by
    rw [e30]
    have : x = 0 ∨ x = 1 ∨ x = 2 ∨ x = 3 ∨ x = 4 := by omega
    rcases this with rfl | rfl | rfl | rfl | rfl
    · exact ⟨0, by omega, fun M => pIx_lst (by decide) rfl⟩
    · exact ⟨1, by omega, fun M => pIx_lst (by decide) rfl⟩
    · exact ⟨a, by omega, fun M => pIx_lst (by decide) rfl⟩
    · refine ⟨1000000000000000000000000000000 - b, by omega, fun M => pIx_lst (by decide) ?_⟩
      have : ((1000000000000000000000000000000 - b : Nat) : Int) = 1000000000000000000000000000000 - (b : Nat) := by omega
      rw [this]; rfl
    · exact ⟨d, by omega, fun M => pIx_lst (by decide) rfl⟩
  obtain ⟨n, hn, hix⟩ := hix
  simp [e1, e2, e3, e4, w1, w2, hix]
  exact ⟨_, _, _, rfl, n, rfl, hn, p4⟩
theorem r_parts {c : Cell} {m often : Nat} (p : PenOk m c) (hm : m ≤ 90000) : Res (fun y c' => ∃ a b : Nat, y = .tuple [.int (a : Nat), .int (b : Nat)] ∧ a + b = often ∧ PenOk (m + 1) c') (g_law_parts [.cell 0, .p (.int (often : Nat))] [c]) := by
  unfold g_law_parts
  obtain ⟨dr, hdr, sp⟩ := draw_any
  rw [hdr]
  obtain ⟨a, c1, ha, p1, e1⟩ := sp (M := [c]) (n := 0) (size := 1000000) rfl p (by omega) (by omega) (by omega)
  simp at e1
  have w1 : ∀ M, pPow (.p (.int 10)) (.p (.int 6)) M = .ok (.p (.int 1000000)) M := fun M => pPow_int _ _ _ (by omega)
  have w2 : ∀ M, pMul (.p (.int (a : Nat))) (.p (.int (often : Nat))) M = .ok (.p (.int ((a : Nat) * (often : Nat)))) M := fun M => pMul_int _ _ _ (by omega)
  have hle : a * often / 1000000 ≤ often := by
    apply Nat.div_le_of_le_mul
    exact Nat.mul_le_mul (by omega) (Nat.le_refl _)
  have w3 : ∀ M, pFdiv (.p (.int ((a : Nat) * (often : Nat)))) (.p (.int 1000000)) M = .ok (.p (.int ((a * often / 1000000 : Nat) : Int))) M := fun M => by
    rw [pFdiv_int _ _ _ (by omega), Int.natCast_ediv, Int.natCast_mul]; rfl
  simp -implicitDefEqProofs [-Int.natCast_ediv, -Int.natCast_mul, e1, w1, w2, w3]
  refine ⟨_, _, _, rfl, a * often / 1000000, often - a * often / 1000000, ?_, by omega, p1⟩
  have : ((often - a * often / 1000000 : Nat) : Int) = (often : Int) - ((a * often / 1000000 : Nat) : Int) := by omega
  rw [this]
end Lw

set_option Elab.async false
set_option linter.all false
set_option maxRecDepth 100000
set_option maxHeartbeats 4000000
namespace Lw
open PySem Fn U
open L2 (Key)
variable {T : Tr} {s : List Nat} {k : Nat} {M : Store}
theorem callB_ppc {f : List D → Store → Fn.R D} {n : Nat} {a b y : PyData} {c c' : Cell} {r M : Store} (hc : M[n]? = some c) (ho : c.own = true) (h : f [.p a, .p b, .cell 0] [c] = .ok (.p y) (c' :: r)) (ho' : c'.own = true) :
    callB f [.p a, .p b, .cell n] M = .ok (.p y) (M.set n c') := by
  unfold callB
  have e : labs 0 [] [.p a, .p b, .cell n] = some ([.p a, .p b, .cell 0], [n]) := rfl
  rw [e]
  simp only [lent, hc, if_pos ho, h, back, if_pos ho']
theorem r_law_behind (h : TreeOk T) (h8 : T.length ≤ 8) (w : Wd T s) {es : List Ent} (he : ∀ e ∈ es, EntOk T e) : g_law_behind [.p (tD T), .p (wd s), .cell 0] [.lst (es.map (entD true))] = .ok (.p (wd (behind T s es))) [.lst (es.map (entD true))] := by
  have e1 : pIts (.cell 0) [.lst (es.map (entD true))] = .ok ((es.map (entD true)).map D.p, [(0, es.map (entD true))]) [.lst (es.map (entD true))] := pIts_cell _ _ rfl
  simp [-List.map_map, g_law_behind, e1]
  generalize hq : forL _ _ _ _ _ _ _ = r
  obtain ⟨σ, M, rfl, x, rfl, rfl⟩ := for_nxG hq (fun i σ M => ∃ x, σ = [some (.p (tD T)), some (.p (wd (behind T s (es.take i)))), some (.cell 0), x] ∧ M = [.lst (es.map (entD true))]) ⟨none, rfl, rfl⟩ (by
    rintro i σ M ⟨x, rfl, rfl⟩ p hp
    rw [List.mem_singleton.mp hp]
    rfl) (by
    rintro i d σ M hd ⟨x, rfl, rfl⟩
    simp at hd
    obtain ⟨e, hx, rfl⟩ := hd
    have heo := he e (List.mem_of_getElem? hx)
    have w2 : Wd T (behind T s (es.take i)) := Wd.behind h w fun e hj => he e (List.mem_of_mem_take hj)
    refine ⟨_, [some (.p (tD T)), some (.p (wd (behind T s (es.take (i + 1))))), some (.cell 0), some (.p (entD true e))], _, dT_nm _ _ _, ?_, _, rfl, rfl⟩
    rw [behind_take hx]
    cases e with
    | deed k =>
      have hk : k < T.length := heo
      simp [entD, c_law_deed h h8 w2 hk, entW]
    | rounds row n =>
      simp [entD, c_law_far h h8 w2 heo.1.lt, entW, str_ne])
  simp
theorem c_law_behind (h : TreeOk T) (h8 : T.length ≤ 8) (w : Wd T s) {es : List Ent} {n : Nat} (he : ∀ e ∈ es, EntOk T e) (hc : M[n]? = some (.lst (es.map (entD true)))) : callB g_law_behind [.p (tD T), .p (wd s), .cell n] M = .ok (.p (wd (behind T s es))) M := by
  have := callB_ppc hc rfl (r_law_behind h h8 w he) rfl
  rwa [set_eq hc] at this
end Lw

set_option Elab.async false
set_option linter.all false
set_option maxRecDepth 100000
set_option maxHeartbeats 4000000
namespace Lw
open PySem Fn U
variable {T : Tr} {s : List Nat} {k : Nat} {M : Store}
/-! ### how long a text of data is -/
theorem textFrom_le : ∀ (ts : List Str) (k : Nat) (acc : Str), (textFrom k acc ts).length ≤ acc.length + piled ts
  | [], k, acc => by show acc.length ≤ _; omega
  | t :: r, k, acc => by
    have h := textFrom_le r (k + 1) (acc ++ (if k > 0 then ", " else "" : String) ++ t)
    have e : (acc ++ (if k > 0 then ", " else "" : String) ++ t).length = acc.length + (if k > 0 then 2 else 0) + t.length := by
      rw [strLen_append, strLen_append]
      split <;> rfl
    rw [e] at h
    show (textFrom (k + 1) _ r).length ≤ _
    rw [piled_cons]
    have : (if k > 0 then 2 else 0 : Nat) ≤ 2 := by split <;> omega
    omega
def ShL (B : Nat) (d : PyData) : Prop := d.shown.length ≤ B
theorem piled_le {B : Nat} : ∀ {xs : List PyData}, (∀ x ∈ xs, ShL B x) → piled (PyData.shownAll xs) ≤ xs.length * (B + 2)
  | [], _ => by simp only [PyData.shownAll, piled_nil]; omega
  | x :: r, h => by
    simp only [PyData.shownAll, piled_cons]
    have h1 : x.shown.length ≤ B := h x (List.mem_cons_self ..)
    have h2 := piled_le (xs := r) fun y hy => h y (List.mem_cons_of_mem _ hy)
    rw [List.length_cons, Nat.add_mul]
    omega
theorem ShL.mono {B C : Nat} {d : PyData} (h : ShL B d) (l : B ≤ C) : ShL C d := Nat.le_trans h l
theorem ShL.list {B : Nat} {xs : List PyData} (h : ∀ x ∈ xs, ShL B x) : ShL (xs.length * (B + 2) + 2) (.list xs) := by
  unfold ShL
  simp only [PyData.shown, listText]
  rw [strLen_append]
  have := textFrom_le (PyData.shownAll xs) 0 "["
  have h2 := piled_le h
  have e1 : (("[" : String) : Str).length = 1 := rfl
  have e2 : (("]" : String) : Str).length = 1 := rfl
  rw [e1] at this
  rw [e2]
  omega
theorem ShL.tup {B : Nat} {xs : List PyData} (h : ∀ x ∈ xs, ShL B x) : ShL (xs.length * (B + 2) + 4) (.tuple xs) := by
  unfold ShL
  simp only [PyData.shown, tupleText]
  rw [strLen_append, strLen_append]
  have h2 := piled_le h
  have e1 : (("(" : String) : Str).length = 1 := rfl
  have e2 : ((if ((PyData.shownAll xs).length == 1) = true then ",)" else ")" : String) : Str).length ≤ 2 := by split <;> decide
  have e3 : (Str.join ", " (PyData.shownAll xs)).length ≤ piled (PyData.shownAll xs) := by
    by_cases hn : PyData.shownAll xs = []
    · rw [hn]; exact Nat.zero_le _
    · have := join_length_add _ hn
      omega
  have e1' : ((String.length "(") : Nat) = 1 := rfl
  show (Str.ofString "(").length + (Str.join ", " (PyData.shownAll xs)).length + (Str.ofString (if ((PyData.shownAll xs).length == 1) = true then ",)" else ")" : String)).length ≤ _
  have e1'' : (Str.ofString "(").length = 1 := rfl
  have e2'' : (Str.ofString (if ((PyData.shownAll xs).length == 1) = true then ",)" else ")" : String)).length ≤ 2 := e2
  omega
theorem ShL.non : ShL 4 .none := by unfold ShL; simp only [PyData.shown]; decide
theorem ShL.int {n k : Nat} (hk : 0 < k) (h : n < 10 ^ k) : ShL k (.int (n : Nat)) := by
  unfold ShL
  simp only [PyData.shown]
  have z := TL.numL_len hk h
  rw [← TL.tl_num] at z
  exact z
theorem ShL.str {x : List Nat} (h : Sgs x) : ShL (10 * x.length + 2) (.str (tx x)) := by
  unfold ShL
  simp only [PyData.shown]
  exact StrLaws.reprText_len (tx x) fun c hc => Nat.lt_of_lt_of_le (h c hc) (by decide)
theorem ShL.ints {l : List Nat} (h : ∀ n ∈ l, n < 10) : ∀ x ∈ iD l, ShL 1 x := fun x hx => by
  obtain ⟨n, hn, rfl⟩ := List.mem_map.mp hx
  exact ShL.int (by omega) (h n hn)
theorem ShL.tree (h : TreeOk T) (h8 : T.length ≤ 8) : ShL 60 (tD T) := by
  have z : ShL ((T.map pD).length * (4 + 2) + 4) (tD T) := ShL.tup fun x hx => by
    obtain ⟨o, ho, rfl⟩ := List.mem_map.mp hx
    cases o with
    | none => exact ShL.non
    | some j =>
      obtain ⟨i, hi, e⟩ := List.getElem_of_mem ho
      have hj : j < 10 := by
        rcases h.case hi with ⟨rfl, e2⟩ | ⟨h0, j', hj', e2⟩
        · rw [List.getElem?_eq_getElem hi, e] at e2; cases e2
        · rw [List.getElem?_eq_getElem hi, e] at e2; cases e2; omega
      exact (ShL.int (n := j) (k := 1) (by omega) hj).mono (by omega)
  rw [List.length_map] at z
  exact z.mono (by omega)
theorem ShL.wd (h8 : T.length ≤ 8) (w : Wd T s) : ShL 82 (wd s) := (ShL.str w.lets.sgs).mono (by have := w.len; omega)
theorem ShL.ent (h8 : T.length ≤ 8) {e : Ent} (he : EntOk T e) : ShL 400 (entD true e) := by
  have r1 : ShL 122 (.str "rounds") := by unfold ShL; simp only [PyData.shown]; exact Nat.le_trans (by decide +kernel : (reprText "rounds").length ≤ 100) (by decide)
  have r2 : ShL 122 (.str "deed") := by unfold ShL; simp only [PyData.shown]; exact Nat.le_trans (by decide +kernel : (reprText "deed").length ≤ 100) (by decide)
  cases e with
  | deed k =>
    have hk : k < T.length := he
    have z : ShL (2 * (122 + 2) + 4) (entD true (.deed k)) := ShL.tup (xs := [.str "deed", .int (k : Nat)]) fun x hx => by
      rcases List.mem_cons.mp hx with rfl | hx
      · exact r2
      · rw [List.mem_singleton.mp hx]
        exact (ShL.int (n := k) (k := 1) (by omega) (by omega)).mono (by omega)
    exact z.mono (by omega)
  | rounds row n =>
    have z : ShL (3 * (122 + 2) + 4) (entD true (.rounds row n)) := ShL.tup (xs := [.str "rounds", .list (iD row), .int (n : Nat)]) fun x hx => by
      rcases List.mem_cons.mp hx with rfl | hx
      · exact r1
      rcases List.mem_cons.mp hx with rfl | hx
      · have := ShL.list (ShL.ints fun n hn => by have := he.1.lt n hn; omega : ∀ x ∈ iD row, ShL 1 x)
        rw [iD_len] at this
        exact this.mono (by have := he.1.few; omega)
      · rw [List.mem_singleton.mp hx]
        have hn : n ≤ 10 ^ 30 := he.2
        exact (ShL.int (n := n) (k := 31) (by omega) (Nat.lt_of_le_of_lt hn (by decide))).mono (by omega)
    exact z.mono (by omega)
theorem shB_ok {d : PyData} (g : Sh 20 d) (h : ShL 16777216 d) : shB d = true := by
  unfold shB
  rw [g.1, g.2.1, decide_eq_true g.2.2, decide_eq_true (show d.shown.length ≤ sizeLine by rw [Fn.sizeLine_eq]; exact h)]
  rfl
end Lw

set_option Elab.async false
set_option linter.all false
set_option maxRecDepth 100000
set_option maxHeartbeats 4000000
namespace Lw
open PySem Fn U
variable {T : Tr} {s : List Nat} {k : Nat} {M : Store}
def numS (n : Nat) : Str := Str.ofString (toString ((n : Nat) : Int))
theorem numS_len {n : Nat} (h : n ≤ 40) : (numS n).length ≤ 2 := by
  have z := TL.numL_len (n := n) (k := 2) (by omega) (by omega)
  rw [← TL.tl_num] at z
  exact z
theorem cStr_n {n : Nat} (h : n ≤ 40) : cStr [.p (.int (n : Nat))] M = .ok (.p (.str (numS n))) M := cStr_int _ _ (small_log (by
  have : (40 : Nat) < 2 ^ 1000 := by decide +kernel
  omega))
/-- what repr tells of a house -/
def repS (n m : Nat) : Str := Str.ofString "House(" ++ (numS n ++ Str.ofString " places, " ++ numS m ++ Str.ofString " entries") ++ Str.ofString ")"
theorem repS_len {n m : Nat} (hn : n ≤ 40) (hm : m ≤ 40) : (repS n m).length ≤ 40 := by
  unfold repS
  have a := numS_len hn
  have b := numS_len hm
  simp only [strLen_append]
  have e1 : (Str.ofString "House(").length = 6 := rfl
  have e2 : (Str.ofString " places, ").length = 9 := rfl
  have e3 : (Str.ofString " entries").length = 8 := rfl
  have e4 : (Str.ofString ")").length = 1 := rfl
  omega
theorem str_ext {a b : Str} (h : TL.tl a = TL.tl b) : a = b := by rw [← TL.mk_tl a, ← TL.mk_tl b, h]
theorem sg_repS {n m : Nat} : ∀ c ∈ (repS n m).cps.toList, c < 1114112 := by
  intro c hc
  have hc : c ∈ TL.tl (repS n m) := hc
  unfold repS numS at hc
  simp only [TL.tl_append, TL.tl_num, List.mem_append] at hc
  have d : ∀ n, ∀ c ∈ TL.numL n, c < 1114112 := fun n c hc => by
    have := TL.numL_digits n c hc
    omega
  have l1 : ∀ c ∈ TL.tl (Str.ofString "House("), c < 1114112 := by decide +kernel
  have l2 : ∀ c ∈ TL.tl (Str.ofString " places, "), c < 1114112 := by decide +kernel
  have l3 : ∀ c ∈ TL.tl (Str.ofString " entries"), c < 1114112 := by decide +kernel
  have l4 : ∀ c ∈ TL.tl (Str.ofString ")"), c < 1114112 := by decide +kernel
  rcases hc with (hc | (((hc | hc) | hc) | hc)) | hc
  · exact l1 c hc
  · exact d _ c hc
  · exact l2 c hc
  · exact d _ c hc
  · exact l3 c hc
  · exact l4 c hc
theorem good_repS {n m : Nat} : Good 5 (.str (repS n m)) := Good.str (by
  rw [← Array.all_toList, List.all_eq_true]
  intro c hc
  exact decide_eq_true (sg_repS c hc))
theorem good_n {n j : Nat} (h : n ≤ 10 ^ 30) : Good j (.int (n : Nat)) := Good.int (small_log (by
  have : 10 ^ 30 < 2 ^ 1000 := by decide +kernel
  omega))
theorem good_tree (h : TreeOk T) (h8 : T.length ≤ 8) : Good 1 (tD T) := Good.tuple fun x hx => by
  obtain ⟨o, ho, rfl⟩ := List.mem_map.mp hx
  cases o with
  | none => exact Good.non
  | some j =>
    obtain ⟨i, hi, e⟩ := List.getElem_of_mem ho
    have hj : j < 10 := by
      rcases h.case hi with ⟨rfl, e2⟩ | ⟨h0, j', hj', e2⟩
      · rw [List.getElem?_eq_getElem hi, e] at e2; cases e2
      · rw [List.getElem?_eq_getElem hi, e] at e2; cases e2; omega
    exact good_n (n := j) (by have : (10:Nat) ^ 30 = 1000000000000000000000000000000 := by decide
                              omega)
theorem good_ent (h8 : T.length ≤ 8) {e : Ent} (he : EntOk T e) : Good 2 (entD true e) := by
  have e30 : (10:Nat) ^ 30 = 1000000000000000000000000000000 := by decide
  have r1 : ∀ n, Good n (.str "rounds") := fun n => Good.str (by decide +kernel)
  have r2 : ∀ n, Good n (.str "deed") := fun n => Good.str (by decide +kernel)
  cases e with
  | deed k =>
    have hk : k < T.length := he
    exact Good.mono (n := 1) (Good.tuple (xs := [.str "deed", .int (k : Nat)]) fun x hx => by
      rcases List.mem_cons.mp hx with rfl | hx
      · exact r2 _
      · rw [List.mem_singleton.mp hx]
        exact good_n (by omega)) (by omega)
  | rounds row n =>
    exact Good.tuple (xs := [.str "rounds", .list (iD row), .int (n : Nat)]) fun x hx => by
      rcases List.mem_cons.mp hx with rfl | hx
      · exact r1 _
      rcases List.mem_cons.mp hx with rfl | hx
      · exact Good.list fun x hx => by
          obtain ⟨j, hj, rfl⟩ := List.mem_map.mp hx
          exact good_n (by have := he.1.lt j hj; omega)
      · rw [List.mem_singleton.mp hx]
        exact good_n he.2
theorem r_repr {es : List Ent} {b : Bool} (h8 : T.length ≤ 8) (hl : es.length ≤ 40) : g_House_repr [.cell 0] (hM T s es b) = .ok (.p (.str (repS T.length es.length))) (hM T s es b) := by
  have l1 : gFld "House" "roots" (gVar 0) [some (.cell 0)] (hM T s es b) = .ok (.p (tD T)) (hM T s es b) := by simp [hM]
  have l2 : gFld "House" "kept" (gVar 0) [some (.cell 0)] (hM T s es b) = .ok (.cell 1) (hM T s es b) := by simp [hM]
  have e : cLen [.cell 1] (hM T s es b) = .ok (.p (.int (es.map (entD false)).length)) (hM T s es b) := cLen_cell _ _ _ rfl
  rw [List.length_map] at e
  have a := numS_len (n := T.length) (by omega)
  have c := numS_len (n := es.length) hl
  have big : (40 : Nat) < 2 ^ 1000 := by decide +kernel
  have q1 : ((T.length : Int)).natAbs.log2 < 1920 := small_log (by omega)
  have q2 : ((es.length : Int)).natAbs.log2 < 1920 := small_log (by omega)
  have f1 : gFmt (gCall cLen (gCons (gFld "House" "roots" (gVar 0)) gNil)) [some (.cell 0)] (hM T s es b) = .ok (.p (.str (numS T.length))) (hM T s es b) := by
    unfold gFmt
    simp [-gFld_eq, l1]
    rw [if_pos (show (List.length T).log2 < 1920 from q1)]; rfl
  have f2 : gFmt (gCall cLen (gCons (gFld "House" "kept" (gVar 0)) gNil)) [some (.cell 0)] (hM T s es b) = .ok (.p (.str (numS es.length))) (hM T s es b) := by
    unfold gFmt
    simp [-gFld_eq, l2, e]
    rw [if_pos (show es.length.log2 < 1920 from q2)]; rfl
  have e2 : (Str.ofString " places, ").length = 9 := rfl
  have e3 : (Str.ofString " entries)").length = 9 := rfl
  have e4 : (Str.ofString "House(").length = 6 := rfl
  have e5 : Str.empty.length = 0 := rfl
  have x1 : (Str.empty ++ Str.ofString "House(").length ≤ sizeLine := by rw [Fn.sizeLine_eq]; simp only [strLen_append]; omega
  have x2 : (Str.empty ++ Str.ofString "House(" ++ numS T.length).length ≤ sizeLine := by rw [Fn.sizeLine_eq]; simp only [strLen_append]; omega
  have x3 : (Str.empty ++ Str.ofString "House(" ++ numS T.length ++ Str.ofString " places, ").length ≤ sizeLine := by rw [Fn.sizeLine_eq]; simp only [strLen_append]; omega
  have x4 : (Str.empty ++ Str.ofString "House(" ++ numS T.length ++ Str.ofString " places, " ++ numS es.length).length ≤ sizeLine := by rw [Fn.sizeLine_eq]; simp only [strLen_append]; omega
  have x5 : (Str.empty ++ Str.ofString "House(" ++ numS T.length ++ Str.ofString " places, " ++ numS es.length ++ Str.ofString " entries)").length ≤ sizeLine := by rw [Fn.sizeLine_eq]; simp only [strLen_append]; omega
  have fin : Str.empty ++ Str.ofString "House(" ++ numS T.length ++ Str.ofString " places, " ++ numS es.length ++ Str.ofString " entries)" = repS T.length es.length := by
    apply str_ext
    unfold repS
    have z1 : TL.tl (Str.ofString " entries)") = TL.tl (Str.ofString " entries") ++ TL.tl (Str.ofString ")") := by decide +kernel
    have z2 : TL.tl Str.empty = [] := rfl
    simp only [TL.tl_append, z1, z2, List.nil_append, List.append_assoc]
  have x6 : (repS T.length es.length).length ≤ sizeLine := fin ▸ x5
  unfold g_House_repr
  simp only [gF_eq, gRet_eq, gJs, gK_eq, bind_ok, List.map_cons, List.map_nil, List.length_cons, List.length_nil, List.replicate, List.append_nil, Nat.sub_self, f1, f2, if_pos x1, if_pos x2, if_pos x3, if_pos x4, if_pos x5, if_pos x6, toS_ok, fin_rt, fin]
-- stands
theorem r_stands {es : List Ent} {b : Bool} (h : HOk T s es) (hl : es.length ≤ 40) : g_law_stands [.cell 0, .p (tD T), .p (wd s), .cell 1] [.box (hM T s es b), .lst (es.map (entD true))] = .ok (.p (.bool true)) [.box (hM T s es b), .lst (es.map (entD true))] := by
  have m : ∀ {f : List D → Store → Fn.R D} {y : PyData}, f [.cell 0] (hM T s es b) = .ok (.p y) (hM T s es b) → methOn f 0 [] [.box (hM T s es b), .lst (es.map (entD true))] = .ok (.p y) [.box (hM T s es b), .lst (es.map (entD true))] := fun {f y} e => by
    have z := meth0 (f := f) (k := 0) (xs := []) (M := [.box (hM T s es b), .lst (es.map (entD true))]) (R := []) (es' := es) (b' := b) rfl (by rw [List.append_nil]; exact e)
    exact z
  have hb : ∀ mm : Str, (hF T 1 2 b).lookup mm = none → hasIns "House" mm [.box (hM T s es b), .lst (es.map (entD true))] (.cell 0) = some 0 := fun mm e => has_box rfl e
  have e0 : callB g_law_behind [.p (tD T), .p (wd s), .cell 1] [.box (hM T s es b), .lst (es.map (entD true))] = .ok (.p (wd (behind T s es))) [.box (hM T s es b), .lst (es.map (entD true))] := c_law_behind h.t h.t8 h.w h.e rfl
  have e1 : cLen [.cell 1] [.box (hM T s es b), .lst (es.map (entD true))] = .ok (.p (.int (es.length : Nat))) [.box (hM T s es b), .lst (es.map (entD true))] := by
    rw [cLen_cell _ _ _ rfl, List.length_map]
  have s1 : ∀ M, cStr [.p (.int (T.length : Nat))] M = .ok (.p (.str (numS T.length))) M := fun M => cStr_n (by have := h.t8; omega)
  have s2 : ∀ M, cStr [.p (.int (es.length : Nat))] M = .ok (.p (.str (numS es.length))) M := fun M => cStr_n hl
  have n1 := numS_len (n := T.length) (by have := h.t8; omega)
  have n2 := numS_len (n := es.length) hl
  have e2 : (Str.ofString " places, ").length = 9 := rfl
  have e3 : (Str.ofString " entries").length = 8 := rfl
  have e4 : (Str.ofString "House(").length = 6 := rfl
  have e5 : (Str.ofString ")").length = 1 := rfl
  have a1 : ∀ M, pAdd (.p (.str (numS T.length))) (.p (.str " places, ")) M = .ok (.p (.str (numS T.length ++ Str.ofString " places, "))) M := fun M => pAdd_str _ _ _ (by rw [e2]; omega)
  have a2 : ∀ M, pAdd (.p (.str (numS T.length ++ Str.ofString " places, "))) (.p (.str (numS es.length))) M = .ok (.p (.str (numS T.length ++ Str.ofString " places, " ++ numS es.length))) M := fun M => pAdd_str _ _ _ (by rw [strLen_append, e2]; omega)
  have a3 : ∀ M, pAdd (.p (.str (numS T.length ++ Str.ofString " places, " ++ numS es.length))) (.p (.str " entries")) M = .ok (.p (.str (numS T.length ++ Str.ofString " places, " ++ numS es.length ++ Str.ofString " entries"))) M := fun M => pAdd_str _ _ _ (by rw [strLen_append, strLen_append, e2, e3]; omega)
  have a4 : ∀ M, pAdd (.p (.str "House(")) (.p (.str (numS T.length ++ Str.ofString " places, " ++ numS es.length ++ Str.ofString " entries"))) M = .ok (.p (.str (Str.ofString "House(" ++ (numS T.length ++ Str.ofString " places, " ++ numS es.length ++ Str.ofString " entries")))) M := fun M => pAdd_str _ _ _ (by simp only [strLen_append]; omega)
  have a5 : ∀ M, pAdd (.p (.str (Str.ofString "House(" ++ (numS T.length ++ Str.ofString " places, " ++ numS es.length ++ Str.ofString " entries")))) (.p (.str ")")) M = .ok (.p (.str (repS T.length es.length))) M := fun M => pAdd_str _ _ _ (by simp only [strLen_append]; omega)
  have oi : okI (.p (.int (es.length : Nat))) = true := by
    rw [okI, decide_eq_true_eq]
    omega
  have os : ∀ x, okS (.p (.str x)) = true := fun x => rfl
  have key : shB (.list [tD T, wd s, wd (behind T s es), .list (es.map (entD true)), .int (es.length : Nat), wd (behind T s es), .str (repS T.length es.length)]) = true := by
    have gs := good_repS (n := T.length) (m := es.length)
    refine shB_ok ?_ ?_
    · refine Sh.mono (n := 6) (Sh.list (n := 5) fun x hx => ?_) (by omega)
      refine Good.sh ?_
      simp only [List.mem_cons, List.not_mem_nil, or_false] at hx
      rcases hx with rfl | rfl | rfl | rfl | rfl | rfl | rfl
      · exact (good_tree h.t h.t8).mono (by omega)
      · exact good_w h.w.lets.sgs
      · exact good_w h.wb.lets.sgs
      · exact (Good.list fun x hx => by
          obtain ⟨e, he, rfl⟩ := List.mem_map.mp hx
          exact good_ent h.t8 (h.e e he)).mono (by omega)
      · exact good_n (by omega)
      · exact good_w h.wb.lets.sgs
      · exact gs
    · refine ShL.mono (ShL.list (B := 16100) fun x hx => ?_) (by simp)
      simp only [List.mem_cons, List.not_mem_nil, or_false] at hx
      rcases hx with rfl | rfl | rfl | rfl | rfl | rfl | rfl
      · exact (ShL.tree h.t h.t8).mono (by omega)
      · exact (ShL.wd h.t8 h.w).mono (by omega)
      · exact (ShL.wd h.t8 h.wb).mono (by omega)
      · have := ShL.list (xs := es.map (entD true)) fun x hx => by
          obtain ⟨e, he, rfl⟩ := List.mem_map.mp hx
          exact ShL.ent h.t8 (h.e e he)
        rw [List.length_map] at this
        exact this.mono (by omega)
      · exact (ShL.int (n := es.length) (k := 2) (by omega) (by omega)).mono (by omega)
      · exact (ShL.wd h.t8 h.wb).mono (by omega)
      · have hl2 := repS_len (n := T.length) (m := es.length) (by have := h.t8; omega) hl
        have := StrLaws.reprText_len (repS T.length es.length) fun c hc => Nat.lt_of_lt_of_le (sg_repS c hc) (by decide)
        unfold ShL
        simp only [PyData.shown]
        omega
  have rp : ∀ M, cRepr [.p (.list [tD T, wd s, wd (behind T s es), .list (es.map (entD true)), .int (es.length : Nat), wd (behind T s es), .str (repS T.length es.length)])] M = .ok (.p (.str (PyData.shown (.list [tD T, wd s, wd (behind T s es), .list (es.map (entD true)), .int (es.length : Nat), wd (behind T s es), .str (repS T.length es.length)])))) M := fun M => by
    unfold cRepr
    simp only [dat_p, if_pos key]
  have rp2 : cRepr [.seq false [.p (tD T), .p (wd s), .p (wd (behind T s es)), .cell 1, .p (.int (es.length : Nat)), .p (wd (behind T s es)), .p (.str (repS T.length es.length))]] [.box (hM T s es b), .lst (es.map (entD true))] = .ok (.p (.str (PyData.shown (.list [tD T, wd s, wd (behind T s es), .list (es.map (entD true)), .int (es.length : Nat), wd (behind T s es), .str (repS T.length es.length)])))) [.box (hM T s es b), .lst (es.map (entD true))] := by
    unfold cRepr
    have : dat [.box (hM T s es b), .lst (es.map (entD true))] (.seq false [.p (tD T), .p (wd s), .p (wd (behind T s es)), .cell 1, .p (.int (es.length : Nat)), .p (wd (behind T s es)), .p (.str (repS T.length es.length))]) = some (.list [tD T, wd s, wd (behind T s es), .list (es.map (entD true)), .int (es.length : Nat), wd (behind T s es), .str (repS T.length es.length)]) := rfl
    simp only [this, if_pos key]
  simp -implicitDefEqProofs [-List.map_map, g_law_stands, e0, e1, s1, s2, a1, a2, a3, a4, a5, hb, m r_tree, m r_first, m (r_entries (by omega)), m r_len, m r_str, m (r_repr h.t8 hl), m (show g_House_word [.cell 0] (hM T s es b) = .ok (.p (wd (behind T s es))) (hM T s es b) from r_word (R := [])), oi, os, rp, mkL', rp2]
theorem c_stands {es : List Ent} {b : Bool} {i j : Nat} (h : HOk T s es) (hl : es.length ≤ 40) (hij : i ≠ j) (hi : M[i]? = some (.box (hM T s es b))) (hj : M[j]? = some (.lst (es.map (entD true)))) : callB g_law_stands [.cell i, .p (tD T), .p (wd s), .cell j] M = .ok (.p (.bool true)) M := by
  have e : labs 0 [] [.cell i, .p (tD T), .p (wd s), .cell j] = some ([.cell 0, .p (tD T), .p (wd s), .cell 1], [i, j]) := by
    have hp : pos j [i] = none := by
      rw [pos, if_neg hij]
      rfl
    have l1 : lab 0 [] (.cell i) = some (.cell 0, [i]) := rfl
    have l2 : lab 0 [i] (.cell j) = some (.cell 1, [i, j]) := by
      show (match pos j [i] with
        | some k => some (D.cell (0 + k), [i])
        | none => some (D.cell (0 + [i].length), [i] ++ [j])) = _
      rw [hp]
      rfl
    have l3 : lab 0 [i] (.p (tD T)) = some (.p (tD T), [i]) := rfl
    have l4 : lab 0 [i] (.p (wd s)) = some (.p (wd s), [i]) := rfl
    simp only [labs, l1, l3, l4, l2]
  have o1 : Cell.own (.box (hM T s es b)) = true := rfl
  have o2 : Cell.own (.lst (es.map (entD true))) = true := rfl
  have e2 : lent M [i, j] = some [.box (hM T s es b), .lst (es.map (entD true))] := by
    simp only [lent, hi, hj, if_pos o1, if_pos o2]
  have e3 : back M [i, j] [.box (hM T s es b), .lst (es.map (entD true))] = some M := by
    simp only [back, if_pos o1, if_pos o2]
    rw [set_eq hi, set_eq hj]
  unfold callB
  rw [e]
  simp only [e2, r_stands h hl, e3]
end Lw

set_option Elab.async false
set_option linter.all false
set_option maxRecDepth 100000
set_option maxHeartbeats 4000000
namespace Lw
open PySem Fn U
variable {T : Tr} {s : List Nat} {k : Nat} {M : Store}
noncomputable def innerG : GS := (gSeq (gSet 9 (gCallF 3 g_law_road [] (gCons (gVar 1) (gCons (gVar 3) (gCons (gK (.int 12)) gNil)))))
    (gSeq (gSet 10 (gCallF 1 g_law_often [] (gCons (gVar 1) gNil)))
    (gSeq (gExp (gMet "list" mApp (gVar 7) (gCons (gTup (gCons (gK (.str "rounds")) (gCons (gCall cList (gCons (gVar 9) gNil)) (gCons (gVar 10) gNil)))) gNil)))
    (gSeq (gSet 11 (gCall cListC (gCons (gVar 9) gNil)))
    (gSeq (gIfS (gTB (gBin (pEq true) (gMethK "House" "rounds" 2 1 g_House_rounds (gVar 5) (gCons (gVar 11) gNil) (gCons (gVar 10) gNil)) (gCallF 3 g_law_behind [] (gCons (gVar 3) (gCons (gVar 4) (gCons (gVar 7) gNil)))))) (gRet (gK (.bool false)))
    gNx)
    (gSeq (gExp (gMet0 "list" mRev (gVar 11)))
    (gSeq (gExp (gMet "list" mApp (gVar 11) (gCons (gK (.int 0)) gNil)))
    (gSeq (gFor false (gIts (gCallF 2 g_law_parts [] (gCons (gVar 1) (gCons (gVar 10) gNil)))) (.nm 12)
    (gExp (gMethK "House" "rounds" 2 1 g_House_rounds (gVar 6) (gCons (gVar 9) gNil) (gCons (gVar 12) gNil))))
    (gSeq (gSet 13 (gCallF 2 g_law_draw [] (gCons (gVar 1) (gCons (gCall cLen (gCons (gVar 3) gNil)) gNil))))
    (gSeq (gExp (gMet "list" mApp (gVar 7) (gCons (gTup (gCons (gK (.str "deed")) (gCons (gVar 13) gNil))) gNil)))
    (gIfS (gOrT (gTB (gBin (pEq true) (gMeth "House" "deed" 2 g_House_deed [] (gVar 5) (gCons (gVar 13) gNil)) (gMeth "House" "deed" 2 g_House_deed [] (gVar 6) (gCons (gVar 13) gNil)))) (gTB (gBin (pEq true) (gMeth "House" "word" 1 g_House_word [] (gVar 5) gNil) (gMeth "House" "word" 1 g_House_word [] (gVar 6) gNil)))) (gRet (gK (.bool false)))
    gNx)))))))))))
abbrev Hc (T : Tr) (s : List Nat) (es : List Ent) : Cell := .box (hM T s es false)
abbrev Lc (es : List Ent) : Cell := .lst (es.map (entD true))
abbrev Rc (row : List Nat) : Cell := .lst (iD row)
def hasC (c m : Str) (k : Nat) (o : Option Cell) : Option Nat := match o with
  | some (.ins c' fs) => if c' = c ∧ fs.lookup m = none then some k else none
  | some (.box sub) => (match (sub[0]? : Option Cell) with
    | some (Cell.ins c' fs) => if c' = c ∧ fs.lookup m = none then some k else none
    | _ => none)
  | _ => none
theorem has_cell (c m : Str) (M : Store) (k : Nat) : hasIns c m M (.cell k) = hasC c m k M[k]? := rfl
theorem has_hc (m : Str) (k : Nat) (es : List Ent) (h : (hF T 1 2 false).lookup m = none) : hasC "House" m k (some (Hc T s es)) = some k := by
  show (if ("House" : Str) = "House" ∧ (hF T 1 2 false).lookup m = none then some k else none) = _
  rw [if_pos ⟨rfl, h⟩]
def forS (r : SR) (k : Sl → Store → SR) : SR := match r with
  | .nx σ M => k σ M
  | .ct σ M => k σ M
  | .bk σ M => .nx σ M
  | .rt d M => .rt d M
  | .ex e σ M => .ex e σ M
  | .no => .no
theorem forS_nx (σ : Sl) (M : Store) (k : Sl → Store → SR) : forS (.nx σ M) k = k σ M := rfl
theorem for_nil (t : Tg) (body : GS) (σ : Sl) (M : Store) : forL [] none t body [] σ M = .nx σ M := by
  rw [forL, if_pos gd0]
theorem for_cons (i : Nat) (body : GS) (d : D) (ds : List D) (σ : Sl) (M : Store) : forL [] none (.nm i) body (d :: ds) σ M = forS (body (σ.set i (some d)) M) fun σ2 M2 => forL [] none (.nm i) body ds σ2 M2 := by
  rw [forL, if_pos gd0, dT_nm]
  show (match body (σ.set i (some d)) M with
    | .nx σ2 M2 => forL [] none (.nm i) body ds (tidO none σ2 M2).1 (tidO none σ2 M2).2
    | .ct σ2 M2 => forL [] none (.nm i) body ds (tidO none σ2 M2).1 (tidO none σ2 M2).2
    | .bk σ2 M2 => .nx σ2 M2
    | .rt d M2 => .rt d M2
    | .ex e σ2 M2 => .ex e σ2 M2
    | .no => .no) = _
  cases body (σ.set i (some d)) M <;> rfl
theorem m_rounds {es : List Ent} {row : List Nat} {k n m : Nat} (hk : M[k]? = some (Hc T s es)) (hn : M[n]? = some (Rc row)) (hne : n ≠ k) (h : HOk T s es) (hr : ∀ j ∈ row, j < T.length) (hrl : row.length ≤ 12) (hm : m ≤ 10 ^ 30) (hl : es.length + 1 ≤ 40) :
    methOn g_House_rounds k [.cell n, .p (.int (m : Nat))] M = .ok (.p (wd (behind T s (es ++ [.rounds row m])))) (M.set k (Hc T s (es ++ [.rounds row m]))) := by
  have z := meth1 (f := g_House_rounds) (xs := [.int (m : Nat)]) (R := []) hk hn rfl hne (r_rounds h hr hrl hm hl) rfl
  rw [set_eq (a := Rc row) (by rw [List.getElem?_set_ne (fun e => hne e.symm)]; exact hn)] at z
  exact z
theorem m_deed {es : List Ent} {i k : Nat} (hk : M[i]? = some (Hc T s es)) (h : HOk T s es) (hkt : k < T.length) (hl : es.length + 1 ≤ 40) : ∃ c, (behind T s (es ++ [.deed k]))[k]? = some c ∧
    methOn g_House_deed i [.p (nD k)] M = .ok (.p (wd [c])) (M.set i (Hc T s (es ++ [.deed k]))) := by
  obtain ⟨c, hc, e⟩ := r_deed (R := []) h hkt hl
  exact ⟨c, hc, meth0 (f := g_House_deed) (xs := [nD k]) (R := []) hk (by rw [List.append_nil] at e ⊢; exact e)⟩
theorem m_word {es : List Ent} {i : Nat} (hk : M[i]? = some (Hc T s es)) : methOn g_House_word i [] M = .ok (.p (wd (behind T s es))) M := by
  have z := meth0 (f := g_House_word) (xs := []) (R := []) hk (r_word (R := []))
  rw [set_eq hk] at z
  exact z
theorem app_L {es : List Ent} {n : Nat} {e : Ent} (hn : M[n]? = some (Lc es)) (hl : es.length ≤ 100) : mApp (.cell n) [.p (entD true e)] M = .ok (.p .none) (M.set n (Lc (es ++ [e]))) := by
  rw [mApp_ok _ _ _ _ hn (by rw [List.length_map]; omega)]
  show _ = Fn.R.ok _ (M.set n (.lst ((es ++ [e]).map (entD true))))
  rw [List.map_append]; rfl
theorem inner_turn {es ep : List Ent} {c : Cell} {m : Nat} {x0 x2 x9 x10 x11 x12 x13 x14 x15 : Option D} {v : D} (h : HOk T s es) (hp : HOk T s ep) (hb : behind T s es = behind T s ep) (l1 : es.length ≤ 20) (l2 : ep.length ≤ 20) (pc : PenOk m c) (hm : m ≤ 50000) :
    ∃ (row : List Nat) (n a b k : Nat) (c' : Cell) (y12 : Option D) (R : Store), a + b = n ∧ (∀ j ∈ row, j < T.length) ∧ row.length ≤ 12 ∧ n ≤ 10 ^ 30 ∧ k < T.length ∧ PenOk (m + 200) c' ∧
      innerG [x0, some (.cell 0), x2, some (.p (tD T)), some (.p (wd s)), some (.cell 1), some (.cell 2), some (.cell 3), some v, x9, x10, x11, x12, x13, x14, x15] [c, Hc T s es, Hc T s ep, Lc es] =
        .nx [x0, some (.cell 0), x2, some (.p (tD T)), some (.p (wd s)), some (.cell 1), some (.cell 2), some (.cell 3), some v, some (.cell 4), some (.p (.int (n : Nat))), some (.cell 5), y12, some (.p (nD k)), x14, x15]
          ([c', Hc T s (es ++ [.rounds row n, .deed k]), Hc T s (ep ++ [.rounds row a, .rounds row b, .deed k]), Lc (es ++ [.rounds row n, .deed k])] ++ R) := by
  obtain ⟨row, c1, hr, hrl, p1, r1⟩ := r_road (most := 12) pc (by omega) h.t h.t8 (by omega)
  have e1 := callB_cn (f := g_law_road) (n := 0) (xs := [tD T, .int (12 : Nat)]) (M := [c, Hc T s es, Hc T s ep, Lc es]) rfl pc.own (j := 0) r1 p1.own rfl rfl
  simp at e1
  obtain ⟨_, c2, ⟨n, rfl, hn, p2⟩, e2⟩ := Res.call (f := g_law_often) (n := 0) (xs := []) (M := [c1, Hc T s es, Hc T s ep, Lc es, Rc row]) rfl p1.own (r_often p1 (by omega)) fun y c' ⟨_, _, _, p⟩ => p.own
  simp at e2
  have er : EntOk T (.rounds row n) := ⟨⟨hr, by omega⟩, hn⟩
  have e3 : cList [.cell 4] [c2, Hc T s es, Hc T s ep, Lc es, Rc row] = .ok (.p (.list (iD row))) [c2, Hc T s es, Hc T s ep, Lc es, Rc row] := cList_cell _ _ _ rfl
  have e4 : mApp (.cell 3) [.p (entD true (.rounds row n))] [c2, Hc T s es, Hc T s ep, Lc es, Rc row] = .ok (.p .none) [c2, Hc T s es, Hc T s ep, Lc (es ++ [.rounds row n]), Rc row] := app_L rfl (by omega)
  have ed : entD true (.rounds row n) = .tuple [.str "rounds", .list (iD row), .int (n : Nat)] := rfl
  rw [ed] at e4
  have e5 : cListC [.cell 4] [c2, Hc T s es, Hc T s ep, Lc (es ++ [.rounds row n]), Rc row] = .ok (.cell 5) [c2, Hc T s es, Hc T s ep, Lc (es ++ [.rounds row n]), Rc row, Rc row] := rfl
  have h1 : HOk T s (es ++ [.rounds row n]) := h.snoc er
  have e6 : methOn g_House_rounds 1 [.cell 5, .p (.int (n : Nat))] [c2, Hc T s es, Hc T s ep, Lc (es ++ [.rounds row n]), Rc row, Rc row] = .ok (.p (wd (behind T s (es ++ [.rounds row n])))) [c2, Hc T s (es ++ [.rounds row n]), Hc T s ep, Lc (es ++ [.rounds row n]), Rc row, Rc row] := m_rounds rfl rfl (by decide) h hr hrl hn (by omega)
  have e7 : callB g_law_behind [.p (tD T), .p (wd s), .cell 3] [c2, Hc T s (es ++ [.rounds row n]), Hc T s ep, Lc (es ++ [.rounds row n]), Rc row, Rc row] = .ok (.p (wd (behind T s (es ++ [.rounds row n])))) [c2, Hc T s (es ++ [.rounds row n]), Hc T s ep, Lc (es ++ [.rounds row n]), Rc row, Rc row] := c_law_behind h.t h.t8 h.w h1.e rfl
  have e9 : mRev (.cell 5) [] [c2, Hc T s (es ++ [.rounds row n]), Hc T s ep, Lc (es ++ [.rounds row n]), Rc row, Rc row] = .ok (.p .none) [c2, Hc T s (es ++ [.rounds row n]), Hc T s ep, Lc (es ++ [.rounds row n]), Rc row, .lst (iD row).reverse] := rfl
  have e10 : mApp (.cell 5) [.p (.int 0)] [c2, Hc T s (es ++ [.rounds row n]), Hc T s ep, Lc (es ++ [.rounds row n]), Rc row, .lst (iD row).reverse] = .ok (.p .none) [c2, Hc T s (es ++ [.rounds row n]), Hc T s ep, Lc (es ++ [.rounds row n]), Rc row, .lst ((iD row).reverse ++ [.int 0])] := mApp_ok _ _ _ _ rfl (by rw [List.length_reverse, iD_len]; omega)
  obtain ⟨_, c3, ⟨a, b, rfl, hab, p3⟩, e11⟩ := Res.call (f := g_law_parts) (n := 0) (xs := [.int (n : Nat)]) (M := [c2, Hc T s (es ++ [.rounds row n]), Hc T s ep, Lc (es ++ [.rounds row n]), Rc row, .lst ((iD row).reverse ++ [.int 0])]) rfl p2.own (r_parts p2 (by omega)) fun y c' ⟨_, _, _, _, p⟩ => p.own
  simp [-List.map_append, -List.map_reverse] at e11
  have ea : EntOk T (.rounds row a) := ⟨⟨hr, by omega⟩, by omega⟩
  have eb : EntOk T (.rounds row b) := ⟨⟨hr, by omega⟩, by omega⟩
  have e12 : methOn g_House_rounds 2 [.cell 4, .p (.int (a : Nat))] [c3, Hc T s (es ++ [.rounds row n]), Hc T s ep, Lc (es ++ [.rounds row n]), Rc row, .lst ((iD row).reverse ++ [.int 0])] = .ok (.p (wd (behind T s (ep ++ [.rounds row a])))) [c3, Hc T s (es ++ [.rounds row n]), Hc T s (ep ++ [.rounds row a]), Lc (es ++ [.rounds row n]), Rc row, .lst ((iD row).reverse ++ [.int 0])] := m_rounds rfl rfl (by decide) hp hr hrl (by omega) (by omega)
  have hpa : HOk T s (ep ++ [.rounds row a]) := hp.snoc ea
  have hpb : HOk T s (ep ++ [.rounds row a, .rounds row b]) := by
    have := hpa.snoc eb
    rw [List.append_assoc] at this; exact this
  have e13 : methOn g_House_rounds 2 [.cell 4, .p (.int (b : Nat))] [c3, Hc T s (es ++ [.rounds row n]), Hc T s (ep ++ [.rounds row a]), Lc (es ++ [.rounds row n]), Rc row, .lst ((iD row).reverse ++ [.int 0])] = .ok (.p (wd (behind T s (ep ++ [.rounds row a, .rounds row b])))) [c3, Hc T s (es ++ [.rounds row n]), Hc T s (ep ++ [.rounds row a, .rounds row b]), Lc (es ++ [.rounds row n]), Rc row, .lst ((iD row).reverse ++ [.int 0])] := by
    have z := m_rounds (M := [c3, Hc T s (es ++ [.rounds row n]), Hc T s (ep ++ [.rounds row a]), Lc (es ++ [.rounds row n]), Rc row, .lst ((iD row).reverse ++ [.int 0])]) (k := 2) (n := 4) rfl rfl (by decide) hpa hr hrl (show b ≤ 10 ^ 30 by omega) (by simp; omega)
    rw [List.append_assoc] at z
    exact z
  have hpos := h.t.pos
  have h8 := h.t8
  obtain ⟨k, c4, hk, p4, e14⟩ := c_draw (M := [c3, Hc T s (es ++ [.rounds row n]), Hc T s (ep ++ [.rounds row a, .rounds row b]), Lc (es ++ [.rounds row n]), Rc row, .lst ((iD row).reverse ++ [.int 0])]) (n := 0) (size := (T.length : Nat)) rfl p3 (by omega) (by omega) (by omega)
  simp [-List.map_append, -List.map_reverse] at e14
  have hkt : k < T.length := by omega
  have e15 : mApp (.cell 3) [.p (.tuple [.str "deed", nD k])] [c4, Hc T s (es ++ [.rounds row n]), Hc T s (ep ++ [.rounds row a, .rounds row b]), Lc (es ++ [.rounds row n]), Rc row, .lst ((iD row).reverse ++ [.int 0])] = .ok (.p .none) [c4, Hc T s (es ++ [.rounds row n]), Hc T s (ep ++ [.rounds row a, .rounds row b]), Lc (es ++ [.rounds row n, .deed k]), Rc row, .lst ((iD row).reverse ++ [.int 0])] := by
    have z := app_L (e := .deed k) (M := [c4, Hc T s (es ++ [.rounds row n]), Hc T s (ep ++ [.rounds row a, .rounds row b]), Lc (es ++ [.rounds row n]), Rc row, .lst ((iD row).reverse ++ [.int 0])]) (n := 3) rfl (by simp; omega)
    rw [List.append_assoc] at z
    exact z
  obtain ⟨q1, hq1, e16⟩ := m_deed (M := [c4, Hc T s (es ++ [.rounds row n]), Hc T s (ep ++ [.rounds row a, .rounds row b]), Lc (es ++ [.rounds row n, .deed k]), Rc row, .lst ((iD row).reverse ++ [.int 0])]) (i := 1) rfl h1 hkt (by simp; omega)
  obtain ⟨q2, hq2, e17⟩ := m_deed (M := [c4, Hc T s (es ++ [.rounds row n, .deed k]), Hc T s (ep ++ [.rounds row a, .rounds row b]), Lc (es ++ [.rounds row n, .deed k]), Rc row, .lst ((iD row).reverse ++ [.int 0])]) (i := 2) rfl hpb hkt (by simp; omega)
  have hbe : behind T s (es ++ [.rounds row n, .deed k]) = behind T s (ep ++ [.rounds row a, .rounds row b, .deed k]) := by
    rw [behind_app, behind_app, hb]
    show deed T (rnd T row n _) k = deed T (rnd T row b (rnd T row a _)) k
    rw [← hab, Nat.add_comm a b]
    unfold rnd
    rw [rep_add]
  rw [List.append_assoc] at hq1 hq2 e16 e17
  have hq : q1 = q2 := by
    have : some q1 = some q2 := by
      rw [← hq1, ← hq2]
      exact congrArg (fun l : List Nat => l[k]?) hbe
    exact Option.some.inj this
  subst hq
  have e18 : methOn g_House_word 1 [] [c4, Hc T s (es ++ [.rounds row n, .deed k]), Hc T s (ep ++ [.rounds row a, .rounds row b, .deed k]), Lc (es ++ [.rounds row n, .deed k]), Rc row, .lst ((iD row).reverse ++ [.int 0])] = .ok (.p (wd (behind T s (es ++ [.rounds row n, .deed k])))) [c4, Hc T s (es ++ [.rounds row n, .deed k]), Hc T s (ep ++ [.rounds row a, .rounds row b, .deed k]), Lc (es ++ [.rounds row n, .deed k]), Rc row, .lst ((iD row).reverse ++ [.int 0])] := m_word rfl
  have e19 : methOn g_House_word 2 [] [c4, Hc T s (es ++ [.rounds row n, .deed k]), Hc T s (ep ++ [.rounds row a, .rounds row b, .deed k]), Lc (es ++ [.rounds row n, .deed k]), Rc row, .lst ((iD row).reverse ++ [.int 0])] = .ok (.p (wd (behind T s (es ++ [.rounds row n, .deed k])))) [c4, Hc T s (es ++ [.rounds row n, .deed k]), Hc T s (ep ++ [.rounds row a, .rounds row b, .deed k]), Lc (es ++ [.rounds row n, .deed k]), Rc row, .lst ((iD row).reverse ++ [.int 0])] := by
    rw [hbe]
    exact m_word rfl
  simp [-List.map_append, -List.map_reverse] at e16 e17
  refine ⟨row, n, a, b, k, c4, some (.p (.int (b : Nat))), [Rc row, .lst ((iD row).reverse ++ [.int 0])], hab, hr, hrl, hn, hkt, p4.mono (by omega), ?_⟩
  simp -implicitDefEqProofs [-List.map_append, -List.map_reverse, innerG, e1, e2, e3, e4, e5, e6, e7, e9, e10, e11, e12, e13, e14, e15, e16, e17, e18, e19, has_cell, has_hc, for_cons, for_nil, forS_nx, tyD, kdC, pEq_tx, -pEq_str]
end Lw

set_option Elab.async false
set_option linter.all false
set_option maxRecDepth 100000
set_option maxHeartbeats 4000000
namespace Lw
open PySem Fn U
variable {T : Tr} {s : List Nat} {k : Nat} {M : Store}
noncomputable def outerG : GS := (gSeq (gSet 3 (gCallF 2 g_law_trunk [] (gCons (gVar 1) (gCons (gK (.int 8)) gNil))))
    (gSeq (gSet 4 (gCallF 2 g_law_spell [] (gCons (gVar 1) (gCons (gVar 3) gNil))))
    (gSeq (gSet 5 (gMake "House" 3 g_House_init (gCons (gVar 3) (gCons (gVar 4) gNil))))
    (gSeq (gSet 6 (gMake "House" 3 g_House_init (gCons (gVar 3) (gCons (gVar 4) gNil))))
    (gSeq (gSet 7 (gLstC gNil))
    (gSeq (gFor true (gRng1 (gCons (gBin pAdd (gK (.int 1)) (gCallF 2 g_law_draw [] (gCons (gVar 1) (gCons (gK (.int 5)) gNil)))) gNil)) (.nm 8)
    innerG)
    (gSeq (gIfS (gOrT (gNotT (gTru (gCallF 4 g_law_stands [] (gCons (gVar 5) (gCons (gVar 3) (gCons (gVar 4) (gCons (gVar 7) gNil))))))) (gTB (gBin (pEq true) (gOwn "House" "__len__" okI g_House_len (gVar 6)) (gBin pMul (gBin pFdiv (gCall cLen (gCons (gVar 7) gNil)) (gK (.int 2))) (gK (.int 3)))))) (gRet (gK (.bool false)))
    gNx)
    (gSeq (gSet 14 (gMake "House" 3 g_House_init (gCons (gVar 3) (gCons (gVar 4) gNil))))
    (gSeq (gSet 9 (gCallF 3 g_law_road [] (gCons (gVar 1) (gCons (gVar 3) (gCons (gK (.int 6)) gNil)))))
    (gSeq (gSet 12 (gCallF 2 g_law_draw [] (gCons (gVar 1) (gCons (gK (.int 7)) gNil))))
    (gSeq (gFor false (gRng1 (gCons (gVar 12) gNil)) (.nm 8)
    (gExp (gMeth "House" "go" 3 g_House_go [.none] (gVar 14) (gCons (gVar 9) gNil))))
    (gSeq (gSet 15 (gMake "House" 3 g_House_init (gCons (gVar 3) (gCons (gVar 4) gNil))))
    (gIfS (gOrT (gTB (gBin (pEq true) (gMethK "House" "rounds" 2 1 g_House_rounds (gVar 15) (gCons (gVar 9) gNil) (gCons (gVar 12) gNil)) (gMeth "House" "word" 1 g_House_word [] (gVar 14) gNil))) (gTB (gBin (pEq true) (gOwn "House" "__len__" okI g_House_len (gVar 14)) (gBin pMul (gVar 12) (gCall cLen (gCons (gVar 9) gNil)))))) (gRet (gK (.bool false)))
    gNx)))))))))))))
def repE (row : List Nat) : Nat → List Ent
  | 0 => []
  | j + 1 => repE row j ++ row.map .deed
theorem repE_len {row : List Nat} : ∀ j, (repE row j).length = j * row.length
  | 0 => by simp [repE]
  | j + 1 => by rw [repE, List.length_append, repE_len j, List.length_map, Nat.add_mul, Nat.one_mul]
theorem repE_behind {row : List Nat} : ∀ j, behind T s (repE row j) = rnd T row j s
  | 0 => rfl
  | j + 1 => by rw [repE, behind_deeds, repE_behind j, rnd_succ]
theorem repE_ok {row : List Nat} (h : HOk T s []) (hr : ∀ j ∈ row, j < T.length) : ∀ j, HOk T s (repE row j)
  | 0 => h
  | j + 1 => (repE_ok h hr j).deeds hr
theorem m_go {es : List Ent} {row : List Nat} {k n : Nat} (hk : M[k]? = some (Hc T s es)) (hn : M[n]? = some (Rc row)) (hne : n ≠ k) (h : HOk T s es) (hr : ∀ j ∈ row, j < T.length) (hl : es.length + row.length ≤ 40) :
    ∃ y : PyData, methOn g_House_go k [.cell n, .p .none] M = .ok (.p y) (M.set k (Hc T s (es ++ row.map .deed))) := by
  have z := meth1 (f := g_House_go) (xs := [.none]) (R := []) hk hn rfl hne (r_go h hr hl) rfl
  rw [set_eq (a := Rc row) (by rw [List.getElem?_set_ne (fun e => hne e.symm)]; exact hn)] at z
  exact ⟨_, z⟩
theorem m_len {es : List Ent} {i : Nat} (hk : M[i]? = some (Hc T s es)) : methOn g_House_len i [] M = .ok (.p (.int (es.length : Nat))) M := by
  have z := meth0 (f := g_House_len) (xs := []) (R := []) hk (by rw [List.append_nil]; exact r_len)
  rw [set_eq hk] at z
  exact z
theorem okI_n {n : Nat} (h : n ≤ 1000) : okI (.p (.int (n : Nat))) = true := by
  rw [okI, decide_eq_true_eq]
  omega
theorem for_nxT {n : Nat} {t : Tg} {body : GS} {ds : List D} {σ : Sl} {M : Store} {r : SR} (e : forL [] (some n) t body ds σ M = r) (I : Nat → Sl → Store → Prop) (h : I 0 σ M)
    (hb : ∀ i d σ M, ds[i]? = some d → I i σ M → ∃ σ1 σ2 M2, dT t d σ = some σ1 ∧ body σ1 M = .nx σ2 M2 ∧ I (i + 1) (tidO (some n) σ2 M2).1 (tidO (some n) σ2 M2).2) : ∃ σ2 M2, r = .nx σ2 M2 ∧ I ds.length σ2 M2 := by
  subst e
  have z := for_go (gd := []) (o := some n) (t := t) (body := body) (Q := fun _ _ => False) I ds 0 σ M h (fun _ _ _ _ _ _ => gd0) fun i d σ M hd hi => (by
    rw [Nat.zero_add] at hi ⊢
    obtain ⟨σ1, σ2, M2, e1, e2, h2⟩ := hb i d σ M hd hi
    exact ⟨σ1, e1, .inl ⟨σ2, M2, e2, h2⟩⟩)
  rw [Nat.zero_add] at z
  rcases z with z | ⟨_, _, _, z⟩
  · exact z
  · exact z.elim
def NxP (P : Sl → Store → Prop) (r : SR) : Prop := ∃ σ M, r = .nx σ M ∧ P σ M
def OutP (m : Nat) (σ : Sl) (M : Store) : Prop := ∃ c R y0 σr, PenOk m c ∧ M = c :: R ∧ σ = y0 :: some (.cell 0) :: σr ∧ σr.length = 14
theorem tidy4 {c : Cell} {m : Nat} {es ep : List Ent} {rs : List Ent} {R : Store} {σ : Sl} (p : PenOk m c) : ∃ σ', tidO (some 4) σ ([c, Hc T s es, Hc T s ep, Lc rs] ++ R) = (σ', [c, Hc T s es, Hc T s ep, Lc rs]) ∧ (σ' = σ ∨ σ' = tidyS 4 σ) := by
  obtain ⟨a, b, d, rfl, _⟩ := p
  unfold tidO tidy
  cases R with
  | nil => exact ⟨σ, if_pos (by simp), .inl rfl⟩
  | cons x y =>
    have h1 : ¬(([penC a b d, Hc T s es, Hc T s ep, Lc rs] ++ x :: y).length ≤ 4) := by simp
    have h2 : ([penC a b d, Hc T s es, Hc T s ep, Lc rs] ++ x :: y).take 4 = [penC a b d, Hc T s es, Hc T s ep, Lc rs] := rfl
    refine ⟨tidyS 4 σ, ?_, .inr rfl⟩
    show (if ([penC a b d, Hc T s es, Hc T s ep, Lc rs] ++ x :: y).length ≤ 4 then (σ, [penC a b d, Hc T s es, Hc T s ep, Lc rs] ++ x :: y) else if (([penC a b d, Hc T s es, Hc T s ep, Lc rs] ++ x :: y).take 4).all (lowC 4) = true then (tidyS 4 σ, ([penC a b d, Hc T s es, Hc T s ep, Lc rs] ++ x :: y).take 4) else (σ, _)) = _
    rw [if_neg h1, h2, if_pos (by rfl)]
theorem OutP.of {c : Cell} {m : Nat} {R : Store} {y0 y2 y3 y4 y5 y6 y7 y8 y9 y10 y11 y12 y13 y14 y15 : Option D} (p : PenOk m c) : NxP (OutP m) (.nx [y0, some (.cell 0), y2, y3, y4, y5, y6, y7, y8, y9, y10, y11, y12, y13, y14, y15] (c :: R)) := ⟨_, _, rfl, c, R, y0, _, p, rfl, rfl, rfl⟩
theorem outer_turn {c : Cell} {m : Nat} {x0 v a3 a4 a5 a6 a7 a8 a9 a10 a11 a12 a13 a14 a15 : Option D} (pc : PenOk m c) (hm : m ≤ 40000) :
    NxP (OutP (m + 5000)) (outerG [x0, some (.cell 0), v, a3, a4, a5, a6, a7, a8, a9, a10, a11, a12, a13, a14, a15] [c]) := by
  obtain ⟨_, c1, ⟨T, rfl, hT, hTl, p1⟩, e1⟩ := Res.call (f := g_law_trunk) (n := 0) (xs := [.int (8 : Nat)]) (M := [c]) rfl pc.own (r_trunk pc (by omega) (by omega) (by omega)) fun y c' ⟨_, _, _, _, p⟩ => p.own
  obtain ⟨_, c2, ⟨s, rfl, w, p2⟩, e2⟩ := Res.call (f := g_law_spell) (n := 0) (xs := [tD T]) (M := [c1]) rfl p1.own (r_spell p1 (by omega) hT hTl) fun y c' ⟨_, _, _, p⟩ => p.own
  simp at e1 e2
  have h0 : HOk T s [] := ⟨hT, hTl, w, by simp⟩
  have e3 : callN "House" g_House_init [.p (tD T), .p (wd s)] [c2] = .ok (.cell 1) [c2, Hc T s []] := c_init hT hTl w
  have e4 : callN "House" g_House_init [.p (tD T), .p (wd s)] [c2, Hc T s []] = .ok (.cell 2) [c2, Hc T s [], Hc T s []] := c_init hT hTl w
  obtain ⟨n5, c3, hn5, p3, e5⟩ := c_draw (M := [c2, Hc T s [], Hc T s [], .lst []]) (n := 0) (size := 5) rfl p2 (by omega) (by omega) (by omega)
  simp at e5
  simp -implicitDefEqProofs [outerG, e1, e2, e3, e4, e5, lstC]
  rw [pRng1_ok (by omega) (by omega)]
  simp only [toS_ok]
  rw [show ([c3, Hc T s [], Hc T s [], .lst []] : Store).length = 4 from rfl]
  generalize hq : forL _ _ _ _ _ _ _ = r
  obtain ⟨σ2, M2, rfl, es, ep, c4, y0, y2, y8, y9, y10, y11, y12, y13, y14, y15, hes, hep, hbe, le1, le2, p4, rfl, rfl⟩ := for_nxT hq (fun i σ M => ∃ (es ep : List Ent) (c : Cell) (y0 y2 y8 y9 y10 y11 y12 y13 y14 y15 : Option D), HOk T s es ∧ HOk T s ep ∧ behind T s es = behind T s ep ∧ es.length = 2 * i ∧ ep.length = 3 * i ∧ PenOk (m + 25 + 200 * i) c ∧
      σ = [y0, some (.cell 0), y2, some (.p (tD T)), some (.p (wd s)), some (.cell 1), some (.cell 2), some (.cell 3), y8, y9, y10, y11, y12, y13, y14, y15] ∧ M = [c, Hc T s es, Hc T s ep, Lc es])
    ⟨[], [], c3, _, _, _, _, _, _, _, _, _, _, h0, h0, rfl, rfl, rfl, p3, rfl, rfl⟩ (by
    rintro i d σ M hd ⟨es, ep, c, y0, y2, y8, y9, y10, y11, y12, y13, y14, y15, hes, hep, hbe, le1, le2, pc, rfl, rfl⟩
    obtain ⟨rfl, hi⟩ := rngD_get hd
    obtain ⟨row, n, a, b, k, c', y, R, hab, hr, hrl, hn, hk, p', e⟩ := inner_turn (x0 := y0) (x2 := y2) (x9 := y9) (x10 := y10) (x11 := y11) (x12 := y12) (x13 := y13) (x14 := y14) (x15 := y15) (v := .p (.int ((0 : Int) + (i : Nat)))) hes hep hbe (by omega) (by omega) pc (by omega)
    refine ⟨_, _, _, dT_nm _ _ _, e, ?_⟩
    obtain ⟨σ', et, hs⟩ := tidy4 (T := T) (s := s) (es := es ++ [.rounds row n, .deed k]) (ep := ep ++ [.rounds row a, .rounds row b, .deed k]) (rs := es ++ [.rounds row n, .deed k]) (R := R) (σ := [y0, some (.cell 0), y2, some (.p (tD T)), some (.p (wd s)), some (.cell 1), some (.cell 2), some (.cell 3), some (.p (.int ((0 : Int) + (i : Nat)))), some (.cell 4), some (.p (.int (n : Nat))), some (.cell 5), y, some (.p (nD k)), y14, y15]) p'
    rw [et]
    have er : ∀ n, n ≤ 10 ^ 30 → EntOk T (.rounds row n) := fun n h => ⟨⟨hr, by omega⟩, h⟩
    have k1 : HOk T s (es ++ [.rounds row n, .deed k]) := by
      have := (hes.snoc (er n hn)).snoc (e := .deed k) hk
      rw [List.append_assoc] at this; exact this
    have k2 : HOk T s (ep ++ [.rounds row a, .rounds row b, .deed k]) := by
      have := ((hep.snoc (er a (by omega))).snoc (er b (by omega))).snoc (e := .deed k) hk
      rw [List.append_assoc, List.append_assoc] at this; exact this
    have k3 : behind T s (es ++ [.rounds row n, .deed k]) = behind T s (ep ++ [.rounds row a, .rounds row b, .deed k]) := by
      rw [behind_app, behind_app, hbe]
      show deed T (rnd T row n _) k = deed T (rnd T row b (rnd T row a _)) k
      rw [← hab, Nat.add_comm a b]
      unfold rnd
      rw [rep_add]
    rcases hs with rfl | rfl
    · exact ⟨_, _, c', _, _, _, _, _, _, _, _, _, _, k1, k2, k3, by simp; omega, by simp; omega, p'.mono (by omega), rfl, rfl⟩
    · exact ⟨_, _, c', _, _, _, _, _, _, _, _, _, _, k1, k2, k3, by simp; omega, by simp; omega, p'.mono (by omega), rfl, rfl⟩)
  have hlen : (rngD 0 (1 + (n5 : Int)).toNat).length = 1 + n5 := by rw [rngD_len]; omega
  rw [hlen] at le1 le2 p4
  clear hq
  have l8 : es.length ≤ 40 := by omega
  have e6 : callB g_law_stands [.cell 1, .p (tD T), .p (wd s), .cell 3] [c4, Hc T s es, Hc T s ep, Lc es] = .ok (.p (.bool true)) [c4, Hc T s es, Hc T s ep, Lc es] := c_stands hes l8 (by decide) rfl rfl
  have e7 : methOn g_House_len 2 [] [c4, Hc T s es, Hc T s ep, Lc es] = .ok (.p (.int (ep.length : Nat))) [c4, Hc T s es, Hc T s ep, Lc es] := m_len rfl
  have e8 : cLen [.cell 3] [c4, Hc T s es, Hc T s ep, Lc es] = .ok (.p (.int (es.length : Nat))) [c4, Hc T s es, Hc T s ep, Lc es] := by
    rw [cLen_cell _ _ _ rfl, List.length_map]
  have e9 : ∀ M, pFdiv (.p (.int (es.length : Nat))) (.p (.int 2)) M = .ok (.p (.int ((1 + n5 : Nat) : Int))) M := fun M => by
    rw [pFdiv_int _ _ _ (by omega)]
    have : ((es.length : Nat) : Int) / 2 = ((1 + n5 : Nat) : Int) := by omega
    rw [this]
  have e10 : ∀ M, pMul (.p (.int ((1 + n5 : Nat) : Int))) (.p (.int 3)) M = .ok (.p (.int (ep.length : Nat))) M := fun M => by
    rw [pMul_int _ _ _ (by omega)]
    have : ((1 + n5 : Nat) : Int) * 3 = ((ep.length : Nat) : Int) := by omega
    rw [this]
  have o7 := okI_n (n := ep.length) (by omega)
  have e11 : callN "House" g_House_init [.p (tD T), .p (wd s)] [c4, Hc T s es, Hc T s ep, Lc es] = .ok (.cell 4) [c4, Hc T s es, Hc T s ep, Lc es, Hc T s []] := c_init hT hTl w
  obtain ⟨row, c5, hr, hrl, p5, r5⟩ := r_road (most := 6) p4 (by omega) hT hTl (by omega)
  have e12 := callB_cn (f := g_law_road) (n := 0) (xs := [tD T, .int (6 : Nat)]) (M := [c4, Hc T s es, Hc T s ep, Lc es, Hc T s []]) rfl p4.own (j := 0) r5 p5.own rfl rfl
  simp at e12
  obtain ⟨cnt, c6, hcnt, p6, e13⟩ := c_draw (M := [c5, Hc T s es, Hc T s ep, Lc es, Hc T s [], Rc row]) (n := 0) (size := 7) rfl p5 (by omega) (by omega) (by omega)
  simp at e13
  simp -implicitDefEqProofs [-List.map_append, -Int.natCast_add, e6, e7, e8, e9, e10, o7, e11, e12, e13, has_cell, has_hc]
  rw [pRng1_ok (by omega) (by omega)]
  simp only [toS_ok]
  generalize hq : forL _ _ _ _ _ _ _ = r
  obtain ⟨σ2, M2, rfl, y8, rfl, rfl⟩ := for_nx hq (fun i σ M => ∃ y8, σ = [y0, some (.cell 0), y2, some (.p (tD T)), some (.p (wd s)), some (.cell 1), some (.cell 2), some (.cell 3), y8, some (.cell 5), y10, y11, some (.p (.int (cnt : Nat))), y13, some (.cell 4), y15] ∧ M = [c6, Hc T s es, Hc T s ep, Lc es, Hc T s (repE row i), Rc row])
    ⟨_, rfl, rfl⟩ (by
    rintro i d σ M hd ⟨y8, rfl, rfl⟩
    obtain ⟨rfl, hi⟩ := rngD_get hd
    have hi6 : i < cnt := by omega
    have hl6 : (repE row i).length + row.length ≤ 40 := by
      rw [repE_len]
      have : i * row.length ≤ 5 * 6 := Nat.mul_le_mul (by omega) hrl
      omega
    obtain ⟨y, ey⟩ := m_go (M := [c6, Hc T s es, Hc T s ep, Lc es, Hc T s (repE row i), Rc row]) (k := 4) (n := 5) rfl rfl (by decide) (repE_ok h0 hr i) hr hl6
    refine ⟨_, [y0, some (.cell 0), y2, some (.p (tD T)), some (.p (wd s)), some (.cell 1), some (.cell 2), some (.cell 3), some (.p (.int ((0 : Int) + (i : Nat)))), some (.cell 5), y10, y11, some (.p (.int (cnt : Nat))), y13, some (.cell 4), y15], [c6, Hc T s es, Hc T s ep, Lc es, Hc T s (repE row (i + 1)), Rc row], dT_nm _ _ _, ?_, _, rfl, rfl⟩
    simp [-List.map_append] at ey
    simp -implicitDefEqProofs [-List.map_append, ey, has_cell, has_hc, repE])
  have hlen2 : (rngD 0 ((cnt : Nat) : Int).toNat).length = cnt := by rw [rngD_len]; omega
  rw [hlen2]
  have e14 : callN "House" g_House_init [.p (tD T), .p (wd s)] [c6, Hc T s es, Hc T s ep, Lc es, Hc T s (repE row cnt), Rc row] = .ok (.cell 6) [c6, Hc T s es, Hc T s ep, Lc es, Hc T s (repE row cnt), Rc row, Hc T s []] := c_init hT hTl w
  have e30 : (10 : Nat) ^ 30 = 1000000000000000000000000000000 := by decide
  have e15 : methOn g_House_rounds 6 [.cell 5, .p (.int (cnt : Nat))] [c6, Hc T s es, Hc T s ep, Lc es, Hc T s (repE row cnt), Rc row, Hc T s []] = .ok (.p (wd (rnd T row cnt s))) [c6, Hc T s es, Hc T s ep, Lc es, Hc T s (repE row cnt), Rc row, Hc T s [.rounds row cnt]] := m_rounds rfl rfl (by decide) h0 hr (by omega) (by omega) (by simp)
  have e16 : methOn g_House_word 4 [] [c6, Hc T s es, Hc T s ep, Lc es, Hc T s (repE row cnt), Rc row, Hc T s [.rounds row cnt]] = .ok (.p (wd (rnd T row cnt s))) [c6, Hc T s es, Hc T s ep, Lc es, Hc T s (repE row cnt), Rc row, Hc T s [.rounds row cnt]] := by
    rw [← repE_behind]
    exact m_word rfl
  have e17 : methOn g_House_len 4 [] [c6, Hc T s es, Hc T s ep, Lc es, Hc T s (repE row cnt), Rc row, Hc T s [.rounds row cnt]] = .ok (.p (.int ((cnt * row.length : Nat) : Int))) [c6, Hc T s es, Hc T s ep, Lc es, Hc T s (repE row cnt), Rc row, Hc T s [.rounds row cnt]] := by
    rw [← repE_len]
    exact m_len rfl
  have e18 : cLen [.cell 5] [c6, Hc T s es, Hc T s ep, Lc es, Hc T s (repE row cnt), Rc row, Hc T s [.rounds row cnt]] = .ok (.p (.int (row.length : Nat))) [c6, Hc T s es, Hc T s ep, Lc es, Hc T s (repE row cnt), Rc row, Hc T s [.rounds row cnt]] := by
    rw [cLen_cell _ _ _ rfl, iD_len]
  have e19 : ∀ M, pMul (.p (.int (cnt : Nat))) (.p (.int (row.length : Nat))) M = .ok (.p (.int ((cnt * row.length : Nat) : Int))) M := fun M => by
    rw [pMul_int _ _ _ (by omega), Int.natCast_mul]
  have o17 := okI_n (n := cnt * row.length) (by
    have : cnt * row.length ≤ 6 * 6 := Nat.mul_le_mul (by omega) hrl
    omega)
  simp -implicitDefEqProofs [-List.map_append, -Int.natCast_mul, e14, e15, e16, e17, e18, e19, o17, has_cell, has_hc, pEq_tx, -pEq_str]
  exact OutP.of (p6.mono (by omega))
end Lw

set_option Elab.async false
set_option linter.all false
set_option maxRecDepth 100000
set_option maxHeartbeats 4000000
namespace Lw
open PySem Fn U
variable {T : Tr} {s : List Nat} {k : Nat} {M : Store}
theorem tidy1 {c : Cell} {m : Nat} {R : Store} {σ : Sl} (p : PenOk m c) : ∃ σ', tidO (some 1) σ (c :: R) = (σ', [c]) ∧ (σ' = σ ∨ σ' = tidyS 1 σ) := by
  obtain ⟨a, b, d, rfl, _⟩ := p
  cases R with
  | nil => exact ⟨σ, by unfold tidO tidy; exact if_pos (by simp), .inl rfl⟩
  | cons x y =>
    have h1 : ¬((penC a b d :: x :: y).length ≤ 1) := by simp
    refine ⟨tidyS 1 σ, ?_, .inr rfl⟩
    show (if (penC a b d :: x :: y).length ≤ 1 then (σ, penC a b d :: x :: y) else if ((penC a b d :: x :: y).take 1).all (lowC 1) = true then (tidyS 1 σ, (penC a b d :: x :: y).take 1) else (σ, penC a b d :: x :: y)) = _
    rw [if_neg h1, if_pos (by rfl)]
    rfl
theorem len14 {α : Type} : ∀ {l : List α}, l.length = 14 → ∃ a b c d e f g h i j k m n o, l = [a, b, c, d, e, f, g, h, i, j, k, m, n, o]
  | [a, b, c, d, e, f, g, h, i, j, k, m, n, o], _ => ⟨a, b, c, d, e, f, g, h, i, j, k, m, n, o, rfl⟩
theorem law_all (ns : List Int) : ∃ M, g_law [.p (.list (ns.map .int))] [] = .ok (.p (.bool true)) M := by
  obtain ⟨c, p0, e0⟩ := c_pen (M := []) ns
  have e1 : ∀ M, pRng1 [.p (.int 2)] M = .ok (rngD 0 2, []) M := fun M => pRng1_ok (by decide) (by decide)
  simp at e0
  simp -implicitDefEqProofs [g_law, e0, e1]
  generalize hq : forL _ _ _ _ _ _ _ = r
  obtain ⟨σ2, M2, rfl, _⟩ := for_nxT hq (fun i σ M => ∃ (c : Cell) (y0 : Option D) (σr : Sl), PenOk (5000 * i) c ∧ M = [c] ∧ σ = y0 :: some (.cell 0) :: σr ∧ σr.length = 14) ⟨c, _, _, p0, rfl, rfl, rfl⟩ (by
    rintro i d σ M hd ⟨c, y0, σr, pc, rfl, rfl, hσ⟩
    obtain ⟨rfl, hi⟩ := rngD_get hd
    obtain ⟨a2, a3, a4, a5, a6, a7, a8, a9, a10, a11, a12, a13, a14, a15, rfl⟩ := len14 hσ
    obtain ⟨σ3, M3, e, c', R, y0', σr', p', rfl, rfl, hσ'⟩ := outer_turn (x0 := y0) (v := some (.p (.int ((0 : Int) + (i : Nat))))) (a3 := a3) (a4 := a4) (a5 := a5) (a6 := a6) (a7 := a7) (a8 := a8) (a9 := a9) (a10 := a10) (a11 := a11) (a12 := a12) (a13 := a13) (a14 := a14) (a15 := a15) pc (by omega)
    refine ⟨_, _, _, dT_nm _ _ _, e, ?_⟩
    obtain ⟨σ', et, hs⟩ := tidy1 (R := R) (σ := y0' :: some (.cell 0) :: σr') p'
    rw [et]
    rcases hs with rfl | rfl
    · exact ⟨c', _, _, p'.mono (by omega), rfl, rfl, hσ'⟩
    · exact ⟨c', _, _, p'.mono (by omega), rfl, rfl, by simp [hσ']⟩)
  simp
end Lw

set_option maxHeartbeats 0
open PySem
theorem PySem.Challenge.cw_strangerlots_k62_rounds_in_a_house_holds : PySem.Challenge.rw_strangerlots_k62_rounds_in_a_house.Holds := by
  exact Lw.holds_of fun ns _ => Lw.law_all ns

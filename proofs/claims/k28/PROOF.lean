import PyProof.Rows.All
import Wide.All
import OpenK.AllK
import Wide.FinOn
import KE.KStateDown
import Lean
import HandS.ForMost
import HandS.Flow
import HandS.Style
import HandS.IsInst
import HandS.Star
import HandS.Conv
import HandS.Wide
import HandS.WideBits
import HandS.TupAny
import HandS.Exc
import HandS.ExcOwn
import HandS.WordsExc
import HandS.NoneIn
import HandS.RevRange
import HandS.Defaults
import HandS.Head0
import HandS.Head1
import HandS.Head2
import HandS.HeadEnd
import HandS.HeadHook1
import HandS.HeadHook2
import HandS.Property
import HandS.Dict
import HandS.List
import HandS.Text
import PySem.Challenge.RW_wirespan_k28_records_and_cache
set_option Elab.async false
set_option linter.all false
set_option maxRecDepth 100000
set_option maxHeartbeats 4000000
namespace Wk
open PySem PySem.Spec PyProof.Rows L2
section
variable {X : Cx}

/-! ### weaker readings -/
theorem peI {e : Expr} {t t' : TE} (h : PE X e t) (w : ∀ σ H Q, t' σ H Q → t σ H Q) : PE X e t' :=
  ⟨fun pins s σ H Q I q => h.run pins s σ H Q I (w σ H Q q)⟩
theorem ptI {e : Expr} {t t' : TT} (h : PT X e t) (w : ∀ σ H Q, t' σ H Q → t σ H Q) : PT X e t' :=
  ⟨fun pins s σ H Q I q => h.run pins s σ H Q I (w σ H Q q)⟩
theorem psI {e : Stmt} {t t' : TS} (h : PS X e t) (w : ∀ D σ H, t' D σ H → t D σ H) : PS X e t' :=
  ⟨fun pins s σ H D I q => h.run pins s σ H D I (w D σ H q)⟩

/-! ### names -/
def cVar (i : Nat) : TE := fun σ H Q => match σ[i]? with
  | some (some v) => Q v H
  | _ => False
theorem cVar_to {i : Nat} {σ : L2.St} {H : Hp} {Q : VK} (q : cVar i σ H Q) : tVar i σ H Q := by
  unfold cVar at q
  split at q
  · exact ⟨_, by assumption, q⟩
  · exact q.elim
theorem pn (i : Nat) {x : Str} {pos : Pos} (hN : X.N[i]? = some x := by rfl) (hv : Vis X.env.scope x := by first | exact Or.inl rfl | exact Or.inr (Or.inl rfl) | exact Or.inr (Or.inr rfl)) (hd : (x == ("__debug__" : Str)) = false := by decide)
    (hcd : (x == ("__classdict__" : Str)) = false := by decide) : PE X (.Name x pos) (cVar i) := peI (pe_var hN hv hd hcd) fun _ _ _ q => cVar_to q

/-! ### operators on values -/
def b2 : Bool → Int
  | true => 1
  | false => 0
@[irreducible] def aAdd (K : PySem.W.Frag) (a b : Addr) (H : Hp) (Q : VK) : Prop := rCat (.ref a) (.ref b) H Q ∨ rCatA K (.ref a) (.ref b) H Q
def uAdd (K : PySem.W.Frag) : R2 := fun x y H Q => match x, y with
  | .int i, .int j => Q (.int (i + j)) H
  | .str a, .str b => a.length + b.length ≤ sizeLine ∧ Q (.str (a ++ b)) H
  | .ref a, .ref b => aAdd K a b H Q
  | _, _ => False
theorem oAdd : OpR X (binaryOp .Add) (uAdd X.K) := by
  intro pins s σ H x y v u Q I rx ry q
  cases x <;> cases y <;> first
    | exact (show False from q).elim
    | exact op_add pins s σ H _ _ v u Q I rx ry ⟨_, _, rfl, rfl, q⟩
    | exact op_add_str pins s σ H _ _ v u Q I rx ry ⟨_, _, rfl, rfl, q.1, q.2⟩
    | (have q2 : aAdd X.K _ _ H Q := q
       unfold aAdd at q2
       rcases q2 with q | q
       · exact op_cat pins s σ H _ _ v u Q I rx ry q
       · exact op_catA pins s σ H _ _ v u Q I rx ry q)
def uSub : R2 := fun x y H Q => match x, y with
  | .int i, .int j => Q (.int (i - j)) H
  | _, _ => False
theorem oSub : OpR X (binaryOp .Sub) uSub := by
  intro pins s σ H x y v u Q I rx ry q
  cases x <;> cases y <;> first
    | exact (show False from q).elim
    | exact op_sub pins s σ H _ _ v u Q I rx ry ⟨_, _, rfl, rfl, q⟩
@[irreducible] def aRep (a : Addr) (k : Int) (H : Hp) (Q : VK) : Prop := rRep (.ref a) (.int k) H Q
def uMul : R2 := fun x y H Q => match x, y with
  | .int i, .int j => (CMul i j ∨ CMulX i j) ∧ Q (.int (i * j)) H
  | .ref a, .int k => aRep a k H Q
  | _, _ => False
theorem oMul : OpR X (binaryOp .Mult) uMul := by
  intro pins s σ H x y v u Q I rx ry q
  cases x <;> cases y <;> first
    | exact (show False from q).elim
    | (obtain ⟨c, q⟩ := q
       rcases c with c | c
       · exact op_mul pins s σ H _ _ v u Q I rx ry ⟨_, _, rfl, rfl, c, q⟩
       · exact op_mulX pins s σ H _ _ v u Q I rx ry ⟨_, _, rfl, rfl, c, q⟩)
    | (have q2 : aRep _ _ H Q := q
       unfold aRep at q2
       exact op_rep pins s σ H _ _ v u Q I rx ry q2)
/-- i // j for 0 < j -/
def DivOk (i j : Int) : Prop := CDiv i j ∨ CDivW i j
def uDiv : R2 := fun x y H Q => match x, y with
  | .int i, .int j => DivOk i j ∧ Q (.int (i / j)) H
  | _, _ => False
theorem oDiv : OpR X (binaryOp .FloorDiv) uDiv := by
  intro pins s σ H x y v u Q I rx ry q
  cases x <;> cases y <;> first
    | exact (show False from q).elim
    | (obtain ⟨c, q⟩ := q
       rcases c with c | c
       · exact op_fdiv pins s σ H _ _ v u Q I rx ry ⟨_, _, rfl, rfl, c, q⟩
       · exact op_fdivW pins s σ H _ _ v u Q I rx ry ⟨_, _, rfl, rfl, c, q⟩)
def uMod : R2 := fun x y H Q => match x, y with
  | .int i, .int j => 0 < j ∧ Q (.int (i % j)) H
  | _, _ => False
theorem oMod : OpR X (binaryOp .Mod) uMod := by
  intro pins s σ H x y v u Q I rx ry q
  cases x <;> cases y <;> first
    | exact (show False from q).elim
    | exact op_mod pins s σ H _ _ v u Q I rx ry ⟨_, _, rfl, rfl, q.1, q.2⟩
def uPow : R2 := fun x y H Q => match x, y with
  | .int i, .int j => CPow i j ∧ Q (.int (i ^ j.toNat)) H
  | _, _ => False
theorem oPow : OpR X (binaryOp .Pow) uPow := by
  intro pins s σ H x y v u Q I rx ry q
  cases x <;> cases y <;> first
    | exact (show False from q).elim
    | exact op_pow pins s σ H _ _ v u Q I rx ry ⟨_, _, rfl, rfl, q.1, q.2⟩
def uShl : R2 := fun x y H Q => match x, y with
  | .int i, .int j => (CPow i j ∨ CShl i j) ∧ Q (.int (i * 2 ^ j.toNat)) H
  | _, _ => False
theorem oShl : OpR X (binaryOp .LShift) uShl := by
  intro pins s σ H x y v u Q I rx ry q
  cases x <;> cases y <;> first
    | exact (show False from q).elim
    | (obtain ⟨c, q⟩ := q
       rcases c with c | c
       · exact op_shl pins s σ H _ _ v u Q I rx ry ⟨_, _, rfl, rfl, c, q⟩
       · exact op_shlW pins s σ H _ _ v u Q I rx ry ⟨_, _, rfl, rfl, c, q⟩)
def uShr : R2 := fun x y H Q => match x, y with
  | .int i, .int j => 0 ≤ j ∧ Q (.int (i / 2 ^ j.toNat)) H
  | _, _ => False
theorem oShr : OpR X (binaryOp .RShift) uShr := by
  intro pins s σ H x y v u Q I rx ry q
  cases x <;> cases y <;> first
    | exact (show False from q).elim
    | exact op_shr pins s σ H _ _ v u Q I rx ry ⟨_, _, rfl, rfl, q.1, q.2⟩
def uI2 (f : Int → Int → Int) : R2 := fun x y H Q => match x, y with
  | .int i, .int j => Q (.int (f i j)) H
  | _, _ => False
theorem oAnd : OpR X (binaryOp .BitAnd) (uI2 Builtin.bitAnd) := by
  intro pins s σ H x y v u Q I rx ry q
  cases x <;> cases y <;> first
    | exact (show False from q).elim
    | exact op_and pins s σ H _ _ v u Q I rx ry ⟨_, _, rfl, rfl, q⟩
theorem oOr : OpR X (binaryOp .BitOr) (uI2 Builtin.bitOr) := by
  intro pins s σ H x y v u Q I rx ry q
  cases x <;> cases y <;> first
    | exact (show False from q).elim
    | exact op_or pins s σ H _ _ v u Q I rx ry ⟨_, _, rfl, rfl, q⟩
theorem oXor : OpR X (binaryOp .BitXor) (uI2 Builtin.bitXor) := by
  intro pins s σ H x y v u Q I rx ry q
  cases x <;> cases y <;> first
    | exact (show False from q).elim
    | exact op_xor pins s σ H _ _ v u Q I rx ry ⟨_, _, rfl, rfl, q⟩
def uNeg : V → Hp → VK → Prop := fun x H Q => match x with
  | .int i => Q (.int (-i)) H
  | _ => False
theorem nNeg : UnR X (unaryOp .USub) uNeg := by
  intro pins s σ H x v Q I rx q
  cases x <;> first
    | exact (show False from q).elim
    | exact un_neg pins s σ H _ v Q I rx ⟨_, rfl, q⟩

/-! ### comparisons -/
@[irreducible] def aLt (K : PySem.W.Frag) (a b : Addr) (H : Hp) (Q : VK) : Prop := rLtT K (.ref a) (.ref b) H Q
def uLt (K : PySem.W.Frag) : R2 := fun x y H Q => match x, y with
  | .int i, .int j => Q (.bl (decide (i < j))) H
  | .ref a, .ref b => aLt K a b H Q
  | _, _ => False
theorem oLt (hu : X.A.units < cLine) : OpR X (compareOp .Lt) (uLt X.K) := by
  intro pins s σ H x y v u Q I rx ry q
  cases x <;> cases y <;> first
    | exact (show False from q).elim
    | exact op_lt pins s σ H _ _ v u Q I rx ry ⟨_, _, rfl, rfl, q⟩
    | (have q2 : aLt X.K _ _ H Q := q
       unfold aLt at q2
       exact op_ltT hu pins s σ H _ _ v u Q I rx ry q2)
def uLe : R2 := fun x y H Q => match x, y with
  | .int i, .int j => Q (.bl (decide (i ≤ j))) H
  | _, _ => False
theorem oLe : OpR X (compareOp .LtE) uLe := by
  intro pins s σ H x y v u Q I rx ry q
  cases x <;> cases y <;> first
    | exact (show False from q).elim
    | exact op_le pins s σ H _ _ v u Q I rx ry ⟨_, _, rfl, rfl, q⟩
def uGt : R2 := fun x y H Q => match x, y with
  | .int i, .int j => Q (.bl (decide (j < i))) H
  | _, _ => False
theorem oGt : OpR X (compareOp .Gt) uGt := by
  intro pins s σ H x y v u Q I rx ry q
  cases x <;> cases y <;> first
    | exact (show False from q).elim
    | exact op_gt pins s σ H _ _ v u Q I rx ry ⟨_, _, rfl, rfl, q⟩
def uGe : R2 := fun x y H Q => match x, y with
  | .int i, .int j => Q (.bl (decide (j ≤ i))) H
  | _, _ => False
theorem oGe : OpR X (compareOp .GtE) uGe := by
  intro pins s σ H x y v u Q I rx ry q
  cases x <;> cases y <;> first
    | exact (show False from q).elim
    | exact op_ge pins s σ H _ _ v u Q I rx ry ⟨_, _, rfl, rfl, q⟩
theorem dI {i j : Int} : decide (V.int i = V.int j) = decide (i = j) := by
  by_cases h : i = j <;> simp [h]
theorem dS {i j : Str} : decide (V.str i = V.str j) = decide (i = j) := by
  by_cases h : i = j <;> simp [h]
theorem dB {i j : Bool} : decide (V.bl i = V.bl j) = decide (i = j) := by
  by_cases h : i = j <;> simp [h]
@[irreducible] def aEq (K : PySem.W.Frag) (x y : V) (H : Hp) (Q : VK) : Prop := rEqD K x y H Q
@[irreducible] def aNe (K : PySem.W.Frag) (x y : V) (H : Hp) (Q : VK) : Prop := rNeD K x y H Q
/-- == of scalars by their values, of anything else as data -/
def uEq (K : PySem.W.Frag) : R2 := fun x y H Q => match x, y with
  | .int i, .int j => Q (.bl (decide (i = j))) H
  | .str i, .str j => Q (.bl (decide (i = j))) H
  | .bl i, .bl j => Q (.bl (decide (i = j))) H
  | .non, .non => Q (.bl true) H
  | .non, .int _ => Q (.bl false) H
  | .int _, .non => Q (.bl false) H
  | .str _, .int _ => Q (.bl false) H
  | .int _, .str _ => Q (.bl false) H
  | .str _, .non => Q (.bl false) H
  | .non, .str _ => Q (.bl false) H
  | x, y => aEq K x y H Q
theorem oEq (hu : X.A.units + 64 < cLine) : OpR X (compareOp .Eq) (uEq X.K) := by
  intro pins s σ H x y v u Q I rx ry q
  cases x <;> cases y <;> first
    | exact op_eq pins s σ H _ _ v u Q I rx ry ⟨rfl, by first | (rw [dI]; exact q) | (rw [dS]; exact q) | (rw [dB]; exact q) | (rw [decide_eq_true rfl]; exact q) | (rw [decide_eq_false (fun z => nomatch z)]; exact q)⟩
    | (have q2 : aEq X.K _ _ H Q := q
       unfold aEq at q2
       exact op_eqD hu pins s σ H _ _ v u Q I rx ry q2)
def uNe (K : PySem.W.Frag) : R2 := fun x y H Q => match x, y with
  | .int i, .int j => Q (.bl (!decide (i = j))) H
  | .str i, .str j => Q (.bl (!decide (i = j))) H
  | .bl i, .bl j => Q (.bl (!decide (i = j))) H
  | .non, .non => Q (.bl false) H
  | .non, .int _ => Q (.bl true) H
  | .int _, .non => Q (.bl true) H
  | .str _, .int _ => Q (.bl true) H
  | .int _, .str _ => Q (.bl true) H
  | .str _, .non => Q (.bl true) H
  | .non, .str _ => Q (.bl true) H
  | x, y => aNe K x y H Q
theorem oNe (hu : X.A.units + 64 < cLine) : OpR X (compareOp .NotEq) (uNe X.K) := by
  intro pins s σ H x y v u Q I rx ry q
  cases x <;> cases y <;> first
    | exact op_ne pins s σ H _ _ v u Q I rx ry ⟨rfl, by first | (rw [dI]; exact q) | (rw [dS]; exact q) | (rw [dB]; exact q) | (rw [decide_eq_true rfl]; exact q) | (rw [decide_eq_false (fun z => nomatch z)]; exact q)⟩
    | (have q2 : aNe X.K _ _ H Q := q
       unfold aNe at q2
       exact op_neD hu pins s σ H _ _ v u Q I rx ry q2)
def isN : V → Bool
  | .non => true
  | _ => false
/-- x is None, and of bools, and of objects -/
def uIs : R2 := fun x y H Q => match y with
  | .non => Q (.bl (isN x)) H
  | .bl b => (match x with
    | .bl a => Q (.bl (decide (a = b))) H
    | _ => False)
  | _ => False
theorem isN_eq {x : V} : decide (x = .non) = isN x := by
  cases x <;> first | rfl | exact decide_eq_false (fun z => nomatch z) | exact decide_eq_true rfl
theorem oIs : OpR X (compareOp .Is) uIs := by
  intro pins s σ H x y v u Q I rx ry q
  cases y <;> first
    | exact (show False from q).elim
    | exact op_isN pins s σ H _ _ v u Q I rx ry ⟨rfl, by rw [isN_eq]; exact q⟩
    | (cases x <;> first
        | exact (show False from q).elim
        | exact op_isBl pins s σ H _ _ v u Q I rx ry ⟨_, _, rfl, rfl, q⟩)
def uIsnt : R2 := fun x y H Q => match y with
  | .non => Q (.bl (!isN x)) H
  | .bl b => (match x with
    | .bl a => Q (.bl (!decide (a = b))) H
    | _ => False)
  | _ => False
theorem oIsnt : OpR X (compareOp .IsNot) uIsnt := by
  intro pins s σ H x y v u Q I rx ry q
  cases y <;> first
    | exact (show False from q).elim
    | exact op_notN pins s σ H _ _ v u Q I rx ry ⟨rfl, by rw [isN_eq]; exact q⟩
    | (cases x <;> first
        | exact (show False from q).elim
        | exact op_notBl pins s σ H _ _ v u Q I rx ry ⟨_, _, rfl, rfl, q⟩)
/-- x in y: a flat list or tuple; a dict; a sign in a text -/
@[irreducible] def uIn (K : PySem.W.Frag) : R2 := fun x y H Q => rIn K false x y H Q ∨ (∃ a o, y = .ref a ∧ DGet H a x o ∧ Q (.bl o.isSome) H) ∨ (∃ (c : Nat) (z : Str), x = .str ⟨#[c]⟩ ∧ y = .str z ∧ Q (.bl (decide (c ∈ z.cps.toList))) H)
theorem oIn (hu : X.A.units + 64 < cLine) : OpR X (compareOp .In) (uIn X.K) := by
  intro pins s σ H x y v u Q I rx ry q
  unfold uIn at q
  rcases q with q | ⟨a, o, e, g, q⟩ | q
  · exact op_in_seq pins s σ H _ _ v u Q I rx ry q
  · subst e
    obtain rfl : u = Value.ref a := ry
    exact d_in (by omega) I g rx fun s' I' => ⟨.bl o.isSome, H, I', rfl, q⟩
  · exact op_in_sign pins s σ H _ _ v u Q I rx ry q
@[irreducible] def uNotIn (K : PySem.W.Frag) : R2 := fun x y H Q => rIn K true x y H Q ∨ (∃ a o, y = .ref a ∧ DGet H a x o ∧ Q (.bl (!o.isSome)) H) ∨ (∃ (c : Nat) (z : Str), x = .str ⟨#[c]⟩ ∧ y = .str z ∧ Q (.bl (!decide (c ∈ z.cps.toList))) H)
theorem oNotIn (hu : X.A.units + 64 < cLine) : OpR X (compareOp .NotIn) (uNotIn X.K) := by
  intro pins s σ H x y v u Q I rx ry q
  unfold uNotIn at q
  rcases q with q | ⟨a, o, e, g, q⟩ | q
  · exact op_notIn_seq pins s σ H _ _ v u Q I rx ry q
  · subst e
    obtain rfl : u = Value.ref a := ry
    exact d_notIn (by omega) I g rx fun s' I' => ⟨.bl (!o.isSome), H, I', rfl, q⟩
  · exact op_notIn_sign pins s σ H _ _ v u Q I rx ry q
end
end Wk

namespace Wk
open PySem PySem.Spec PyProof.Rows L2
section
variable {X : Cx} {a b c e : Expr} {ta tb tc te : TE} {t u : TT} {rest : List Expr} {pos : Pos}

/-! ### tests -/
def cTest (t : TE) : TT := fun σ H Q => t σ H fun x H' => match x with
  | .bl k => Q k H'
  | _ => False
theorem tMono {t : TE} (m : Prop) : True := trivial
theorem test_at {x : V} {H : Hp} {Q : Bool → Hp → Prop} (q : match x with | .bl k => Q k H | _ => False) : ∃ k, x = .bl k ∧ Q k H := by
  cases x <;> first | exact ⟨_, rfl, q⟩ | exact (show False from q).elim
/-- a comparison as a test -/
theorem ct {op : CmpOp} {r : R2} (ho : OpR X (compareOp op) r) (ha : PE X a ta) (hb : PE X b tb) (hm : behindInMarks op b = false := by first | exact nomark _ | rfl) : PT X (.Compare a [op] [b] pos) (cTest (tOp r ta tb)) := by
  refine ⟨fun pins s σ H Q I h => ?_⟩
  refine wpAny_isTrue_Compare1 (thn (ha.run pins s σ H _ I h) fun v s1 ⟨x, H1, I1, r1, q1⟩ => thn (hb.run pins s1 σ H1 _ I1 q1) fun u s2 ⟨y, H2, I2, r2, q2⟩ =>
    thn (ho pins s2 σ H2 x y v u _ I2 r1 r2 q2) fun c s3 ⟨z, H3, I3, r3, q3⟩ => ?_) hm
  obtain ⟨k, e, q3⟩ := test_at q3
  subst e
  cases r3
  exact wpAny_truthy_bool ⟨H3, I3, q3⟩
theorem ce {op : CmpOp} {r : R2} (ho : OpR X (compareOp op) r) (ha : PE X a ta) (hb : PE X b tb) (hm : behindInMarks op b = false := by first | exact nomark _ | rfl) : PE X (.Compare a [op] [b] pos) (tOp r ta tb) := pe_cmpR ho ha hb hm
def cChain (r r' : R2) (ta tb tc : TE) : TE := fun σ H Q => ta σ H fun x H1 => tb σ H1 fun y H2 => r x y H2 fun z H3 => match z with
  | .bl k => if k = true then tc σ H3 fun w' H4 => r' y w' H4 Q else Q (.bl false) H3
  | _ => False
def uMonoR (r : R2) : Prop := ∀ x y H (Q Q' : VK), (∀ v H', Q v H' → Q' v H') → r x y H Q → r x y H Q'
theorem chain_at {z : V} {A : Prop} {B : Prop} (q : match z with | .bl k => if k = true then A else B | _ => False) : ∃ k, z = .bl k ∧ (if k = true then A else B) := by
  cases z <;> first | exact ⟨_, rfl, q⟩ | exact (show False from q).elim
theorem cec {op op' : CmpOp} {r r' : R2} (ho : OpR X (compareOp op) r) (ho' : OpR X (compareOp op') r') (ha : PE X a ta) (hb : PE X b tb) (hc : PE X c tc)
    (hm : lastMarks [op, op'] [b, c] = false := by with_unfolding_all rfl) : PE X (.Compare a [op, op'] [b, c] pos) (cChain r r' ta tb tc) := by
  refine ⟨fun pins s σ H Q I h => ?_⟩
  refine Compare_chain (thn (ha.run pins s σ H _ I h) fun v s1 ⟨x, H1, I1, r1, q1⟩ => chain_link (thn (hb.run pins s1 σ H1 _ I1 q1) fun u s2 ⟨y, H2, I2, r2, q2⟩ =>
    thn (ho pins s2 σ H2 x y v u _ I2 r1 r2 q2) fun d s3 ⟨z, H3, I3, r3, q3⟩ => ?_)) hm
  obtain ⟨k, e, q3⟩ := chain_at q3
  subst e
  cases r3
  refine wpAny_truthy_bool ?_
  cases k with
  | false => exact ite_ff ⟨.bl false, H3, I3, rfl, q3⟩
  | true => exact ite_tt (chain_last (thn (hc.run pins s3 σ H3 _ I3 q3) fun w' s4 ⟨z', H4, I4, r4, q4⟩ => ho' pins s4 σ H4 y z' u w' Q I4 r2 r4 q4))
theorem ctc {op op' : CmpOp} {r r' : R2} (ho : OpR X (compareOp op) r) (ho' : OpR X (compareOp op') r') (ha : PE X a ta) (hb : PE X b tb) (hc : PE X c tc)
    (hm : lastMarks [op, op'] [b, c] = false := by with_unfolding_all rfl) : PT X (.Compare a [op, op'] [b, c] pos) (cTest (cChain r r' ta tb tc)) := by
  refine ⟨fun pins s σ H Q I h => ?_⟩
  refine isTrue_chain (thn (ha.run pins s σ H _ I h) fun v s1 ⟨x, H1, I1, r1, q1⟩ => test_link (thn (hb.run pins s1 σ H1 _ I1 q1) fun u s2 ⟨y, H2, I2, r2, q2⟩ =>
    thn (ho pins s2 σ H2 x y v u _ I2 r1 r2 q2) fun d s3 ⟨z, H3, I3, r3, q3⟩ => ?_)) hm
  obtain ⟨k, e, q3⟩ := chain_at q3
  subst e
  cases r3
  refine wpAny_truthy_bool ?_
  cases k with
  | false =>
    have q' : Q false H3 := q3
    exact ite_ff ⟨H3, I3, q'⟩
  | true =>
    refine ite_tt (test_last (thn (hc.run pins s3 σ H3 _ I3 q3) fun w' s4 ⟨z', H4, I4, r4, q4⟩ => thn (ho' pins s4 σ H4 y z' u w' _ I4 r2 r4 q4) fun d' s5 ⟨z2, H5, I5, r5, q5⟩ => ?_))
    obtain ⟨k2, e2, q5⟩ := test_at q5
    subst e2
    cases r5
    exact wpAny_truthy_bool ⟨H5, I5, q5⟩
@[irreducible] def aTru (K : PySem.W.Frag) (x : V) (H : Hp) (Q : Bool → Prop) : Prop := ∃ k, TruV K x H k ∧ Q k
/-- a value's truth -/
def kTru (K : PySem.W.Frag) (x : V) (H : Hp) (Q : Bool → Prop) : Prop := match x with
  | .bl b => Q b
  | .non => Q false
  | .int i => Q (i != 0)
  | x => aTru K x H Q
theorem kTru_to {K : PySem.W.Frag} {x : V} {H : Hp} {Q : Bool → Prop} (q : kTru K x H Q) : ∃ k, TruV K x H k ∧ Q k := by
  cases x <;> first
    | exact ⟨_, rfl, q⟩
    | (have q2 : aTru K _ H Q := q
       unfold aTru at q2
       exact q2)
/-- any expression as a test, by its truth -/
def cTru (K : PySem.W.Frag) (te : TE) : TT := fun σ H Q => te σ H fun x H1 => kTru K x H1 fun k => Q k H1
theorem tt_ (ha : PE X a ta) (he : ∀ whole, isTrue a X.env whole = (do let v ← whole; standAt a.pos; holding [v] (truthy v)) := by intro _; rfl) : PT X a (cTru X.K ta) := by
  refine ⟨fun pins s σ H Q I h => ?_⟩
  exact isTrue_plain (thn (ha.run pins s σ H _ I h) fun v s1 ⟨x, H1, I1, r1, q1⟩ => tru_ok pins s1 σ H1 x v Q I1 r1 (kTru_to q1)) (he _)

/-! ### and, or, not as values -/
def cAnd (K : PySem.W.Frag) (ta tb : TE) : TE := fun σ H Q => ta σ H fun x H1 => match x with
  | .bl c => if c = true then tb σ H1 Q else Q (.bl false) H1
  | x => ∃ k, TruV K x H1 k ∧ if k = true then tb σ H1 Q else Q x H1
theorem eAnd (ha : PE X a ta) (hb : PE X (.BoolOp .And (b :: rest) pos) tb) : PE X (.BoolOp .And (a :: b :: rest) pos) (cAnd X.K ta tb) := by
  refine ⟨fun pins s σ H Q I h => ?_⟩
  refine BoolOp_and (thn (ha.run pins s σ H _ I h) fun v s1 ⟨x, H1, I1, r1, q1⟩ => ?_)
  have q2 : ∃ k, TruV X.K x H1 k ∧ if k = true then tb σ H1 Q else Q x H1 := by
    cases x <;> first
      | exact q1
      | (rename_i c; refine ⟨c, rfl, ?_⟩; cases c <;> exact q1)
  obtain ⟨k, e, q1⟩ := q2
  refine thn (tru_ok pins s1 σ H1 x v (fun c H2 => c = k ∧ H2 = H1) I1 r1 ⟨k, e, rfl, rfl⟩) fun c s2 hc => ?_
  obtain ⟨H2, I2, e1, e2⟩ := hc
  rw [e2] at I2
  rw [← e1] at q1
  cases c with
  | true => exact hb.run pins s2 σ H1 Q I2 q1
  | false => exact ⟨x, H1, I2, r1, q1⟩
def cOr (K : PySem.W.Frag) (ta tb : TE) : TE := fun σ H Q => ta σ H fun x H1 => match x with
  | .bl c => if c = true then Q (.bl true) H1 else tb σ H1 Q
  | x => ∃ k, TruV K x H1 k ∧ if k = true then Q x H1 else tb σ H1 Q
theorem eOr (ha : PE X a ta) (hb : PE X (.BoolOp .Or (b :: rest) pos) tb) : PE X (.BoolOp .Or (a :: b :: rest) pos) (cOr X.K ta tb) := by
  refine ⟨fun pins s σ H Q I h => ?_⟩
  refine BoolOp_or (thn (ha.run pins s σ H _ I h) fun v s1 ⟨x, H1, I1, r1, q1⟩ => ?_)
  have q2 : ∃ k, TruV X.K x H1 k ∧ if k = true then Q x H1 else tb σ H1 Q := by
    cases x <;> first
      | exact q1
      | (rename_i c; refine ⟨c, rfl, ?_⟩; cases c <;> exact q1)
  obtain ⟨k, e, q1⟩ := q2
  refine thn (tru_ok pins s1 σ H1 x v (fun c H2 => c = k ∧ H2 = H1) I1 r1 ⟨k, e, rfl, rfl⟩) fun c s2 hc => ?_
  obtain ⟨H2, I2, e1, e2⟩ := hc
  rw [e2] at I2
  rw [← e1] at q1
  cases c with
  | true => exact ⟨x, H1, I2, r1, q1⟩
  | false => exact hb.run pins s2 σ H1 Q I2 q1
def cNot (K : PySem.W.Frag) (ta : TE) : TE := fun σ H Q => ta σ H fun x H1 => kTru K x H1 fun k => Q (.bl (!k)) H1
theorem eNot (ha : PE X a ta) : PE X (.UnaryOp .Not a pos) (cNot X.K ta) := by
  refine ⟨fun pins s σ H Q I h => ?_⟩
  refine UnaryOp_ (thn (ha.run pins s σ H _ I h) fun v s1 ⟨x, H1, I1, r1, q1⟩ => ?_)
  obtain ⟨k, e, q1⟩ := kTru_to q1
  exact not_of (thn (tru_ok pins s1 σ H1 x v (fun c H2 => Q (.bl (!c)) H2) I1 r1 ⟨k, e, q1⟩) fun c s2 ⟨H2, I2, q2⟩ => ⟨.bl (!c), H2, I2, rfl, q2⟩)

/-! ### subscripts -/
theorem ix_dict (hu : X.A.units + 1 < cLine) : IxR X (fun x y H Q => ∃ a v, x = .ref a ∧ DGet H a y (some v) ∧ Q v H) := by
  intro value slice pins s σ H x y v u Q I rx ry h hs
  obtain ⟨a, z, rfl, g, q⟩ := h
  obtain rfl : v = Value.ref a := rx
  exact tail_any (dict_typeIs I g) PySem.F.slot_dict_getitem.lookup (d_getItem hu I g ry fun w' s3 I3 rw' => ⟨z, H, I3, rw', q⟩) hs
/-- a[i]: a list's, a tuple's, a text's item; a dict's value -/
@[irreducible] def uIx (K : PySem.W.Frag) : R2 := fun x y H Q => match x, y with
  | .ref p, .int i => (∃ xs v, SqL K H p xs ∧ atI xs i = some v ∧ Q v H) ∨ (∃ xs v, SqT K H p xs ∧ atI xs i = some v ∧ Q v H) ∨ (∃ v, DGet H p (.int i) (some v) ∧ Q v H)
  | .ref p, y => ∃ v, DGet H p y (some v) ∧ Q v H
  | .str z, .int i => ∃ c, z.length ≤ sizeLine ∧ atI z.cps.toList i = some c ∧ Q (.str ⟨#[c]⟩) H
  | _, _ => False
theorem ixU (hu : X.A.units + 64 < cLine) : IxR X (uIx X.K) := by
  intro value slice pins s σ H x y v u Q I rx ry h hs
  unfold uIx at h
  have hu1 : X.A.units + 1 < cLine := by omega
  cases x <;> cases y <;> first
    | exact (show False from h).elim
    | (obtain ⟨c, h1, h2, q⟩ := h
       exact ix_str value slice pins s σ H _ _ v u Q I rx ry ⟨_, _, c, rfl, rfl, h1, h2, q⟩ hs)
    | (obtain ⟨z, g, q⟩ := h
       exact ix_dict hu1 value slice pins s σ H _ _ v u Q I rx ry ⟨_, z, rfl, g, q⟩ hs)
    | (rcases h with ⟨xs, z, h1, h2, q⟩ | ⟨xs, z, h1, h2, q⟩ | ⟨z, g, q⟩
       · exact ix_list value slice pins s σ H _ _ v u Q I rx ry ⟨_, xs, _, z, rfl, rfl, h1, h2, q⟩ hs
       · exact ix_tup value slice pins s σ H _ _ v u Q I rx ry ⟨_, xs, _, z, rfl, rfl, h1, h2, q⟩ hs
       · exact ix_dict hu1 value slice pins s σ H _ _ v u Q I rx ry ⟨_, z, rfl, g, q⟩ hs)
theorem eIx (hu : X.A.units + 64 < cLine) (ha : PE X a ta) (hb : PE X b tb) (hs : PlainIx b := by intro _ _; rfl) : PE X (.Subscript a b pos) (tOp (uIx X.K) ta tb) := pe_ix (ixU hu) ha hb hs
/-- x[lo:hi] -/
@[irreducible] def uSl (K : PySem.W.Frag) : V → Option Int → Option Int → Hp → VK → Prop := fun x lo hi H Q => match x with
  | .ref _ => rSlL K x lo hi H Q ∨ rSlA K x lo hi H Q
  | .str _ => rSlS x lo hi H Q
  | _ => False
theorem slU : SlR X (uSl X.K) := by
  intro pins s σ H x v vl vu lo hi sl Q I rx hs pl pu h
  unfold uSl at h
  cases x <;> first
    | exact (show False from h).elim
    | exact sl_str pins s σ H _ v vl vu lo hi sl Q I rx hs pl pu h
    | (rcases h with h | h
       · exact sl_list pins s σ H _ v vl vu lo hi sl Q I rx hs pl pu h
       · exact sl_tupA pins s σ H _ v vl vu lo hi sl Q I rx hs pl pu h)
/-- the bounds of a slice -/
def cPart (t : TE) : TO := fun σ H Q => t σ H fun x H1 => match x with
  | .int i => Q (some i) H1
  | _ => False
theorem part_at {x : V} {H : Hp} {Q : Option Int → Hp → Prop} (q : match x with | .int i => Q (some i) H | _ => False) : ∃ i, x = .int i ∧ Q (some i) H := by
  cases x <;> first | exact ⟨_, rfl, q⟩ | exact (show False from q).elim
theorem eSome (h : PE X e te) : PO X (some e) (cPart te) := by
  refine ⟨fun pins s σ H Q I hw => ?_⟩
  rw [evalPart_some]
  refine thn (h.run pins s σ H _ I hw) fun u s1 ⟨x, H1, I1, r1, q1⟩ => ?_
  obtain ⟨i, rfl, q⟩ := part_at q1
  obtain ⟨t, rfl⟩ := r1
  exact ⟨some i, H1, I1, .int i t, q⟩
theorem eSl {lo hi : Option Expr} {tl th : TO} {p2 : Pos} (he : PE X e te) (hl : PO X lo tl) (hu : PO X hi th) : PE X (.Subscript e (.Slice lo hi none p2) pos) (tSl (uSl X.K) te tl th) := pe_slice slU he hl hu

/-! ### built-ins by values -/
@[irreducible] def aLen (K : PySem.W.Frag) (p : Addr) (H : Hp) (Q : VK) : Prop := (∃ xs, SqL K H p xs ∧ Q (.int xs.length) H) ∨ (∃ xs, SqT K H p xs ∧ Q (.int xs.length) H) ∨ ∃ kvs, H p = some (.dK kvs) ∧ Q (.int kvs.length) H
@[irreducible] def uLen (K : PySem.W.Frag) : List V → Hp → VK → Prop := fun vs H Q => match vs with
  | [.str y] => y.length ≤ sizeLine ∧ Q (.int y.length) H
  | [.ref p] => aLen K p H Q
  | _ => False
theorem bLen : CallR X (.builtin "len") (uLen X.K) := by
  intro pins s σ H xs us Q I r h
  unfold uLen at h
  split at h
  · exact call_len pins s σ H _ us Q I r ⟨_, _, rfl, ⟨h.1, rfl⟩, h.2⟩
  · unfold aLen at h
    rcases h with ⟨xs, h1, q⟩ | ⟨xs, h1, q⟩ | ⟨kvs, h1, q⟩
    · exact call_len_seq pins s σ H _ us Q I r ⟨_, _, rfl, .inl h1, q⟩
    · exact call_len_seq pins s σ H _ us Q I r ⟨_, _, rfl, .inr h1, q⟩
    · exact call_lenD pins s σ H _ us Q I r ⟨_, _, rfl, h1, q⟩
  · exact h.elim
def uInt : List V → Hp → VK → Prop := fun vs H Q => match vs with
  | [.int i] => Q (.int i) H
  | [.bl k] => Q (.int (b2 k)) H
  | _ => False
theorem bInt : CallR X (.type "int") uInt := by
  intro pins s σ H xs us Q I r h
  unfold uInt at h
  split at h
  · exact call_int1 pins s σ H _ us Q I r (.inl ⟨_, rfl, h⟩)
  · rename_i k
    refine call_int1 pins s σ H _ us Q I r (.inr ⟨k, rfl, ?_⟩)
    cases k <;> exact h
  · exact h.elim
def uAbs : List V → Hp → VK → Prop := fun vs H Q => match vs with
  | [.int i] => Q (.int (i.natAbs : Int)) H
  | _ => False
theorem bAbs : CallR X (.builtin "abs") uAbs := by
  intro pins s σ H xs us Q I r h
  unfold uAbs at h
  split at h
  · rename_i i
    refine call_abs pins s σ H _ us Q I r ⟨i, rfl, ?_⟩
    have e : (if i < 0 then -i else i) = (i.natAbs : Int) := by split <;> omega
    rw [e]
    exact h
  · exact h.elim
def uBool : List V → Hp → VK → Prop := fun vs H Q => match vs with
  | [.int i] => Q (.bl (i != 0)) H
  | [.bl k] => Q (.bl k) H
  | _ => False
theorem bBool : CallR X (.type "bool") uBool := by
  intro pins s σ H xs us Q I r h
  unfold uBool at h
  split at h
  · exact call_bool1 pins s σ H _ us Q I r (.inl ⟨_, rfl, h⟩)
  · exact call_bool1 pins s σ H _ us Q I r (.inr ⟨_, rfl, h⟩)
  · exact h.elim
@[irreducible] def uList (K : PySem.W.Frag) : List V → Hp → VK → Prop := fun vs H Q => match vs with
  | [.ref p] => (∃ ys, (SqL K H p ys ∨ SqT K H p ys) ∧ ∀ l, H l = none → Q (.ref l) (upd H l (.lst ys))) ∨ (∃ kvs, H p = some (.dK kvs) ∧ ∀ q, H q = none → Q (.ref q) (upd H q (.lst (kvs.map fun kv => kV kv.1)))) ∨
      ∃ kvs, Rd H p (.dT kvs) ∧ ∀ q bs, H q = none → IsKeys H kvs bs → Q (.ref q) (upd H q (.lst (bs.map V.ref)))
  | _ => False
theorem bList (hc : X.calm = true) : CallR X (.type "list") (uList X.K) := by
  intro pins s σ H xs us Q I r h
  unfold uList at h
  split at h
  · rcases h with ⟨ys, h1, q⟩ | ⟨kvs, h1, q⟩ | ⟨kvs, h1, q⟩
    · exact call_list_of pins s σ H _ us Q I r ⟨_, ys, rfl, h1, q⟩
    · exact call_list_dK hc pins s σ H _ us Q I r ⟨_, kvs, rfl, h1, q⟩
    · exact call_list_dT hc pins s σ H _ us Q I r ⟨_, kvs, rfl, h1, q⟩
  · exact h.elim
@[irreducible] def uTuple (K : PySem.W.Frag) : List V → Hp → VK → Prop := fun vs H Q => match vs with
  | [.ref p] => (∃ ys, SqL K H p ys ∧ ∀ l, H l = none → Q (.ref l) (upd H l (.tup ys))) ∨ (∃ ys, SqT K H p ys ∧ Q (.ref p) H)
  | _ => False
theorem bTuple : CallR X (.type "tuple") (uTuple X.K) := by
  intro pins s σ H xs us Q I r h
  unfold uTuple at h
  split at h
  · rcases h with ⟨ys, h1, q⟩ | ⟨ys, h1, q⟩
    · exact call_tuple_of pins s σ H _ us Q I r ⟨_, ys, rfl, .inl ⟨h1, q⟩⟩
    · exact call_tuple_of pins s σ H _ us Q I r ⟨_, ys, rfl, .inr ⟨h1, q⟩⟩
  · exact h.elim
def uMin2 : List V → Hp → VK → Prop := fun vs H Q => match vs with
  | [.int i, .int j] => Q (.int (min i j)) H
  | _ => False
theorem bMin2 (hc : X.calm = true) : CallR X (.builtin "min") uMin2 := by
  intro pins s σ H xs us Q I r h
  unfold uMin2 at h
  split at h
  · rename_i i j
    refine call_min2 hc pins s σ H _ us Q I r ⟨i, j, rfl, ?_⟩
    have e : (if j < i then j else i) = min i j := by split <;> omega
    rw [e]
    exact h
  · exact h.elim
def uMax2 : List V → Hp → VK → Prop := fun vs H Q => match vs with
  | [.int i, .int j] => Q (.int (max i j)) H
  | _ => False
theorem bMax2 (hc : X.calm = true) : CallR X (.builtin "max") uMax2 := by
  intro pins s σ H xs us Q I r h
  unfold uMax2 at h
  split at h
  · rename_i i j
    refine call_max2 hc pins s σ H _ us Q I r ⟨i, j, rfl, ?_⟩
    have e : (if j > i then j else i) = max i j := by split <;> omega
    rw [e]
    exact h
  · exact h.elim

/-! ### isinstance(x, T), T a built-in type -/
/-- the kinds of an address -/
inductive Knd where
  | lst | tup | dict | ins (C : Addr)
def Kd (K : PySem.W.Frag) (H : Hp) (a : Addr) : Knd → Prop
  | .lst => ∃ xs, SqL K H a xs
  | .tup => ∃ xs, SqT K H a xs
  | .dict => (∃ kvs, Rd H a (.dK kvs)) ∨ ∃ kvs, H a = some (.dT kvs)
  | .ins _ => False
def Knd.ty : Knd → Value
  | .lst => .type "list"
  | .tup => .type "tuple"
  | .dict => .type "dict"
  | .ins C => .ref C
theorem Kd.tyx {K : PySem.W.Frag} {H : Hp} {a : Addr} : ∀ {k : Knd}, Kd K H a k → TyX K H (.ref a) k.ty
  | .lst, h => by
    obtain ⟨xs, (h | ⟨o, h⟩) | ⟨o, its, n, h1, h2, _⟩⟩ := h
    · exact .base (.lst h)
    · exact .base (.frz h)
    · exact .kList h1 h2
  | .tup, h => by
    obtain ⟨xs, (h | ⟨o, h⟩) | ⟨o, its, n, h1, h2, _⟩⟩ := h
    · exact .base (.tup h)
    · exact .fTuple h
    · exact .kTuple h1 h2
  | .dict, h => by
    rcases h with ⟨kvs, h | ⟨o, h⟩⟩ | ⟨kvs, h⟩
    · exact .base (.dK h)
    · exact .fDict h
    · exact .base (.dT h)
  | .ins _, h => h.elim
/-- what isinstance says of a kind: of int, bool, str, None, list, tuple, dict -/
structure IsiT where
  T : String
  int : Bool
  bl : Bool
  str : Bool
  non : Bool
  lst : Bool
  tup : Bool
  dict : Bool
def IsiT.of (t : IsiT) : Knd → Bool
  | .lst => t.lst
  | .tup => t.tup
  | .dict => t.dict
  | .ins _ => false
def IsiT.good (t : IsiT) : Bool := kitB "int" t.T == some t.int && kitB "bool" t.T == some t.bl && kitB "str" t.T == some t.str && kitB "NoneType" t.T == some t.non && kitB "list" t.T == some t.lst && kitB "tuple" t.T == some t.tup && kitB "dict" t.T == some t.dict
@[irreducible] def aIsi (K : PySem.W.Frag) (t : IsiT) (a : Addr) (H : Hp) (Q : VK) : Prop := (∃ k, Kd K H a k ∧ Q (.bl (t.of k)) H) ∨ ∃ ty b, TyX K H (.ref a) ty ∧ PySem.W.kitOne K ty (.type t.T) = some b ∧ Q (.bl b) H
def uIsi (K : PySem.W.Frag) (t : IsiT) (x : V) (H : Hp) (Q : VK) : Prop := match x with
  | .int _ => Q (.bl t.int) H
  | .bl _ => Q (.bl t.bl) H
  | .str _ => Q (.bl t.str) H
  | .non => Q (.bl t.non) H
  | .ref a => aIsi K t a H Q
  | _ => False
theorem isi_to {K : PySem.W.Frag} {t : IsiT} {x : V} {H : Hp} {Q : VK} (g : t.good = true) (h : uIsi K t x H Q) : rIsi K [x, .ty t.T] H Q := by
  unfold IsiT.good at g
  simp only [Bool.and_eq_true, beq_iff_eq] at g
  obtain ⟨⟨⟨⟨⟨⟨g1, g2⟩, g3⟩, g4⟩, g5⟩, g6⟩, g7⟩ := g
  cases x with
  | int i => exact ⟨_, _, _, _, _, rfl, .ty _, .base (.int i), kit_ty g1, h⟩
  | bl i => exact ⟨_, _, _, _, _, rfl, .ty _, .base (.bl i), kit_ty g2, h⟩
  | str i => exact ⟨_, _, _, _, _, rfl, .ty _, .base (.str i), kit_ty g3, h⟩
  | non => exact ⟨_, _, _, _, _, rfl, .ty _, .base .non, kit_ty g4, h⟩
  | ref a =>
    have h : aIsi K t a H Q := h
    unfold aIsi at h
    rcases h with ⟨k, hk, q⟩ | ⟨ty, b, h1, h2, q⟩
    · cases k with
      | lst => exact ⟨_, _, _, _, _, rfl, .ty _, hk.tyx, kit_ty g5, q⟩
      | tup => exact ⟨_, _, _, _, _, rfl, .ty _, hk.tyx, kit_ty g6, q⟩
      | dict => exact ⟨_, _, _, _, _, rfl, .ty _, hk.tyx, kit_ty g7, q⟩
      | ins C => exact hk.elim
    · exact ⟨_, _, _, _, _, rfl, .ty _, h1, h2, q⟩
  | _ => exact (show False from h).elim
abbrev isiInt : IsiT := ⟨"int", true, true, false, false, false, false, false⟩
abbrev isiBool : IsiT := ⟨"bool", false, true, false, false, false, false, false⟩
abbrev isiStr : IsiT := ⟨"str", false, false, true, false, false, false, false⟩
abbrev isiList : IsiT := ⟨"list", false, false, false, false, true, false, false⟩
abbrev isiTuple : IsiT := ⟨"tuple", false, false, false, false, false, true, false⟩
abbrev isiDict : IsiT := ⟨"dict", false, false, false, false, false, false, true⟩
theorem isiInt_ok : isiInt.good = true := by decide +kernel
theorem isiBool_ok : isiBool.good = true := by decide +kernel
theorem isiStr_ok : isiStr.good = true := by decide +kernel
theorem isiList_ok : isiList.good = true := by decide +kernel
theorem isiTuple_ok : isiTuple.good = true := by decide +kernel
theorem isiDict_ok : isiDict.good = true := by decide +kernel
def cIsi (K : PySem.W.Frag) (t : IsiT) (ta : TE) : TE := fun σ H Q => ta σ H fun x H1 => uIsi K t x H1 Q
theorem peC {e : Expr} {t t' : TE} (h : PE X e t) (w : ∀ σ H Q, t' σ H Q → t σ H Q) : PE X e t' := peI h w
theorem eIsi {t : IsiT} {x : Str} {p p2 pos : Pos} (g : t.good = true) (hg : Gl X "isinstance") (hm : X.mg "isinstance" = none) (ha : PE X a ta) (hg2 : Gl X x) (hm2 : X.mg x = none) (hv : bootBuiltins x = some (.type t.T)) (hn : x ≠ "__name__" := by decide) (hd : (x == ("__debug__" : Str)) = false := by decide)
    (hs : starEach [a, .Name x p2] X.env = (false, eval a X.env) :: starEach [.Name x p2] X.env := by rfl) (hpl : (backTo pos (starEach [.Name x p2] X.env)).any (·.1) = false := by rfl) (hs2 : starEach [.Name x p2] X.env = (false, eval (.Name x p2) X.env) :: starEach [] X.env := by rfl) :
    PE X (.Call (.Name "isinstance" p) [a, .Name x p2] [] pos) (cIsi X.K t ta) := by
  refine ⟨fun pins s σ H Q I h => ?_⟩
  have hb : PE X (.Name x p2) (tC (.ty t.T)) := pe_bltn hg2 hm2 hv rfl hn hd
  have hr : CallR X (.builtin "isinstance") (rIsi X.K) := call_isi
  have ha2 : PA X [a, .Name x p2] (fun σ H Q => ta σ H fun x H1 => Q [x, .ty t.T] H1) := ⟨fun ps pins s σ H Q I h => (pa_cons ha (pa_cons hb pa_nil hs2) hs).run ps pins s σ H Q I h⟩
  have hv0 : bootBuiltins "isinstance" = some (.builtin "isinstance") := by decide +kernel
  refine (pe_callB (id := "isinstance") (r := fun vs H Q => match vs with | [x, .ty T] => T = t.T ∧ uIsi X.K t x H Q | _ => False) ?_ hg hm hv0 ha2 (by decide) (by decide) hs hpl).run pins s σ H Q I ?_
  · intro pins s σ H xs us Q I r h
    split at h
    · obtain ⟨rfl, h⟩ := h
      exact hr pins s σ H _ us Q I r (isi_to g h)
    · exact h.elim
  · have mono : ∀ σ H, ta σ H (fun x H1 => uIsi X.K t x H1 Q) → tCB (fun vs H Q => match vs with | [x, .ty T] => T = t.T ∧ uIsi X.K t x H Q | _ => False) (fun σ H Q => ta σ H fun x H1 => Q [x, .ty t.T] H1) σ H Q := fun σ H h => by
      unfold tCB
      have e : (fun (x : V) (H1 : Hp) => uIsi X.K t x H1 Q) = fun x H1 => (t.T = t.T ∧ uIsi X.K t x H1 Q) := by
        funext x H1
        exact propext ⟨fun h => ⟨rfl, h⟩, fun h => h.2⟩
      rw [e] at h
      exact h
    exact mono σ H h
end
end Wk

namespace Wk
open PySem PySem.Spec PyProof.Rows L2
section
variable {X : Cx} {tg : Expr}
/-! ### what a for walks -/
@[irreducible] def aSeq (K : PySem.W.Frag) (a : Addr) (H : Hp) (R : It → Hp → Prop) : Prop := (∃ xs, SqL K H a xs ∧ R (Itl K a) H) ∨ (∃ xs, SqT K H a xs ∧ R (Itt K a) H)
def iSeq (K : PySem.W.Frag) (tl : TE) : TI := fun σ H R => tl σ H fun x H1 => match x with
  | .ref a => aSeq K a H1 R
  | .str z => R (Its z) H1
  | _ => False
theorem fSeq {l : Expr} {tl : TE} (hl : PE X l tl) : PI X tg l (iSeq X.K tl) := by
  refine ⟨fun pins s σ H R I h => ?_⟩
  refine thn (hl.run pins s σ H _ I h) fun v s1 ⟨x, H1, I1, r1, q1⟩ => ?_
  cases x with
  | ref a =>
    have q1 : aSeq X.K a H1 R := q1
    unfold aSeq at q1
    rcases q1 with ⟨xs, hq, q⟩ | ⟨xs, hq, q⟩
    · cases r1
      obtain ⟨its, rv, p, hz⟩ := I1.list hq
      refine wpAny_pyIter_list p.isList ?_
      refine ⟨s1.heap.objs.size, [s1.heap.objs.size], _, _, H1, rfl, I1.kept (t' := s1.toks) fun b o e => Heap.get?_push_of_some _ e, turn_list a _, ⟨_, Heap.get?_push_size _ rfl, rfl, rfl⟩, fun b hb => ?_, q⟩
      have e : b = s1.heap.objs.size := by simpa using hb
      subst e
      exact I1.fpOk (Nat.le_refl _) (I1.hok.fresh (Nat.le_refl _))
    · cases r1
      obtain ⟨its, rv, p, hz⟩ := I1.tuple hq
      refine wpAny_pyIter_tuple (show s1.heap.IsTuple a its.toArray from p) ?_
      refine ⟨s1.heap.objs.size, [s1.heap.objs.size], _, _, H1, rfl, I1.kept (t' := s1.toks) fun b o e => Heap.get?_push_of_some _ e, turn_tuple a _, ⟨_, Heap.get?_push_size _ rfl, rfl, rfl⟩, fun b hb => ?_, q⟩
      have e : b = s1.heap.objs.size := by simpa using hb
      subst e
      exact I1.fpOk (Nat.le_refl _) (I1.hok.fresh (Nat.le_refl _))
  | str z =>
    obtain ⟨t, rfl⟩ := r1
    cases ha : z.cps.all (· < 128)
    · exact wpAny_pyIter_wide ha (pi_one (tk := s1.toks) I1 _ (turn_str _ z t "str_iterator" (.inr rfl)) ⟨_, Heap.get?_push_size _ rfl, rfl, rfl⟩ q1)
    · exact wpAny_pyIter_ascii ha (pi_one (tk := s1.toks) I1 _ (turn_str _ z t "str_ascii_iterator" (.inl rfl)) ⟨_, Heap.get?_push_size _ rfl, rfl, rfl⟩ q1)
  | _ => exact (show False from q1).elim
def iR1 (ta : TA) : TI := fun σ H R => ta σ H fun vs H1 => match vs with
  | [.int j] => (-(2 ^ 62) ≤ j ∧ j < 2 ^ 62) ∧ R (Itr 0 j.toNat) H1
  | _ => False
def iR2 (ta : TA) : TI := fun σ H R => ta σ H fun vs H1 => match vs with
  | [.int i, .int j] => (-(2 ^ 62) ≤ i ∧ i < 2 ^ 62 ∧ -(2 ^ 62) ≤ j ∧ j < 2 ^ 62) ∧ R (Itr i (j - i).toNat) H1
  | _ => False
def iR3 (ta : TA) : TI := fun σ H R => ta σ H fun vs H1 => match vs with
  | [.int i, .int j, .int c] => ∃ n, RgC i j c n ∧ R (Itc i c n) H1
  | _ => False
variable {a b c : Expr} {ta : TA} {p pos : Pos}
theorem fR1 (hg : Gl X "range") (hm : X.mg "range" = none) (ha : PA X [a] ta) (hs : starEach [a] X.env = [(false, eval a X.env)] := by rfl) : PI X tg (.Call (.Name "range" p) [a] [] pos) (iR1 ta) := by
  refine ⟨fun pins s σ H R I h => ?_⟩
  refine Call_ (ld_blt I hg hm boot_range (PyProof.Rows.callWith_type1 (thn (ha.run pos pins s σ H _ I h) fun us s1 ⟨vs, H1, I1, r1, q1⟩ => ?_) hs rfl))
  dsimp only at q1
  split at q1
  · obtain ⟨⟨q1, q2⟩, q⟩ := q1
    cases r1 with
    | cons r rr =>
      cases rr
      obtain ⟨t, rfl⟩ := r
      exact call_range_1 (range_it I1 (by omega) (by omega) q1 q2 (by simpa using q))
  · exact q1.elim
theorem fR2 (hg : Gl X "range") (hm : X.mg "range" = none) (ha : PA X [a, b] ta) (hs : starEach [a, b] X.env = [(false, eval a X.env), (false, eval b X.env)] := by rfl) (hs2 : starEach [b] X.env = [(false, eval b X.env)] := by rfl) :
    PI X tg (.Call (.Name "range" p) [a, b] [] pos) (iR2 ta) := by
  refine ⟨fun pins s σ H R I h => ?_⟩
  refine Call_ (ld_blt I hg hm boot_range (PyProof.Rows.callWith_type1 (thn (ha.run pos pins s σ H _ I h) fun us s1 ⟨vs, H1, I1, r1, q1⟩ => ?_) (by rw [hs, hs2]) (by rw [hs2]; rfl)))
  dsimp only at q1
  split at q1
  · obtain ⟨⟨q1, q2, q3, q4⟩, q⟩ := q1
    cases r1 with
    | cons r rr =>
      cases rr with
      | cons r' rr =>
        cases rr
        obtain ⟨t, rfl⟩ := r
        obtain ⟨t', rfl⟩ := r'
        exact call_range_2 (range_it I1 q1 q2 q3 q4 q)
  · exact q1.elim
theorem fR3 (hg : Gl X "range") (hm : X.mg "range" = none) (ha : PA X [a, b, c] ta)
    (hs : starEach [a, b, c] X.env = (false, eval a X.env) :: starEach [b, c] X.env := by rfl) (hpl : (backTo pos (starEach [b, c] X.env)).any (·.1) = false := by rfl) :
    PI X tg (.Call (.Name "range" p) [a, b, c] [] pos) (iR3 ta) := by
  have h0 := pi_range3 (X := X) (tg := tg) (p := p) hg hm ha hs hpl
  have g : PA X [a, b, c] (fun σ H Q => ta σ H fun vs H1 => match vs with | [.int i, .int j, .int k] => Q [.int i, .int j, .int k] H1 | _ => False) := ⟨fun ps pins s σ H Q I h => thn (ha.run ps pins s σ H _ I h) fun us s1 ⟨vs, H1, I1, r1, q1⟩ => by
    dsimp only at q1
    split at q1
    · exact ⟨_, H1, I1, r1, q1⟩
    · exact q1.elim⟩
  have h1 := pi_range3 (X := X) (tg := tg) (p := p) hg hm g hs hpl
  refine ⟨fun pins s σ H R I h => h1.run pins s σ H R I ?_⟩
  have e : (fun (vs : List V) (H1 : Hp) => match vs with
    | [.int i, .int j, .int c] => ∃ n, RgC i j c n ∧ R (Itc i c n) H1
    | _ => False) = fun vs H1 => (match vs with | [.int i, .int j, .int k] => (∃ (i' j' c' : Int) (n : Nat), [V.int i, .int j, .int k] = [.int i', .int j', .int c'] ∧ RgC i' j' c' n ∧ R (Itc i' c' n) H1) | _ => False) := by
    funext vs H1
    split
    · refine propext ⟨fun ⟨n, h1, h2⟩ => ⟨_, _, _, n, rfl, h1, h2⟩, fun ⟨i', j', c', n, e, h1, h2⟩ => ?_⟩
      injection e with e1 e
      injection e with e2 e
      injection e with e3 e
      injection e1 with e1
      injection e2 with e2
      injection e3 with e3
      subst e1 e2 e3
      exact ⟨n, h1, h2⟩
    · rfl
  show ta σ H (fun vs H1 => (match vs with | [.int i, .int j, .int k] => (∃ (i' j' c' : Int) (n : Nat), [V.int i, .int j, .int k] = [.int i', .int j', .int c'] ∧ RgC i' j' c' n ∧ R (Itc i' c' n) H1) | _ => False))
  rw [← e]
  exact h

/-! ### targets -/
/-- a slot stored; the row of slots stays written out -/
def setK : List (Option V) → Nat → Option V → (List (Option V) → Prop) → Prop
  | [], _, _, k => k []
  | _ :: l, 0, v, k => k (v :: l)
  | a :: l, i + 1, v, k => setK l i v fun l' => k (a :: l')
theorem setK_eq : ∀ (l : List (Option V)) (i : Nat) (v : Option V) (k : List (Option V) → Prop), setK l i v k = k (l.set i v)
  | [], _, _, _ => rfl
  | _ :: _, 0, _, _ => rfl
  | a :: l, i + 1, v, k => by
    show setK l i v (fun l' => k (a :: l')) = _
    rw [setK_eq l i v]
    rfl
def gNm (i : Nat) : TG := fun v σ H Q => setK σ i (some v) fun σ' => Q σ' H
theorem gNm_eq (i : Nat) : gNm i = gName i := by
  funext v σ H Q
  unfold gNm gName
  rw [setK_eq]
theorem tNm {X : Cx} {i : Nat} {x : Str} {pos : Pos} (hN : X.N.Nodup) (hi : X.N[i]? = some x) (hx : Loc X.env.scope x) (hf : X.fn x = true ∨ X.env.scope.names.lookup x = some .local := by first | exact .inl rfl | exact .inr rfl | assumption) : PG X (.Name x pos) (gNm i) := by
  rw [gNm_eq]
  exact pg_name hN hi hx hf
theorem sSet {X : Cx} {i : Nat} {x : Str} {e : Expr} {te : TE} {pos pos' : Pos} (hN : X.N.Nodup) (hi : X.N[i]? = some x) (hx : Loc X.env.scope x) (he : PE X e te) (hs : swapsWith e (some (.Name x pos')) pos.line X.env = pure false := by rfl) (hf : X.fn x = true ∨ X.env.scope.names.lookup x = some .local := by first | exact .inl rfl | exact .inr rfl | assumption) :
    PS X (.Assign [.Name x pos'] e pos) (tAsg te (gNm i)) := by
  rw [gNm_eq]
  exact ps_set hN hi hx he hs hf
theorem wipe1 (σ : L2.St) (i : Nat) : wipe σ [i] = σ.set i none := rfl
/-- the run of a comprehension, of a loop: opaque, their rules are below -/
@[irreducible] def lcI (J : It) (g : TG) (tt : TT) (te : TE) (vs : List Nat) (σ : L2.St) (Q : VK) (H1 : Hp) : Prop := ∀ D, H1 D = none → ∃ W : Nat → Nat → Hp → Prop, (∃ m, W 0 m (upd H1 D (.lst []))) ∧ ∀ k m H, W k m H →
  (J.stop k H ∧ Q (.ref D) H) ∨ (J.go k H ∧ ∃ Nx : Hp → Prop, (∀ H', Nx H' → ∃ m', m' < m ∧ W (k + 1) m' H') ∧ ∀ x H', J.yld k H x H' → g x (wipe σ vs) H' fun σ2 H2 => wipe σ2 vs = wipe σ vs ∧ tt σ2 H2 fun b H3 =>
    if b = true then te σ2 H3 fun y H4 => ∃ acc, H4 D = some (.lst acc) ∧ acc.length < sizeLine ∧ Nx (upd H4 D (.lst (acc ++ [y]))) else Nx H3)
def cLc (wi : TI) (g : TG) (tt : TT) (te : TE) (vs : List Nat) : TE := fun σ H Q => wi σ H fun J H1 => lcI J g tt te vs σ Q H1
theorem cLc_eq (wi : TI) (g : TG) (tt : TT) (te : TE) (vs : List Nat) : cLc wi g tt te vs = tLc wi g tt te vs := by
  unfold cLc tLc lcI
  rfl
@[irreducible] def forI (J : It) (g : TG) (tb : TS) (D : Ends) (σ : L2.St) (H1 : Hp) : Prop := ∃ W : Nat → Nat → L2.St → Hp → Prop, (∃ m, W 0 m σ H1) ∧ ∀ i m σ H, W i m σ H →
  (J.stop i H ∧ D.nx σ H) ∨ (J.go i H ∧ ∃ N : L2.St → Hp → Prop, (∀ σ' H', N σ' H' → ∃ m', m' < m ∧ W (i + 1) m' σ' H') ∧ ∀ x H', J.yld i H x H' → g x σ H' fun σ2 H2 => tb { D with nx := N, ct := N, bk := D.nx } σ2 H2)
def cFor (wi : TI) (g : TG) (tb : TS) : TS := fun D σ H => wi σ H fun J H1 => forI J g tb D σ H1
theorem cFor_eq (wi : TI) (g : TG) (tb : TS) : cFor wi g tb = tFor wi g tb := by
  unfold cFor tFor forI
  rfl
theorem sFor {X : Cx} {tg : Expr} {iter : Expr} {body : List Stmt} {wi : TI} {g : TG} {tb : TS} {pos : Pos} (hp : PassesOwn (model X.prog X.w) X.A X.env X.xe) (hc : X.calm = true) (hi : PI X tg iter wi) (hg : PG X tg g) (hb : PSs X body tb)
    (hs : ∀ x, foldedSetIterable iter X.env x = pure x := by intro _; rfl) : PS X (.For tg iter body [] pos) (cFor wi g tb) := by
  rw [cFor_eq]
  exact ps_for hp hc hi hg hb hs
theorem eLc {X : Cx} {elt tg iter : Expr} {ifs : List Expr} {scope : Scope} {own : List (Str × Nat)} {pos : Pos} {wi : TI} {g : TG} {tt : TT} {te : TE} (hc : X.calm = true) (hN : X.N.Nodup) (hi : PI X tg iter wi) (ok : BlkOk X.N X.env.scope scope own)
    (hg : ∀ (s : Shared) (H : Hp) (C : Addr) (cl : List (Str × Addr)) (fp : List Addr), PG (X.blk s H scope (compEnvC scope cl C X.env) fp) tg g) (ht : ∀ (s : Shared) (H : Hp) (C : Addr) (cl : List (Str × Addr)) (fp : List Addr), PTs (X.blk s H scope (compEnvC scope cl C X.env) fp) ifs tt)
    (he : ∀ (s : Shared) (H : Hp) (C : Addr) (cl : List (Str × Addr)) (fp : List Addr), PE (X.blk s H scope (compEnvC scope cl C X.env) fp) elt te) (hs : ∀ x, foldedSetIterable iter X.env x = pure x := by intro _; rfl) :
    PE X (.ListComp elt [⟨tg, iter, ifs, 0⟩] scope pos) (cLc wi g tt te (own.map (·.2))) := by
  rw [cLc_eq]
  exact pe_lc hc hN hi ok hg ht he hs
theorem sSetLc {X : Cx} {i : Nat} {y : Str} {py : Pos} {elt tg iter : Expr} {ifs : List Expr} {scope : Scope} {own : List (Str × Nat)} {pos spos : Pos} {wi : TI} {g : TG} {tt : TT} {te : TE} (hc : X.calm = true) (hN : X.N.Nodup) (hy : X.N[i]? = some y) (hyl : X.env.scope.names.lookup y = some .local)
    (hsw : swapsWith (.ListComp elt [⟨tg, iter, ifs, 0⟩] scope pos) (some (.Name y py)) spos.line X.env = pure true) (hi : PI X tg iter wi) (ok : BlkOk X.N X.env.scope scope own)
    (hg : ∀ (s : Shared) (H : Hp) (C : Addr) (cl : List (Str × Addr)) (fp : List Addr), PG (X.blk s H scope (compEnvC scope cl C X.env) fp) tg g) (ht : ∀ (s : Shared) (H : Hp) (C : Addr) (cl : List (Str × Addr)) (fp : List Addr), PTs (X.blk s H scope (compEnvC scope cl C X.env) fp) ifs tt)
    (he : ∀ (s : Shared) (H : Hp) (C : Addr) (cl : List (Str × Addr)) (fp : List Addr), PE (X.blk s H scope (compEnvC scope cl C X.env) fp) elt te) (hs : ∀ x, foldedSetIterable iter X.env x = pure x := by intro _; rfl) :
    PS X (.Assign [.Name y py] (.ListComp elt [⟨tg, iter, ifs, 0⟩] scope pos) spos) (tAsg (cLc wi g tt te (own.map (·.2))) (gNm i)) := by
  rw [gNm_eq, cLc_eq]
  exact ps_setLc hc hN hy hyl hsw hi ok hg ht he hs
theorem forR {lo : Int} {n : Nat} {g : TG} {tb : TS} {D : Ends} {σ : L2.St} {H : Hp} (Pv : Nat → L2.St → Hp → Prop) (h0 : Pv 0 σ H)
    (hs : ∀ i σ H, i < n → Pv i σ H → g (.int (lo + (i : Nat))) σ H fun σ2 H2 => tb { D with nx := Pv (i + 1), ct := Pv (i + 1), bk := D.nx } σ2 H2) (hd : ∀ σ H, Pv n σ H → D.nx σ H) : forI (Itr lo n) g tb D σ H := by
  unfold forI
  exact for_range Pv h0 hs hd
theorem forR0 {n : Nat} {g : TG} {tb : TS} {D : Ends} {σ : L2.St} {H : Hp} (Pv : Nat → L2.St → Hp → Prop) (h0 : Pv 0 σ H)
    (hs : ∀ i σ H, i < n → Pv i σ H → g (.int (i : Nat)) σ H fun σ2 H2 => tb { D with nx := Pv (i + 1), ct := Pv (i + 1), bk := D.nx } σ2 H2) (hd : ∀ σ H, Pv n σ H → D.nx σ H) : forI (Itr 0 n) g tb D σ H :=
  forR Pv h0 (fun i σ H h p => by rw [Int.zero_add]; exact hs i σ H h p) hd
theorem forRC {lo c : Int} {n : Nat} {g : TG} {tb : TS} {D : Ends} {σ : L2.St} {H : Hp} (Pv : Nat → L2.St → Hp → Prop) (h0 : Pv 0 σ H)
    (hs : ∀ i σ H, i < n → Pv i σ H → g (.int (lo + (i : Nat) * c)) σ H fun σ2 H2 => tb { D with nx := Pv (i + 1), ct := Pv (i + 1), bk := D.nx } σ2 H2) (hd : ∀ σ H, Pv n σ H → D.nx σ H) : forI (Itc lo c n) g tb D σ H := by
  unfold forI
  exact for_rangeC Pv h0 hs hd
/-- a comprehension over a range, its target a name -/
theorem lcR {lo c : Int} {n : Nat} {tt : TT} {te : TE} {i : Nat} {σ : L2.St} {H1 : Hp} {Q : VK} (Pv : Addr → Nat → Hp → Prop) (h0 : ∀ D, H1 D = none → Pv D 0 (upd H1 D (.lst [])))
    (hs : ∀ D k H, k < n → Pv D k H → setK σ i (some (.int (lo + (k : Nat) * c))) fun σ2 => tt σ2 H fun b H3 =>
      if b = true then te σ2 H3 fun y H4 => ∃ acc, H4 D = some (.lst acc) ∧ acc.length < sizeLine ∧ Pv D (k + 1) (upd H4 D (.lst (acc ++ [y]))) else Pv D (k + 1) H3) (hd : ∀ D H, Pv D n H → Q (.ref D) H) :
    lcI (Itc lo c n) (gNm i) tt te [i] σ Q H1 := by
  unfold lcI
  intro D hD
  refine ⟨fun k m H => m = n - k ∧ k ≤ n ∧ Pv D k H, ⟨n, by simp, Nat.zero_le _, h0 D hD⟩, ?_⟩
  rintro k m H ⟨rfl, hi, p⟩
  by_cases hlt : k < n
  · refine .inr ⟨hlt, Pv D (k + 1), fun H' p' => ⟨n - (k + 1), by omega, rfl, hlt, p'⟩, fun x H' y => ?_⟩
    obtain ⟨e, y⟩ := y
    subst e y
    have z := hs D k _ hlt p
    rw [setK_eq] at z
    show setK _ i _ _
    rw [setK_eq, wipe1, List.set_set]
    exact ⟨by rw [wipe1, List.set_set], z⟩
  · have e : k = n := by omega
    subst e
    exact .inl ⟨Nat.le_refl _, hd D H p⟩
theorem lcR1 {lo : Int} {n : Nat} {tt : TT} {te : TE} {i : Nat} {σ : L2.St} {H1 : Hp} {Q : VK} (Pv : Addr → Nat → Hp → Prop) (h0 : ∀ D, H1 D = none → Pv D 0 (upd H1 D (.lst [])))
    (hs : ∀ D k H, k < n → Pv D k H → setK σ i (some (.int (lo + (k : Nat)))) fun σ2 => tt σ2 H fun b H3 =>
      if b = true then te σ2 H3 fun y H4 => ∃ acc, H4 D = some (.lst acc) ∧ acc.length < sizeLine ∧ Pv D (k + 1) (upd H4 D (.lst (acc ++ [y]))) else Pv D (k + 1) H3) (hd : ∀ D H, Pv D n H → Q (.ref D) H) :
    lcI (Itr lo n) (gNm i) tt te [i] σ Q H1 := by
  unfold lcI
  intro D hD
  refine ⟨fun k m H => m = n - k ∧ k ≤ n ∧ Pv D k H, ⟨n, by simp, Nat.zero_le _, h0 D hD⟩, ?_⟩
  rintro k m H ⟨rfl, hi, p⟩
  by_cases hlt : k < n
  · refine .inr ⟨hlt, Pv D (k + 1), fun H' p' => ⟨n - (k + 1), by omega, rfl, hlt, p'⟩, fun x H' y => ?_⟩
    obtain ⟨e, y⟩ := y
    subst e y
    have z := hs D k _ hlt p
    rw [setK_eq] at z
    show setK _ i _ _
    rw [setK_eq, wipe1, List.set_set]
    exact ⟨by rw [wipe1, List.set_set], z⟩
  · have e : k = n := by omega
    subst e
    exact .inl ⟨Nat.le_refl _, hd D H p⟩
/-- a comprehension over a list or a tuple that stays, its target a name -/
theorem lcS {K : PySem.W.Frag} {a : Addr} {xs : List V} {tt : TT} {te : TE} {i : Nat} {σ : L2.St} {H1 : Hp} {Q : VK} (Pv : Addr → Nat → Hp → Prop) (h : SqL K H1 a xs) (h0 : ∀ D, H1 D = none → Pv D 0 (upd H1 D (.lst []))) (hl : ∀ D k H, k ≤ xs.length → Pv D k H → SqL K H a xs)
    (hs : ∀ D k x H, xs[k]? = some x → Pv D k H → setK σ i (some x) fun σ2 => tt σ2 H fun b H3 =>
      if b = true then te σ2 H3 fun y H4 => ∃ acc, H4 D = some (.lst acc) ∧ acc.length < sizeLine ∧ Pv D (k + 1) (upd H4 D (.lst (acc ++ [y]))) else Pv D (k + 1) H3) (hd : ∀ D H, Pv D xs.length H → Q (.ref D) H) :
    aSeq K a H1 (fun J H1 => lcI J (gNm i) tt te [i] σ Q H1) := by
  unfold aSeq lcI
  refine .inl ⟨xs, h, fun D hD => ?_⟩
  refine lc_list (Qd := fun H => Q (.ref D) H) (Pv D) (h0 D hD) (hl D) (fun k x H hx p => ?_) (hd D)
  have z := hs D k x H hx p
  rw [setK_eq] at z
  show setK _ i _ _
  rw [setK_eq, wipe1, List.set_set]
  exact ⟨by rw [wipe1, List.set_set], z⟩
theorem lcT {K : PySem.W.Frag} {a : Addr} {xs : List V} {tt : TT} {te : TE} {i : Nat} {σ : L2.St} {H1 : Hp} {Q : VK} (Pv : Addr → Nat → Hp → Prop) (h : SqT K H1 a xs) (h0 : ∀ D, H1 D = none → Pv D 0 (upd H1 D (.lst []))) (hl : ∀ D k H, k ≤ xs.length → Pv D k H → SqT K H a xs)
    (hs : ∀ D k x H, xs[k]? = some x → Pv D k H → setK σ i (some x) fun σ2 => tt σ2 H fun b H3 =>
      if b = true then te σ2 H3 fun y H4 => ∃ acc, H4 D = some (.lst acc) ∧ acc.length < sizeLine ∧ Pv D (k + 1) (upd H4 D (.lst (acc ++ [y]))) else Pv D (k + 1) H3) (hd : ∀ D H, Pv D xs.length H → Q (.ref D) H) :
    aSeq K a H1 (fun J H1 => lcI J (gNm i) tt te [i] σ Q H1) := by
  unfold aSeq lcI
  refine .inr ⟨xs, h, fun D hD => ?_⟩
  refine lc_tup (Qd := fun H => Q (.ref D) H) (Pv D) (h0 D hD) (hl D) (fun k x H hx p => ?_) (hd D)
  have z := hs D k x H hx p
  rw [setK_eq] at z
  show setK _ i _ _
  rw [setK_eq, wipe1, List.set_set]
  exact ⟨by rw [wipe1, List.set_set], z⟩
def gNl : TGs := fun vs σ H Q => match vs with
  | [] => Q σ H
  | _ => False
def gCn (t : TG) (u : TGs) : TGs := fun vs σ H Q => match vs with
  | v :: r => t v σ H fun σ' H' => u r σ' H' Q
  | [] => False
theorem gsNil : PGs X [] gNl := by
  refine ⟨fun pins s σ H vs us Q I r h => ?_⟩
  cases vs with
  | nil =>
    cases r
    exact assignInOrder_nil ⟨σ, H, I, h⟩
  | cons v r => exact (show False from h).elim
theorem gsCons {e : Expr} {es : List Expr} {t : TG} {u : TGs} (h1 : PG X e t) (h2 : PGs X es u)
    (hs : (assignEach (e :: es) X.env).map (·.2) = assign e X.env :: (assignEach es X.env).map (·.2) := by rfl) : PGs X (e :: es) (gCn t u) := by
  refine ⟨fun pins s σ H vs us Q I r h => ?_⟩
  cases vs with
  | nil => exact (show False from h).elim
  | cons v vr =>
    cases r with
    | cons r rr =>
      rw [hs]
      refine assignInOrder_cons (thn (h1.run pins s σ H _ _ _ I r h) fun _ s1 ⟨σ1, H1, I1, q1⟩ => ?_)
      exact h2.run pins s1 σ1 H1 _ _ Q I1 rr q1
/-- (a, b, ..) = a tuple or a list of that length -/
@[irreducible] def gUn (K : PySem.W.Frag) (n : Nat) (t : TGs) : TG := fun v σ H Q => match v with
  | .ref a => ∃ xs, (SqT K H a xs ∨ SqL K H a xs) ∧ xs.length = n ∧ t xs σ H Q
  | _ => False
theorem gUnp {es : List Expr} {k : Nat} {t : TGs} {n : Nat} (hc : X.calm = true) (h : PGs X es t)
    (hn : (assignEach es X.env).length = n := by rfl) (hst : (assignEach es X.env).findIdx? (·.1) = none := by rfl) : PG X (.Tuple es k pos) (gUn X.K n t) := by
  refine ⟨fun pins s σ H v u Q I r hw => ?_⟩
  unfold gUn at hw
  cases v with
  | ref a =>
    obtain ⟨xs, hq | hq, hl, hw⟩ := hw
    · exact (pg_tup (t := t) hc h hn hst).run pins s σ H _ _ Q I r ⟨a, xs, rfl, hq, hl, hw⟩
    · exact (pg_unl (t := t) hc h hn hst).run pins s σ H _ _ Q I r ⟨a, xs, rfl, hq, hl, hw⟩
  | _ => exact (show False from hw).elim
@[irreducible] def uSet : TSet := fun o i v H Q => match o with
  | .ref p => (∃ xs k j, i = .int k ∧ H p = some (.lst xs) ∧ ixN xs.length k = some j ∧ Q (upd H p (.lst (xs.set j v)))) ∨ ∃ H4, DPut H p i v H4 ∧ Q H4
  | _ => False
theorem setU (hu : X.A.units + 64 < cLine) : PSet X uSet := by
  intro pins s σ H o i v ov iv u Q I ro ri rv h
  unfold uSet at h
  cases o with
  | ref p =>
    rcases h with ⟨xs, k, j, e, h1, h2, q⟩ | ⟨H4, g, q⟩
    · exact set_list pins s σ H _ _ _ ov iv u Q I ro ri rv ⟨p, xs, k, j, rfl, e, h1, h2, q⟩
    · obtain rfl : ov = Value.ref p := ro
      exact d_setItem (by omega) I g ri rv fun s' I' => ⟨H4, I', q⟩
  | _ => exact (show False from h).elim
end

/-! ### immutable data -/
/-- a tuple that never changes: tracked, or of the written part -/
def Tt (K : PySem.W.Frag) (H : Hp) (a : Addr) (xs : List V) : Prop := H a = some (.tup xs) ∨ ∀ H', SqT K H' a xs
theorem Tt.sq {K : PySem.W.Frag} {H : Hp} {a : Addr} {xs : List V} (h : Tt K H a xs) : SqT K H a xs := by
  rcases h with h | h
  · exact .inl (.inl h)
  · exact h H
mutual
inductive Dt (K : PySem.W.Frag) (H : Hp) : V → PyData → Prop
  | non : Dt K H .non .none
  | bl (b : Bool) : Dt K H (.bl b) (.bool b)
  | int (i : Int) : Dt K H (.int i) (.int i)
  | str (x : Str) : Dt K H (.str x) (.str x)
  | tup {a : Addr} {xs : List V} {ds : List PyData} : Tt K H a xs → DtAll K H xs ds → Dt K H (.ref a) (.tuple ds)
inductive DtAll (K : PySem.W.Frag) (H : Hp) : List V → List PyData → Prop
  | nil : DtAll K H [] []
  | cons {v : V} {vs : List V} {d : PyData} {ds : List PyData} : Dt K H v d → DtAll K H vs ds → DtAll K H (v :: vs) (d :: ds)
end
section
variable {K : PySem.W.Frag} {H H' : Hp}
/-- tuples stay -/
def Tp (H H' : Hp) : Prop := ∀ b xs, H b = some (.tup xs) → H' b = some (.tup xs)
mutual
theorem Dt.mono (t : Tp H H') : ∀ {v : V} {d : PyData}, Dt K H v d → Dt K H' v d
  | _, _, .non => .non
  | _, _, .bl b => .bl b
  | _, _, .int i => .int i
  | _, _, .str x => .str x
  | _, _, .tup h ha => .tup (h.imp (fun h => t _ _ h) id) (DtAll.mono t ha)
theorem DtAll.mono (t : Tp H H') : ∀ {vs : List V} {ds : List PyData}, DtAll K H vs ds → DtAll K H' vs ds
  | _, _, .nil => .nil
  | _, _, .cons h hs => .cons (Dt.mono t h) (DtAll.mono t hs)
end
mutual
theorem Dt.dp : ∀ {v : V} {d : PyData}, Dt K H v d → Dp K H v d
  | _, _, .non => .non
  | _, _, .bl b => .bl b
  | _, _, .int i => .int i
  | _, _, .str x => .str x
  | _, _, .tup h ha => .tup h.sq (DtAll.dp ha)
theorem DtAll.dp : ∀ {vs : List V} {ds : List PyData}, DtAll K H vs ds → DpAll K H vs ds
  | _, _, .nil => .nil
  | _, _, .cons h hs => .cons (Dt.dp h) (DtAll.dp hs)
end
theorem Dt.eqI {v : V} {i : Int} (h : Dt K H v (.int i)) : v = .int i := by cases h; rfl
theorem Dt.eqB {v : V} {b : Bool} (h : Dt K H v (.bool b)) : v = .bl b := by cases h; rfl
theorem Dt.eqN {v : V} (h : Dt K H v .none) : v = .non := by cases h; rfl
theorem Dt.eqS {v : V} {x : Str} (h : Dt K H v (.str x)) : v = .str x := by cases h; rfl
theorem Dt.eqT {v : V} {ds : List PyData} (h : Dt K H v (.tuple ds)) : ∃ a xs, v = .ref a ∧ Tt K H a xs ∧ DtAll K H xs ds := by
  cases h with
  | tup h1 h2 => exact ⟨_, _, rfl, h1, h2⟩
theorem DtAll.len : ∀ {vs : List V} {ds : List PyData}, DtAll K H vs ds → vs.length = ds.length
  | _, _, .nil => rfl
  | _, _, .cons _ hs => congrArg Nat.succ (DtAll.len hs)
theorem DtAll.get : ∀ {vs : List V} {ds : List PyData} {i : Nat} {v : V}, DtAll K H vs ds → vs[i]? = some v → ∃ d, ds[i]? = some d ∧ Dt K H v d
  | _, _, i, v, .nil, e => by simp at e
  | _, _, 0, v, .cons h _, e => by
    simp at e
    subst e
    exact ⟨_, rfl, h⟩
  | _, _, i + 1, v, .cons _ hs, e => by
    obtain ⟨d, h1, h2⟩ := DtAll.get (i := i) hs (by simpa using e)
    exact ⟨d, by simpa using h1, h2⟩
theorem DtAll.at_ : ∀ {vs : List V} {ds : List PyData} {i : Nat} {d : PyData}, DtAll K H vs ds → ds[i]? = some d → ∃ v, vs[i]? = some v ∧ Dt K H v d
  | _, _, i, v, .nil, e => by simp at e
  | _, _, 0, v, .cons h _, e => by
    simp at e
    subst e
    exact ⟨_, rfl, h⟩
  | _, _, i + 1, v, .cons _ hs, e => by
    obtain ⟨d, h1, h2⟩ := DtAll.at_ (i := i) hs (by simpa using e)
    exact ⟨d, by simpa using h1, h2⟩
theorem DtAll.ints : ∀ {ns : List Int}, DtAll K H (ns.map V.int) (ns.map PyData.int)
  | [] => .nil
  | n :: ns => .cons (.int n) (DtAll.ints (ns := ns))
theorem DtAll.eqInts : ∀ {ns : List Int} {vs : List V}, DtAll K H vs (ns.map PyData.int) → vs = ns.map V.int
  | [], _, .nil => rfl
  | n :: ns, _, .cons h hs => by rw [h.eqI, DtAll.eqInts hs]; rfl
theorem DtAll.append : ∀ {vs ws : List V} {ds es : List PyData}, DtAll K H vs ds → DtAll K H ws es → DtAll K H (vs ++ ws) (ds ++ es)
  | _, _, _, _, .nil, h => h
  | _, _, _, _, .cons h hs, h2 => .cons h (DtAll.append hs h2)
theorem DtAll.take : ∀ {vs : List V} {ds : List PyData} (n : Nat), DtAll K H vs ds → DtAll K H (vs.take n) (ds.take n)
  | _, _, 0, _ => .nil
  | _, _, _ + 1, .nil => .nil
  | _, _, n + 1, .cons h hs => .cons h (DtAll.take n hs)
theorem DtAll.drop : ∀ {vs : List V} {ds : List PyData} (n : Nat), DtAll K H vs ds → DtAll K H (vs.drop n) (ds.drop n)
  | _, _, 0, h => h
  | _, _, _ + 1, .nil => .nil
  | _, _, n + 1, .cons h hs => DtAll.drop n hs
end

/-! ### the state: H0 the entry's heap, A what may be changed of it, L the cells at hand, T data -/
def NotTup : HO → Prop
  | .tup _ => False
  | _ => True
structure Sv (K : PySem.W.Frag) (H0 : Hp) (A : List Addr) (H : Hp) (L : List (Addr × HO)) (T : List (V × PyData)) : Prop where
  keep : ∀ b o, H0 b = some o → b ∉ A → H b = some o
  tps : Tp H0 H
  nd : (L.map Prod.fst).Nodup
  own : ∀ c ∈ L, H c.1 = some c.2 ∧ (c.1 ∈ A ∨ H0 c.1 = none)
  dat : ∀ p ∈ T, Dt K H p.1 p.2
section
variable {K : PySem.W.Frag} {H0 H H' : Hp} {A : List Addr} {L F F' R : List (Addr × HO)} {T T' : List (V × PyData)} {a p : Addr} {o o' : HO} {xs : List V} {ds : List PyData} {Q : VK}
theorem perm_erase : ∀ (L : List (Addr × HO)) (k : Nat) (hk : k < L.length), List.Perm (L[k] :: L.eraseIdx k) L
  | c :: L, 0, _ => List.Perm.refl _
  | c :: L, k + 1, hk => (List.Perm.swap c _ _).trans ((perm_erase L k (by simpa using hk)).cons c)
theorem Sv.start (hn : (L.map Prod.fst).Nodup) (h : ∀ c ∈ L, H c.1 = some c.2) (hd : ∀ p ∈ T, Dt K H p.1 p.2) : Sv K H (L.map Prod.fst) H L T :=
  ⟨fun _ _ h _ => h, fun _ _ h => h, hn, fun c hc => ⟨h c hc, .inl (List.mem_map_of_mem hc)⟩, fun p hp => hd p hp⟩
theorem Sv.start0 : Sv K H [] H [] [] where
  keep := fun _ _ h _ => h
  tps := fun _ _ h => h
  nd := List.nodup_nil
  own := fun c hc => nomatch hc
  dat := fun c hc => nomatch hc
theorem Sv.at (st : Sv K H0 A H L T) (k : Nat) (h : L[k]? = some (a, o)) : H a = some o := (st.own _ (List.mem_of_getElem? h)).1
theorem Sv.d (st : Sv K H0 A H L T) (k : Nat) {v : V} {d : PyData} (h : T[k]? = some (v, d)) : Dt K H v d := st.dat _ (List.mem_of_getElem? h)
theorem Sv.old (st : Sv K H0 A H L T) (h : H0 a = some o) (ha : a ∉ A) : H a = some o := st.keep _ _ h ha
theorem Sv.oldL (st : Sv K H0 A H L T) (h : SqL K H0 a xs) (ha : a ∉ A) : SqL K H a xs := by
  rcases h with (h | ⟨o, h⟩) | h
  · exact .inl (.inl (st.keep _ _ h ha))
  · exact .inl (.inr ⟨o, st.keep _ _ h ha⟩)
  · exact .inr h
theorem Sv.oldD (st : Sv K H0 A H L T) {v : V} {d : PyData} (h : Dt K H0 v d) : Dt K H v d := h.mono st.tps
theorem Sv.sq (st : Sv K H0 A H L T) (k : Nat) (h : L[k]? = some (a, .lst xs)) : SqL K H a xs := .inl (.inl (st.at k h))
theorem Sv.perm (st : Sv K H0 A H L T) {L' : List (Addr × HO)} (h : List.Perm L' L) : Sv K H0 A H L' T :=
  ⟨st.keep, st.tps, (h.map _).nodup_iff.mpr st.nd, fun c hc => st.own c (h.mem_iff.mp hc), st.dat⟩
theorem Sv.sub (st : Sv K H0 A H L T) {L' : List (Addr × HO)} (h : List.Sublist L' L) : Sv K H0 A H L' T :=
  ⟨st.keep, st.tps, st.nd.sublist (h.map _), fun c hc => st.own c (h.mem hc), st.dat⟩
theorem Sv.addT (st : Sv K H0 A H L T) {v : V} {d : PyData} (h : Dt K H v d) : Sv K H0 A H L ((v, d) :: T) :=
  ⟨st.keep, st.tps, st.nd, st.own, fun c hc => by
    rcases List.mem_cons.mp hc with e | hc
    · rw [e]; exact h
    · exact st.dat c hc⟩
theorem Sv.setT (st : Sv K H0 A H L T) (T' : List (V × PyData)) (h : ∀ p ∈ T', Dt K H p.1 p.2) : Sv K H0 A H L T' := ⟨st.keep, st.tps, st.nd, st.own, h⟩
theorem Sv.noT (st : Sv K H0 A H L T) : Sv K H0 A H L [] := st.setT [] fun _ h => nomatch h
theorem tp_put (h : H a = some o) (n : NotTup o) : Tp H (upd H a o') := fun b xs hb => by
  rw [upd_ne (fun e => by subst e; rw [h] at hb; cases hb; exact n)]
  exact hb
theorem tp_new (h : H a = none) : Tp H (upd H a o') := fun b xs hb => by
  rw [upd_ne (fun e => by subst e; rw [h] at hb; cases hb)]
  exact hb
theorem Sv.put (st : Sv K H0 A H L T) (k : Nat) (h : L[k]? = some (a, o)) (n : NotTup o := by trivial) (o' : HO) : Sv K H0 A (upd H a o') (L.set k (a, o')) T := by
  obtain ⟨hk, e⟩ := List.getElem?_eq_some_iff.mp h
  have hm : (a, o) ∈ L := List.mem_of_getElem? h
  have own := st.own _ hm
  have ne : ∀ j c, L[j]? = some c → j ≠ k → c.1 ≠ a := fun j c hj hjk q => by
    obtain ⟨hj2, ej⟩ := List.getElem?_eq_some_iff.mp hj
    have h1 : (L.map Prod.fst)[j]? = some a := by rw [List.getElem?_map, hj, ← q]; rfl
    have h2 : (L.map Prod.fst)[k]? = some a := by rw [List.getElem?_map, h]; rfl
    obtain ⟨l1, e1⟩ := List.getElem?_eq_some_iff.mp h1
    obtain ⟨l2, e2⟩ := List.getElem?_eq_some_iff.mp h2
    exact hjk ((List.getElem_inj st.nd).mp (e1.trans e2.symm))
  refine ⟨fun b u hb hA => ?_, fun b xs hb => tp_put own.1 n b xs (st.tps b xs hb), ?_, fun c hc => ?_, fun q hq => (st.dat q hq).mono (tp_put own.1 n)⟩
  · rw [upd_ne]
    · exact st.keep b u hb hA
    · rintro rfl
      rcases own.2 with z | z
      · exact hA z
      · rw [hb] at z; cases z
  · have : (L.set k (a, o')).map Prod.fst = L.map Prod.fst := by
      rw [List.map_set]
      refine List.ext_getElem? fun j => ?_
      by_cases hj : j = k
      · subst hj
        rw [List.getElem?_set_self (by simpa using hk), List.getElem?_map, h]
        rfl
      · rw [List.getElem?_set_ne (Ne.symm hj)]
    rw [this]
    exact st.nd
  · obtain ⟨j, hj⟩ := List.mem_iff_getElem?.mp hc
    by_cases hjk : j = k
    · subst hjk
      rw [List.getElem?_set_self hk] at hj
      cases hj
      exact ⟨upd_same, own.2⟩
    · rw [List.getElem?_set_ne (Ne.symm hjk)] at hj
      have := st.own c (List.mem_of_getElem? hj)
      exact ⟨by rw [upd_ne (ne j c hj hjk)]; exact this.1, this.2⟩
theorem Sv.new (st : Sv K H0 A H L T) (hp : H p = none) (o : HO) : Sv K H0 A (upd H p o) ((p, o) :: L) T := by
  have ne : ∀ b u, H b = some u → b ≠ p := fun b u h e => by subst e; rw [hp] at h; cases h
  refine ⟨fun b u hb hA => ?_, fun b xs hb => tp_new hp b xs (st.tps b xs hb), ?_, fun c hc => ?_, fun q hq => (st.dat q hq).mono (tp_new hp)⟩
  · have := st.keep b u hb hA
    rw [upd_ne (ne b u this)]
    exact this
  · refine List.nodup_cons.mpr ⟨fun hm => ?_, st.nd⟩
    obtain ⟨c, hc, e⟩ := List.mem_map.mp hm
    exact ne _ _ (st.own c hc).1 e
  · rcases List.mem_cons.mp hc with rfl | hc
    · refine ⟨upd_same, ?_⟩
      cases e : H0 p with
      | none => exact .inr rfl
      | some u =>
        refine .inl ?_
        by_cases hA : p ∈ A
        · exact hA
        · exact absurd rfl (ne _ _ (st.keep p u e hA))
    · have := st.own c hc
      exact ⟨by rw [upd_ne (ne _ _ this.1)]; exact this.1, this.2⟩
theorem Sv.newT (st : Sv K H0 A H L T) (hp : H p = none) (hd : DtAll K H xs ds) : Sv K H0 A (upd H p (.tup xs)) L ((.ref p, .tuple ds) :: T) := by
  have ne : ∀ b u, H b = some u → b ≠ p := fun b u h e => by subst e; rw [hp] at h; cases h
  refine ⟨fun b u hb hA => ?_, fun b xs hb => tp_new hp b xs (st.tps b xs hb), st.nd, fun c hc => ?_, fun q hq => ?_⟩
  · have := st.keep b u hb hA
    rw [upd_ne (ne b u this)]
    exact this
  · have := st.own c hc
    exact ⟨by rw [upd_ne (ne _ _ this.1)]; exact this.1, this.2⟩
  · rcases List.mem_cons.mp hq with rfl | hq
    · exact .tup (.inl upd_same) (hd.mono (tp_new hp))
    · exact (st.dat q hq).mono (tp_new hp)
/-- behind a call that was given the cells F -/
theorem Sv.call (st : Sv K H0 A H (F ++ R) T) (h : Sv K H (F.map Prod.fst) H' F' T') : Sv K H0 A H' (F' ++ R) (T' ++ T) := by
  have hF : ∀ b, b ∈ F.map Prod.fst → b ∈ A ∨ H0 b = none := fun b hb => by
    obtain ⟨c, hc, e⟩ := List.mem_map.mp hb
    have := (st.own c (List.mem_append_left _ hc)).2
    rw [e] at this
    exact this
  have hR : ∀ c ∈ R, c.1 ∉ F.map Prod.fst := fun c hc hm => by
    have nd := st.nd
    rw [List.map_append, List.nodup_append] at nd
    exact nd.2.2 _ hm _ (List.mem_map_of_mem hc) rfl
  refine ⟨fun b u hb hA => ?_, fun b xs hb => h.tps b xs (st.tps b xs hb), ?_, fun c hc => ?_, fun q hq => ?_⟩
  · refine h.keep b u (st.keep b u hb hA) fun hm => ?_
    rcases hF b hm with z | z
    · exact hA z
    · rw [hb] at z; cases z
  · rw [List.map_append, List.nodup_append]
    have nd := st.nd
    rw [List.map_append, List.nodup_append] at nd
    refine ⟨h.nd, nd.2.1, fun x hx y hy e => ?_⟩
    subst e
    obtain ⟨c, hc, e⟩ := List.mem_map.mp hx
    obtain ⟨c2, hc2, e2⟩ := List.mem_map.mp hy
    have h1 := (st.own c2 (List.mem_append_right _ hc2)).1
    rcases (h.own c hc).2 with z | z
    · rw [e] at z
      exact hR c2 hc2 (by rw [e2]; exact z)
    · rw [e, ← e2, h1] at z
      cases z
  · rcases List.mem_append.mp hc with hc | hc
    · have := h.own c hc
      refine ⟨this.1, ?_⟩
      rcases this.2 with z | z
      · exact hF _ z
      · cases e : H0 c.1 with
        | none => exact .inr rfl
        | some u =>
          refine .inl ?_
          by_cases hA : c.1 ∈ A
          · exact hA
          · rw [st.keep _ u e hA] at z; cases z
    · have := st.own c (List.mem_append_right _ hc)
      exact ⟨h.keep _ _ this.1 (hR c hc), this.2⟩
  · rcases List.mem_append.mp hq with hq | hq
    · exact h.dat q hq
    · exact (st.dat q hq).mono h.tps
theorem Sv.call0 (st : Sv K H0 A H L T) (h : Sv K H [] H' F' T') : Sv K H0 A H' (F' ++ L) (T' ++ T) := Sv.call (F := []) (R := L) st h
/-- to the front -/
theorem Sv.pull (st : Sv K H0 A H L T) (k : Nat) {c : Addr × HO} (h : L[k]? = some c) : Sv K H0 A H (c :: L.eraseIdx k) T := by
  obtain ⟨hk, e⟩ := List.getElem?_eq_some_iff.mp h
  refine st.perm ?_
  rw [← e]
  exact (perm_erase L k hk)
/-- a display -/
theorem Sv.mkL (st : Sv K H0 A H L T) (hl : xs.length ≤ sizeLine) (k : ∀ p H', Sv K H0 A H' ((p, .lst xs) :: L) T → Q (.ref p) H') : xs.length ≤ sizeLine ∧ ∀ p, H p = none → Q (.ref p) (upd H p (.lst xs)) :=
  ⟨hl, fun p hp => k p _ (st.new hp _)⟩
theorem Sv.mkL0 (st : Sv K H0 A H L T) (k : ∀ p H', Sv K H0 A H' ((p, .lst xs) :: L) T → Q (.ref p) H') : ∀ p, H p = none → Q (.ref p) (upd H p (.lst xs)) :=
  fun p hp => k p _ (st.new hp _)
theorem Sv.mkT (st : Sv K H0 A H L T) (hd : DtAll K H xs ds) (hl : xs.length ≤ sizeLine) (k : ∀ p H', Sv K H0 A H' L ((.ref p, .tuple ds) :: T) → Q (.ref p) H') : xs.length ≤ sizeLine ∧ ∀ p, H p = none → Q (.ref p) (upd H p (.tup xs)) :=
  ⟨hl, fun p hp => k p _ (st.newT hp hd)⟩
theorem Sv.mkT0 (st : Sv K H0 A H L T) (hd : DtAll K H xs ds) (k : ∀ p H', Sv K H0 A H' L ((.ref p, .tuple ds) :: T) → Q (.ref p) H') : ∀ p, H p = none → Q (.ref p) (upd H p (.tup xs)) :=
  fun p hp => k p _ (st.newT hp hd)
end

/-! ### tests whose answer is open -/
theorem iteB {c : Bool} {A B : Prop} (h1 : c = true → A) (h2 : c = false → B) : if c = true then A else B := by
  cases c with
  | true => exact h1 rfl
  | false => exact h2 rfl
theorem iteD {p : Prop} [Decidable p] {A B : Prop} (h1 : p → A) (h2 : ¬ p → B) : if decide p = true then A else B :=
  iteB (fun h => h1 (of_decide_eq_true h)) (fun h => h2 (of_decide_eq_false h))
theorem iteND {p : Prop} [Decidable p] {A B : Prop} (h1 : ¬ p → A) (h2 : p → B) : if (!decide p) = true then A else B :=
  iteB (fun h => h1 (by simpa using h)) (fun h => h2 (by simpa using h))
end Wk

namespace Wk
open PySem PySem.Spec PyProof.Rows L2
/-- the def at f keeps the promise sp -/
def Fok (P : Program) (w : World) (K : PySem.W.Frag) (mg : Str → Option Value) (base : Heap) (k : Nat) (f : Addr) (ps : List Str) (sp : Sp) : Prop :=
  ∃ fd, FnOk P w K mg base (L2.CX P w) k f fd ps sp ∧ ∃ oc od osl, K.lookup f = some ⟨oc, od, .func fd, osl⟩
theorem fun_lk {K : PySem.W.Frag} {x qual : Str} {params : Arguments} {body : List Stmt} {scope : Scope} {dvs : List V} {kws : List (Str × V)} {f : Addr} {fd : FuncData} (F : FunD K x qual params body scope dvs kws f fd) : ∃ oc od osl, K.lookup f = some ⟨oc, od, .func fd, osl⟩ := by
  obtain ⟨oc, od, dV, kV, doc, pm, an, cdv, ct, osl, _, lk, _⟩ := F.ex
  exact ⟨oc, od, osl, lk⟩
theorem fok_same {P : Program} {w : World} {K : PySem.W.Frag} {mg : Str → Option Value} {base : Heap} {k : Nat} {ps : List Str} {sp : Sp} {x qual : Str} {params : Arguments} {body : List Stmt} {scope : Scope} {dvs : List V} {kws : List (Str × V)} {f : Addr} {fd : FuncData} (F : FunD K x qual params body scope dvs kws f fd) (O : Fok P w K mg base k f ps sp) : FnOk P w K mg base (L2.CX P w) k f fd ps sp := by
  obtain ⟨fd2, G, oc, od, osl, l2⟩ := O
  obtain ⟨oc', od', osl', l1⟩ := fun_lk F
  rw [l1] at l2
  cases l2
  exact G
/-- .. the law -/
def FokA (P : Program) (w : World) (K : PySem.W.Frag) (mg : Str → Option Value) (base : Heap) (k : Nat) (f : Addr) (ps : List Str) (sp : Sp) : Prop :=
  ∀ fd, (∃ st qual x, FunD K x qual (defArgs st) (defBody st) (defScope st) [] [] f fd) → FnOk P w K mg base (L2.CX P w) k f fd ps sp
@[irreducible] def mkLst (xs : List V) (H : Hp) (Q : VK) : Prop := xs.length ≤ sizeLine ∧ ∀ p, H p = none → Q (.ref p) (upd H p (.lst xs))
@[irreducible] def mkTup (xs : List V) (H : Hp) (Q : VK) : Prop := xs.length ≤ sizeLine ∧ ∀ p, H p = none → Q (.ref p) (upd H p (.tup xs))
def cLst (t : TA) : TE := fun σ H Q => t σ H fun xs H1 => mkLst xs H1 Q
def cTup (t : TA) : TE := fun σ H Q => t σ H fun xs H1 => mkTup xs H1 Q
theorem cLst_eq (t : TA) : cLst t = tLst t := by
  funext σ H Q
  unfold cLst tLst
  congr 1
  funext xs H1
  unfold mkLst
  rfl
theorem cTup_eq (t : TA) : cTup t = tTup t := by
  funext σ H Q
  unfold cTup tTup
  congr 1
  funext xs H1
  unfold mkTup
  rfl
theorem eLst {X : Cx} {es : List Expr} {t : TA} {pos : Pos} (h : PA X es t) : PE X (.List es pos) (cLst t) := by
  rw [cLst_eq]
  exact pe_lst h
theorem eTup {X : Cx} {es : List Expr} {t : TA} {pos : Pos} {x1} (h : PA X es t) : PE X (.Tuple es x1 pos) (cTup t) := by
  rw [cTup_eq]
  exact pe_tup h
/-! ### promises by their arguments -/
abbrev Sp0 := Hp → VK → XK → Prop
def mk0 (f : Sp0) : Sp := fun vs H Q E => match vs with
  | [] => f  H Q E
  | _ => False
theorem mk0_len {f : Sp0} {vs : List V} {H : Hp} {Q : VK} {E : XK} (h : mk0 f vs H Q E) : vs.length = 0 := by
  unfold mk0 at h
  split at h
  · rfl
  · exact h.elim
theorem mk0_at {f : Sp0} {vs : List V} {H : Hp} {Q : VK} {E : XK} (h : mk0 f vs H Q E) : vs = [] ∧ f H Q E := by
  unfold mk0 at h
  split at h
  · exact ⟨rfl, h⟩
  · exact h.elim
abbrev Sp1 := V → Hp → VK → XK → Prop
def mk1 (f : Sp1) : Sp := fun vs H Q E => match vs with
  | [a0] => f a0 H Q E
  | _ => False
theorem mk1_len {f : Sp1} {vs : List V} {H : Hp} {Q : VK} {E : XK} (h : mk1 f vs H Q E) : vs.length = 1 := by
  unfold mk1 at h
  split at h
  · rfl
  · exact h.elim
theorem mk1_at {f : Sp1} {vs : List V} {H : Hp} {Q : VK} {E : XK} (h : mk1 f vs H Q E) : ∃ a0, vs = [a0] ∧ f a0 H Q E := by
  unfold mk1 at h
  split at h
  · exact ⟨_, rfl, h⟩
  · exact h.elim
abbrev Sp2 := V → V → Hp → VK → XK → Prop
def mk2 (f : Sp2) : Sp := fun vs H Q E => match vs with
  | [a0, a1] => f a0 a1 H Q E
  | _ => False
theorem mk2_len {f : Sp2} {vs : List V} {H : Hp} {Q : VK} {E : XK} (h : mk2 f vs H Q E) : vs.length = 2 := by
  unfold mk2 at h
  split at h
  · rfl
  · exact h.elim
theorem mk2_at {f : Sp2} {vs : List V} {H : Hp} {Q : VK} {E : XK} (h : mk2 f vs H Q E) : ∃ a0 a1, vs = [a0, a1] ∧ f a0 a1 H Q E := by
  unfold mk2 at h
  split at h
  · exact ⟨_, _, rfl, h⟩
  · exact h.elim
abbrev Sp3 := V → V → V → Hp → VK → XK → Prop
def mk3 (f : Sp3) : Sp := fun vs H Q E => match vs with
  | [a0, a1, a2] => f a0 a1 a2 H Q E
  | _ => False
theorem mk3_len {f : Sp3} {vs : List V} {H : Hp} {Q : VK} {E : XK} (h : mk3 f vs H Q E) : vs.length = 3 := by
  unfold mk3 at h
  split at h
  · rfl
  · exact h.elim
theorem mk3_at {f : Sp3} {vs : List V} {H : Hp} {Q : VK} {E : XK} (h : mk3 f vs H Q E) : ∃ a0 a1 a2, vs = [a0, a1, a2] ∧ f a0 a1 a2 H Q E := by
  unfold mk3 at h
  split at h
  · exact ⟨_, _, _, rfl, h⟩
  · exact h.elim
abbrev Sp4 := V → V → V → V → Hp → VK → XK → Prop
def mk4 (f : Sp4) : Sp := fun vs H Q E => match vs with
  | [a0, a1, a2, a3] => f a0 a1 a2 a3 H Q E
  | _ => False
theorem mk4_len {f : Sp4} {vs : List V} {H : Hp} {Q : VK} {E : XK} (h : mk4 f vs H Q E) : vs.length = 4 := by
  unfold mk4 at h
  split at h
  · rfl
  · exact h.elim
theorem mk4_at {f : Sp4} {vs : List V} {H : Hp} {Q : VK} {E : XK} (h : mk4 f vs H Q E) : ∃ a0 a1 a2 a3, vs = [a0, a1, a2, a3] ∧ f a0 a1 a2 a3 H Q E := by
  unfold mk4 at h
  split at h
  · exact ⟨_, _, _, _, rfl, h⟩
  · exact h.elim
abbrev Sp5 := V → V → V → V → V → Hp → VK → XK → Prop
def mk5 (f : Sp5) : Sp := fun vs H Q E => match vs with
  | [a0, a1, a2, a3, a4] => f a0 a1 a2 a3 a4 H Q E
  | _ => False
theorem mk5_len {f : Sp5} {vs : List V} {H : Hp} {Q : VK} {E : XK} (h : mk5 f vs H Q E) : vs.length = 5 := by
  unfold mk5 at h
  split at h
  · rfl
  · exact h.elim
theorem mk5_at {f : Sp5} {vs : List V} {H : Hp} {Q : VK} {E : XK} (h : mk5 f vs H Q E) : ∃ a0 a1 a2 a3 a4, vs = [a0, a1, a2, a3, a4] ∧ f a0 a1 a2 a3 a4 H Q E := by
  unfold mk5 at h
  split at h
  · exact ⟨_, _, _, _, _, rfl, h⟩
  · exact h.elim
abbrev Sp6 := V → V → V → V → V → V → Hp → VK → XK → Prop
def mk6 (f : Sp6) : Sp := fun vs H Q E => match vs with
  | [a0, a1, a2, a3, a4, a5] => f a0 a1 a2 a3 a4 a5 H Q E
  | _ => False
theorem mk6_len {f : Sp6} {vs : List V} {H : Hp} {Q : VK} {E : XK} (h : mk6 f vs H Q E) : vs.length = 6 := by
  unfold mk6 at h
  split at h
  · rfl
  · exact h.elim
theorem mk6_at {f : Sp6} {vs : List V} {H : Hp} {Q : VK} {E : XK} (h : mk6 f vs H Q E) : ∃ a0 a1 a2 a3 a4 a5, vs = [a0, a1, a2, a3, a4, a5] ∧ f a0 a1 a2 a3 a4 a5 H Q E := by
  unfold mk6 at h
  split at h
  · exact ⟨_, _, _, _, _, _, rfl, h⟩
  · exact h.elim
abbrev Sp7 := V → V → V → V → V → V → V → Hp → VK → XK → Prop
def mk7 (f : Sp7) : Sp := fun vs H Q E => match vs with
  | [a0, a1, a2, a3, a4, a5, a6] => f a0 a1 a2 a3 a4 a5 a6 H Q E
  | _ => False
theorem mk7_len {f : Sp7} {vs : List V} {H : Hp} {Q : VK} {E : XK} (h : mk7 f vs H Q E) : vs.length = 7 := by
  unfold mk7 at h
  split at h
  · rfl
  · exact h.elim
theorem mk7_at {f : Sp7} {vs : List V} {H : Hp} {Q : VK} {E : XK} (h : mk7 f vs H Q E) : ∃ a0 a1 a2 a3 a4 a5 a6, vs = [a0, a1, a2, a3, a4, a5, a6] ∧ f a0 a1 a2 a3 a4 a5 a6 H Q E := by
  unfold mk7 at h
  split at h
  · exact ⟨_, _, _, _, _, _, _, rfl, h⟩
  · exact h.elim
abbrev Sp8 := V → V → V → V → V → V → V → V → Hp → VK → XK → Prop
def mk8 (f : Sp8) : Sp := fun vs H Q E => match vs with
  | [a0, a1, a2, a3, a4, a5, a6, a7] => f a0 a1 a2 a3 a4 a5 a6 a7 H Q E
  | _ => False
theorem mk8_len {f : Sp8} {vs : List V} {H : Hp} {Q : VK} {E : XK} (h : mk8 f vs H Q E) : vs.length = 8 := by
  unfold mk8 at h
  split at h
  · rfl
  · exact h.elim
theorem mk8_at {f : Sp8} {vs : List V} {H : Hp} {Q : VK} {E : XK} (h : mk8 f vs H Q E) : ∃ a0 a1 a2 a3 a4 a5 a6 a7, vs = [a0, a1, a2, a3, a4, a5, a6, a7] ∧ f a0 a1 a2 a3 a4 a5 a6 a7 H Q E := by
  unfold mk8 at h
  split at h
  · exact ⟨_, _, _, _, _, _, _, _, rfl, h⟩
  · exact h.elim
abbrev Sp9 := V → V → V → V → V → V → V → V → V → Hp → VK → XK → Prop
def mk9 (f : Sp9) : Sp := fun vs H Q E => match vs with
  | [a0, a1, a2, a3, a4, a5, a6, a7, a8] => f a0 a1 a2 a3 a4 a5 a6 a7 a8 H Q E
  | _ => False
theorem mk9_len {f : Sp9} {vs : List V} {H : Hp} {Q : VK} {E : XK} (h : mk9 f vs H Q E) : vs.length = 9 := by
  unfold mk9 at h
  split at h
  · rfl
  · exact h.elim
theorem mk9_at {f : Sp9} {vs : List V} {H : Hp} {Q : VK} {E : XK} (h : mk9 f vs H Q E) : ∃ a0 a1 a2 a3 a4 a5 a6 a7 a8, vs = [a0, a1, a2, a3, a4, a5, a6, a7, a8] ∧ f a0 a1 a2 a3 a4 a5 a6 a7 a8 H Q E := by
  unfold mk9 at h
  split at h
  · exact ⟨_, _, _, _, _, _, _, _, _, rfl, h⟩
  · exact h.elim
/-! ### methods of lists -/
@[irreducible] def aAppend : V → List V → Hp → VK → Prop := rAppend
theorem mAppend {X : Cx} : MtR X "list.append" aAppend := by
  unfold aAppend
  exact mt_append
@[irreducible] def aPop : V → List V → Hp → VK → Prop := rPop
theorem mPop {X : Cx} : MtR X "list.pop" aPop := by
  unfold aPop
  exact mt_pop
@[irreducible] def aPopAt : V → List V → Hp → VK → Prop := rPopAt
theorem mPopAt {X : Cx} : MtR X "list.pop" aPopAt := by
  unfold aPopAt
  exact mt_popAt
@[irreducible] def aExtend : V → List V → Hp → VK → Prop := rExtend
theorem mExtend {X : Cx} : MtR X "list.extend" aExtend := by
  unfold aExtend
  exact mt_extend
@[irreducible] def aClear : V → List V → Hp → VK → Prop := rClear
theorem mClear {X : Cx} : MtR X "list.clear" aClear := by
  unfold aClear
  exact mt_clear
@[irreducible] def aReverse : V → List V → Hp → VK → Prop := rReverse
theorem mReverse {X : Cx} : MtR X "list.reverse" aReverse := by
  unfold aReverse
  exact mt_reverse
section
variable {X : Cx}
def cBits (to : TE) : TE := fun σ H Q => to σ H fun x H1 => match x with
  | .int i => Q (.int (Builtin.Int.intBits i : Nat)) H1
  | _ => False
theorem eBits {o : Expr} {to : TE} {apos pos : Pos} (ho : PE X o to) (hbase : attributeBase o "bit_length" X.env (eval o X.env) = eval o X.env := by rfl) (hline : (apos.endLine == pos.line) = true := by rfl) : PE X (.Call (.Attribute o "bit_length" apos) [] [] pos) (cBits to) := by
  refine ⟨fun pins s σ H Q I h => ?_⟩
  have h2 : PE X o (fun σ H Q' => to σ H fun x H1 => match x with | .int i => Q' (.int i) H1 | _ => False) := ⟨fun pins s σ H Q' I q' => thn (ho.run pins s σ H _ I q') fun v s1 ⟨x, H1, I1, r1, q1⟩ => by
    cases x <;> first
      | exact (show False from q1).elim
      | exact ⟨_, H1, I1, r1, q1⟩⟩
  refine (pe_bits h2 hbase hline).run pins s σ H Q I ?_
  have e : (fun (x : V) (H1 : Hp) => match x with | .int i => Q (.int (Builtin.Int.intBits i : Nat)) H1 | _ => False) = fun x H1 => (match x with | .int i => (∃ j, V.int i = .int j ∧ Q (.int (Builtin.Int.intBits j : Nat)) H1) | _ => False) := by
    funext x H1
    cases x <;> first
      | rfl
      | (refine propext ⟨fun h => ⟨_, rfl, h⟩, fun ⟨j, e, h⟩ => ?_⟩
         injection e with e
         subst e
         exact h)
  show to σ H (fun x H1 => (match x with | .int i => (∃ j, V.int i = .int j ∧ Q (.int (Builtin.Int.intBits j : Nat)) H1) | _ => False))
  rw [← e]
  exact h
def cPar (i j : Nat) (ta : TA) : TS := fun D σ H => ta σ H fun vs H1 => match vs with
  | [v, w] => setK σ i (some v) fun σ1 => setK σ1 j (some w) fun σ2 => D.nx σ2 H1
  | _ => False
theorem par_at {vs : List V} {f : V → V → Prop} (q : match vs with | [v, w] => f v w | _ => False) : ∃ v w, vs = [v, w] ∧ f v w := by
  split at q
  · exact ⟨_, _, rfl, q⟩
  · exact q.elim
theorem sPar {i j : Nat} {x y : Str} {a b : Expr} {ta : TA} {px py pt : Pos} {kt k2 pt2 pos} (hN : X.N.Nodup) (ha : PA X [a, b] ta) (hc : X.calm = true := by rfl) (hi : X.N[i]? = some x := by rfl) (hj : X.N[j]? = some y := by rfl) (hij : i ≠ j := by decide)
    (hx : X.env.scope.names.lookup x = some .local := by rfl) (hy : X.env.scope.names.lookup y = some .local := by rfl)
    (hs : swappedStores [.Tuple [.Name x px, .Name y py] kt pt] (.Tuple [a, b] k2 pt2) X.env = pure (some [x, y]) := by rfl) (hs2 : swapsWithSole [.Tuple [.Name x px, .Name y py] kt pt] (.Tuple [a, b] k2 pt2) pos.line X.env = pure false := by rfl) : PS X (.Assign [.Tuple [.Name x px, .Name y py] kt pt] (.Tuple [a, b] k2 pt2) pos) (cPar i j ta) := by
  have g : PA X [a, b] (fun σ H Q => ta σ H fun vs H1 => match vs with | [v, w] => Q [v, w] H1 | _ => False) := ⟨fun ps pins s σ H Q I h => thn (ha.run ps pins s σ H _ I h) fun us s1 ⟨vs, H1, I1, r1, q1⟩ => by
    dsimp only at q1
    split at q1
    · exact ⟨_, H1, I1, r1, q1⟩
    · exact q1.elim⟩
  refine ⟨fun pins s σ H D I h => (ps_par hc hN hi hj hij hx hy g hs hs2).run pins s σ H D I ?_⟩
  have e : (fun (vs : List V) (H1 : Hp) => match vs with | [v, w] => setK σ i (some v) fun σ1 => setK σ1 j (some w) fun σ2 => D.nx σ2 H1 | _ => False) = fun vs H1 => (match vs with | [v, w] => (∃ v' w', [v, w] = [v', w'] ∧ D.nx ((σ.set i (some v')).set j (some w')) H1) | _ => False) := by
    funext vs H1
    split
    · rw [setK_eq, setK_eq]
      refine propext ⟨fun h => ⟨_, _, rfl, h⟩, fun ⟨v', w', e, h⟩ => ?_⟩
      injection e with e1 e
      injection e with e2 e
      subst e1 e2
      exact h
    · rfl
  show ta σ H (fun vs H1 => (match vs with | [v, w] => (∃ v' w', [v, w] = [v', w'] ∧ D.nx ((σ.set i (some v')).set j (some w')) H1) | _ => False))
  rw [← e]
  exact h
def rgC (i c : Int) (n : Nat) : List V := (List.range n).map fun k => V.int (i + (k : Nat) * c)
theorem vals_rgC {a c : Int} {n : Nat} {acc : Array Value} (h : ItemsOf (fun i v => ∃ t, v = .int (a + i * c) t) acc n) : Vals (rgC a c n) acc.toList := by
  have e : acc.toList.length = n := by rw [Array.length_toList]; exact h.1
  unfold rgC
  rw [← e]
  refine vals_of_get acc.toList _ fun j u hj => ?_
  obtain ⟨t, rfl⟩ := h.2 j u (by rw [← hj, Array.getElem?_toList])
  exact ⟨t, rfl⟩
/-- a new list, however long -/
@[irreducible] def nwLst (xs : List V) (H : Hp) (Q : VK) : Prop := ∀ q, H q = none → Q (.ref q) (upd H q (.lst xs))
theorem nw_at {xs : List V} {H : Hp} {Q : VK} (h : nwLst xs H Q) : ∀ q, H q = none → Q (.ref q) (upd H q (.lst xs)) := by
  unfold nwLst at h
  exact h
/-- list(range(..)) -/
def cLRg (ta : TA) : TE := fun σ H Q => ta σ H fun vs H1 => match vs with
  | [.int j] => RgOk 0 j ∧ nwLst (rgC 0 1 j.toNat) H1 Q
  | [.int i, .int j] => RgOk i j ∧ nwLst (rgC i 1 (j - i).toNat) H1 Q
  | [.int i, .int j, .int c] => ∃ n, RgC i j c n ∧ n ≤ 2 ^ 24 ∧ nwLst (rgC i c n) H1 Q
  | _ => False
theorem lrg_fin {pins : List (Addr × Obj)} {σ : L2.St} {H1 : Hp} {s1 : Shared} {Q : VK} {r : Addr} {a b c : Int} {t u v : Tok} {n : Nat} (hc : X.calm = true) (I1 : Inv X pins σ H1 s1) (hr : IsRange s1.heap r a b c t u v) (h1 : Builtin.Range.small a b c = true) (h2 : Builtin.Range.rangeSize a b c = n) (h3 : n ≤ 2 ^ 24)
    (q : ∀ q, H1 q = none → Q (.ref q) (upd H1 q (.lst (rgC a c n)))) : wpAny (model X.prog X.w) X.A (call (.type "list") [.ref r]) (EP X pins σ Q) X.xe s1 := by
  refine call_list_range (n := n) (I1.ok.hd hc) hr h1 h2 h3 fun h' tk acc c' hk e' hi => ?_
  refine ⟨.ref s1.heap.objs.size, upd H1 s1.heap.objs.size (.lst (rgC a c n)), I1.laid hk (Nat.le_refl _) (show ObjOk X.prog X.w _ _ _ (.lst (rgC a c n)) from ⟨?_, acc.toList, c', vals_rgC hi, ?_⟩), rfl, q _ (I1.hok.fresh (Nat.le_refl _))⟩
  · unfold rgC
    rw [List.length_map, List.length_range, sizeLine_eq]; omega
  · rw [Array.toArray_toList]; exact e'
theorem eLRg {es : List Expr} {e1 : Expr} {ta : TA} {p p2 pos pos2 : Pos} (hc : X.calm = true) (hg : Gl X "list") (hm : X.mg "list" = none) (hg2 : Gl X "range") (hm2 : X.mg "range" = none) (ha : PA X (e1 :: es) ta)
    (na : starEach [.Call (.Name "range" p2) (e1 :: es) [] pos2] X.env = (false, eval (.Call (.Name "range" p2) (e1 :: es) [] pos2) X.env) :: starEach [] X.env := by rfl)
    (he : starEach (e1 :: es) X.env = (false, eval e1 X.env) :: starEach es X.env := by rfl) (hpl : (backTo pos2 (starEach es X.env)).any (·.1) = false := by rfl) :
    PE X (.Call (.Name "list" p) [.Call (.Name "range" p2) (e1 :: es) [] pos2] [] pos) (cLRg ta) := by
  refine ⟨fun pins s σ H Q I h => ?_⟩
  refine Call_ (ld_blt I hg hm boot_list (PyProof.Rows.callWith_type1 (args_cons ?_ na) na))
  refine Call_ (ld_blt I hg2 hm2 boot_range (PyProof.Rows.callWith_type1 (thn (ha.run pos2 pins s σ H _ I h) fun us s1 ⟨vs, H1, I1, r1, q1⟩ => ?_) he hpl))
  dsimp only at q1
  split at q1
  · obtain ⟨⟨b1, b2, b3, b4, b5⟩, q⟩ := q1
    cases r1 with
    | cons r rr =>
      cases rr
      obtain ⟨t, rfl⟩ := r
      refine call_range_1 (args_nil ?_)
      refine lrg_fin hc (I1.kept fun b u e => Heap.get?_push_of_some _ e) (IsRange.new _ _ _ _ _ _ _) (small_one b1 b2 b3 b4) ?_ ?_ (nw_at q)
      · rw [rangeSize_nat, Int.sub_zero]
      · rw [Int.sub_zero] at b5
        exact b5
  · obtain ⟨⟨b1, b2, b3, b4, b5⟩, q⟩ := q1
    cases r1 with
    | cons r rr =>
      cases rr with
      | cons r' rr =>
        cases rr
        obtain ⟨t, rfl⟩ := r
        obtain ⟨t', rfl⟩ := r'
        refine call_range_2 (args_nil ?_)
        exact lrg_fin hc (I1.kept fun b u e => Heap.get?_push_of_some _ e) (IsRange.new _ _ _ _ _ _ _) (small_one b1 b2 b3 b4) (rangeSize_nat _ _) b5 (nw_at q)
  · obtain ⟨n, ⟨c0, c1, c2, c3⟩, b5, q⟩ := q1
    cases r1 with
    | cons r rr =>
      cases rr with
      | cons r' rr =>
        cases rr with
        | cons r'' rr =>
          cases rr
          obtain ⟨t, rfl⟩ := r
          obtain ⟨t', rfl⟩ := r'
          obtain ⟨t'', rfl⟩ := r''
          refine call_range_3 c0 (args_nil ?_) (.inl (PyProof.noPylong_small c1))
          exact lrg_fin hc (I1.kept (t' := s1.toks) fun b u e => Heap.get?_push_of_some _ e) (IsRange.new _ _ _ _ _ _ _) c2 c3 b5 (nw_at q)
  · exact q1.elim
end
section
variable {P : Program} {w : World} {K : PySem.W.Frag} {mg : Str → Option Value}
theorem cx_none (H : Hp) (s : Shared) (e : Value) (s' : Shared) : L2.CX P w [] H s (fun _ _ _ => False) e s' → False := fun h => by
  obtain ⟨_, _, _, _, _, _, _, _, _, _, _, _, z⟩ := h
  exact z.elim
theorem walk_ofE2 {l : PySem.W.OpenLaw} {n k : Nat} {q : Program} {loose : List Str} {XP : (Str → Option Value) → Heap → Prop} {YP : World → Heap → Prop} {d : DefRec} {x : Str}
    (hn : l.most = some n) (hn2 : n ≤ sizeLine) (hdf : d.params.defaults = []) (hr : Room k callerA)
    (F : ∀ (w : World) (mg : Str → Option Value) (fa : Addr) (h : Heap), YP w h → h.Ns mainGlobals mg → mg d.name = some (.ref fa) →
      ∃ (K : PySem.W.Frag) (fd : FuncData) (sp : Sp), K.In h ∧ (∀ (s : Shared) (u : Value), BindsTo s fd ⟨[u], []⟩ [(x, u)]) ∧
        (∀ (H : Hp) (a : Addr) (ns : List Int), ns.length ≤ n → Only H → SqL K H a (ns.map V.int) → sp [.ref a] H (fun v _ => v = .bl true) fun _ _ _ => False) ∧
        ∀ base : Heap, K.In base → base.Ns mainGlobals mg → FnOk l.prog w K mg base (L2.CX l.prog w) k fa fd [x] sp) :
    PySem.W.WalkO q loose XP YP l.row.toRowW d [] (fun f vs => PySem.call f vs) := by
  refine Att.attach_call hn hdf fun w s₀ s₁ mg mb fa o pm cd doc a vs ns G Y ho hd hcd hmg hobj hints hlen hg => ?_
  obtain ⟨K, fd, sp, KX, hb, hsp, hF⟩ := F w mg fa _ Y G.T.g hmg
  exact law_call KX G.T.g G.T.b G.T.builtins G.T.nolimit hg hobj hints (Nat.le_trans hlen hn2) hr hF hb (fun H hO hS => hsp H a ns hlen hO hS) fun H e s' => cx_none H s₁ e s'
end
end Wk

namespace Wk
open PySem PySem.Spec PyProof.Rows L2
def Cells (H : Hp) (L : List (Addr × HO)) : Prop := (L.map Prod.fst).Nodup ∧ ∀ c ∈ L, H c.1 = some c.2
section
variable {K : PySem.W.Frag} {H0 H H' : Hp} {A : List Addr} {L F R : List (Addr × HO)} {T : List (V × PyData)} {a : Addr} {xs : List V}
theorem Sv.cells (st : Sv K H0 A H L T) : Cells H L := ⟨st.nd, fun c hc => (st.own c hc).1⟩
theorem Sv.cellsF (st : Sv K H0 A H (F ++ R) T) : Cells H F := (st.sub (List.sublist_append_left F R)).cells
theorem Cells.sv (c : Cells H L) : Sv K H (L.map Prod.fst) H L [] := Sv.start c.1 c.2 fun _ h => nomatch h
theorem map_at {ns : List Int} {i : Nat} {x : V} (h : (ns.map V.int)[i]? = some x) : ∃ n, x = .int n ∧ ns[i]? = some n := by
  rw [List.getElem?_map] at h
  cases e : ns[i]? with
  | none => rw [e] at h; cases h
  | some n => rw [e] at h; exact ⟨n, (Option.some.inj h).symm, rfl⟩
theorem at_pos {α : Type} {xs : List α} {i : Nat} {x : α} (h : xs[i]? = some x) : atI xs (i : Int) = some x := by
  have hi : i < xs.length := (List.getElem?_eq_some_iff.mp h).1
  unfold atI ixN
  rw [if_pos (by omega), if_pos (by omega)]
  simpa using h
theorem at_int {ns : List Int} {i : Int} (h0 : 0 ≤ i) (h1 : i < ns.length) : ∃ n, ns[i.toNat]? = some n ∧ atI (ns.map V.int) i = some (.int n) := by
  obtain ⟨k, rfl⟩ : ∃ k : Nat, i = k := ⟨i.toNat, by omega⟩
  have hk : k < ns.length := by omega
  refine ⟨ns[k], by simp [hk], at_pos ?_⟩
  rw [List.getElem?_map, List.getElem?_eq_getElem hk]
  rfl
theorem ixN_pos {n : Nat} {i : Int} (h0 : 0 ≤ i) (h1 : i < n) : ixN n i = some i.toNat := by
  unfold ixN
  rw [if_pos h0, if_pos h1]
theorem six_nat (n d k : Nat) : HT.sIx n d (some (k : Int)) = min k n := HT.sIx_nat n d k
theorem six_int (n d : Nat) {i : Int} (h : 0 ≤ i) : HT.sIx n d (some i) = min i.toNat n := by
  obtain ⟨k, rfl⟩ : ∃ k : Nat, i = k := ⟨i.toNat, by omega⟩
  rw [six_nat, Int.toNat_natCast]
theorem cut_hi {xs : List V} {i : Int} (h : 0 ≤ i) : cutV xs none (some i) = xs.take i.toNat := by
  unfold cutV
  rw [six_int _ _ h, HT.sIx_none, List.drop_zero, Nat.sub_zero, Nat.min_def]
  split
  · rfl
  · rw [List.take_of_length_le (Nat.le_refl _), List.take_of_length_le (by omega)]
theorem cut_lo {xs : List V} {i : Int} (h : 0 ≤ i) : cutV xs (some i) none = xs.drop i.toNat := by
  unfold cutV
  rw [six_int _ _ h, HT.sIx_none]
  by_cases hl : i.toNat ≤ xs.length
  · rw [Nat.min_eq_left hl, List.take_of_length_le (by rw [List.length_drop]; omega)]
  · rw [Nat.min_eq_right (show _ ≤ i.toNat by omega), List.drop_eq_nil_of_le (Nat.le_refl _), List.take_nil, List.drop_eq_nil_of_le (by omega)]
theorem cut_mid {xs : List V} {i j : Int} (h : 0 ≤ i) (h2 : 0 ≤ j) : cutV xs (some i) (some j) = (xs.drop i.toNat).take (j.toNat - i.toNat) := by
  unfold cutV
  rw [six_int _ _ h, six_int _ _ h2]
  by_cases hl : i.toNat ≤ xs.length
  · rw [Nat.min_eq_left hl]
    by_cases hj : j.toNat ≤ xs.length
    · rw [Nat.min_eq_left hj]
    · rw [Nat.min_eq_right (by omega), List.take_of_length_le (by rw [List.length_drop]; omega), List.take_of_length_le (by rw [List.length_drop]; omega)]
  · rw [Nat.min_eq_right (show _ ≤ i.toNat by omega), List.drop_eq_nil_of_le (Nat.le_refl _), List.drop_eq_nil_of_le (by omega), List.take_nil, List.take_nil]
theorem cut_all {xs : List V} : cutV xs none none = xs := by
  unfold cutV
  rw [HT.sIx_none, HT.sIx_none, List.drop_zero, Nat.sub_zero, List.take_length]
/-- the same for data -/
theorem dcut_hi {ds : List PyData} {i : Int} (h : 0 ≤ i) : (ds.drop (HT.sIx ds.length 0 none)).take (HT.sIx ds.length ds.length (some i) - HT.sIx ds.length 0 none) = ds.take i.toNat := by
  rw [six_int _ _ h, HT.sIx_none, List.drop_zero, Nat.sub_zero, Nat.min_def]
  split
  · rfl
  · rw [List.take_of_length_le (Nat.le_refl _), List.take_of_length_le (by omega)]
theorem dcut_lo {ds : List PyData} {i : Int} (h : 0 ≤ i) : (ds.drop (HT.sIx ds.length 0 (some i))).take (HT.sIx ds.length ds.length none - HT.sIx ds.length 0 (some i)) = ds.drop i.toNat := by
  rw [six_int _ _ h, HT.sIx_none]
  by_cases hl : i.toNat ≤ ds.length
  · rw [Nat.min_eq_left hl, List.take_of_length_le (by rw [List.length_drop]; omega)]
  · rw [Nat.min_eq_right (show _ ≤ i.toNat by omega), List.drop_eq_nil_of_le (Nat.le_refl _), List.take_nil, List.drop_eq_nil_of_le (by omega)]
theorem dcut_mid {ds : List PyData} {i j : Int} (h : 0 ≤ i) (h2 : 0 ≤ j) : (ds.drop (HT.sIx ds.length 0 (some i))).take (HT.sIx ds.length ds.length (some j) - HT.sIx ds.length 0 (some i)) = (ds.drop i.toNat).take (j.toNat - i.toNat) := by
  rw [six_int _ _ h, six_int _ _ h2]
  by_cases hl : i.toNat ≤ ds.length
  · rw [Nat.min_eq_left hl]
    by_cases hj : j.toNat ≤ ds.length
    · rw [Nat.min_eq_left hj]
    · rw [Nat.min_eq_right (by omega), List.take_of_length_le (by rw [List.length_drop]; omega), List.take_of_length_le (by rw [List.length_drop]; omega)]
  · rw [Nat.min_eq_right (show _ ≤ i.toNat by omega), List.drop_eq_nil_of_le (Nat.le_refl _), List.drop_eq_nil_of_le (by omega), List.take_nil, List.take_nil]
/-- what follows a statement, said once -/
theorem cut {t u : TS} {D : Ends} {σ : L2.St} {H : Hp} (R : L2.St → Hp → Prop) (h2 : ∀ σ' H', R σ' H' → u D σ' H') (h1 : (∀ σ' H', R σ' H' → u D σ' H') → t { D with nx := u D } σ H) : tSeq t u D σ H := h1 h2
theorem cut2 {t1 t2 u : TS} {D : Ends} {σ : L2.St} {H : Hp} (R : L2.St → Hp → Prop) (h2 : ∀ σ' H', R σ' H' → u D σ' H') (h1 : (∀ σ' H', R σ' H' → u D σ' H') → (tSeq t1 (tSeq t2 u)) D σ H) : (tSeq t1 (tSeq t2 u)) D σ H := h1 h2
theorem cut3 {t1 t2 t3 u : TS} {D : Ends} {σ : L2.St} {H : Hp} (R : L2.St → Hp → Prop) (h2 : ∀ σ' H', R σ' H' → u D σ' H') (h1 : (∀ σ' H', R σ' H' → u D σ' H') → (tSeq t1 (tSeq t2 (tSeq t3 u))) D σ H) : (tSeq t1 (tSeq t2 (tSeq t3 u))) D σ H := h1 h2
theorem cut4 {t1 t2 t3 t4 u : TS} {D : Ends} {σ : L2.St} {H : Hp} (R : L2.St → Hp → Prop) (h2 : ∀ σ' H', R σ' H' → u D σ' H') (h1 : (∀ σ' H', R σ' H' → u D σ' H') → (tSeq t1 (tSeq t2 (tSeq t3 (tSeq t4 u)))) D σ H) : (tSeq t1 (tSeq t2 (tSeq t3 (tSeq t4 u)))) D σ H := h1 h2
theorem cut5 {t1 t2 t3 t4 t5 u : TS} {D : Ends} {σ : L2.St} {H : Hp} (R : L2.St → Hp → Prop) (h2 : ∀ σ' H', R σ' H' → u D σ' H') (h1 : (∀ σ' H', R σ' H' → u D σ' H') → (tSeq t1 (tSeq t2 (tSeq t3 (tSeq t4 (tSeq t5 u))))) D σ H) : (tSeq t1 (tSeq t2 (tSeq t3 (tSeq t4 (tSeq t5 u))))) D σ H := h1 h2
theorem cut6 {t1 t2 t3 t4 t5 t6 u : TS} {D : Ends} {σ : L2.St} {H : Hp} (R : L2.St → Hp → Prop) (h2 : ∀ σ' H', R σ' H' → u D σ' H') (h1 : (∀ σ' H', R σ' H' → u D σ' H') → (tSeq t1 (tSeq t2 (tSeq t3 (tSeq t4 (tSeq t5 (tSeq t6 u)))))) D σ H) : (tSeq t1 (tSeq t2 (tSeq t3 (tSeq t4 (tSeq t5 (tSeq t6 u)))))) D σ H := h1 h2
theorem cut7 {t1 t2 t3 t4 t5 t6 t7 u : TS} {D : Ends} {σ : L2.St} {H : Hp} (R : L2.St → Hp → Prop) (h2 : ∀ σ' H', R σ' H' → u D σ' H') (h1 : (∀ σ' H', R σ' H' → u D σ' H') → (tSeq t1 (tSeq t2 (tSeq t3 (tSeq t4 (tSeq t5 (tSeq t6 (tSeq t7 u))))))) D σ H) : (tSeq t1 (tSeq t2 (tSeq t3 (tSeq t4 (tSeq t5 (tSeq t6 (tSeq t7 u))))))) D σ H := h1 h2
theorem cut8 {t1 t2 t3 t4 t5 t6 t7 t8 u : TS} {D : Ends} {σ : L2.St} {H : Hp} (R : L2.St → Hp → Prop) (h2 : ∀ σ' H', R σ' H' → u D σ' H') (h1 : (∀ σ' H', R σ' H' → u D σ' H') → (tSeq t1 (tSeq t2 (tSeq t3 (tSeq t4 (tSeq t5 (tSeq t6 (tSeq t7 (tSeq t8 u)))))))) D σ H) : (tSeq t1 (tSeq t2 (tSeq t3 (tSeq t4 (tSeq t5 (tSeq t6 (tSeq t7 (tSeq t8 u)))))))) D σ H := h1 h2
theorem Sv.lst (st : Sv K H0 A H L T) {Q : VK} (k : ∀ p H', Sv K H0 A H' ((p, .lst xs) :: L) T → Q (.ref p) H') (hl : xs.length < 1000000 := by first | decide | (simp; done) | (simp; omega)) : mkLst xs H Q := by
  unfold mkLst
  exact ⟨Nat.le_of_lt (Nat.lt_of_lt_of_le hl (by decide)), fun p hp => k p _ (st.new hp _)⟩
theorem Sv.tup (st : Sv K H0 A H L T) {Q : VK} {ds : List PyData} (hd : DtAll K H xs ds) (k : ∀ p H', Sv K H0 A H' L ((.ref p, .tuple ds) :: T) → Q (.ref p) H') (hl : xs.length < 1000000 := by first | decide | (simp; done) | (simp; omega)) : mkTup xs H Q := by
  unfold mkTup
  exact ⟨Nat.le_of_lt (Nat.lt_of_lt_of_le hl (by decide)), fun p hp => k p _ (st.newT hp hd)⟩
theorem Sv.nw (st : Sv K H0 A H L T) {Q : VK} (k : ∀ p H', Sv K H0 A H' ((p, .lst xs) :: L) T → Q (.ref p) H') : nwLst xs H Q := by
  unfold nwLst
  exact fun q hq => k q _ (st.new hq _)
theorem rgC_len {i c : Int} {n : Nat} : (rgC i c n).length = n := by unfold rgC; simp
theorem rgC_at {i c : Int} {n k : Nat} (h : k < n) : atI (rgC i c n) (k : Int) = some (.int (i + (k : Nat) * c)) := by
  refine at_pos ?_
  unfold rgC
  simp [h]
theorem sl_lt {n : Nat} (h : n < 1000000) : n < sizeLine := Nat.lt_of_lt_of_le h (by decide)
theorem sl_le {n : Nat} (h : n < 1000000) : n ≤ sizeLine := Nat.le_of_lt (sl_lt h)
variable {Q : VK} {p : Addr} {i : Int} {v : V} {L' : List (Addr × HO)} {ds : List PyData} {d : PyData}
/-! ### cells: reading, writing -/
theorem Sv.ixL {x y : V} (st : Sv K H0 A H L T) (k : Nat) (q : Q v H) (h : L[k]? = some (p, .lst xs) := by rfl) (ex : x = .ref p := by rfl) (ey : y = .int i := by rfl) (hv : atI xs i = some v := by first | rfl | exact at_pos rfl) : uIx K x y H Q := by
  subst ex ey
  unfold uIx
  exact .inl ⟨xs, v, st.sq k h, hv, q⟩
theorem Sv.setI {x y : V} (st : Sv K H0 A H L T) (k : Nat) {j : Nat} (L' : List (Addr × HO)) {Q : Hp → Prop} (q : ∀ H', Sv K H0 A H' L' T → Q H') (h : L[k]? = some (p, .lst xs) := by rfl) (ex : x = .ref p := by rfl) (ey : y = .int i := by rfl) (hj : ixN xs.length i = some j := by rfl) (hL : L.set k (p, .lst (xs.set j v)) = L' := by rfl) : uSet x y v H Q := by
  subst ex ey
  unfold uSet
  exact .inl ⟨xs, i, j, rfl, st.at k h, hj, q _ (hL ▸ st.put k h trivial _)⟩
theorem Sv.tyL {x : V} (st : Sv K H0 A H L T) (k : Nat) (h : L[k]? = some (p, .lst xs) := by rfl) (ex : x = .ref p := by rfl) : tyV K "list" x H := by
  subst ex
  exact .inl ⟨rfl, _, st.sq k h⟩
theorem Sv.popAt {x : V} {vs : List V} (st : Sv K H0 A H L T) (k : Nat) {j : Nat} (L' : List (Addr × HO)) (q : ∀ H', Sv K H0 A H' L' T → Q v H') (h : L[k]? = some (p, .lst xs) := by rfl) (ex : x = .ref p := by rfl) (ey : vs = [.int i] := by rfl) (hj : i.toNat = j := by rfl) (hv : xs[j]? = some v := by rfl) (hL : L.set k (p, .lst (xs.eraseIdx j)) = L' := by rfl) (h0 : 0 ≤ i := by first | decide | omega) (hi : i < xs.length := by first | decide | (simp; done) | (simp; omega)) (hx : xs.length < 1000000 := by first | decide | (simp; done) | (simp; omega)) : aPopAt x vs H Q := by
  subst hj ex ey
  unfold aPopAt
  refine ⟨p, xs, i, i.toNat, v, rfl, rfl, st.at k h, by omega, by omega, ?_, hv, q _ (hL ▸ st.put k h trivial _)⟩
  have e1 : ¬ (i < 0) := by omega
  have e2 : ¬ (i < 0 ∨ (xs.length : Int) ≤ i) := by omega
  unfold seqIndex?
  simp only [if_neg e1]
  first
    | (rw [if_neg (by simpa using e2)])
    | (rw [if_pos (by simp; omega)])
    | simp [h0, hi]
theorem Sv.app {x : V} {vs : List V} (st : Sv K H0 A H L T) (k : Nat) (L' : List (Addr × HO)) (q : ∀ H', Sv K H0 A H' L' T → Q .non H') (h : L[k]? = some (p, .lst xs) := by rfl) (ex : x = .ref p := by rfl) (ey : vs = [v] := by rfl) (hL : L.set k (p, .lst (xs ++ [v])) = L' := by rfl) (hx : xs.length < 1000000 := by first | decide | (simp; done) | (simp; omega)) : aAppend x vs H Q := by
  subst ex ey
  unfold aAppend
  exact ⟨p, xs, v, rfl, rfl, st.at k h, sl_lt hx, q _ (hL ▸ st.put k h trivial _)⟩
theorem len_L {vs : List V} (h : SqL K H p xs) (q : Q (.int xs.length) H) (ex : vs = [.ref p] := by rfl) : uLen K vs H Q := by
  subst ex
  unfold uLen
  show aLen K p H Q
  unfold aLen
  exact .inl ⟨xs, h, q⟩
theorem ix_L {x y : V} (h : SqL K H p xs) (q : Q v H) (ex : x = .ref p := by rfl) (ey : y = .int i := by rfl) (hv : atI xs i = some v := by first | rfl | exact at_pos rfl) : uIx K x y H Q := by
  subst ex ey
  unfold uIx
  exact .inl ⟨xs, v, h, hv, q⟩
theorem ix_T {x y : V} (h : SqT K H p xs) (q : Q v H) (ex : x = .ref p := by rfl) (ey : y = .int i := by rfl) (hv : atI xs i = some v := by first | rfl | exact at_pos rfl) : uIx K x y H Q := by
  subst ex ey
  unfold uIx
  exact .inr (.inl ⟨xs, v, h, hv, q⟩)
/-! ### data: reading -/
theorem DtAll.c {d : PyData} (h : DtAll K H xs (d :: ds)) : ∃ x xs', xs = x :: xs' ∧ Dt K H x d ∧ DtAll K H xs' ds := by
  cases h with
  | cons h1 h2 => exact ⟨_, _, rfl, h1, h2⟩
theorem DtAll.cI {n : Int} (h : DtAll K H xs (.int n :: ds)) : ∃ xs', xs = .int n :: xs' ∧ DtAll K H xs' ds := by
  obtain ⟨x, xs', e, h1, h2⟩ := h.c
  exact ⟨xs', by rw [e, h1.eqI], h2⟩
theorem DtAll.n (h : DtAll K H xs []) : xs = [] := by cases h; rfl
theorem Dt.ix {y : V} (h : Dt K H v (.tuple ds)) (q : ∀ x, Dt K H x d → Q x H) (ey : y = .int i := by rfl) (hd : atI ds i = some d := by first | rfl | exact at_pos rfl) : uIx K v y H Q := by
  subst ey
  obtain ⟨a, xs, rfl, ht, ha⟩ := h.eqT
  have hl := ha.len
  unfold atI at hd
  cases e : ixN ds.length i with
  | none => rw [e] at hd; cases hd
  | some j =>
    rw [e] at hd
    obtain ⟨x, hx, hxd⟩ := ha.at_ (i := j) (d := d) hd
    refine ix_T ht.sq (q x hxd) (hv := ?_)
    unfold atI
    rw [hl, e]
    exact hx
theorem Dt.ixI {y : V} {n : Int} (h : Dt K H v (.tuple ds)) (q : Q (.int n) H) (ey : y = .int i := by rfl) (hd : atI ds i = some (.int n) := by first | rfl | exact at_pos rfl) : uIx K v y H Q := by
  subst ey
  exact h.ix (d := .int n) (fun x hx => by rw [hx.eqI]; exact q) rfl hd
theorem Dt.len {vs : List V} (h : Dt K H v (.tuple ds)) (q : Q (.int ds.length) H) (ex : vs = [v] := by rfl) : uLen K vs H Q := by
  subst ex
  obtain ⟨a, xs, rfl, ht, ha⟩ := h.eqT
  unfold uLen
  show aLen K a H Q
  unfold aLen
  exact .inr (.inl ⟨xs, ht.sq, by rw [ha.len]; exact q⟩)
theorem Dt.unp {n : Nat} {t : TGs} {σ : L2.St} {Q : L2.St → Hp → Prop} (h : Dt K H v (.tuple ds)) (q : ∀ xs, DtAll K H xs ds → t xs σ H Q) (hl : ds.length = n := by rfl) : gUn K n t v σ H Q := by
  obtain ⟨a, xs, rfl, ht, ha⟩ := h.eqT
  unfold gUn
  exact ⟨xs, .inl ht.sq, by rw [ha.len]; exact hl, q xs ha⟩
theorem unpL {n : Nat} {t : TGs} {σ : L2.St} {x : V} {Q : L2.St → Hp → Prop} (h : SqL K H p xs) (q : t xs σ H Q) (ex : x = .ref p := by rfl) (hl : xs.length = n := by rfl) : gUn K n t x σ H Q := by
  subst ex
  unfold gUn
  exact ⟨xs, .inr h, hl, q⟩
/-- a slice of a tuple -/
theorem Dt.sl {lo hi : Option Int} (st : Sv K H0 A H L T) (h : Dt K H v (.tuple ds)) {es : List PyData} (he : (ds.drop (HT.sIx ds.length 0 lo)).take (HT.sIx ds.length ds.length hi - HT.sIx ds.length 0 lo) = es)
    (q : ∀ x H', Sv K H0 A H' L ((x, .tuple es) :: T) → Q x H') : uSl K v lo hi H Q := by
  obtain ⟨a, xs, rfl, ht, ha⟩ := h.eqT
  have hl := ha.len
  subst he
  unfold uSl
  refine .inr ⟨a, xs, rfl, ht.sq, fun hw => ?_, fun hw p hp => ?_⟩
  · refine q _ _ (st.addT ?_)
    rw [hl] at hw
    rw [hw.1, hw.2, List.drop_zero, Nat.sub_zero, List.take_length]
    exact h
  · refine q _ _ (st.newT hp ?_)
    unfold cutV
    rw [hl]
    exact (ha.drop _).take _
/-- a slice of a list: a new list -/
theorem Sv.sl {x : V} {lo hi : Option Int} (st : Sv K H0 A H L T) (h : SqL K H p xs) {es : List V} (he : cutV xs lo hi = es) (q : ∀ x H', Sv K H0 A H' ((x, .lst es) :: L) T → Q (.ref x) H') (ex : x = .ref p := by rfl) : uSl K x lo hi H Q := by
  subst ex
  unfold uSl
  exact .inl ⟨p, xs, rfl, h, fun x hx => he ▸ q x _ (st.new hx _)⟩
/-- t + u -/
theorem Dt.cat (st : Sv K H0 A H L T) {u : V} {es : List PyData} (h : Dt K H v (.tuple ds)) (h2 : Dt K H u (.tuple es)) (hl : ds.length + es.length < 1000000) (q : ∀ x H', Sv K H0 A H' L ((x, .tuple (ds ++ es)) :: T) → Q x H') : uAdd K v u H Q := by
  obtain ⟨a, xs, rfl, ht, ha⟩ := h.eqT
  obtain ⟨b, ys, rfl, hu, hb⟩ := h2.eqT
  have l1 := ha.len
  have l2 := hb.len
  show aAdd K a b H Q
  unfold aAdd
  refine .inr ⟨a, b, xs, ys, rfl, rfl, ht.sq, hu.sq, sl_le (by omega), fun e => ?_, fun e1 e2 => ?_, fun _ _ p hp => q _ _ (st.newT hp (ha.append hb))⟩
  · refine q _ _ (st.addT ?_)
    have : ds = [] := List.eq_nil_of_length_eq_zero (by rw [← l1, e]; rfl)
    rw [this]
    exact h2
  · refine q _ _ (st.addT ?_)
    have : es = [] := List.eq_nil_of_length_eq_zero (by rw [← l2, e2]; rfl)
    rw [this, List.append_nil]
    exact h
/-- xs + ys: a new list -/
theorem Sv.cat {x y : V} (st : Sv K H0 A H L T) {a b : Addr} {xs ys : List V} (h1 : H a = some (.lst xs)) (h2 : H b = some (.lst ys)) (hl : xs.length + ys.length < 1000000) (q : ∀ p H', Sv K H0 A H' ((p, .lst (xs ++ ys)) :: L) T → Q (.ref p) H') (ex : x = .ref a := by rfl) (ey : y = .ref b := by rfl) : uAdd K x y H Q := by
  subst ex ey
  show aAdd K a b H Q
  unfold aAdd
  exact .inl ⟨a, b, xs, ys, rfl, rfl, h1, h2, sl_le hl, fun p hp => q p _ (st.new hp _)⟩
/-- list(x), tuple(x) -/
theorem Sv.listL {vs : List V} (st : Sv K H0 A H L T) (h : SqL K H p xs) (q : ∀ l H', Sv K H0 A H' ((l, .lst xs) :: L) T → Q (.ref l) H') (ex : vs = [.ref p] := by rfl) : uList K vs H Q := by
  subst ex
  unfold uList
  exact .inl ⟨xs, .inl h, fun l hl => q l _ (st.new hl _)⟩
theorem Sv.listT {vs : List V} (st : Sv K H0 A H L T) (h : Dt K H v (.tuple ds)) (q : ∀ l H' xs, DtAll K H' xs ds → Sv K H0 A H' ((l, .lst xs) :: L) T → Q (.ref l) H') (ex : vs = [v] := by rfl) : uList K vs H Q := by
  subst ex
  obtain ⟨a, xs, rfl, ht, ha⟩ := h.eqT
  unfold uList
  exact .inl ⟨xs, .inr ht.sq, fun l hl => q l _ xs (ha.mono (tp_new hl)) (st.new hl _)⟩
theorem Sv.tupL {vs : List V} (st : Sv K H0 A H L T) (h : SqL K H p xs) (hd : DtAll K H xs ds) (q : ∀ x H', Sv K H0 A H' L ((x, .tuple ds) :: T) → Q x H') (ex : vs = [.ref p] := by rfl) : uTuple K vs H Q := by
  subst ex
  unfold uTuple
  exact .inl ⟨xs, h, fun l hl => q _ _ (st.newT hl hd)⟩
theorem Sv.tupT {vs : List V} (h : Dt K H v (.tuple ds)) (q : Q v H) (ex : vs = [v] := by rfl) : uTuple K vs H Q := by
  subst ex
  obtain ⟨a, xs, rfl, ht, ha⟩ := h.eqT
  unfold uTuple
  exact .inr ⟨xs, ht.sq, q⟩
/-! ### loops -/
/-- for x in a list that stays -/
theorem forL {a : Addr} {g : TG} {tb : TS} {D : Ends} {σ : L2.St} (Pv : Nat → L2.St → Hp → Prop) (h : SqL K H a xs) (h0 : Pv 0 σ H) (hl : ∀ i σ H, i ≤ xs.length → Pv i σ H → SqL K H a xs)
    (hs : ∀ i x σ H, xs[i]? = some x → Pv i σ H → g x σ H fun σ2 H2 => tb { D with nx := Pv (i + 1), ct := Pv (i + 1), bk := D.nx } σ2 H2) (hd : ∀ σ H, Pv xs.length σ H → D.nx σ H) :
    aSeq K a H (fun J H1 => forI J g tb D σ H1) := by
  unfold aSeq forI
  exact .inl ⟨xs, h, for_list Pv h0 hl hs hd⟩
theorem forT {a : Addr} {g : TG} {tb : TS} {D : Ends} {σ : L2.St} (Pv : Nat → L2.St → Hp → Prop) (h : SqT K H a xs) (h0 : Pv 0 σ H) (hl : ∀ i σ H, i ≤ xs.length → Pv i σ H → SqT K H a xs)
    (hs : ∀ i x σ H, xs[i]? = some x → Pv i σ H → g x σ H fun σ2 H2 => tb { D with nx := Pv (i + 1), ct := Pv (i + 1), bk := D.nx } σ2 H2) (hd : ∀ σ H, Pv xs.length σ H → D.nx σ H) :
    aSeq K a H (fun J H1 => forI J g tb D σ H1) := by
  unfold aSeq forI
  exact .inr ⟨xs, h, for_tup Pv h0 hl hs hd⟩
/-- the element of a comprehension is made: it goes to the end of the new list -/
theorem Sv.lcEnd {D : Addr} {R : Hp → Prop} (st : Sv K H0 A H L T) (k : Nat) (h : L[k]? = some (D, .lst xs)) (hx : xs.length < 1000000) (L' : List (Addr × HO)) (q : ∀ H', Sv K H0 A H' L' T → R H') (hL : L.set k (D, .lst (xs ++ [v])) = L' := by rfl) :
    ∃ acc, H D = some (.lst acc) ∧ acc.length < sizeLine ∧ R (upd H D (.lst (acc ++ [v]))) := ⟨xs, st.at k h, sl_lt hx, q _ (hL ▸ st.put k h trivial _)⟩
theorem zip_all {ys : List V} {es : List PyData} (h : ∀ p ∈ ys.zip es, Dt K H p.1 p.2) (hl : ys.length = es.length) : DtAll K H ys es := by
  induction ys generalizing es with
  | nil =>
    cases es with
    | nil => exact .nil
    | cons e es => simp at hl
  | cons y ys ih =>
    cases es with
    | nil => simp at hl
    | cons e es => exact .cons (h (y, e) (by simp)) (ih (fun p hp => h p (by simp [hp])) (by simpa using hl))
theorem Sv.zipEnd {z : V} {ys : List V} {es : List PyData} (st : Sv K H0 A H L ((z, d) :: T)) (hT : ∀ p ∈ ys.zip es, p ∈ T) (hl : ys.length = es.length) : Sv K H0 A H L ((ys ++ [z]).zip (es ++ [d])) := by
  refine st.setT _ fun p hp => ?_
  rw [List.zip_append hl] at hp
  rcases List.mem_append.mp hp with hp | hp
  · exact st.dat p (List.mem_cons_of_mem _ (hT p hp))
  · have e : p = (z, d) := by simpa using hp
    rw [e]
    exact st.dat _ (by simp)
theorem Sv.all {ys : List V} {es : List PyData} (st : Sv K H0 A H L T) (hT : ∀ p ∈ ys.zip es, p ∈ T) (hl : ys.length = es.length) : DtAll K H ys es := zip_all (fun p hp => st.dat p (hT p hp)) hl
/-! ### isinstance -/
theorem isiL {t : IsiT} {a : Addr} (h : SqL K H a xs) (q : Q (.bl t.lst) H) : aIsi K t a H Q := by
  unfold aIsi
  exact .inl ⟨.lst, ⟨xs, h⟩, q⟩
theorem isiT {t : IsiT} {a : Addr} (h : SqT K H a xs) (q : Q (.bl t.tup) H) : aIsi K t a H Q := by
  unfold aIsi
  exact .inl ⟨.tup, ⟨xs, h⟩, q⟩
/-! ### == of data -/
theorem eqv_ints : ∀ ns ms : List Int, PyData.eqvAll (ns.map PyData.int) (ms.map PyData.int) = decide (ns = ms)
  | [], [] => rfl
  | [], _ :: _ => rfl
  | _ :: _, [] => rfl
  | n :: ns, m :: ms => by
    show (PyData.eqv (.int n) (.int m) && PyData.eqvAll (ns.map PyData.int) (ms.map PyData.int)) = _
    rw [eqv_ints ns ms]
    show ((n == m) && decide (ns = ms)) = _
    rw [Bool.eq_iff_iff]
    simp
theorem lay_ints : ∀ ns : List Int, PyData.canLayAll0 (ns.map PyData.int) = true
  | [] => rfl
  | n :: ns => by
    show (true && PyData.canLayAll0 (ns.map PyData.int)) = true
    rw [lay_ints ns]
    rfl
theorem dep_ints : ∀ ns : List Int, PyData.depthAll (ns.map PyData.int) = 0
  | [] => rfl
  | n :: ns => by
    show max 0 (PyData.depthAll (ns.map PyData.int)) = 0
    rw [dep_ints ns]
    rfl
theorem shaped_ints (ns : List Int) : SeqAt.shaped (.list (ns.map PyData.int)) = true := by
  show (PyData.canLayAll0 (ns.map PyData.int) && decide (PyData.depthAll (ns.map PyData.int) + 1 ≤ 64)) = true
  rw [lay_ints, dep_ints]
  rfl
theorem dp_ints (ns : List Int) : DpAll K H (ns.map V.int) (ns.map PyData.int) := (DtAll.ints (ns := ns)).dp
theorem eqL {x y : V} {a b : Addr} {ns ms : List Int} (h1 : SqL K H a (ns.map V.int)) (h2 : SqL K H b (ms.map V.int)) (q : Q (.bl (decide (ns = ms))) H) (ex : x = .ref a := by rfl) (ey : y = .ref b := by rfl) : uEq K x y H Q := by
  subst ex ey
  show aEq K _ _ H Q
  unfold aEq
  exact ⟨_, _, .lst h1 (dp_ints ns), .lst h2 (dp_ints ms), shaped_ints ns, shaped_ints ms, by
    show Q (.bl (PyData.eqvAll (ns.map PyData.int) (ms.map PyData.int))) H
    rw [eqv_ints]
    exact q⟩
theorem neL {x y : V} {a b : Addr} {ns ms : List Int} (h1 : SqL K H a (ns.map V.int)) (h2 : SqL K H b (ms.map V.int)) (q : Q (.bl (!decide (ns = ms))) H) (ex : x = .ref a := by rfl) (ey : y = .ref b := by rfl) : uNe K x y H Q := by
  subst ex ey
  show aNe K _ _ H Q
  unfold aNe
  exact ⟨_, _, .lst h1 (dp_ints ns), .lst h2 (dp_ints ms), shaped_ints ns, shaped_ints ms, by
    show Q (.bl (!PyData.eqvAll (ns.map PyData.int) (ms.map PyData.int))) H
    rw [eqv_ints]
    exact q⟩
/-- the same data twice -/
theorem eqSame {x u : V} {a : Addr} (h1 : Dt K H (.ref a) d) (h2 : Dt K H u d) (hs : SeqAt.shaped d = true) (q : Q (.bl true) H) (ex : x = .ref a := by rfl) : uEq K x u H Q := by
  subst ex
  have e : PyData.eqv d d = true := SeqAt.eqv_refl d (SeqAt.canLay_of_shaped hs)
  obtain ⟨ds, rfl⟩ : ∃ ds, d = .tuple ds := by cases h1; exact ⟨_, rfl⟩
  obtain ⟨b, ys, rfl, _⟩ := h2.eqT
  show aEq K _ _ H Q
  unfold aEq
  exact ⟨_, _, h1.dp, h2.dp, hs, hs, by rw [e]; exact q⟩
end
end Wk

namespace Wk
open PySem PySem.Spec PyProof.Rows L2
/-! ### the head: defs at paths of one's own, facts of one's own -/
/-- one def: the path to it, its name, qualified name, parameters, body, scope, defaults, keyword-only defaults -/
structure DefX where
  pl : PySem.W.Frag → Addr
  name : Str
  qual : Str
  params : Arguments
  body : List Stmt
  scope : Scope
  dfl : List He.Dv := []
  kwd : List (Str × He.Dv) := []
def fnX (K : PySem.W.Frag) (a : Addr) : He.FnW := match K.lookup a with
  | some ⟨_, _, .func fd, _⟩ => some (fd.name, fd.qualname, fd.params, fd.body, fd.scope, fd.globals, fd.closure, fd.builtins)
  | _ => none
def DefX.val (d : DefX) : He.FnW := some (d.name, d.qual, d.params, .stmts d.body, d.scope, mainGlobals, [], builtinsNs)
def DefX.dvs (K : PySem.W.Frag) (d : DefX) : List V := d.dfl.map (He.Dv.v K)
def DefX.kws (K : PySem.W.Frag) (d : DefX) : List (Str × V) := d.kwd.map fun q => (q.1, q.2.v K)
def DefX.ok (K : PySem.W.Frag) (d : DefX) : Bool := PySem.W.keepIn K (.ref (d.pl K)) && (match K.lookup (d.pl K) with
  | some ⟨_, _, .func fd, _⟩ => PySem.W.codeIn K fd.code d.qual && (He.dflB K fd.defaults (d.dvs K) && He.kwdB K fd.kwdefaults (d.kws K))
  | _ => false)
theorem DefX.funD {K : PySem.W.Frag} {d : DefX} (e : fnX K (d.pl K) = d.val) (c : d.ok K = true) : ∃ fd, FunD K d.name d.qual d.params d.body d.scope (d.dvs K) (d.kws K) (d.pl K) fd := by
  obtain ⟨kp, c2⟩ := He.ba c
  unfold fnX at e
  cases q : K.lookup (d.pl K) with
  | none =>
    rw [q] at c2
    cases c2
  | some o =>
    obtain ⟨oc, od, dt, osl⟩ := o
    rw [q] at c2 e
    cases dt with
    | func fd =>
      obtain ⟨n1, n2, n3, n4, n5, n6, n7, n8, n9, n10, n11, n12, n13, n14, n15⟩ := fd
      have e2 : (some (n1, n2, n3, n4, n5, n6, n7, n15) : He.FnW) = some (d.name, d.qual, d.params, .stmts d.body, d.scope, mainGlobals, [], builtinsNs) := e
      simp only [Option.some.injEq, Prod.mk.injEq] at e2
      obtain ⟨h1, h2, h3, h4, h5, h6, h7, h8⟩ := e2
      subst h1 h2 h3 h4 h5 h6 h7 h8
      have c3 : (PySem.W.codeIn K n13 d.qual && (He.dflB K n8 (d.dvs K) && He.kwdB K n9 (d.kws K))) = true := c2
      obtain ⟨k1, k2⟩ := He.ba c3
      obtain ⟨k3, k4⟩ := He.ba k2
      exact ⟨_, ⟨oc, od, n8, n9, n10, n11, n12, n13, n14, osl, rfl, q, k1, He.dflB_ok k3, He.kwdB_ok k4⟩, kp⟩
    | _ => cases c2
abbrev Fx : Type := PySem.W.Frag → Bool
def obsX (fa : List Fx) (fn : List DefX) (K : PySem.W.Frag) : He.AlD := ((fa.all fun f => f K) && fn.all fun d => d.ok K, fn.map fun d => fnX K (d.pl K))
def valX (fn : List DefX) : He.AlD := (true, fn.map DefX.val)
def SaysX (fa : List Fx) (fn : List DefX) (K : PySem.W.Frag) : Prop := obsX fa fn K = valX fn
def obsXG (n : Nat) (fa : List Fx) (fn : List DefX) (g : Addr → Option Obj) : He.AlD := obsX fa fn (He.frG g (He.asD g n))
def hookX (n : Nat) (fa : List Fx) (fn : List DefX) : PySem.W.Hook where
  α := He.AlD
  obs := fun s => obsXG n fa fn s.heap.get?
  val := fun _ => valX fn
  says := fun _ h => ∃ K : PySem.W.Frag, K.In h ∧ SaysX fa fn K
  of := fun _ _ e => ⟨_, He.frG_in, e⟩
  keeps := fun _ _ _ ⟨K, hK, c⟩ k => ⟨K, PySem.W.Frag.In.keeps hK k, c⟩
theorem obsXG_eq {n : Nat} {fa : List Fx} {fn : List DefX} {g : Addr → Option Obj} {s : Shared} (h : ∀ a, g a = s.heap.get? a) : obsXG n fa fn g = (hookX n fa fn).obs s := by
  have e : g = s.heap.get? := funext h
  rw [e] <;> rfl
section
variable {fa : List Fx} {fn : List DefX} {K : PySem.W.Frag}
theorem SaysX.fact (c : SaysX fa fn K) (i : Nat) {f : Fx} (h : fa[i]? = some f := by rfl) : f K = true := by
  have c1 := (He.ba (show ((fa.all fun f => f K) && fn.all fun d => d.ok K) = true from congrArg (fun z : He.AlD => z.1) c)).1
  exact List.all_eq_true.mp c1 f (List.mem_of_getElem? h)
theorem SaysX.def_ (c : SaysX fa fn K) (i : Nat) {d : DefX} (h : fn[i]? = some d := by rfl) : ∃ fd, FunD K d.name d.qual d.params d.body d.scope (d.dvs K) (d.kws K) (d.pl K) fd := by
  have c2 := (He.ba (show ((fa.all fun f => f K) && fn.all fun d => d.ok K) = true from congrArg (fun z : He.AlD => z.1) c)).2
  have e : fn.map (fun d => fnX K (d.pl K)) = fn.map DefX.val := congrArg (fun z : He.AlD => z.2) c
  have e2 : (fn.map fun d => fnX K (d.pl K))[i]? = (fn.map DefX.val)[i]? := by rw [e]
  rw [List.getElem?_map, List.getElem?_map, h] at e2
  exact DefX.funD (Option.some.inj e2) (List.all_eq_true.mp c2 d (List.mem_of_getElem? h))
end
/-! ### properties -/
def pa (K : PySem.W.Frag) (C : Addr) (f : Str) : Addr := match PySem.W.findIn K (.ref C) f with
  | some (some (.ref p)) => p
  | _ => 0
/-- the getter of a property -/
def pg (K : PySem.W.Frag) (C : Addr) (f : Str) : Addr := match PySem.W.recIn K (pa K C f) "property" with
  | some (.ref g :: _) => g
  | _ => 0
def prB (C f : Str) : Fx := fun K => He.eqO (PySem.W.findIn K (.ref (He.ga K C)) f) (some (some (.ref (pa K (He.ga K C) f)))) && (He.eqO (PySem.W.specialIn K (.ref (pa K (He.ga K C) f)) "__get__") (some (some (.builtin "property.__get__"))) &&
  (decide (PySem.W.takesIn K (.ref (pa K (He.ga K C) f)) = some true) && (match PySem.W.recIn K (pa K (He.ga K C) f) "property" with
    | some (.ref _ :: _) => true
    | _ => false)))
theorem pr_ok {K : PySem.W.Frag} {C f : Str} (h : prB C f K = true) : PropOf K (He.ga K C) f (pa K (He.ga K C) f) (pg K (He.ga K C) f) := by
  obtain ⟨h1, h2⟩ := He.ba h
  obtain ⟨h2, h3⟩ := He.ba h2
  obtain ⟨h3, h4⟩ := He.ba h3
  refine ⟨He.eqO_ok h1, He.eqO_ok h2, of_decide_eq_true h3, ?_⟩
  have e : (match PySem.W.recIn K (pa K (He.ga K C) f) "property" with
    | some (.ref _ :: _) => true
    | _ => false) = true := h4
  unfold pg
  revert e
  cases q : PySem.W.recIn K (pa K (He.ga K C) f) "property" with
  | none => intro e; cases e
  | some l =>
    cases l with
    | nil => intro e; cases e
    | cons v r =>
      cases v with
      | ref g => intro _; exact ⟨r, rfl⟩
      | _ => intro e; cases e
/-! ### instances -/
/-- e.f, an attribute of an instance of the class at C -/
@[irreducible] def uFl (C : Addr) (f : Str) (x : V) (H : Hp) (Q : VK) : Prop := ∃ a dx fs v, x = .ref a ∧ H a = some (.ins C dx fs) ∧ fs.lookup f = some v ∧ Q v H
@[irreducible] def uPutFl (C : Addr) (f : Str) (x y : V) (H : Hp) (R : Hp → Prop) : Prop := ∃ a dx fs, x = .ref a ∧ H a = some (.ins C dx fs) ∧ fs.length < 1000 ∧ R (upd H a (.ins C dx (putF f y fs)))
@[irreducible] def uIns (C : Addr) (m : Str) (x : V) (H : Hp) (R : Prop) : Prop := ∃ a dx fs, x = .ref a ∧ H a = some (.ins C dx fs) ∧ fs.lookup m = none ∧ R
@[irreducible] def uObj (C : Addr) (x : V) (H : Hp) (R : Prop) : Prop := ∃ a dx fs, x = .ref a ∧ H a = some (.ins C dx fs) ∧ R
@[irreducible] def uNew (C : Addr) (H : Hp) (R : V → Hp → Prop) : Prop := ∀ x dx, H x = none → H dx = none → dx ≠ x → R (.ref x) (upd (upd H dx (.own x)) x (.ins C dx []))
def cFl (C : Addr) (f : Str) (te : TE) : TE := fun σ H Q => te σ H fun x H1 => uFl C f x H1 Q
def cPutFl (C : Addr) (f : Str) (ta tv : TE) : TS := fun D σ H => tv σ H fun y H1 => ta σ H1 fun x H2 => uPutFl C f x y H2 fun H3 => D.nx σ H3
def cAugFl (C : Addr) (f : Str) (ta tv : TE) (rd : R2) : TS := fun D σ H => ta σ H fun x H1 => uFl C f x H1 fun v H2 => tv σ H2 fun y H3 => rd v y H3 fun z H4 => uPutFl C f x z H4 fun H5 => D.nx σ H5
def cMe (C : Addr) (m : Str) (sp : Sp) (dvs : List V) (E : XK) (ta : TE) (t : TA) : TE := fun σ H Q => ta σ H fun x H1 => uIns C m x H1 (t σ H1 fun vs H2 => sp (x :: (vs ++ dvs)) H2 Q E)
def cPr (C : Addr) (sp : Sp) (dvs : List V) (E : XK) (ta : TE) : TE := fun σ H Q => ta σ H fun x H1 => uObj C x H1 (sp (x :: dvs) H1 Q E)
def cMk (C : Addr) (sp : Sp) (dvs : List V) (E : XK) (t : TA) : TE := fun σ H Q => t σ H fun vs H1 => uNew C H1 fun x H2 => sp (x :: (vs ++ dvs)) H2 (fun v H3 => v = .non ∧ Q x H3) E
def uAddI : R2 := fun x y H Q => match x, y with
  | .int i, .int j => Q (.int (i + j)) H
  | _, _ => False
section
variable {X : Cx} {o e value : Expr} {f m x : Str} {p pos apos pos' tpos : Pos} {ta tv te : TE} {C g pp : Addr} {CX : CXT} {k : Nat} {fa : Addr} {fd : FuncData} {ps : List Str} {sp : Sp} {dvs : List V} {ds : List Value} {E : XK} {es : List Expr} {t : TA}
theorem eFl (he : PE X e te) (c : Cls X.K C) (n : NoAttr X.K C f) (hb : attributeBase e f X.env (eval e X.env) = eval e X.env := by rfl) : PE X (.Attribute e f pos) (cFl C f te) := by
  refine ⟨fun pins s σ H Q I h => ?_⟩
  refine attr_of hb (thn (he.run pins s σ H _ I h) fun u s1 ⟨x, H1, I1, rx, q⟩ => ?_)
  unfold uFl at q
  obtain ⟨a, dx, fs, v, ex, ea, l, q⟩ := q
  subst ex
  obtain rfl : u = Value.ref a := rx
  exact getattr_ok I1 ea c n l fun u' s2 I2 ru => ⟨v, H1, I2, ru, q⟩
theorem sPutFl (ha : PE X o ta) (hv : PE X value tv) (c : Cls X.K C) (n : NoAttr X.K C f) (hs : swapsWith value (some (.Attribute o f pos')) pos.line X.env = pure false := by rfl) : PS X (.Assign [.Attribute o f pos'] value pos) (cPutFl C f ta tv) := by
  refine ⟨fun pins s σ H D I h => ?_⟩
  refine plainObj_wpAny_Assign_Attribute (thn (hv.run pins s σ H _ I h) fun u s1 ⟨y, H1, I1, ry, q⟩ => thn (ha.run pins s1 σ H1 _ I1 q) fun ov s2 ⟨x, H2, I2, rx, q⟩ => ?_) hs
  unfold uPutFl at q
  obtain ⟨a, dx, fs, ex, ea, l, q2⟩ := q
  subst ex
  obtain rfl : ov = Value.ref a := rx
  exact setattr_ok I2 ea c n l ry fun s3 I3 => ⟨σ, _, I3, q2⟩
theorem sAugFl {op : Operator} {rd : R2} (ha : PE X o ta) (hv : PE X value tv) (hop : InOp X op rd) (c : Cls X.K C) (n : NoAttr X.K C f) : PS X (.AugAssign (.Attribute o f tpos) op value pos) (cAugFl C f ta tv rd) := by
  refine ⟨fun pins s σ H D I h => ?_⟩
  refine wpAny_AugAssign_AttributeAny (thn (ha.run pins s σ H _ I h) fun ov s1 ⟨x, H1, I1, rx, q⟩ => ?_)
  unfold uFl at q
  obtain ⟨a, dx, fs, v, ex, ea, l, q⟩ := q
  subst ex
  obtain rfl : ov = Value.ref a := rx
  refine getattr_ok I1 ea c n l fun u s2 I2 ru => thn (hv.run pins s2 σ H1 _ I2 q) fun w3 s3 ⟨y, H2, I3, ry, q3⟩ => thn (hop pins s3 σ H2 v y u w3 _ I3 ru ry q3) fun w4 s4 ⟨z, H3, I4, rz, q4⟩ => ?_
  unfold uPutFl at q4
  obtain ⟨a', dx', fs', ea2, ea', l', q4⟩ := q4
  obtain rfl := V.ref.inj ea2
  exact setattr_ok I4 ea' c n l' rz fun s5 I5 => ⟨σ, _, I5, q4⟩
theorem inAdd : InOp X .Add uAddI := by
  intro pins s σ H x y u v Q I rx ry q
  cases x <;> cases y <;> first
    | exact (show False from q).elim
    | exact in_add pins s σ H _ _ u v Q I rx ry ⟨_, _, rfl, rfl, q⟩
theorem eMe {pl : Sem Bool} (he : PE X o ta) (hm : Meth X.K C m fa) (F : FnOk X.prog X.w X.K X.mg X.base CX k fa fd ps sp) (hr : Room k X.A) (c : Cls X.K C) (hb : Binds X.K fd ps ds) (hd : Vals dvs ds) (hx : Passes CX X E) (ha : PA X (e :: es) t)
    (hst : starEach (e :: es) X.env = (false, eval e X.env) :: starEach es X.env := by rfl) (hpl : (backTo pos (starEach es X.env)).any (·.1) = false := by rfl)
    (ht : eval (.Call (.Attribute o m apos) (e :: es) [] pos) X.env = (do
      let ov ← eval o X.env
      standAt apos.atName
      let (f, first) ← holding [ov] (getMethod ov m pl)
      callWith pos f first (backTo pos (starEach (e :: es) X.env)) (backToKw pos (keywordEach [] X.env))) := by rfl) :
    PE X (.Call (.Attribute o m apos) (e :: es) [] pos) (cMe C m sp dvs E ta t) := by
  refine ⟨fun pins s σ H Q I h => ?_⟩
  refine PySem.W.methodCall_KW (pl := pl) (thn (he.run pins s σ H _ I h) fun u s1 ⟨x, H1, I1, rx, q⟩ => ?_) ht
  unfold uIns at q
  obtain ⟨a, dx, fs, ex, ea, l, q⟩ := q
  subst ex
  obtain rfl : u = Value.ref a := rx
  refine getmeth_ok I1 ea c hm l ?_
  refine PySem.W.callWith_K (first := [.ref a]) (h₀ := X.base) I.ok.mod.kin hm.kp (thn (ha.run pos pins s1 σ H1 _ I1 q) fun us s2 ⟨vs, H2, I2, r, q2⟩ => ⟨I2.kIn, ?_⟩) hst hpl
  exact run_fn (us := .ref a :: us) (vs := .ref a :: vs) F hr hb hd hx I2 (.cons rfl r) q2
theorem eMe0 {pl : Sem Bool} (he : PE X o ta) (hm : Meth X.K C m fa) (F : FnOk X.prog X.w X.K X.mg X.base CX k fa fd ps sp) (hr : Room k X.A) (c : Cls X.K C) (hb : Binds X.K fd ps ds) (hd : Vals dvs ds) (hx : Passes CX X E)
    (ht : eval (.Call (.Attribute o m apos) [] [] pos) X.env = (do
      let ov ← eval o X.env
      standAt apos.atName
      let (f, first) ← holding [ov] (getMethod ov m pl)
      callWith pos f first (backTo pos (starEach [] X.env)) (backToKw pos (keywordEach [] X.env))) := by rfl) :
    PE X (.Call (.Attribute o m apos) [] [] pos) (cMe C m sp dvs E ta tNil) := by
  refine ⟨fun pins s σ H Q I h => ?_⟩
  refine PySem.W.methodCall_KW (pl := pl) (thn (he.run pins s σ H _ I h) fun u s1 ⟨x, H1, I1, rx, q⟩ => ?_) ht
  unfold uIns at q
  obtain ⟨a, dx, fs, ex, ea, l, q⟩ := q
  subst ex
  obtain rfl : u = Value.ref a := rx
  refine getmeth_ok I1 ea c hm l ?_
  exact PySem.W.callWith_K0 (first := [.ref a]) I1.kIn hm.kp (run_fn (us := [.ref a]) (vs := [.ref a]) F hr hb hd hx I1 (.cons rfl .nil) q)
theorem ePr (he : PE X e ta) (hp : PropOf X.K C f pp g) (F : FnOk X.prog X.w X.K X.mg X.base CX k g fd ps sp) (hr : Room (k + 1) X.A) (c : Cls X.K C) (hb : Binds X.K fd ps ds) (hd : Vals dvs ds) (hx : Passes CX X.nox E)
    (hab : attributeBase e f X.env (eval e X.env) = eval e X.env := by rfl) : PE X (.Attribute e f pos) (cPr C sp dvs E ta) := by
  refine ⟨fun pins s σ H Q I h => ?_⟩
  refine attr_of hab (thn (he.run pins s σ H _ I h) fun u s1 ⟨x, H1, I1, rx, q⟩ => ?_)
  unfold uObj at q
  obtain ⟨a, dx, fs, ex, ea, q⟩ := q
  subst ex
  obtain rfl : u = Value.ref a := rx
  exact getprop_ok I1 ea c hp F hr hb hd hx q
theorem eMk (M : Mk X.K C fa) (F : FnOk X.prog X.w X.K X.mg X.base CX k fa fd ps sp) (hr : Room (k + 1) X.A) (hg : Gl X x) (hm : X.mg x = some (.ref C)) (hb : Binds X.K fd ps ds) (hd : Vals dvs ds) (hx : Passes CX X E)
    (ha : PA X (e :: es) t) (hdb : (x == ("__debug__" : Str)) = false := by decide) (he : starEach (e :: es) X.env = (false, eval e X.env) :: starEach es X.env := by rfl) (hpl : (backTo pos (starEach es X.env)).any (·.1) = false := by rfl) :
    PE X (.Call (.Name x p) (e :: es) [] pos) (cMk C sp dvs E t) := by
  refine ⟨fun pins s σ H Q I h => ?_⟩
  refine wpAny_Call_Name_kw (ld_glob I hg hm ?_ hdb)
  refine PySem.W.callWith_K (h₀ := X.base) I.ok.mod.kin M.kp (thn (ha.run pos pins s σ H _ I h) fun us s1 ⟨vs, H1, I1, r, q⟩ => ⟨I1.kIn, ?_⟩) he hpl
  unfold uNew at q
  exact run_make M F hr hb hd hx I1 r q
theorem eMk0 (M : Mk X.K C fa) (F : FnOk X.prog X.w X.K X.mg X.base CX k fa fd ps sp) (hr : Room (k + 1) X.A) (hg : Gl X x) (hm : X.mg x = some (.ref C)) (hb : Binds X.K fd ps ds) (hd : Vals dvs ds) (hx : Passes CX X E)
    (hdb : (x == ("__debug__" : Str)) = false := by decide) : PE X (.Call (.Name x p) [] [] pos) (cMk C sp dvs E tNil) := by
  refine ⟨fun pins s σ H Q I h => ?_⟩
  refine wpAny_Call_Name_kw (ld_glob I hg hm ?_ hdb)
  have q : uNew C H fun x H2 => sp (x :: ([] ++ dvs)) H2 (fun v H3 => v = .non ∧ Q x H3) E := h
  unfold uNew at q
  exact PySem.W.callWith_K0 I.kIn M.kp (run_make (us := []) M F hr hb hd hx I .nil q)
end
section
variable {K : PySem.W.Frag} {H0 H : Hp} {A : List Addr} {L : List (Addr × HO)} {T : List (V × PyData)} {a C dx : Addr} {fs fs' : List (Str × V)} {f : Str} {v x y : V} {Q : VK}
theorem lk_here {k : Str} {v : V} {r : List (Str × V)} : List.lookup k ((k, v) :: r) = some v := by
  have e : (k == k) = true := beq_self_eq_true k
  simp only [List.lookup, e]
theorem lk_past {k g : Str} {v : V} {r : List (Str × V)} {w : Option V} (h : List.lookup k r = w) (e : (k == g) = false := by decide +kernel) : List.lookup k ((g, v) :: r) = w := by
  simp only [List.lookup, e]
  exact h
theorem lk_nil {k : Str} : List.lookup k ([] : List (Str × V)) = none := rfl
theorem put_here {f : Str} {v x : V} {r : List (Str × V)} : putF f v ((f, x) :: r) = (f, v) :: r := if_pos rfl
theorem put_past {f g : Str} {v x : V} {r r' : List (Str × V)} (h : putF f v r = r') (e : (g == f) = false := by decide +kernel) : putF f v ((g, x) :: r) = (g, x) :: r' := by
  rw [← h]
  exact if_neg fun q => by rw [q, beq_self_eq_true] at e; cases e
theorem put_nil {f : Str} {v : V} : putF f v [] = [(f, v)] := rfl
local macro_rules | `(tactic| walk_at "lk") => `(tactic| repeat (first | exact lk_nil | exact lk_here | refine lk_past ?_))
local macro_rules | `(tactic| walk_at "pf") => `(tactic| repeat (first | exact put_nil | exact put_here | refine put_past ?_))
/-- an attribute is read -/
theorem Sv.fl (st : Sv K H0 A H L T) (k : Nat) (q : Q v H) (h : L[k]? = some (a, .ins C dx fs) := by rfl) (ex : x = .ref a := by rfl) (hl : fs.lookup f = some v := by walk_at "lk") : uFl C f x H Q := by
  subst ex
  unfold uFl
  exact ⟨a, dx, fs, v, rfl, st.at k h, hl, q⟩
/-- .. written -/
theorem Sv.putFl (st : Sv K H0 A H L T) (k : Nat) (L' : List (Addr × HO)) {R : Hp → Prop} (q : ∀ H', Sv K H0 A H' L' T → R H') (h : L[k]? = some (a, .ins C dx fs) := by rfl) (ex : x = .ref a := by rfl) (hL : L.set k (a, .ins C dx fs') = L' := by rfl) (hp : putF f y fs = fs' := by walk_at "pf") (hn : fs.length < 1000 := by first | decide | (simp; done) | omega) : uPutFl C f x y H R := by
  subst ex
  unfold uPutFl
  refine ⟨a, dx, fs, rfl, st.at k h, hn, q _ ?_⟩
  rw [hp, ← hL]
  exact st.put k h trivial _
theorem Sv.ins {m : Str} {R : Prop} (st : Sv K H0 A H L T) (k : Nat) (q : R) (h : L[k]? = some (a, .ins C dx fs) := by rfl) (ex : x = .ref a := by rfl) (hl : fs.lookup m = none := by walk_at "lk") : uIns C m x H R := by
  subst ex
  unfold uIns
  exact ⟨a, dx, fs, rfl, st.at k h, hl, q⟩
theorem Sv.obj {R : Prop} (st : Sv K H0 A H L T) (k : Nat) (q : R) (h : L[k]? = some (a, .ins C dx fs) := by rfl) (ex : x = .ref a := by rfl) : uObj C x H R := by
  subst ex
  unfold uObj
  exact ⟨a, dx, fs, rfl, st.at k h, q⟩
/-- a new instance -/
theorem Sv.make {R : V → Hp → Prop} (st : Sv K H0 A H L T) (q : ∀ x dx H', Sv K H0 A H' ((x, .ins C dx []) :: (dx, .own x) :: L) T → R (.ref x) H') : uNew C H R := by
  unfold uNew
  exact fun x dx hx hd ne => q x dx _ ((st.new hd (.own x)).new (by rw [upd_ne (Ne.symm ne)]; exact hx) _)
end
end Wk

namespace Wk
open PySem PySem.Spec PyProof.Rows L2
@[irreducible] def nwK (H : Hp) (Q : VK) : Prop := ∀ p, H p = none → Q (.ref p) (upd H p (.dK []))
@[irreducible] def nwT (H : Hp) (Q : VK) : Prop := ∀ p, H p = none → Q (.ref p) (upd H p (.dT []))
def cNewK : TE := fun _ H Q => nwK H Q
def cNewT : TE := fun _ H Q => nwT H Q
@[irreducible] def uG (a : Addr) (y z : V) (H : Hp) (Q : VK) : Prop := ∃ o, DGet H a y o ∧ Q (o.getD z) H
@[irreducible] def uP1 (a : Addr) (y : V) (H : Hp) (Q : VK) : Prop := ∃ kvs k v, H a = some (.dK kvs) ∧ y = kV k ∧ valV kvs k = some v ∧ Q v (upd H a (.dK (dropK kvs k)))
@[irreducible] def uDel (x y : V) (H : Hp) (R : Hp → Prop) : Prop := ∃ a kvs k, x = .ref a ∧ H a = some (.dK kvs) ∧ y = kV k ∧ (valV kvs k).isSome = true ∧ R (upd H a (.dK (dropK kvs k)))
@[irreducible] def nwP (H : Hp) (R : Addr → Hp → Prop) : Prop := ∀ p, H p = none → R p (upd H p (.dK []))
@[irreducible] def uDone (p : Addr) (ps : List (V × V)) (H : Hp) (Q : VK) : Prop := H p = some (.dK []) ∧ ∃ kvs : List (Key × V), ps = kvs.map (fun kv => (kV kv.1, kv.2)) ∧ kvs.length ≤ 15 ∧ Q (.ref p) (upd H p (.dK (mergeK [] kvs)))
def cGet1 (td ty : TE) : TE := fun σ H Q => td σ H fun x H1 => match x with
  | .ref a => IsD H1 a ∧ ty σ H1 fun y H2 => uG a y .non H2 Q
  | _ => False
def cGet2 (td ty tx : TE) : TE := fun σ H Q => td σ H fun x H1 => match x with
  | .ref a => IsD H1 a ∧ ty σ H1 fun y H2 => tx σ H2 fun z H3 => uG a y z H3 Q
  | _ => False
def cPop1 (td ty : TE) : TE := fun σ H Q => td σ H fun x H1 => match x with
  | .ref a => IsD H1 a ∧ ty σ H1 fun y H2 => uP1 a y H2 Q
  | _ => False
def cDel (td ty : TE) : TS := fun D σ H => td σ H fun x H1 => ty σ H1 fun y H2 => uDel x y H2 fun H3 => D.nx σ H3
def cDisp (trs : List (TE × TE)) : TE := fun σ H Q => nwP H fun p H1 => tPairs trs σ H1 fun ps H2 => uDone p ps H2 Q
theorem ref_match {x : V} {P : Addr → Prop} : (match x with | .ref a => P a | _ => False) = ∃ a, x = .ref a ∧ P a := by
  refine propext ⟨fun h => ?_, fun ⟨a, e, h⟩ => by subst e; exact h⟩
  cases x <;> first
    | exact ⟨_, rfl, h⟩
    | exact h.elim
theorem cGet1_eq (td ty : TE) : cGet1 td ty = tDGet1 td ty := by
  funext σ H Q
  unfold cGet1 tDGet1 uG
  congr
  funext x H1
  exact ref_match
theorem cGet2_eq (td ty tx : TE) : cGet2 td ty tx = tDGet2 td ty tx := by
  funext σ H Q
  unfold cGet2 tDGet2 uG
  congr
  funext x H1
  exact ref_match
theorem cPop1_eq (td ty : TE) : cPop1 td ty = tDPop1 td ty := by
  funext σ H Q
  unfold cPop1 tDPop1 uP1
  congr
  funext x H1
  exact ref_match
section
variable {X : Cx} {o e f i : Expr} {apos cpos pos tpos : Pos} {td ty tx : TE}
theorem eNewK : PE X (.Dict [] [] pos) cNewK := by
  have e : cNewK = tDNewK := by
    unfold cNewK tDNewK nwK
    rfl
  rw [e]
  exact pe_dnewK
theorem eNewT : PE X (.Dict [] [] pos) cNewT := by
  have e : cNewT = tDNewT := by
    unfold cNewT tDNewT nwT
    rfl
  rw [e]
  exact pe_dnewT
theorem eGet1 (hu : X.A.units + 64 < cLine) (ho : PE X o td) (he : PE X e ty) (m : M1 X o "get" apos e cpos := by exact ⟨rfl, rfl, rfl, rfl⟩) : PE X (.Call (.Attribute o "get" apos) [e] [] cpos) (cGet1 td ty) := by
  rw [cGet1_eq]
  exact pe_dget1 (by omega) ho he m
theorem eGet2 (hu : X.A.units + 64 < cLine) (ho : PE X o td) (he : PE X e ty) (hf : PE X f tx) (m : M2 X o "get" apos e f cpos := by exact ⟨rfl, rfl, rfl, rfl⟩) : PE X (.Call (.Attribute o "get" apos) [e, f] [] cpos) (cGet2 td ty tx) := by
  rw [cGet2_eq]
  exact pe_dget2 (by omega) ho he hf m
theorem ePopK (ho : PE X o td) (he : PE X e ty) (m : M1 X o "pop" apos e cpos := by exact ⟨rfl, rfl, rfl, rfl⟩) : PE X (.Call (.Attribute o "pop" apos) [e] [] cpos) (cPop1 td ty) := by
  rw [cPop1_eq]
  exact pe_dpop1 ho he m
theorem sDel (ho : PE X o td) (hi : PE X i ty) : PS X (.Delete [.Subscript o i tpos] pos) (cDel td ty) := by
  have e : cDel td ty = sDDel td ty := by
    funext D σ H
    unfold cDel sDDel uDel
    congr
  rw [e]
  exact ps_ddel ho hi
theorem eDisp {keys : List (Option Expr)} {values : List Expr} {trs : List (TE × TE)} (h : PPs X pos keys values trs) (hall : keys.all (·.isSome) = true := by rfl) (hl : keys.length = values.length := by rfl) (h0 : keys ≠ [] := by exact List.cons_ne_nil _ _) (hn : keys.length ≤ 15 := by decide) : PE X (.Dict keys values pos) (cDisp trs) := by
  have e : cDisp trs = tDisp trs := by
    unfold cDisp tDisp nwP uDone
    rfl
  rw [e]
  exact pe_disp h hall hl h0 hn
end
section
variable {K : PySem.W.Frag} {H0 H : Hp} {A : List Addr} {L : List (Addr × HO)} {T : List (V × PyData)} {a p : Addr} {kvs : List (Key × V)} {v x y z : V} {Q : VK}
theorem Sv.nwK (st : Sv K H0 A H L T) (k : ∀ p H', Sv K H0 A H' ((p, .dK []) :: L) T → Q (.ref p) H') : nwK H Q := by
  unfold Wk.nwK
  exact fun p hp => k p _ (st.new hp _)
theorem Sv.nwT (st : Sv K H0 A H L T) (k : ∀ p H', Sv K H0 A H' ((p, .dT []) :: L) T → Q (.ref p) H') : nwT H Q := by
  unfold Wk.nwT
  exact fun p hp => k p _ (st.new hp _)
theorem Sv.nwP {R : Addr → Hp → Prop} (st : Sv K H0 A H L T) (k : ∀ p H', Sv K H0 A H' ((p, .dK []) :: L) T → R p H') : nwP H R := by
  unfold Wk.nwP
  exact fun p hp => k p _ (st.new hp _)
theorem Sv.isK (st : Sv K H0 A H L T) (k : Nat) (h : L[k]? = some (a, .dK kvs) := by rfl) : IsD H a := .inl ⟨kvs, .inl (st.at k h)⟩
/-- the pairs of a display are made -/
theorem Sv.done {ps : List (V × V)} (st : Sv K H0 A H L T) (k : Nat) (kvs : List (Key × V)) (L' : List (Addr × HO)) (q : ∀ H', Sv K H0 A H' L' T → Q (.ref p) H') (h : L[k]? = some (p, .dK []) := by rfl) (he : ps = kvs.map (fun kv => (kV kv.1, kv.2)) := by rfl) (hn : kvs.length ≤ 15 := by decide) (hL : L.set k (p, .dK (mergeK [] kvs)) = L' := by rfl) : uDone p ps H Q := by
  unfold uDone
  exact ⟨st.at k h, kvs, he, hn, q _ (hL ▸ st.put k h trivial _)⟩
theorem isK_H (h : H a = some (.dK kvs)) : IsD H a := .inl ⟨kvs, .inl h⟩
theorem fl_H {C dx : Addr} {fs : List (Str × V)} {f : Str} (h : H a = some (.ins C dx fs)) (q : Q v H) (ex : x = .ref a := by rfl) (hl : fs.lookup f = some v := by walk_at "lk") : uFl C f x H Q := by
  subst ex
  unfold uFl
  exact ⟨a, dx, fs, v, rfl, h, hl, q⟩
theorem ins_H {C dx : Addr} {fs : List (Str × V)} {m : Str} {R : Prop} (h : H a = some (.ins C dx fs)) (q : R) (ex : x = .ref a := by rfl) (hl : fs.lookup m = none := by walk_at "lk") : uIns C m x H R := by
  subst ex
  unfold uIns
  exact ⟨a, dx, fs, rfl, h, hl, q⟩
theorem obj_H {C dx : Addr} {fs : List (Str × V)} {R : Prop} (h : H a = some (.ins C dx fs)) (q : R) (ex : x = .ref a := by rfl) : uObj C x H R := by
  subst ex
  unfold uObj
  exact ⟨a, dx, fs, rfl, h, q⟩
theorem getK_H (key : Key) (h : H a = some (.dK kvs)) (q : Q ((valV kvs key).getD z) H) (ey : y = kV key := by rfl) : uG a y z H Q := by
  subst ey
  unfold uG
  exact ⟨_, .k h, q⟩
theorem inK_H (key : Key) (h : H a = some (.dK kvs)) (q : Q (.bl (valV kvs key).isSome) H) (ex : x = .ref a := by rfl) (ey : y = kV key := by rfl) : uIn K y x H Q := by
  subst ex ey
  unfold uIn
  exact .inr (.inl ⟨a, _, rfl, .k h, q⟩)
theorem notInK_H (key : Key) (h : H a = some (.dK kvs)) (q : Q (.bl (!(valV kvs key).isSome)) H) (ex : x = .ref a := by rfl) (ey : y = kV key := by rfl) : uNotIn K y x H Q := by
  subst ex ey
  unfold uNotIn
  exact .inr (.inl ⟨a, _, rfl, .k h, q⟩)
theorem ixK_H (key : Key) (h : H a = some (.dK kvs)) (hv : valV kvs key = some v) (q : Q v H) (ex : x = .ref a := by rfl) (ey : y = kV key := by rfl) : uIx K x y H Q := by
  subst ex ey
  have g : DGet H a (kV key) (some v) := hv ▸ DGet.k h
  unfold uIx
  cases key with
  | inl i => exact .inr (.inr ⟨v, g, q⟩)
  | inr s => exact ⟨v, g, q⟩
/-- d.get(key, z) -/
theorem Sv.getK (st : Sv K H0 A H L T) (k : Nat) (key : Key) (q : Q ((valV kvs key).getD z) H) (h : L[k]? = some (a, .dK kvs) := by rfl) (ey : y = kV key := by rfl) : uG a y z H Q := by
  subst ey
  unfold uG
  exact ⟨_, .k (st.at k h), q⟩
/-- key in d -/
theorem Sv.inK (st : Sv K H0 A H L T) (k : Nat) (key : Key) (q : Q (.bl (valV kvs key).isSome) H) (h : L[k]? = some (a, .dK kvs) := by rfl) (ex : x = .ref a := by rfl) (ey : y = kV key := by rfl) : uIn K y x H Q := by
  subst ex ey
  unfold uIn
  exact .inr (.inl ⟨a, _, rfl, .k (st.at k h), q⟩)
theorem Sv.notInK (st : Sv K H0 A H L T) (k : Nat) (key : Key) (q : Q (.bl (!(valV kvs key).isSome)) H) (h : L[k]? = some (a, .dK kvs) := by rfl) (ex : x = .ref a := by rfl) (ey : y = kV key := by rfl) : uNotIn K y x H Q := by
  subst ex ey
  unfold uNotIn
  exact .inr (.inl ⟨a, _, rfl, .k (st.at k h), q⟩)
/-- d[key], there -/
theorem Sv.ixK (st : Sv K H0 A H L T) (k : Nat) (key : Key) (hv : valV kvs key = some v) (q : Q v H) (h : L[k]? = some (a, .dK kvs) := by rfl) (ex : x = .ref a := by rfl) (ey : y = kV key := by rfl) : uIx K x y H Q := by
  subst ex ey
  have g : DGet H a (kV key) (some v) := hv ▸ DGet.k (st.at k h)
  unfold uIx
  cases key with
  | inl i => exact .inr (.inr ⟨v, g, q⟩)
  | inr s => exact ⟨v, g, q⟩
/-- d[key] = v -/
theorem Sv.setK (st : Sv K H0 A H L T) (k : Nat) (key : Key) (L' : List (Addr × HO)) {R : Hp → Prop} (q : ∀ H', Sv K H0 A H' L' T → R H') (h : L[k]? = some (a, .dK kvs) := by rfl) (ex : x = .ref a := by rfl) (ey : y = kV key := by rfl) (hL : L.set k (a, .dK (putK kvs key v)) = L' := by rfl) (hn : kvs.length < 1000000 := by first | decide | (simp; done) | (simp; omega) | omega) : uSet x y v H R := by
  subst ex ey
  unfold uSet
  exact .inr ⟨_, .k (st.at k h) (sl_lt hn), q _ (hL ▸ st.put k h trivial _)⟩
/-- d.pop(key), there -/
theorem Sv.popK (st : Sv K H0 A H L T) (k : Nat) (key : Key) (L' : List (Addr × HO)) (hv : valV kvs key = some v) (q : ∀ H', Sv K H0 A H' L' T → Q v H') (h : L[k]? = some (a, .dK kvs) := by rfl) (ey : y = kV key := by rfl) (hL : L.set k (a, .dK (dropK kvs key)) = L' := by rfl) : uP1 a y H Q := by
  subst ey
  unfold uP1
  exact ⟨kvs, key, v, st.at k h, rfl, hv, q _ (hL ▸ st.put k h trivial _)⟩
theorem Sv.delK (st : Sv K H0 A H L T) (k : Nat) (key : Key) (L' : List (Addr × HO)) {R : Hp → Prop} (hv : (valV kvs key).isSome = true) (q : ∀ H', Sv K H0 A H' L' T → R H') (h : L[k]? = some (a, .dK kvs) := by rfl) (ex : x = .ref a := by rfl) (ey : y = kV key := by rfl) (hL : L.set k (a, .dK (dropK kvs key)) = L' := by rfl) : uDel x y H R := by
  subst ex ey
  unfold uDel
  exact ⟨a, kvs, key, rfl, st.at k h, rfl, hv, q _ (hL ▸ st.put k h trivial _)⟩
theorem len_K {vs : List V} (h : H p = some (.dK kvs)) (q : Q (.int kvs.length) H) (ex : vs = [.ref p] := by rfl) : uLen K vs H Q := by
  subst ex
  unfold uLen
  show aLen K p H Q
  unfold aLen
  exact .inr (.inr ⟨kvs, h, q⟩)
end
end Wk

namespace Wk
open PySem PySem.Spec PyProof.Rows L2
/-! ### sum -/
@[irreducible] def uSum (K : PySem.W.Frag) : List V → Hp → VK → Prop := rSum K
theorem bSum {X : Cx} (hc : X.calm = true) : CallR X (.builtin "sum") (uSum X.K) := by
  unfold uSum
  exact cr_sum hc
/-! ### word[::-1] -/
@[irreducible] def uRevS (x : V) (H : Hp) (Q : VK) : Prop := ∃ z : Str, x = .str z ∧ z.length ≤ sizeLine ∧ ∀ y : Str, y.length ≤ z.length → Q (.str y) H
def cRevS (te : TE) : TE := fun σ H Q => te σ H fun x H1 => uRevS x H1 Q
theorem rev_len (n : Nat) : (Builtin.Str.strSliceIndices none none (-1) n).length ≤ n := by
  unfold Builtin.Str.strSliceIndices
  simp only []
  unfold sliceRange
  simp
  split <;> omega
theorem eRevS {X : Cx} {e : Expr} {te : TE} {k : Nat} {p1 p2 p3 pos : Pos} (he : PE X e te) : PE X (.Subscript e (.Slice none none (some (.UnaryOp .USub (.Constant (.int 1) k p1) p2)) p3) pos) (cRevS te) := by
  refine ⟨fun pins s σ H Q I h => ?_⟩
  refine Subscript_ (thn (he.run pins s σ H _ I h) fun v s1 ⟨x, H1, I1, r1, q1⟩ => ?_)
  unfold uRevS at q1
  obtain ⟨z, ex, hz, q⟩ := q1
  subst ex
  obtain ⟨t, rfl⟩ := r1
  have hst : PO X (some (.UnaryOp .USub (.Constant (.int 1) k p1) p2)) (tPart (tUn (rU fun i => .int (-i)) (tC (.int 1)))) := po_some (pe_un un_neg pe_int)
  refine wpAny_Slice (thn (po_none.run pins s1 σ H1 (fun o H2 => o = none ∧ H2 = H1) I1 ⟨rfl, rfl⟩) fun vl s2 ⟨l, H2, I2, pl, el, e2⟩ => ?_)
  subst el e2
  refine thn (po_none.run pins s2 σ H2 (fun o H3 => o = none ∧ H3 = H2) I2 ⟨rfl, rfl⟩) fun vu s3 ⟨u, H3, I3, pu, eu, e3⟩ => ?_
  subst eu e3
  refine thn (hst.run pins s3 σ H3 (fun o H4 => o = some (-1) ∧ H4 = H3) I3 ⟨1, rfl, -1, rfl, rfl, rfl⟩) fun vs s4 ⟨o, H4, I4, ps, eo, e4⟩ => ?_
  subst eo e4
  have I5 : Inv X pins σ H4 { s4 with heap := s4.heap.push { cls := .type "slice", data := .fields #[vl, vu, vs] } } := I4.kept (t' := s4.toks) fun b ob q => Heap.get?_push_of_some _ q
  obtain ⟨l', rfl, el⟩ := IsPart.raw pl
  obtain ⟨u', rfl, eu⟩ := IsPart.raw pu
  obtain ⟨st', rfl, es⟩ := IsPart.raw ps
  refine tail_any (T := "str") (id := "str.__getitem__") (ops := [.str z t, .ref s4.heap.objs.size]) (typeIs_str _ z t) F.slot_str_getitem.lookup ?_ (by with_unfolding_all rfl)
  have e1 : st'.map (·.1) = some (-1) := es
  refine wpAny_getItem_str_slice (l := l') (u := u') (st := st') ⟨_, Heap.get?_push_size _ rfl, rfl, rfl⟩ (by rw [e1]; rfl) ?_
  have el : l'.map (·.1) = none := el
  have eu : u'.map (·.1) = none := eu
  unfold sliceMade slicePicked
  rw [e1, el, eu]
  show Made.post (if ((-1 : Int) == 1 && _) = true then _ else _) _ _
  have hn : ((-1 : Int) == 1) = false := by decide
  rw [hn, Bool.false_and, if_neg Bool.false_ne_true]
  have hl : (⟨((Builtin.Str.strSliceIndices none none (-1) z.length).filterMap (z.cps[·]?)).toArray⟩ : Str).length ≤ z.length := by
    show (((Builtin.Str.strSliceIndices none none (-1) z.length).filterMap (z.cps[·]?)).toArray).size ≤ _
    rw [List.size_toArray]
    exact Nat.le_trans (List.length_filterMap_le _ _) (rev_len _)
  exact ⟨Nat.le_trans hl hz, .str _, H4, I5.tok _, ⟨_, rfl⟩, q _ hl⟩
section
variable {K : PySem.W.Frag} {H0 H : Hp} {A : List Addr} {L : List (Addr × HO)} {T : List (V × PyData)} {p : Addr} {vs : List V} {ns : List Int} {x : V} {Q : VK}
theorem sum_L (h : SqL K H p (ns.map V.int)) (q : Q (.int ns.sum) H) (ex : vs = [.ref p] := by rfl) : uSum K vs H Q := by
  subst ex
  unfold uSum
  exact ⟨p, ns, rfl, h, q⟩
theorem revS {z : Str} (q : ∀ y : Str, y.length ≤ z.length → Q (.str y) H) (ex : x = .str z := by rfl) (hz : z.length < 1000000 := by omega) : uRevS x H Q := by
  subst ex
  unfold uRevS
  exact ⟨z, rfl, sl_le hz, q⟩
end
section
variable {K : PySem.W.Frag}
/-! ### strings, numbers -/
theorem slS {x : V} {z : Str} {lo hi : Option Int} {H : Hp} {Q : VK} (q : ∀ y : Str, y.length ≤ z.length → Q (.str y) H) (ex : x = .str z := by rfl) (hz : z.length < 1000000 := by omega) : uSl K x lo hi H Q := by
  subst ex
  unfold uSl
  exact ⟨z, rfl, sl_le hz, q _ (cutS_length z lo hi)⟩
theorem ixS {x y : V} {z : Str} {i : Int} {H : Hp} {Q : VK} (q : ∀ c : Nat, z.cps.toList[i.toNat]? = some c → Q (.str ⟨#[c]⟩) H) (ex : x = .str z := by rfl) (ey : y = .int i := by rfl) (h0 : 0 ≤ i := by first | decide | omega) (h1 : i < z.length := by first | decide | omega) (hz : z.length < 1000000 := by first | decide | omega) : uIx K x y H Q := by
  subst ex ey
  obtain ⟨k, rfl⟩ : ∃ k : Nat, i = k := ⟨i.toNat, by omega⟩
  have hk : k < z.cps.toList.length := by rw [Array.length_toList]; exact Int.ofNat_lt.mp h1
  unfold uIx
  refine ⟨z.cps.toList[k], sl_le hz, at_pos (List.getElem?_eq_getElem hk), q _ ?_⟩
  rw [Int.toNat_natCast]
  exact List.getElem?_eq_getElem hk
theorem one_len (c : Nat) : (⟨#[c]⟩ : Str).length = 1 := rfl
theorem cat_len (a b : Str) : (a ++ b).length = a.length + b.length := by
  show (a.cps ++ b.cps).size = a.cps.size + b.cps.size
  exact Array.size_append
theorem az_len : ("abcdefghijklmnopqrstuvwxyz" : Str).length = 26 := by decide +kernel
theorem Sv.oneT {H0 H : Hp} {A : List Addr} {L : List (Addr × HO)} {T : List (V × PyData)} {v : V} {d : PyData} (st : Sv K H0 A H L ((v, d) :: T)) : Sv K H0 A H L [(v, d)] := st.setT _ fun p hp => by
  have e : p = (v, d) := by simpa using hp
  rw [e]
  exact st.d 0 rfl
/-- a comprehension over range(n) -/
theorem lcR10 {n : Nat} {tt : TT} {te : TE} {i : Nat} {σ : L2.St} {H1 : Hp} {Q : VK} (Pv : Addr → Nat → Hp → Prop) (h0 : ∀ D, H1 D = none → Pv D 0 (upd H1 D (.lst [])))
    (hs : ∀ D k H, k < n → Pv D k H → Wk.setK σ i (some (.int (k : Nat))) fun σ2 => tt σ2 H fun b H3 =>
      if b = true then te σ2 H3 fun y H4 => ∃ acc, H4 D = some (.lst acc) ∧ acc.length < sizeLine ∧ Pv D (k + 1) (upd H4 D (.lst (acc ++ [y]))) else Pv D (k + 1) H3) (hd : ∀ D H, Pv D n H → Q (.ref D) H) :
    lcI (Itr 0 n) (gNm i) tt te [i] σ Q H1 := lcR1 Pv h0 (fun D k H hk p => by rw [Int.zero_add]; exact hs D k H hk p) hd
/-- from here on: the heap as it stands is the new beginning -/
theorem Sv.root {H0 H : Hp} {A : List Addr} {L : List (Addr × HO)} {T : List (V × PyData)} (st : Sv K H0 A H L T) : Sv K H (L.map Prod.fst) H L T := Sv.start st.nd (fun c hc => (st.own c hc).1) st.dat
/-- .. and back -/
theorem Sv.back {H0 H H' : Hp} {A : List Addr} {L F' : List (Addr × HO)} {T T' : List (V × PyData)} (st : Sv K H0 A H L T) (h : Sv K H (L.map Prod.fst) H' F' T') : Sv K H0 A H' F' (T' ++ T) := by
  have z : Sv K H0 A H (L ++ []) T := by rw [List.append_nil]; exact st
  have := Sv.call z h
  rw [List.append_nil] at this
  exact this
/-- the cells in another order -/
theorem Sv.ord {H0 H : Hp} {A : List Addr} {L : List (Addr × HO)} {T : List (V × PyData)} (st : Sv K H0 A H L T) (is : List Nat) {L' : List (Addr × HO)} (hn : L.length = is.length := by rfl) (hp : List.isPerm is (List.range is.length) = true := by decide +kernel) (h : is.map (fun i => L[i]?) = L'.map some := by rfl) : Sv K H0 A H L' T := by
  refine st.perm ?_
  rw [← hn] at hp
  have p := (List.isPerm_iff.mp hp).map fun i => L[i]?
  have e : (List.range L.length).map (fun i => L[i]?) = L.map some := by
    refine List.ext_getElem? fun k => ?_
    rw [List.getElem?_map, List.getElem?_map]
    by_cases hk : k < L.length
    · rw [List.getElem?_range hk]
      simp [hk]
    · rw [List.getElem?_eq_none (by simpa using hk), List.getElem?_eq_none (by simpa using hk)]
      rfl
  rw [h, e] at p
  have q := p.filterMap (f := id)
  rw [List.filterMap_map, List.filterMap_map] at q
  simpa using q
/-- i != j, known to be false; i == j, known -/
theorem iteNN {i j : Int} {A B : Prop} (h : B) (e : i = j := by first | rfl | omega) : if (!decide (i = j)) = true then A else B := by
  subst e
  rw [decide_eq_true rfl]
  exact h
theorem iteEE {i j : Int} {A B : Prop} (h : A) (e : i = j := by first | rfl | omega) : if decide (i = j) = true then A else B := by
  subst e
  rw [decide_eq_true rfl]
  exact h
theorem Dt.isiT {x : V} {ds : List PyData} {H : Hp} {Q : VK} {t : IsiT} (h : Dt K H x (.tuple ds)) (q : Q (.bl t.tup) H) : uIsi K t x H Q := by
  obtain ⟨a, ys, rfl, ht, ha⟩ := h.eqT
  exact Wk.isiT ht.sq q
theorem set_map {ns : List Int} {j : Nat} {x : Int} : (ns.map V.int).set j (.int x) = (ns.set j x).map V.int := by rw [List.map_set]
end
end Wk

namespace Wk
open PySem PySem.Spec PyProof.Rows L2
def topS (i : Nat) : Stmt := PySem.Challenge.pw_wirespan_k28_records_and_cache.main.body.getD i (.Pass ⟨0, 0, 0, 0⟩)
abbrev s_Records___init__ : Stmt := inClass (topS 2) 0
abbrev s_Records_publish : Stmt := inClass (topS 2) 1
abbrev s_Records_find : Stmt := inClass (topS 2) 2
abbrev s_Cache___init__ : Stmt := inClass (topS 3) 0
abbrev s_Cache_store : Stmt := inClass (topS 3) 1
abbrev s_Cache_find : Stmt := inClass (topS 3) 2
abbrev s_Cache_clear_all : Stmt := inClass (topS 3) 3
abbrev s__law_box : Stmt := topS 5
abbrev s__law_draw : Stmt := topS 6
abbrev s__law_word : Stmt := topS 7
abbrev s__law_near : Stmt := topS 8
abbrev s__law_moved : Stmt := topS 9
abbrev s__law_is_whole : Stmt := topS 10
abbrev s__law_is_truth : Stmt := topS 11
abbrev s__law_found : Stmt := topS 12
abbrev s__law_written : Stmt := topS 13
abbrev s__law_all : Stmt := topS 14
abbrev s__law_address : Stmt := topS 15
abbrev s__law_stamp : Stmt := topS 16
abbrev s__law_span : Stmt := topS 17
abbrev s__law_origin : Stmt := topS 18
abbrev s__law_given : Stmt := topS 19
abbrev s__law_crowded : Stmt := topS 20
abbrev s__law_deed : Stmt := topS 21
abbrev s_law : Stmt := topS 22
structure Txt (K : PySem.W.Frag) (mg : Str → Option Value) : Prop where
  c_ABSENT_SPAN : ∃ t, mg "ABSENT_SPAN" = some (.int 3 t)
  g_Cache : mg "Cache" = some (.ref (He.ga K "Cache"))
  g_Records : mg "Records" = some (.ref (He.ga K "Records"))
  g__law_address : mg "_law_address" = some (.ref (He.ga K "_law_address"))
  g__law_all : mg "_law_all" = some (.ref (He.ga K "_law_all"))
  g__law_box : mg "_law_box" = some (.ref (He.ga K "_law_box"))
  g__law_crowded : mg "_law_crowded" = some (.ref (He.ga K "_law_crowded"))
  g__law_deed : mg "_law_deed" = some (.ref (He.ga K "_law_deed"))
  g__law_draw : mg "_law_draw" = some (.ref (He.ga K "_law_draw"))
  g__law_found : mg "_law_found" = some (.ref (He.ga K "_law_found"))
  g__law_given : mg "_law_given" = some (.ref (He.ga K "_law_given"))
  g__law_is_truth : mg "_law_is_truth" = some (.ref (He.ga K "_law_is_truth"))
  g__law_is_whole : mg "_law_is_whole" = some (.ref (He.ga K "_law_is_whole"))
  g__law_moved : mg "_law_moved" = some (.ref (He.ga K "_law_moved"))
  g__law_near : mg "_law_near" = some (.ref (He.ga K "_law_near"))
  g__law_origin : mg "_law_origin" = some (.ref (He.ga K "_law_origin"))
  g__law_span : mg "_law_span" = some (.ref (He.ga K "_law_span"))
  g__law_stamp : mg "_law_stamp" = some (.ref (He.ga K "_law_stamp"))
  g__law_word : mg "_law_word" = some (.ref (He.ga K "_law_word"))
  g__law_written : mg "_law_written" = some (.ref (He.ga K "_law_written"))
  b_bool : mg "bool" = none
  b_int : mg "int" = none
  b_isinstance : mg "isinstance" = none
  g_law : mg "law" = some (.ref (He.ga K "law"))
  b_len : mg "len" = none
  b_max : mg "max" = none
  b_min : mg "min" = none
  b_range : mg "range" = none
  b_sum : mg "sum" = none
  b_tuple : mg "tuple" = none
  F_Records___init__ : ∃ fd, FunD K "__init__" "Records.__init__" (defArgs s_Records___init__) (defBody s_Records___init__) (defScope s_Records___init__) [] [] (He.ma K (He.ga K "Records") "__init__") fd
  F_Records_publish : ∃ fd, FunD K "publish" "Records.publish" (defArgs s_Records_publish) (defBody s_Records_publish) (defScope s_Records_publish) [] [] (He.ma K (He.ga K "Records") "publish") fd
  F_Records_find : ∃ fd, FunD K "find" "Records.find" (defArgs s_Records_find) (defBody s_Records_find) (defScope s_Records_find) [] [] (He.ma K (He.ga K "Records") "find") fd
  F_Cache___init__ : ∃ fd, FunD K "__init__" "Cache.__init__" (defArgs s_Cache___init__) (defBody s_Cache___init__) (defScope s_Cache___init__) [] [] (He.ma K (He.ga K "Cache") "__init__") fd
  F_Cache_store : ∃ fd, FunD K "store" "Cache.store" (defArgs s_Cache_store) (defBody s_Cache_store) (defScope s_Cache_store) [] [] (He.ma K (He.ga K "Cache") "store") fd
  F_Cache_find : ∃ fd, FunD K "find" "Cache.find" (defArgs s_Cache_find) (defBody s_Cache_find) (defScope s_Cache_find) [] [] (He.ma K (He.ga K "Cache") "find") fd
  F_Cache_clear_all : ∃ fd, FunD K "clear_all" "Cache.clear_all" (defArgs s_Cache_clear_all) (defBody s_Cache_clear_all) (defScope s_Cache_clear_all) [] [] (He.ma K (He.ga K "Cache") "clear_all") fd
  F__law_box : ∃ fd, FunD K "_law_box" "_law_box" (defArgs s__law_box) (defBody s__law_box) (defScope s__law_box) [] [] (He.ga K "_law_box") fd
  F__law_draw : ∃ fd, FunD K "_law_draw" "_law_draw" (defArgs s__law_draw) (defBody s__law_draw) (defScope s__law_draw) [] [] (He.ga K "_law_draw") fd
  F__law_word : ∃ fd, FunD K "_law_word" "_law_word" (defArgs s__law_word) (defBody s__law_word) (defScope s__law_word) [] [] (He.ga K "_law_word") fd
  F__law_near : ∃ fd, FunD K "_law_near" "_law_near" (defArgs s__law_near) (defBody s__law_near) (defScope s__law_near) [] [] (He.ga K "_law_near") fd
  F__law_moved : ∃ fd, FunD K "_law_moved" "_law_moved" (defArgs s__law_moved) (defBody s__law_moved) (defScope s__law_moved) [] [] (He.ga K "_law_moved") fd
  F__law_is_whole : ∃ fd, FunD K "_law_is_whole" "_law_is_whole" (defArgs s__law_is_whole) (defBody s__law_is_whole) (defScope s__law_is_whole) [] [] (He.ga K "_law_is_whole") fd
  F__law_is_truth : ∃ fd, FunD K "_law_is_truth" "_law_is_truth" (defArgs s__law_is_truth) (defBody s__law_is_truth) (defScope s__law_is_truth) [] [] (He.ga K "_law_is_truth") fd
  F__law_found : ∃ fd, FunD K "_law_found" "_law_found" (defArgs s__law_found) (defBody s__law_found) (defScope s__law_found) [] [] (He.ga K "_law_found") fd
  F__law_written : ∃ fd, FunD K "_law_written" "_law_written" (defArgs s__law_written) (defBody s__law_written) (defScope s__law_written) [] [] (He.ga K "_law_written") fd
  F__law_all : ∃ fd, FunD K "_law_all" "_law_all" (defArgs s__law_all) (defBody s__law_all) (defScope s__law_all) [] [] (He.ga K "_law_all") fd
  F__law_address : ∃ fd, FunD K "_law_address" "_law_address" (defArgs s__law_address) (defBody s__law_address) (defScope s__law_address) [] [] (He.ga K "_law_address") fd
  F__law_stamp : ∃ fd, FunD K "_law_stamp" "_law_stamp" (defArgs s__law_stamp) (defBody s__law_stamp) (defScope s__law_stamp) [] [] (He.ga K "_law_stamp") fd
  F__law_span : ∃ fd, FunD K "_law_span" "_law_span" (defArgs s__law_span) (defBody s__law_span) (defScope s__law_span) [] [] (He.ga K "_law_span") fd
  F__law_origin : ∃ fd, FunD K "_law_origin" "_law_origin" (defArgs s__law_origin) (defBody s__law_origin) (defScope s__law_origin) [] [] (He.ga K "_law_origin") fd
  F__law_given : ∃ fd, FunD K "_law_given" "_law_given" (defArgs s__law_given) (defBody s__law_given) (defScope s__law_given) [] [] (He.ga K "_law_given") fd
  F__law_crowded : ∃ fd, FunD K "_law_crowded" "_law_crowded" (defArgs s__law_crowded) (defBody s__law_crowded) (defScope s__law_crowded) [] [] (He.ga K "_law_crowded") fd
  F__law_deed : ∃ fd, FunD K "_law_deed" "_law_deed" (defArgs s__law_deed) (defBody s__law_deed) (defScope s__law_deed) [] [] (He.ga K "_law_deed") fd
  F_law : ∃ fd, FunD K "law" "law" (defArgs s_law) (defBody s_law) (defScope s_law) [] [] (He.ga K "law") fd
  M_Cache : Mk K (He.ga K "Cache") (He.ma K (He.ga K "Cache") "__init__")
  M_Records : Mk K (He.ga K "Records") (He.ma K (He.ga K "Records") "__init__")
  k_Cache : Cls K (He.ga K "Cache")
  k_Records : Cls K (He.ga K "Records")
  m_Cache_clear_all : Meth K (He.ga K "Cache") "clear_all" (He.ma K (He.ga K "Cache") "clear_all")
  m_Cache_find : Meth K (He.ga K "Cache") "find" (He.ma K (He.ga K "Cache") "find")
  m_Cache_store : Meth K (He.ga K "Cache") "store" (He.ma K (He.ga K "Cache") "store")
  m_Records_find : Meth K (He.ga K "Records") "find" (He.ma K (He.ga K "Records") "find")
  m_Records_publish : Meth K (He.ga K "Records") "publish" (He.ma K (He.ga K "Records") "publish")
  n_Cache__answers : NoAttr K (He.ga K "Cache") "_answers"
  n_Cache__stamped : NoAttr K (He.ga K "Cache") "_stamped"
  n_Records__entries : NoAttr K (He.ga K "Records") "_entries"
abbrev N_Records___init__ : List Str := ["self"]
theorem sc_Records___init__ : FnScope N_Records___init__ ["self"] (defScope s_Records___init__) := ⟨rfl, rfl, rfl, by decide +kernel, rfl, by decide +kernel, by decide +kernel⟩
def rd_Records___init__ (K : PySem.W.Frag)  (E : XK) : TS := (cPutFl (He.ga K "Records") "_entries" (cVar 0) cNewK)
theorem der_Records___init__ {P : Program} {w : World} {K : PySem.W.Frag} {mg : Str → Option Value} {base : Heap} {sp : Sp1}  (e : Txt K mg) 
    (h : ∀ a0 H Q E, sp a0 H Q E → rd_Records___init__ K  E { nx := fun _ H' => Q .non H', rt := Q } [some a0] H) : Fok P w K mg base 1 (He.ma K (He.ga K "Records") "__init__") ["self"] (mk1 sp) := by
  obtain ⟨fd, F⟩ := e.F_Records___init__
  refine ⟨fd, F.ok sc_Records___init__ (fun _ _ _ _ z => mk1_len z) (fun cdv A outer s H vs Q E hr hsp => ?_), fun_lk F⟩
  have hu := hr.units
  obtain ⟨a0, rfl, hs⟩ := mk1_at hsp
  refine ⟨rd_Records___init__ K  E, ?_, h a0 H Q E hs⟩
  exact (pss_one (sPutFl (pn 0) eNewK e.k_Records e.n_Records__entries))
abbrev N_Records_publish : List Str := ["self", "name", "address", "span"]
theorem sc_Records_publish : FnScope N_Records_publish ["self", "name", "address", "span"] (defScope s_Records_publish) := ⟨rfl, rfl, rfl, by decide +kernel, rfl, by decide +kernel, by decide +kernel⟩
def rd_Records_publish (K : PySem.W.Frag)  (E : XK) : TS := (tAsg (cTup (tCons (cVar 2) (tCons (cVar 3) tNil))) (gSub (cFl (He.ga K "Records") "_entries" (cVar 0)) (cVar 1) uSet))
theorem der_Records_publish {P : Program} {w : World} {K : PySem.W.Frag} {mg : Str → Option Value} {base : Heap} {sp : Sp4}  (e : Txt K mg) 
    (h : ∀ a0 a1 a2 a3 H Q E, sp a0 a1 a2 a3 H Q E → rd_Records_publish K  E { nx := fun _ H' => Q .non H', rt := Q } [some a0, some a1, some a2, some a3] H) : Fok P w K mg base 1 (He.ma K (He.ga K "Records") "publish") ["self", "name", "address", "span"] (mk4 sp) := by
  obtain ⟨fd, F⟩ := e.F_Records_publish
  refine ⟨fd, F.ok sc_Records_publish (fun _ _ _ _ z => mk4_len z) (fun cdv A outer s H vs Q E hr hsp => ?_), fun_lk F⟩
  have hu := hr.units
  obtain ⟨a0, a1, a2, a3, rfl, hs⟩ := mk4_at hsp
  refine ⟨rd_Records_publish K  E, ?_, h a0 a1 a2 a3 H Q E hs⟩
  exact (pss_one (ps_asg (eTup (pa_cons (pn 2) (pa_cons (pn 3) pa_nil))) (pg_sub (eFl (pn 0) e.k_Records e.n_Records__entries) (pn 1) (setU hu))))
abbrev N_Records_find : List Str := ["self", "name"]
theorem sc_Records_find : FnScope N_Records_find ["self", "name"] (defScope s_Records_find) := ⟨rfl, rfl, rfl, by decide +kernel, rfl, by decide +kernel, by decide +kernel⟩
def rd_Records_find (K : PySem.W.Frag)  (E : XK) : TS := (tRet (cGet2 (cFl (He.ga K "Records") "_entries" (cVar 0)) (cVar 1) (cTup (tCons (tC .non) (tCons (tC (.int 3)) tNil)))))
theorem der_Records_find {P : Program} {w : World} {K : PySem.W.Frag} {mg : Str → Option Value} {base : Heap} {sp : Sp2}  (e : Txt K mg) 
    (h : ∀ a0 a1 H Q E, sp a0 a1 H Q E → rd_Records_find K  E { nx := fun _ H' => Q .non H', rt := Q } [some a0, some a1] H) : Fok P w K mg base 1 (He.ma K (He.ga K "Records") "find") ["self", "name"] (mk2 sp) := by
  obtain ⟨_, h_ABSENT_SPAN⟩ := e.c_ABSENT_SPAN
  obtain ⟨fd, F⟩ := e.F_Records_find
  refine ⟨fd, F.ok sc_Records_find (fun _ _ _ _ z => mk2_len z) (fun cdv A outer s H vs Q E hr hsp => ?_), fun_lk F⟩
  have hu := hr.units
  obtain ⟨a0, a1, rfl, hs⟩ := mk2_at hsp
  refine ⟨rd_Records_find K  E, ?_, h a0 a1 H Q E hs⟩
  exact (pss_one (ps_ret (eGet2 hu (eFl (pn 0) e.k_Records e.n_Records__entries) (pn 1) (eTup (pa_cons pe_non (pa_cons (pe_glob rfl h_ABSENT_SPAN ⟨_, rfl⟩) pa_nil))))))
abbrev N_Cache___init__ : List Str := ["self", "stamped"]
theorem sc_Cache___init__ : FnScope N_Cache___init__ ["self", "stamped"] (defScope s_Cache___init__) := ⟨rfl, rfl, rfl, by decide +kernel, rfl, by decide +kernel, by decide +kernel⟩
def rd_Cache___init__ (K : PySem.W.Frag)  (E : XK) : TS := (tSeq (cPutFl (He.ga K "Cache") "_stamped" (cVar 0) (cVar 1))
  (cPutFl (He.ga K "Cache") "_answers" (cVar 0) cNewK))
theorem der_Cache___init__ {P : Program} {w : World} {K : PySem.W.Frag} {mg : Str → Option Value} {base : Heap} {sp : Sp2}  (e : Txt K mg) 
    (h : ∀ a0 a1 H Q E, sp a0 a1 H Q E → rd_Cache___init__ K  E { nx := fun _ H' => Q .non H', rt := Q } [some a0, some a1] H) : Fok P w K mg base 1 (He.ma K (He.ga K "Cache") "__init__") ["self", "stamped"] (mk2 sp) := by
  obtain ⟨fd, F⟩ := e.F_Cache___init__
  refine ⟨fd, F.ok sc_Cache___init__ (fun _ _ _ _ z => mk2_len z) (fun cdv A outer s H vs Q E hr hsp => ?_), fun_lk F⟩
  have hu := hr.units
  obtain ⟨a0, a1, rfl, hs⟩ := mk2_at hsp
  refine ⟨rd_Cache___init__ K  E, ?_, h a0 a1 H Q E hs⟩
  exact (pss_cons (sPutFl (pn 0) (pn 1) e.k_Cache e.n_Cache__stamped)
  (pss_one (sPutFl (pn 0) eNewK e.k_Cache e.n_Cache__answers)))
abbrev N_Cache_store : List Str := ["self", "tick", "name", "address", "span", "stamp", "origin", "start", "until"]
theorem sc_Cache_store : FnScope N_Cache_store ["self", "tick", "name", "address", "span", "stamp", "origin"] (defScope s_Cache_store) := ⟨rfl, rfl, rfl, by decide +kernel, rfl, by decide +kernel, by decide +kernel⟩
def rd_Cache_store (K : PySem.W.Frag)  (E : XK) : TS := (tSeq (tAsg (tIf (cTru K (cFl (He.ga K "Cache") "_stamped" (cVar 0))) (cVar 5) (cVar 1)) (gNm 7))
  (tSeq (tAsg (tOp (uAdd K) (cVar 7) (cVar 4)) (gNm 8))
  (tSeq (tIfS (cTest (tOp uLe (cVar 8) (cVar 1)))
  (tRet (tC (.bl false)))
  tNext)
  (tSeq (tIfS (tOr (cTest (tOp (uNotIn K) (cVar 2) (cFl (He.ga K "Cache") "_answers" (cVar 0)))) (cTest (tOp (uLt K) (tOp (uIx K) (tOp (uIx K) (cFl (He.ga K "Cache") "_answers" (cVar 0)) (cVar 2)) (tC (.int 1))) (cVar 8))))
  (tAsg (cTup (tCons (cVar 3) (tCons (cVar 8) (tCons (cVar 6) tNil)))) (gSub (cFl (He.ga K "Cache") "_answers" (cVar 0)) (cVar 2) uSet))
  tNext)
  (tRet (tC (.bl true)))))))
theorem der_Cache_store {P : Program} {w : World} {K : PySem.W.Frag} {mg : Str → Option Value} {base : Heap} {sp : Sp7}  (e : Txt K mg) 
    (h : ∀ a0 a1 a2 a3 a4 a5 a6 H Q E, sp a0 a1 a2 a3 a4 a5 a6 H Q E → rd_Cache_store K  E { nx := fun _ H' => Q .non H', rt := Q } [some a0, some a1, some a2, some a3, some a4, some a5, some a6, none, none] H) : Fok P w K mg base 1 (He.ma K (He.ga K "Cache") "store") ["self", "tick", "name", "address", "span", "stamp", "origin"] (mk7 sp) := by
  obtain ⟨fd, F⟩ := e.F_Cache_store
  refine ⟨fd, F.ok sc_Cache_store (fun _ _ _ _ z => mk7_len z) (fun cdv A outer s H vs Q E hr hsp => ?_), fun_lk F⟩
  have hu := hr.units
  obtain ⟨a0, a1, a2, a3, a4, a5, a6, rfl, hs⟩ := mk7_at hsp
  refine ⟨rd_Cache_store K  E, ?_, h a0 a1 a2 a3 a4 a5 a6 H Q E hs⟩
  exact (pss_cons (sSet (i := 7) sc_Cache_store.nd rfl (by first | exact .inl rfl | exact .inr rfl) (pe_ifExp (tt_ (eFl (pn 0) e.k_Cache e.n_Cache__stamped)) (pn 5) (pn 1)))
  (pss_cons (sSet (i := 8) sc_Cache_store.nd rfl (by first | exact .inl rfl | exact .inr rfl) (pe_op oAdd (pn 7) (pn 4)))
  (pss_cons (ps_if (ct oLe (pn 8) (pn 1))
  (pss_one (ps_ret pe_bl))
  pss_nil)
  (pss_cons (ps_if (PW.pt (pw_or (ct (oNotIn hu) (pn 2) (eFl (pn 0) e.k_Cache e.n_Cache__answers)) (pw_or1 (ct (oLt (Nat.lt_of_le_of_lt (Nat.le_add_right _ 64) hu)) (eIx hu (eIx hu (eFl (pn 0) e.k_Cache e.n_Cache__answers) (pn 2)) pe_int) (pn 8)))))
  (pss_one (ps_asg (eTup (pa_cons (pn 3) (pa_cons (pn 8) (pa_cons (pn 6) pa_nil)))) (pg_sub (eFl (pn 0) e.k_Cache e.n_Cache__answers) (pn 2) (setU hu))))
  pss_nil)
  (pss_one (ps_ret pe_bl))))))
abbrev N_Cache_find : List Str := ["self", "tick", "name", "address", "until", "origin"]
theorem sc_Cache_find : FnScope N_Cache_find ["self", "tick", "name"] (defScope s_Cache_find) := ⟨rfl, rfl, rfl, by decide +kernel, rfl, by decide +kernel, by decide +kernel⟩
def rd_Cache_find (K : PySem.W.Frag)  (E : XK) : TS := (tSeq (tIfS (cTest (tOp (uNotIn K) (cVar 2) (cFl (He.ga K "Cache") "_answers" (cVar 0))))
  (tRet (tC .non))
  tNext)
  (tSeq (tAsg (tOp (uIx K) (cFl (He.ga K "Cache") "_answers" (cVar 0)) (cVar 2)) (gUn K 3 (gCn (gNm 3) (gCn (gNm 4) (gCn (gNm 5) gNl)))))
  (tSeq (tIfS (cTest (tOp uLe (cVar 4) (cVar 1)))
  (tRet (tC .non))
  tNext)
  (tRet (cTup (tCons (cVar 3) (tCons (tOp uSub (cVar 4) (cVar 1)) (tCons (cVar 5) tNil))))))))
theorem der_Cache_find {P : Program} {w : World} {K : PySem.W.Frag} {mg : Str → Option Value} {base : Heap} {sp : Sp3}  (e : Txt K mg) 
    (h : ∀ a0 a1 a2 H Q E, sp a0 a1 a2 H Q E → rd_Cache_find K  E { nx := fun _ H' => Q .non H', rt := Q } [some a0, some a1, some a2, none, none, none] H) : Fok P w K mg base 1 (He.ma K (He.ga K "Cache") "find") ["self", "tick", "name"] (mk3 sp) := by
  obtain ⟨fd, F⟩ := e.F_Cache_find
  refine ⟨fd, F.ok sc_Cache_find (fun _ _ _ _ z => mk3_len z) (fun cdv A outer s H vs Q E hr hsp => ?_), fun_lk F⟩
  have hu := hr.units
  obtain ⟨a0, a1, a2, rfl, hs⟩ := mk3_at hsp
  refine ⟨rd_Cache_find K  E, ?_, h a0 a1 a2 H Q E hs⟩
  exact (pss_cons (ps_if (ct (oNotIn hu) (pn 2) (eFl (pn 0) e.k_Cache e.n_Cache__answers))
  (pss_one (ps_ret pe_non))
  pss_nil)
  (pss_cons (ps_asg (eIx hu (eFl (pn 0) e.k_Cache e.n_Cache__answers) (pn 2)) (gUnp rfl (gsCons (tNm (i := 3) sc_Cache_find.nd rfl (by first | exact .inl rfl | exact .inr rfl)) (gsCons (tNm (i := 4) sc_Cache_find.nd rfl (by first | exact .inl rfl | exact .inr rfl)) (gsCons (tNm (i := 5) sc_Cache_find.nd rfl (by first | exact .inl rfl | exact .inr rfl)) gsNil)))))
  (pss_cons (ps_if (ct oLe (pn 4) (pn 1))
  (pss_one (ps_ret pe_non))
  pss_nil)
  (pss_one (ps_ret (eTup (pa_cons (pn 3) (pa_cons (pe_op oSub (pn 4) (pn 1)) (pa_cons (pn 5) pa_nil)))))))))
abbrev N_Cache_clear_all : List Str := ["self"]
theorem sc_Cache_clear_all : FnScope N_Cache_clear_all ["self"] (defScope s_Cache_clear_all) := ⟨rfl, rfl, rfl, by decide +kernel, rfl, by decide +kernel, by decide +kernel⟩
def rd_Cache_clear_all (K : PySem.W.Frag)  (E : XK) : TS := (cPutFl (He.ga K "Cache") "_answers" (cVar 0) cNewK)
theorem der_Cache_clear_all {P : Program} {w : World} {K : PySem.W.Frag} {mg : Str → Option Value} {base : Heap} {sp : Sp1}  (e : Txt K mg) 
    (h : ∀ a0 H Q E, sp a0 H Q E → rd_Cache_clear_all K  E { nx := fun _ H' => Q .non H', rt := Q } [some a0] H) : Fok P w K mg base 1 (He.ma K (He.ga K "Cache") "clear_all") ["self"] (mk1 sp) := by
  obtain ⟨fd, F⟩ := e.F_Cache_clear_all
  refine ⟨fd, F.ok sc_Cache_clear_all (fun _ _ _ _ z => mk1_len z) (fun cdv A outer s H vs Q E hr hsp => ?_), fun_lk F⟩
  have hu := hr.units
  obtain ⟨a0, rfl, hs⟩ := mk1_at hsp
  refine ⟨rd_Cache_clear_all K  E, ?_, h a0 H Q E hs⟩
  exact (pss_one (sPutFl (pn 0) eNewK e.k_Cache e.n_Cache__answers))
abbrev N__law_box : List Str := ["script", "k", "cell", "deep", "base"]
theorem sc__law_box : FnScope N__law_box ["script", "k"] (defScope s__law_box) := ⟨rfl, rfl, rfl, by decide +kernel, rfl, by decide +kernel, by decide +kernel⟩
def rd__law_box (K : PySem.W.Frag)  (E : XK) : TS := (tSeq (tAsg (tOp uMod (tCB uInt (tCons (tCB (uSum K) (tCons (tSl (uSl K) (cVar 0) tNoPart (cPart (tC (.int 63)))) tNil)) tNil)) (tC (.int 1000003))) (gNm 2))
  (tSeq (tIfS (cTest (tOp (uLt K) (cVar 1) (tCB (uLen K) (tCons (cVar 0) tNil))))
  (tAsg (tOp (uIx K) (cVar 0) (cVar 1)) (gNm 2))
  tNext)
  (tSeq (tAsg (tC (.int 0)) (gNm 3))
  (tSeq (tIfS (cTest (tOp uGe (cVar 2) (tOp uPow (tC (.int 10)) (tC (.int 18)))))
  (tAsg (tOp uMod (tCB uInt (tCons (cVar 2) tNil)) (tOp uPow (tC (.int 10)) (tC (.int 60)))) (gNm 3))
  tNext)
  (tSeq (tAsg (tOp uMod (tCB uInt (tCons (tOp (uAdd K) (tOp (uAdd K) (tOp uMul (cVar 2) (tC (.int 48271))) (tOp uMul (cVar 1) (tC (.int 69621)))) (tC (.int 2555))) tNil)) (tC (.int 2147483647))) (gNm 4))
  (tRet (cLst (tCons (cVar 3) (tCons (tOp uMod (tCB uInt (tCons (tOp (uAdd K) (tOp uMul (cVar 4) (tOp (uAdd K) (tOp (uAdd K) (tOp uDiv (cVar 4) (tC (.int 128))) (cVar 1)) (tC (.int 1)))) (tC (.int 7))) tNil)) (tC (.int 2147483629))) tNil)))))))))
theorem der__law_box {P : Program} {w : World} {K : PySem.W.Frag} {mg : Str → Option Value} {base : Heap} {sp : Sp2}  (e : Txt K mg) 
    (h : ∀ a0 a1 H Q E, sp a0 a1 H Q E → rd__law_box K  E { nx := fun _ H' => Q .non H', rt := Q } [some a0, some a1, none, none, none] H) : Fok P w K mg base 1 (He.ga K "_law_box") ["script", "k"] (mk2 sp) := by
  obtain ⟨fd, F⟩ := e.F__law_box
  refine ⟨fd, F.ok sc__law_box (fun _ _ _ _ z => mk2_len z) (fun cdv A outer s H vs Q E hr hsp => ?_), fun_lk F⟩
  have hu := hr.units
  obtain ⟨a0, a1, rfl, hs⟩ := mk2_at hsp
  refine ⟨rd__law_box K  E, ?_, h a0 a1 H Q E hs⟩
  exact (pss_cons (sSet (i := 2) sc__law_box.nd rfl (by first | exact .inl rfl | exact .inr rfl) (pe_op oMod (pe_callTy bInt rfl e.b_int (by decide +kernel) (pa_cons (pe_callB (bSum rfl) rfl e.b_sum (by decide +kernel) (pa_cons (eSl (pn 0) po_none (eSome pe_int)) pa_nil)) pa_nil)) pe_int))
  (pss_cons (ps_if (ct (oLt (Nat.lt_of_le_of_lt (Nat.le_add_right _ 64) hu)) (pn 1) (pe_callB bLen rfl e.b_len (by decide +kernel) (pa_cons (pn 0) pa_nil)))
  (pss_one (sSet (i := 2) sc__law_box.nd rfl (by first | exact .inl rfl | exact .inr rfl) (eIx hu (pn 0) (pn 1))))
  pss_nil)
  (pss_cons (sSet (i := 3) sc__law_box.nd rfl (by first | exact .inl rfl | exact .inr rfl) pe_int)
  (pss_cons (ps_if (ct oGe (pn 2) (pe_op oPow pe_int pe_int))
  (pss_one (sSet (i := 3) sc__law_box.nd rfl (by first | exact .inl rfl | exact .inr rfl) (pe_op oMod (pe_callTy bInt rfl e.b_int (by decide +kernel) (pa_cons (pn 2) pa_nil)) (pe_op oPow pe_int pe_int))))
  pss_nil)
  (pss_cons (sSet (i := 4) sc__law_box.nd rfl (by first | exact .inl rfl | exact .inr rfl) (pe_op oMod (pe_callTy bInt rfl e.b_int (by decide +kernel) (pa_cons (pe_op oAdd (pe_op oAdd (pe_op oMul (pn 2) pe_int) (pe_op oMul (pn 1) pe_int)) pe_int) pa_nil)) pe_int))
  (pss_one (ps_ret (eLst (pa_cons (pn 3) (pa_cons (pe_op oMod (pe_callTy bInt rfl e.b_int (by decide +kernel) (pa_cons (pe_op oAdd (pe_op oMul (pn 4) (pe_op oAdd (pe_op oAdd (pe_op oDiv (pn 4) pe_int) (pn 1)) pe_int)) pe_int) pa_nil)) pe_int) pa_nil))))))))))
abbrev N__law_draw : List Str := ["box", "size", "drawn"]
theorem sc__law_draw : FnScope N__law_draw ["box", "size"] (defScope s__law_draw) := ⟨rfl, rfl, rfl, by decide +kernel, rfl, by decide +kernel, by decide +kernel⟩
def rd__law_draw (K : PySem.W.Frag)  (E : XK) : TS := (tSeq (tIfS (cTest (tOp uGt (tOp (uIx K) (cVar 0) (tC (.int 0))) (tC (.int 0))))
  (tSeq (tAsg (tOp uMod (tCB uInt (tCons (tOp (uIx K) (cVar 0) (tC (.int 0))) tNil)) (cVar 1)) (gNm 2))
  (tSeq (tAsg (tOp uDiv (tOp (uIx K) (cVar 0) (tC (.int 0))) (cVar 1)) (gSub (cVar 0) (tC (.int 0)) uSet))
  (tRet (cVar 2))))
  tNext)
  (tSeq (tAsg (tOp uMod (tCB uInt (tCons (tOp (uAdd K) (tOp uMul (tOp (uIx K) (cVar 0) (tC (.int 1))) (tC (.int 48271))) (tC (.int 30011))) tNil)) (tC (.int 2147483647))) (gSub (cVar 0) (tC (.int 1)) uSet))
  (tRet (tOp uMod (tCB uInt (tCons (tOp uDiv (tOp uMod (tCB uInt (tCons (tOp (uAdd K) (tOp uMul (tOp uDiv (tOp (uIx K) (cVar 0) (tC (.int 1))) (tC (.int 64))) (tC (.int 69621))) (tOp (uIx K) (cVar 0) (tC (.int 1)))) tNil)) (tC (.int 2147483629))) (tC (.int 1024))) tNil)) (cVar 1)))))
theorem der__law_draw {P : Program} {w : World} {K : PySem.W.Frag} {mg : Str → Option Value} {base : Heap} {sp : Sp2}  (e : Txt K mg) 
    (h : ∀ a0 a1 H Q E, sp a0 a1 H Q E → rd__law_draw K  E { nx := fun _ H' => Q .non H', rt := Q } [some a0, some a1, none] H) : Fok P w K mg base 1 (He.ga K "_law_draw") ["box", "size"] (mk2 sp) := by
  obtain ⟨fd, F⟩ := e.F__law_draw
  refine ⟨fd, F.ok sc__law_draw (fun _ _ _ _ z => mk2_len z) (fun cdv A outer s H vs Q E hr hsp => ?_), fun_lk F⟩
  have hu := hr.units
  obtain ⟨a0, a1, rfl, hs⟩ := mk2_at hsp
  refine ⟨rd__law_draw K  E, ?_, h a0 a1 H Q E hs⟩
  exact (pss_cons (ps_if (ct oGt (eIx hu (pn 0) pe_int) pe_int)
  (pss_cons (sSet (i := 2) sc__law_draw.nd rfl (by first | exact .inl rfl | exact .inr rfl) (pe_op oMod (pe_callTy bInt rfl e.b_int (by decide +kernel) (pa_cons (eIx hu (pn 0) pe_int) pa_nil)) (pn 1)))
  (pss_cons (ps_asg (pe_op oDiv (eIx hu (pn 0) pe_int) (pn 1)) (pg_sub (pn 0) pe_int (setU hu)))
  (pss_one (ps_ret (pn 2)))))
  pss_nil)
  (pss_cons (ps_asg (pe_op oMod (pe_callTy bInt rfl e.b_int (by decide +kernel) (pa_cons (pe_op oAdd (pe_op oMul (eIx hu (pn 0) pe_int) pe_int) pe_int) pa_nil)) pe_int) (pg_sub (pn 0) pe_int (setU hu)))
  (pss_one (ps_ret (pe_op oMod (pe_callTy bInt rfl e.b_int (by decide +kernel) (pa_cons (pe_op oDiv (pe_op oMod (pe_callTy bInt rfl e.b_int (by decide +kernel) (pa_cons (pe_op oAdd (pe_op oMul (pe_op oDiv (eIx hu (pn 0) pe_int) pe_int) pe_int) (eIx hu (pn 0) pe_int)) pa_nil)) pe_int) pe_int) pa_nil)) (pn 1))))))
abbrev N__law_word : List Str := ["box", "letters", "word", "k"]
theorem sc__law_word : FnScope N__law_word ["box"] (defScope s__law_word) := ⟨rfl, rfl, rfl, by decide +kernel, rfl, by decide +kernel, by decide +kernel⟩
def rd__law_word (K : PySem.W.Frag) (S__law_draw : Sp2) (E : XK) : TS := (tSeq (tAsg (tC (.str "abcdefghijklmnopqrstuvwxyz")) (gNm 1))
  (tSeq (tAsg (tC (.str "")) (gNm 2))
  (tSeq (cFor (iR1 (tCons (tOp (uAdd K) (tC (.int 1)) (tCall (mk2 S__law_draw) [] E (tCons (cVar 0) (tCons (tC (.int 4)) tNil)))) tNil)) (gNm 3)
  (tAsg (tOp (uAdd K) (cVar 2) (tOp (uIx K) (cVar 1) (tCall (mk2 S__law_draw) [] E (tCons (cVar 0) (tCons (tC (.int 26)) tNil))))) (gNm 2)))
  (tRet (cVar 2)))))
theorem der__law_word {P : Program} {w : World} {K : PySem.W.Frag} {mg : Str → Option Value} {base : Heap} {sp : Sp1} {S__law_draw : Sp2} (e : Txt K mg) (O__law_draw : Fok P w K mg base 1 (He.ga K "_law_draw") ["box", "size"] (mk2 S__law_draw))
    (h : ∀ a0 H Q E, sp a0 H Q E → rd__law_word K S__law_draw E { nx := fun _ H' => Q .non H', rt := Q } [some a0, none, none, none] H) : Fok P w K mg base 2 (He.ga K "_law_word") ["box"] (mk1 sp) := by
  obtain ⟨fd__law_draw, F__law_draw⟩ := e.F__law_draw
  have G__law_draw := fok_same F__law_draw O__law_draw
  have k__law_draw := F__law_draw.kp
  have b__law_draw := FunD.bindsN (ps := ["box", "size"]) F__law_draw fun _ _ _ _ _ _ us hl => match us, hl with | [_, _], _ => rfl
  obtain ⟨fd, F⟩ := e.F__law_word
  refine ⟨fd, F.ok sc__law_word (fun _ _ _ _ z => mk1_len z) (fun cdv A outer s H vs Q E hr hsp => ?_), fun_lk F⟩
  have hu := hr.units
  obtain ⟨a0, rfl, hs⟩ := mk1_at hsp
  refine ⟨rd__law_word K S__law_draw E, ?_, h a0 H Q E hs⟩
  exact (pss_cons (sSet (i := 1) sc__law_word.nd rfl (by first | exact .inl rfl | exact .inr rfl) pe_str)
  (pss_cons (sSet (i := 2) sc__law_word.nd rfl (by first | exact .inl rfl | exact .inr rfl) pe_str)
  (pss_cons (sFor (passes_of rfl) rfl (fR1 rfl e.b_range (pa_cons (pe_op oAdd pe_int (pe_call G__law_draw (hr.mono (by decide)) rfl e.g__law_draw k__law_draw b__law_draw .nil (passes_call (takes_of rfl rfl rfl rfl) fun _ _ _ _ h => h) (pa_cons (pn 0) (pa_cons pe_int pa_nil)))) pa_nil)) (tNm (i := 3) sc__law_word.nd rfl (by first | exact .inl rfl | exact .inr rfl))
  (pss_one (sSet (i := 2) sc__law_word.nd rfl (by first | exact .inl rfl | exact .inr rfl) (pe_op oAdd (pn 2) (eIx hu (pn 1) (pe_call G__law_draw (hr.mono (by decide)) rfl e.g__law_draw k__law_draw b__law_draw .nil (passes_call (takes_of rfl rfl rfl rfl) fun _ _ _ _ h => h) (pa_cons (pn 0) (pa_cons pe_int pa_nil))))))))
  (pss_one (ps_ret (pn 2))))))
abbrev N__law_near : List Str := ["box", "word", "letters", "form", "at", "letter", "place"]
theorem sc__law_near : FnScope N__law_near ["box", "word"] (defScope s__law_near) := ⟨rfl, rfl, rfl, by decide +kernel, rfl, by decide +kernel, by decide +kernel⟩
def rd__law_near (K : PySem.W.Frag) (S__law_draw : Sp2) (E : XK) : TS := (tSeq (tAsg (tC (.str "abcdefghijklmnopqrstuvwxyz")) (gNm 2))
  (tSeq (tAsg (tCall (mk2 S__law_draw) [] E (tCons (cVar 0) (tCons (tC (.int 4)) tNil))) (gNm 3))
  (tSeq (tAsg (tCall (mk2 S__law_draw) [] E (tCons (cVar 0) (tCons (tOp (uAdd K) (tCB (uLen K) (tCons (cVar 1) tNil)) (tC (.int 1))) tNil))) (gNm 4))
  (tSeq (tAsg (tOp (uIx K) (cVar 2) (tCall (mk2 S__law_draw) [] E (tCons (cVar 0) (tCons (tC (.int 26)) tNil)))) (gNm 5))
  (tSeq (tIfS (tAnd (cTest (tOp (uEq K) (cVar 3) (tC (.int 0)))) (cTest (tOp (uLt K) (tCB (uLen K) (tCons (cVar 1) tNil)) (tC (.int 4)))))
  (tRet (tOp (uAdd K) (tOp (uAdd K) (tSl (uSl K) (cVar 1) tNoPart (cPart (cVar 4))) (cVar 5)) (tSl (uSl K) (cVar 1) (cPart (cVar 4)) tNoPart)))
  tNext)
  (tSeq (tAsg (tOp uMod (tCB uInt (tCons (cVar 4) tNil)) (tCB (uLen K) (tCons (cVar 1) tNil))) (gNm 6))
  (tSeq (tIfS (tAnd (cTest (tOp (uEq K) (cVar 3) (tC (.int 1)))) (cTest (tOp uGt (tCB (uLen K) (tCons (cVar 1) tNil)) (tC (.int 1)))))
  (tRet (tOp (uAdd K) (tSl (uSl K) (cVar 1) tNoPart (cPart (cVar 6))) (tSl (uSl K) (cVar 1) (cPart (tOp (uAdd K) (cVar 6) (tC (.int 1)))) tNoPart)))
  tNext)
  (tSeq (tIfS (cTest (tOp (uEq K) (cVar 3) (tC (.int 2))))
  (tRet (cRevS (cVar 1)))
  tNext)
  (tRet (tOp (uAdd K) (tOp (uAdd K) (tSl (uSl K) (cVar 1) tNoPart (cPart (cVar 6))) (cVar 5)) (tSl (uSl K) (cVar 1) (cPart (tOp (uAdd K) (cVar 6) (tC (.int 1)))) tNoPart)))))))))))
theorem der__law_near {P : Program} {w : World} {K : PySem.W.Frag} {mg : Str → Option Value} {base : Heap} {sp : Sp2} {S__law_draw : Sp2} (e : Txt K mg) (O__law_draw : Fok P w K mg base 1 (He.ga K "_law_draw") ["box", "size"] (mk2 S__law_draw))
    (h : ∀ a0 a1 H Q E, sp a0 a1 H Q E → rd__law_near K S__law_draw E { nx := fun _ H' => Q .non H', rt := Q } [some a0, some a1, none, none, none, none, none] H) : Fok P w K mg base 2 (He.ga K "_law_near") ["box", "word"] (mk2 sp) := by
  obtain ⟨fd__law_draw, F__law_draw⟩ := e.F__law_draw
  have G__law_draw := fok_same F__law_draw O__law_draw
  have k__law_draw := F__law_draw.kp
  have b__law_draw := FunD.bindsN (ps := ["box", "size"]) F__law_draw fun _ _ _ _ _ _ us hl => match us, hl with | [_, _], _ => rfl
  obtain ⟨fd, F⟩ := e.F__law_near
  refine ⟨fd, F.ok sc__law_near (fun _ _ _ _ z => mk2_len z) (fun cdv A outer s H vs Q E hr hsp => ?_), fun_lk F⟩
  have hu := hr.units
  obtain ⟨a0, a1, rfl, hs⟩ := mk2_at hsp
  refine ⟨rd__law_near K S__law_draw E, ?_, h a0 a1 H Q E hs⟩
  exact (pss_cons (sSet (i := 2) sc__law_near.nd rfl (by first | exact .inl rfl | exact .inr rfl) pe_str)
  (pss_cons (sSet (i := 3) sc__law_near.nd rfl (by first | exact .inl rfl | exact .inr rfl) (pe_call G__law_draw (hr.mono (by decide)) rfl e.g__law_draw k__law_draw b__law_draw .nil (passes_call (takes_of rfl rfl rfl rfl) fun _ _ _ _ h => h) (pa_cons (pn 0) (pa_cons pe_int pa_nil))))
  (pss_cons (sSet (i := 4) sc__law_near.nd rfl (by first | exact .inl rfl | exact .inr rfl) (pe_call G__law_draw (hr.mono (by decide)) rfl e.g__law_draw k__law_draw b__law_draw .nil (passes_call (takes_of rfl rfl rfl rfl) fun _ _ _ _ h => h) (pa_cons (pn 0) (pa_cons (pe_op oAdd (pe_callB bLen rfl e.b_len (by decide +kernel) (pa_cons (pn 1) pa_nil)) pe_int) pa_nil))))
  (pss_cons (sSet (i := 5) sc__law_near.nd rfl (by first | exact .inl rfl | exact .inr rfl) (eIx hu (pn 2) (pe_call G__law_draw (hr.mono (by decide)) rfl e.g__law_draw k__law_draw b__law_draw .nil (passes_call (takes_of rfl rfl rfl rfl) fun _ _ _ _ h => h) (pa_cons (pn 0) (pa_cons pe_int pa_nil)))))
  (pss_cons (ps_if (PW.pt (pw_and (ct (oEq hu) (pn 3) pe_int) (pw_and1 (ct (oLt (Nat.lt_of_le_of_lt (Nat.le_add_right _ 64) hu)) (pe_callB bLen rfl e.b_len (by decide +kernel) (pa_cons (pn 1) pa_nil)) pe_int))))
  (pss_one (ps_ret (pe_op oAdd (pe_op oAdd (eSl (pn 1) po_none (eSome (pn 4))) (pn 5)) (eSl (pn 1) (eSome (pn 4)) po_none))))
  pss_nil)
  (pss_cons (sSet (i := 6) sc__law_near.nd rfl (by first | exact .inl rfl | exact .inr rfl) (pe_op oMod (pe_callTy bInt rfl e.b_int (by decide +kernel) (pa_cons (pn 4) pa_nil)) (pe_callB bLen rfl e.b_len (by decide +kernel) (pa_cons (pn 1) pa_nil))))
  (pss_cons (ps_if (PW.pt (pw_and (ct (oEq hu) (pn 3) pe_int) (pw_and1 (ct oGt (pe_callB bLen rfl e.b_len (by decide +kernel) (pa_cons (pn 1) pa_nil)) pe_int))))
  (pss_one (ps_ret (pe_op oAdd (eSl (pn 1) po_none (eSome (pn 6))) (eSl (pn 1) (eSome (pe_op oAdd (pn 6) pe_int)) po_none))))
  pss_nil)
  (pss_cons (ps_if (ct (oEq hu) (pn 3) pe_int)
  (pss_one (ps_ret (eRevS (pn 1))))
  pss_nil)
  (pss_one (ps_ret (pe_op oAdd (pe_op oAdd (eSl (pn 1) po_none (eSome (pn 6))) (pn 5)) (eSl (pn 1) (eSome (pe_op oAdd (pn 6) pe_int)) po_none))))))))))))
abbrev N__law_moved : List Str := ["box", "moment", "best", "form", "hop", "later"]
theorem sc__law_moved : FnScope N__law_moved ["box", "moment", "best"] (defScope s__law_moved) := ⟨rfl, rfl, rfl, by decide +kernel, rfl, by decide +kernel, by decide +kernel⟩
def rd__law_moved (K : PySem.W.Frag) (S__law_draw : Sp2) (E : XK) : TS := (tSeq (tAsg (tCall (mk2 S__law_draw) [] E (tCons (cVar 0) (tCons (tC (.int 8)) tNil))) (gNm 3))
  (tSeq (tAsg (tCall (mk2 S__law_draw) [] E (tCons (cVar 0) (tCons (tC (.int 30)) tNil))) (gNm 4))
  (tSeq (tAsg (cVar 1) (gNm 5))
  (tSeq (tIfS (cTest (tOp (uEq K) (cVar 3) (tC (.int 3))))
  (tAsg (tOp (uAdd K) (cVar 1) (tC (.int 1))) (gNm 5))
  tNext)
  (tSeq (tIfS (cTest (tOp (uEq K) (cVar 3) (tC (.int 4))))
  (tAsg (tOp (uAdd K) (tOp (uAdd K) (cVar 1) (tC (.int 1))) (tOp uDiv (cVar 4) (tC (.int 5)))) (gNm 5))
  tNext)
  (tSeq (tIfS (cTest (tOp (uEq K) (cVar 3) (tC (.int 5))))
  (tAsg (tOp (uAdd K) (cVar 1) (cVar 4)) (gNm 5))
  tNext)
  (tSeq (tIfS (cTest (tOp (uEq K) (cVar 3) (tC (.int 6))))
  (tAsg (tCB uMax2 (tCons (cVar 1) (tCons (tOp uSub (cVar 2) (tC (.int 1))) tNil))) (gNm 5))
  tNext)
  (tSeq (tIfS (cTest (tOp (uEq K) (cVar 3) (tC (.int 7))))
  (tAsg (tCB uMax2 (tCons (cVar 1) (tCons (cVar 2) tNil))) (gNm 5))
  tNext)
  (tRet (tCB uMin2 (tCons (tC (.int 239)) (tCons (cVar 5) tNil))))))))))))
theorem der__law_moved {P : Program} {w : World} {K : PySem.W.Frag} {mg : Str → Option Value} {base : Heap} {sp : Sp3} {S__law_draw : Sp2} (e : Txt K mg) (O__law_draw : Fok P w K mg base 1 (He.ga K "_law_draw") ["box", "size"] (mk2 S__law_draw))
    (h : ∀ a0 a1 a2 H Q E, sp a0 a1 a2 H Q E → rd__law_moved K S__law_draw E { nx := fun _ H' => Q .non H', rt := Q } [some a0, some a1, some a2, none, none, none] H) : Fok P w K mg base 2 (He.ga K "_law_moved") ["box", "moment", "best"] (mk3 sp) := by
  obtain ⟨fd__law_draw, F__law_draw⟩ := e.F__law_draw
  have G__law_draw := fok_same F__law_draw O__law_draw
  have k__law_draw := F__law_draw.kp
  have b__law_draw := FunD.bindsN (ps := ["box", "size"]) F__law_draw fun _ _ _ _ _ _ us hl => match us, hl with | [_, _], _ => rfl
  obtain ⟨fd, F⟩ := e.F__law_moved
  refine ⟨fd, F.ok sc__law_moved (fun _ _ _ _ z => mk3_len z) (fun cdv A outer s H vs Q E hr hsp => ?_), fun_lk F⟩
  have hu := hr.units
  obtain ⟨a0, a1, a2, rfl, hs⟩ := mk3_at hsp
  refine ⟨rd__law_moved K S__law_draw E, ?_, h a0 a1 a2 H Q E hs⟩
  exact (pss_cons (sSet (i := 3) sc__law_moved.nd rfl (by first | exact .inl rfl | exact .inr rfl) (pe_call G__law_draw (hr.mono (by decide)) rfl e.g__law_draw k__law_draw b__law_draw .nil (passes_call (takes_of rfl rfl rfl rfl) fun _ _ _ _ h => h) (pa_cons (pn 0) (pa_cons pe_int pa_nil))))
  (pss_cons (sSet (i := 4) sc__law_moved.nd rfl (by first | exact .inl rfl | exact .inr rfl) (pe_call G__law_draw (hr.mono (by decide)) rfl e.g__law_draw k__law_draw b__law_draw .nil (passes_call (takes_of rfl rfl rfl rfl) fun _ _ _ _ h => h) (pa_cons (pn 0) (pa_cons pe_int pa_nil))))
  (pss_cons (sSet (i := 5) sc__law_moved.nd rfl (by first | exact .inl rfl | exact .inr rfl) (pn 1))
  (pss_cons (ps_if (ct (oEq hu) (pn 3) pe_int)
  (pss_one (sSet (i := 5) sc__law_moved.nd rfl (by first | exact .inl rfl | exact .inr rfl) (pe_op oAdd (pn 1) pe_int)))
  pss_nil)
  (pss_cons (ps_if (ct (oEq hu) (pn 3) pe_int)
  (pss_one (sSet (i := 5) sc__law_moved.nd rfl (by first | exact .inl rfl | exact .inr rfl) (pe_op oAdd (pe_op oAdd (pn 1) pe_int) (pe_op oDiv (pn 4) pe_int))))
  pss_nil)
  (pss_cons (ps_if (ct (oEq hu) (pn 3) pe_int)
  (pss_one (sSet (i := 5) sc__law_moved.nd rfl (by first | exact .inl rfl | exact .inr rfl) (pe_op oAdd (pn 1) (pn 4))))
  pss_nil)
  (pss_cons (ps_if (ct (oEq hu) (pn 3) pe_int)
  (pss_one (sSet (i := 5) sc__law_moved.nd rfl (by first | exact .inl rfl | exact .inr rfl) (pe_callB (bMax2 rfl) rfl e.b_max (by decide +kernel) (pa_cons (pn 1) (pa_cons (pe_op oSub (pn 2) pe_int) pa_nil)))))
  pss_nil)
  (pss_cons (ps_if (ct (oEq hu) (pn 3) pe_int)
  (pss_one (sSet (i := 5) sc__law_moved.nd rfl (by first | exact .inl rfl | exact .inr rfl) (pe_callB (bMax2 rfl) rfl e.b_max (by decide +kernel) (pa_cons (pn 1) (pa_cons (pn 2) pa_nil)))))
  pss_nil)
  (pss_one (ps_ret (pe_callB (bMin2 rfl) rfl e.b_min (by decide +kernel) (pa_cons pe_int (pa_cons (pn 5) pa_nil)))))))))))))
abbrev N__law_is_whole : List Str := ["value"]
theorem sc__law_is_whole : FnScope N__law_is_whole ["value"] (defScope s__law_is_whole) := ⟨rfl, rfl, rfl, by decide +kernel, rfl, by decide +kernel, by decide +kernel⟩
def rd__law_is_whole (K : PySem.W.Frag)  (E : XK) : TS := (tRet (cAnd K (cIsi K isiInt (cVar 0)) (cNot K (cIsi K isiBool (cVar 0)))))
theorem der__law_is_whole {P : Program} {w : World} {K : PySem.W.Frag} {mg : Str → Option Value} {base : Heap} {sp : Sp1}  (e : Txt K mg) 
    (h : ∀ a0 H Q E, sp a0 H Q E → rd__law_is_whole K  E { nx := fun _ H' => Q .non H', rt := Q } [some a0] H) : Fok P w K mg base 1 (He.ga K "_law_is_whole") ["value"] (mk1 sp) := by
  obtain ⟨fd, F⟩ := e.F__law_is_whole
  refine ⟨fd, F.ok sc__law_is_whole (fun _ _ _ _ z => mk1_len z) (fun cdv A outer s H vs Q E hr hsp => ?_), fun_lk F⟩
  have hu := hr.units
  obtain ⟨a0, rfl, hs⟩ := mk1_at hsp
  refine ⟨rd__law_is_whole K  E, ?_, h a0 H Q E hs⟩
  exact (pss_one (ps_ret (eAnd (eIsi (t := isiInt) isiInt_ok rfl e.b_isinstance (pn 0) rfl e.b_int (by decide +kernel)) (pe_one (eNot (eIsi (t := isiBool) isiBool_ok rfl e.b_isinstance (pn 0) rfl e.b_bool (by decide +kernel)))))))
abbrev N__law_is_truth : List Str := ["value", "wanted"]
theorem sc__law_is_truth : FnScope N__law_is_truth ["value", "wanted"] (defScope s__law_is_truth) := ⟨rfl, rfl, rfl, by decide +kernel, rfl, by decide +kernel, by decide +kernel⟩
def rd__law_is_truth (K : PySem.W.Frag)  (E : XK) : TS := (tRet (cAnd K (cIsi K isiBool (cVar 0)) (tOp (uEq K) (cVar 0) (cVar 1))))
theorem der__law_is_truth {P : Program} {w : World} {K : PySem.W.Frag} {mg : Str → Option Value} {base : Heap} {sp : Sp2}  (e : Txt K mg) 
    (h : ∀ a0 a1 H Q E, sp a0 a1 H Q E → rd__law_is_truth K  E { nx := fun _ H' => Q .non H', rt := Q } [some a0, some a1] H) : Fok P w K mg base 1 (He.ga K "_law_is_truth") ["value", "wanted"] (mk2 sp) := by
  obtain ⟨fd, F⟩ := e.F__law_is_truth
  refine ⟨fd, F.ok sc__law_is_truth (fun _ _ _ _ z => mk2_len z) (fun cdv A outer s H vs Q E hr hsp => ?_), fun_lk F⟩
  have hu := hr.units
  obtain ⟨a0, a1, rfl, hs⟩ := mk2_at hsp
  refine ⟨rd__law_is_truth K  E, ?_, h a0 a1 H Q E hs⟩
  exact (pss_one (ps_ret (eAnd (eIsi (t := isiBool) isiBool_ok rfl e.b_isinstance (pn 0) rfl e.b_bool (by decide +kernel)) (pe_one (ce (oEq hu) (pn 0) (pn 1))))))
abbrev N__law_found : List Str := ["cache", "table", "word", "moment", "answer", "best", "origin"]
theorem sc__law_found : FnScope N__law_found ["cache", "table", "word", "moment"] (defScope s__law_found) := ⟨rfl, rfl, rfl, by decide +kernel, rfl, by decide +kernel, by decide +kernel⟩
def rd__law_found (K : PySem.W.Frag) (S_Cache_find : Sp3) (S__law_is_whole : Sp1) (E : XK) : TS := (tSeq (tAsg (cMe (He.ga K "Cache") "find" (mk3 S_Cache_find) [] E (cVar 0) (tCons (cVar 3) (tCons (cVar 2) tNil))) (gNm 4))
  (tSeq (tAsg (cGet2 (cVar 1) (cVar 2) (tC .non)) (gNm 5))
  (tSeq (tIfS (tOr (cTest (tOp uIs (cVar 5) (tC .non))) (cTest (tOp uLe (tOp (uIx K) (cVar 5) (tC (.int 1))) (cVar 3))))
  (tRet (tOp uIs (cVar 4) (tC .non)))
  tNext)
  (tSeq (tIfS (tOr (tNot (cTru K (cIsi K isiTuple (cVar 4)))) (cTest (tOp (uNe K) (tCB (uLen K) (tCons (cVar 4) tNil)) (tC (.int 3)))))
  (tRet (tC (.bl false)))
  tNext)
  (tSeq (tIfS (tAnd (cTest (tOp uIsnt (tOp (uIx K) (cVar 4) (tC (.int 0))) (tC .non))) (tNot (cTru K (tCall (mk1 S__law_is_whole) [] E (tCons (tOp (uIx K) (cVar 4) (tC (.int 0))) tNil)))))
  (tRet (tC (.bl false)))
  tNext)
  (tSeq (tAsg (tOp (uIx K) (cVar 4) (tC (.int 2))) (gNm 6))
  (tSeq (tIfS (cTest (tOp uIsnt (cVar 6) (tC .non)))
  (tSeq (tIfS (tOr (tNot (cTru K (cIsi K isiTuple (cVar 6)))) (cTest (tOp (uNe K) (tCB (uLen K) (tCons (cVar 6) tNil)) (tC (.int 2)))))
  (tRet (tC (.bl false)))
  tNext)
  (tIfS (tOr (tNot (cTru K (tCall (mk1 S__law_is_whole) [] E (tCons (tOp (uIx K) (cVar 6) (tC (.int 0))) tNil)))) (tNot (cTru K (tCall (mk1 S__law_is_whole) [] E (tCons (tOp (uIx K) (cVar 6) (tC (.int 1))) tNil)))))
  (tRet (tC (.bl false)))
  tNext))
  tNext)
  (tRet (cAnd K (tCall (mk1 S__law_is_whole) [] E (tCons (tOp (uIx K) (cVar 4) (tC (.int 1))) tNil)) (tOp (uEq K) (cVar 4) (cTup (tCons (tOp (uIx K) (cVar 5) (tC (.int 0))) (tCons (tOp uSub (tOp (uIx K) (cVar 5) (tC (.int 1))) (cVar 3)) (tCons (tOp (uIx K) (cVar 5) (tC (.int 2))) tNil))))))))))))))
theorem der__law_found {P : Program} {w : World} {K : PySem.W.Frag} {mg : Str → Option Value} {base : Heap} {sp : Sp4} {S_Cache_find : Sp3} {S__law_is_whole : Sp1} (e : Txt K mg) (O_Cache_find : Fok P w K mg base 1 (He.ma K (He.ga K "Cache") "find") ["self", "tick", "name"] (mk3 S_Cache_find)) (O__law_is_whole : Fok P w K mg base 1 (He.ga K "_law_is_whole") ["value"] (mk1 S__law_is_whole))
    (h : ∀ a0 a1 a2 a3 H Q E, sp a0 a1 a2 a3 H Q E → rd__law_found K S_Cache_find S__law_is_whole E { nx := fun _ H' => Q .non H', rt := Q } [some a0, some a1, some a2, some a3, none, none, none] H) : Fok P w K mg base 2 (He.ga K "_law_found") ["cache", "table", "word", "moment"] (mk4 sp) := by
  obtain ⟨fd_Cache_find, F_Cache_find⟩ := e.F_Cache_find
  have G_Cache_find := fok_same F_Cache_find O_Cache_find
  have k_Cache_find := F_Cache_find.kp
  obtain ⟨fd__law_is_whole, F__law_is_whole⟩ := e.F__law_is_whole
  have G__law_is_whole := fok_same F__law_is_whole O__law_is_whole
  have k__law_is_whole := F__law_is_whole.kp
  have b_Cache_find := FunD.bindsN (ps := ["self", "tick", "name"]) F_Cache_find fun _ _ _ _ _ _ us hl => match us, hl with | [_, _, _], _ => rfl
  have b__law_is_whole := FunD.bindsN (ps := ["value"]) F__law_is_whole fun _ _ _ _ _ _ us hl => match us, hl with | [_], _ => rfl
  obtain ⟨fd, F⟩ := e.F__law_found
  refine ⟨fd, F.ok sc__law_found (fun _ _ _ _ z => mk4_len z) (fun cdv A outer s H vs Q E hr hsp => ?_), fun_lk F⟩
  have hu := hr.units
  obtain ⟨a0, a1, a2, a3, rfl, hs⟩ := mk4_at hsp
  refine ⟨rd__law_found K S_Cache_find S__law_is_whole E, ?_, h a0 a1 a2 a3 H Q E hs⟩
  exact (pss_cons (sSet (i := 4) sc__law_found.nd rfl (by first | exact .inl rfl | exact .inr rfl) (eMe (pn 0) e.m_Cache_find G_Cache_find (hr.mono (by decide)) e.k_Cache b_Cache_find .nil (passes_call (takes_of rfl rfl rfl rfl) fun _ _ _ _ h => h) (pa_cons (pn 3) (pa_cons (pn 2) pa_nil))))
  (pss_cons (sSet (i := 5) sc__law_found.nd rfl (by first | exact .inl rfl | exact .inr rfl) (eGet2 hu (pn 1) (pn 2) pe_non))
  (pss_cons (ps_if (PW.pt (pw_or (ct oIs (pn 5) pe_non) (pw_or1 (ct oLe (eIx hu (pn 5) pe_int) (pn 3)))))
  (pss_one (ps_ret (ce oIs (pn 4) pe_non)))
  pss_nil)
  (pss_cons (ps_if (PW.pt (pw_or (pt_not (tt_ (eIsi (t := isiTuple) isiTuple_ok rfl e.b_isinstance (pn 4) rfl e.b_tuple (by decide +kernel)))) (pw_or1 (ct (oNe hu) (pe_callB bLen rfl e.b_len (by decide +kernel) (pa_cons (pn 4) pa_nil)) pe_int))))
  (pss_one (ps_ret pe_bl))
  pss_nil)
  (pss_cons (ps_if (PW.pt (pw_and (ct oIsnt (eIx hu (pn 4) pe_int) pe_non) (pw_and1 (pt_not (tt_ (pe_call G__law_is_whole (hr.mono (by decide)) rfl e.g__law_is_whole k__law_is_whole b__law_is_whole .nil (passes_call (takes_of rfl rfl rfl rfl) fun _ _ _ _ h => h) (pa_cons (eIx hu (pn 4) pe_int) pa_nil)))))))
  (pss_one (ps_ret pe_bl))
  pss_nil)
  (pss_cons (sSet (i := 6) sc__law_found.nd rfl (by first | exact .inl rfl | exact .inr rfl) (eIx hu (pn 4) pe_int))
  (pss_cons (ps_if (ct oIsnt (pn 6) pe_non)
  (pss_cons (ps_if (PW.pt (pw_or (pt_not (tt_ (eIsi (t := isiTuple) isiTuple_ok rfl e.b_isinstance (pn 6) rfl e.b_tuple (by decide +kernel)))) (pw_or1 (ct (oNe hu) (pe_callB bLen rfl e.b_len (by decide +kernel) (pa_cons (pn 6) pa_nil)) pe_int))))
  (pss_one (ps_ret pe_bl))
  pss_nil)
  (pss_one (ps_if (PW.pt (pw_or (pt_not (tt_ (pe_call G__law_is_whole (hr.mono (by decide)) rfl e.g__law_is_whole k__law_is_whole b__law_is_whole .nil (passes_call (takes_of rfl rfl rfl rfl) fun _ _ _ _ h => h) (pa_cons (eIx hu (pn 6) pe_int) pa_nil)))) (pw_or1 (pt_not (tt_ (pe_call G__law_is_whole (hr.mono (by decide)) rfl e.g__law_is_whole k__law_is_whole b__law_is_whole .nil (passes_call (takes_of rfl rfl rfl rfl) fun _ _ _ _ h => h) (pa_cons (eIx hu (pn 6) pe_int) pa_nil)))))))
  (pss_one (ps_ret pe_bl))
  pss_nil)))
  pss_nil)
  (pss_one (ps_ret (eAnd (pe_call G__law_is_whole (hr.mono (by decide)) rfl e.g__law_is_whole k__law_is_whole b__law_is_whole .nil (passes_call (takes_of rfl rfl rfl rfl) fun _ _ _ _ h => h) (pa_cons (eIx hu (pn 4) pe_int) pa_nil)) (pe_one (ce (oEq hu) (pn 4) (eTup (pa_cons (eIx hu (pn 5) pe_int) (pa_cons (pe_op oSub (eIx hu (pn 5) pe_int) (pn 3)) (pa_cons (eIx hu (pn 5) pe_int) pa_nil))))))))))))))))
abbrev N__law_written : List Str := ["book", "page", "word", "record"]
theorem sc__law_written : FnScope N__law_written ["book", "page", "word"] (defScope s__law_written) := ⟨rfl, rfl, rfl, by decide +kernel, rfl, by decide +kernel, by decide +kernel⟩
def rd__law_written (K : PySem.W.Frag) (S_Records_find : Sp2) (S__law_is_whole : Sp1) (E : XK) : TS := (tSeq (tAsg (cMe (He.ga K "Records") "find" (mk2 S_Records_find) [] E (cVar 0) (tCons (cVar 2) tNil)) (gNm 3))
  (tSeq (tIfS (tOr (tNot (cTru K (cIsi K isiTuple (cVar 3)))) (cTest (tOp (uNe K) (tCB (uLen K) (tCons (cVar 3) tNil)) (tC (.int 2)))))
  (tRet (tC (.bl false)))
  tNext)
  (tSeq (tIfS (tAnd (cTest (tOp uIsnt (tOp (uIx K) (cVar 3) (tC (.int 0))) (tC .non))) (tNot (cTru K (tCall (mk1 S__law_is_whole) [] E (tCons (tOp (uIx K) (cVar 3) (tC (.int 0))) tNil)))))
  (tRet (tC (.bl false)))
  tNext)
  (tRet (cAnd K (tCall (mk1 S__law_is_whole) [] E (tCons (tOp (uIx K) (cVar 3) (tC (.int 1))) tNil)) (tOp (uEq K) (cVar 3) (cGet2 (cVar 1) (cVar 2) (cTup (tCons (tC .non) (tCons (tC (.int 3)) tNil))))))))))
theorem der__law_written {P : Program} {w : World} {K : PySem.W.Frag} {mg : Str → Option Value} {base : Heap} {sp : Sp3} {S_Records_find : Sp2} {S__law_is_whole : Sp1} (e : Txt K mg) (O_Records_find : Fok P w K mg base 1 (He.ma K (He.ga K "Records") "find") ["self", "name"] (mk2 S_Records_find)) (O__law_is_whole : Fok P w K mg base 1 (He.ga K "_law_is_whole") ["value"] (mk1 S__law_is_whole))
    (h : ∀ a0 a1 a2 H Q E, sp a0 a1 a2 H Q E → rd__law_written K S_Records_find S__law_is_whole E { nx := fun _ H' => Q .non H', rt := Q } [some a0, some a1, some a2, none] H) : Fok P w K mg base 2 (He.ga K "_law_written") ["book", "page", "word"] (mk3 sp) := by
  obtain ⟨fd_Records_find, F_Records_find⟩ := e.F_Records_find
  have G_Records_find := fok_same F_Records_find O_Records_find
  have k_Records_find := F_Records_find.kp
  obtain ⟨fd__law_is_whole, F__law_is_whole⟩ := e.F__law_is_whole
  have G__law_is_whole := fok_same F__law_is_whole O__law_is_whole
  have k__law_is_whole := F__law_is_whole.kp
  have b_Records_find := FunD.bindsN (ps := ["self", "name"]) F_Records_find fun _ _ _ _ _ _ us hl => match us, hl with | [_, _], _ => rfl
  have b__law_is_whole := FunD.bindsN (ps := ["value"]) F__law_is_whole fun _ _ _ _ _ _ us hl => match us, hl with | [_], _ => rfl
  obtain ⟨fd, F⟩ := e.F__law_written
  refine ⟨fd, F.ok sc__law_written (fun _ _ _ _ z => mk3_len z) (fun cdv A outer s H vs Q E hr hsp => ?_), fun_lk F⟩
  have hu := hr.units
  obtain ⟨a0, a1, a2, rfl, hs⟩ := mk3_at hsp
  refine ⟨rd__law_written K S_Records_find S__law_is_whole E, ?_, h a0 a1 a2 H Q E hs⟩
  exact (pss_cons (sSet (i := 3) sc__law_written.nd rfl (by first | exact .inl rfl | exact .inr rfl) (eMe (pn 0) e.m_Records_find G_Records_find (hr.mono (by decide)) e.k_Records b_Records_find .nil (passes_call (takes_of rfl rfl rfl rfl) fun _ _ _ _ h => h) (pa_cons (pn 2) pa_nil)))
  (pss_cons (ps_if (PW.pt (pw_or (pt_not (tt_ (eIsi (t := isiTuple) isiTuple_ok rfl e.b_isinstance (pn 3) rfl e.b_tuple (by decide +kernel)))) (pw_or1 (ct (oNe hu) (pe_callB bLen rfl e.b_len (by decide +kernel) (pa_cons (pn 3) pa_nil)) pe_int))))
  (pss_one (ps_ret pe_bl))
  pss_nil)
  (pss_cons (ps_if (PW.pt (pw_and (ct oIsnt (eIx hu (pn 3) pe_int) pe_non) (pw_and1 (pt_not (tt_ (pe_call G__law_is_whole (hr.mono (by decide)) rfl e.g__law_is_whole k__law_is_whole b__law_is_whole .nil (passes_call (takes_of rfl rfl rfl rfl) fun _ _ _ _ h => h) (pa_cons (eIx hu (pn 3) pe_int) pa_nil)))))))
  (pss_one (ps_ret pe_bl))
  pss_nil)
  (pss_one (ps_ret (eAnd (pe_call G__law_is_whole (hr.mono (by decide)) rfl e.g__law_is_whole k__law_is_whole b__law_is_whole .nil (passes_call (takes_of rfl rfl rfl rfl) fun _ _ _ _ h => h) (pa_cons (eIx hu (pn 3) pe_int) pa_nil)) (pe_one (ce (oEq hu) (pn 3) (eGet2 hu (pn 1) (pn 2) (eTup (pa_cons pe_non (pa_cons pe_int pa_nil))))))))))))
abbrev N__law_all : List Str := ["caches", "tables", "books", "pages", "words", "moment", "word", "which"]
theorem sc__law_all : FnScope N__law_all ["caches", "tables", "books", "pages", "words", "moment"] (defScope s__law_all) := ⟨rfl, rfl, rfl, by decide +kernel, rfl, by decide +kernel, by decide +kernel⟩
def rd__law_all (K : PySem.W.Frag) (S__law_found : Sp4) (S__law_written : Sp3) (E : XK) : TS := (tSeq (cFor (iSeq K (cVar 4)) (gNm 6)
  (tSeq (cFor (iR1 (tCons (tC (.int 3)) tNil)) (gNm 7)
  (tIfS (tNot (cTru K (tCall (mk4 S__law_found) [] E (tCons (tOp (uIx K) (cVar 0) (cVar 7)) (tCons (tOp (uIx K) (cVar 1) (cVar 7)) (tCons (cVar 6) (tCons (cVar 5) tNil)))))))
  (tRet (tC (.bl false)))
  tNext))
  (cFor (iR1 (tCons (tC (.int 2)) tNil)) (gNm 7)
  (tIfS (tNot (cTru K (tCall (mk3 S__law_written) [] E (tCons (tOp (uIx K) (cVar 2) (cVar 7)) (tCons (tOp (uIx K) (cVar 3) (cVar 7)) (tCons (cVar 6) tNil))))))
  (tRet (tC (.bl false)))
  tNext))))
  (tRet (tC (.bl true))))
theorem der__law_all {P : Program} {w : World} {K : PySem.W.Frag} {mg : Str → Option Value} {base : Heap} {sp : Sp6} {S__law_found : Sp4} {S__law_written : Sp3} (e : Txt K mg) (O__law_found : Fok P w K mg base 2 (He.ga K "_law_found") ["cache", "table", "word", "moment"] (mk4 S__law_found)) (O__law_written : Fok P w K mg base 2 (He.ga K "_law_written") ["book", "page", "word"] (mk3 S__law_written))
    (h : ∀ a0 a1 a2 a3 a4 a5 H Q E, sp a0 a1 a2 a3 a4 a5 H Q E → rd__law_all K S__law_found S__law_written E { nx := fun _ H' => Q .non H', rt := Q } [some a0, some a1, some a2, some a3, some a4, some a5, none, none] H) : Fok P w K mg base 3 (He.ga K "_law_all") ["caches", "tables", "books", "pages", "words", "moment"] (mk6 sp) := by
  obtain ⟨fd__law_found, F__law_found⟩ := e.F__law_found
  have G__law_found := fok_same F__law_found O__law_found
  have k__law_found := F__law_found.kp
  obtain ⟨fd__law_written, F__law_written⟩ := e.F__law_written
  have G__law_written := fok_same F__law_written O__law_written
  have k__law_written := F__law_written.kp
  have b__law_found := FunD.bindsN (ps := ["cache", "table", "word", "moment"]) F__law_found fun _ _ _ _ _ _ us hl => match us, hl with | [_, _, _, _], _ => rfl
  have b__law_written := FunD.bindsN (ps := ["book", "page", "word"]) F__law_written fun _ _ _ _ _ _ us hl => match us, hl with | [_, _, _], _ => rfl
  obtain ⟨fd, F⟩ := e.F__law_all
  refine ⟨fd, F.ok sc__law_all (fun _ _ _ _ z => mk6_len z) (fun cdv A outer s H vs Q E hr hsp => ?_), fun_lk F⟩
  have hu := hr.units
  obtain ⟨a0, a1, a2, a3, a4, a5, rfl, hs⟩ := mk6_at hsp
  refine ⟨rd__law_all K S__law_found S__law_written E, ?_, h a0 a1 a2 a3 a4 a5 H Q E hs⟩
  exact (pss_cons (sFor (passes_of rfl) rfl (fSeq (pn 4)) (tNm (i := 6) sc__law_all.nd rfl (by first | exact .inl rfl | exact .inr rfl))
  (pss_cons (sFor (passes_of rfl) rfl (fR1 rfl e.b_range (pa_cons pe_int pa_nil)) (tNm (i := 7) sc__law_all.nd rfl (by first | exact .inl rfl | exact .inr rfl))
  (pss_one (ps_if (pt_not (tt_ (pe_call G__law_found (hr.mono (by decide)) rfl e.g__law_found k__law_found b__law_found .nil (passes_call (takes_of rfl rfl rfl rfl) fun _ _ _ _ h => h) (pa_cons (eIx hu (pn 0) (pn 7)) (pa_cons (eIx hu (pn 1) (pn 7)) (pa_cons (pn 6) (pa_cons (pn 5) pa_nil)))))))
  (pss_one (ps_ret pe_bl))
  pss_nil)))
  (pss_one (sFor (passes_of rfl) rfl (fR1 rfl e.b_range (pa_cons pe_int pa_nil)) (tNm (i := 7) sc__law_all.nd rfl (by first | exact .inl rfl | exact .inr rfl))
  (pss_one (ps_if (pt_not (tt_ (pe_call G__law_written (hr.mono (by decide)) rfl e.g__law_written k__law_written b__law_written .nil (passes_call (takes_of rfl rfl rfl rfl) fun _ _ _ _ h => h) (pa_cons (eIx hu (pn 2) (pn 7)) (pa_cons (eIx hu (pn 3) (pn 7)) (pa_cons (pn 6) pa_nil))))))
  (pss_one (ps_ret pe_bl))
  pss_nil))))))
  (pss_one (ps_ret pe_bl)))
abbrev N__law_address : List Str := ["box", "number"]
theorem sc__law_address : FnScope N__law_address ["box"] (defScope s__law_address) := ⟨rfl, rfl, rfl, by decide +kernel, rfl, by decide +kernel, by decide +kernel⟩
def rd__law_address (K : PySem.W.Frag) (S__law_draw : Sp2) (E : XK) : TS := (tSeq (tAsg (tCall (mk2 S__law_draw) [] E (tCons (cVar 0) (tCons (tC (.int 20)) tNil))) (gNm 1))
  (tSeq (tIfS (cTest (tOp uGt (cVar 1) (tC (.int 15))))
  (tRet (tC .non))
  tNext)
  (tRet (cVar 1))))
theorem der__law_address {P : Program} {w : World} {K : PySem.W.Frag} {mg : Str → Option Value} {base : Heap} {sp : Sp1} {S__law_draw : Sp2} (e : Txt K mg) (O__law_draw : Fok P w K mg base 1 (He.ga K "_law_draw") ["box", "size"] (mk2 S__law_draw))
    (h : ∀ a0 H Q E, sp a0 H Q E → rd__law_address K S__law_draw E { nx := fun _ H' => Q .non H', rt := Q } [some a0, none] H) : Fok P w K mg base 2 (He.ga K "_law_address") ["box"] (mk1 sp) := by
  obtain ⟨fd__law_draw, F__law_draw⟩ := e.F__law_draw
  have G__law_draw := fok_same F__law_draw O__law_draw
  have k__law_draw := F__law_draw.kp
  have b__law_draw := FunD.bindsN (ps := ["box", "size"]) F__law_draw fun _ _ _ _ _ _ us hl => match us, hl with | [_, _], _ => rfl
  obtain ⟨fd, F⟩ := e.F__law_address
  refine ⟨fd, F.ok sc__law_address (fun _ _ _ _ z => mk1_len z) (fun cdv A outer s H vs Q E hr hsp => ?_), fun_lk F⟩
  have hu := hr.units
  obtain ⟨a0, rfl, hs⟩ := mk1_at hsp
  refine ⟨rd__law_address K S__law_draw E, ?_, h a0 H Q E hs⟩
  exact (pss_cons (sSet (i := 1) sc__law_address.nd rfl (by first | exact .inl rfl | exact .inr rfl) (pe_call G__law_draw (hr.mono (by decide)) rfl e.g__law_draw k__law_draw b__law_draw .nil (passes_call (takes_of rfl rfl rfl rfl) fun _ _ _ _ h => h) (pa_cons (pn 0) (pa_cons pe_int pa_nil))))
  (pss_cons (ps_if (ct oGt (pn 1) pe_int)
  (pss_one (ps_ret pe_non))
  pss_nil)
  (pss_one (ps_ret (pn 1)))))
abbrev N__law_stamp : List Str := ["box", "moment", "form", "back"]
theorem sc__law_stamp : FnScope N__law_stamp ["box", "moment"] (defScope s__law_stamp) := ⟨rfl, rfl, rfl, by decide +kernel, rfl, by decide +kernel, by decide +kernel⟩
def rd__law_stamp (K : PySem.W.Frag) (S__law_draw : Sp2) (E : XK) : TS := (tSeq (tAsg (tCall (mk2 S__law_draw) [] E (tCons (cVar 0) (tCons (tC (.int 4)) tNil))) (gNm 2))
  (tSeq (tAsg (tCall (mk2 S__law_draw) [] E (tCons (cVar 0) (tCons (tC (.int 80)) tNil))) (gNm 3))
  (tSeq (tIfS (cTest (tOp (uEq K) (cVar 2) (tC (.int 0))))
  (tAsg (tC (.int 0)) (gNm 3))
  tNext)
  (tSeq (tIfS (cTest (tOp (uEq K) (cVar 2) (tC (.int 1))))
  (tAsg (tOp uMod (tCB uInt (tCons (cVar 3) tNil)) (tC (.int 4))) (gNm 3))
  tNext)
  (tSeq (tIfS (cTest (tOp (uEq K) (cVar 2) (tC (.int 2))))
  (tAsg (tOp uMod (tCB uInt (tCons (cVar 3) tNil)) (tC (.int 20))) (gNm 3))
  tNext)
  (tRet (tCB uMax2 (tCons (tC (.int 0)) (tCons (tOp uSub (cVar 1) (cVar 3)) tNil)))))))))
theorem der__law_stamp {P : Program} {w : World} {K : PySem.W.Frag} {mg : Str → Option Value} {base : Heap} {sp : Sp2} {S__law_draw : Sp2} (e : Txt K mg) (O__law_draw : Fok P w K mg base 1 (He.ga K "_law_draw") ["box", "size"] (mk2 S__law_draw))
    (h : ∀ a0 a1 H Q E, sp a0 a1 H Q E → rd__law_stamp K S__law_draw E { nx := fun _ H' => Q .non H', rt := Q } [some a0, some a1, none, none] H) : Fok P w K mg base 2 (He.ga K "_law_stamp") ["box", "moment"] (mk2 sp) := by
  obtain ⟨fd__law_draw, F__law_draw⟩ := e.F__law_draw
  have G__law_draw := fok_same F__law_draw O__law_draw
  have k__law_draw := F__law_draw.kp
  have b__law_draw := FunD.bindsN (ps := ["box", "size"]) F__law_draw fun _ _ _ _ _ _ us hl => match us, hl with | [_, _], _ => rfl
  obtain ⟨fd, F⟩ := e.F__law_stamp
  refine ⟨fd, F.ok sc__law_stamp (fun _ _ _ _ z => mk2_len z) (fun cdv A outer s H vs Q E hr hsp => ?_), fun_lk F⟩
  have hu := hr.units
  obtain ⟨a0, a1, rfl, hs⟩ := mk2_at hsp
  refine ⟨rd__law_stamp K S__law_draw E, ?_, h a0 a1 H Q E hs⟩
  exact (pss_cons (sSet (i := 2) sc__law_stamp.nd rfl (by first | exact .inl rfl | exact .inr rfl) (pe_call G__law_draw (hr.mono (by decide)) rfl e.g__law_draw k__law_draw b__law_draw .nil (passes_call (takes_of rfl rfl rfl rfl) fun _ _ _ _ h => h) (pa_cons (pn 0) (pa_cons pe_int pa_nil))))
  (pss_cons (sSet (i := 3) sc__law_stamp.nd rfl (by first | exact .inl rfl | exact .inr rfl) (pe_call G__law_draw (hr.mono (by decide)) rfl e.g__law_draw k__law_draw b__law_draw .nil (passes_call (takes_of rfl rfl rfl rfl) fun _ _ _ _ h => h) (pa_cons (pn 0) (pa_cons pe_int pa_nil))))
  (pss_cons (ps_if (ct (oEq hu) (pn 2) pe_int)
  (pss_one (sSet (i := 3) sc__law_stamp.nd rfl (by first | exact .inl rfl | exact .inr rfl) pe_int))
  pss_nil)
  (pss_cons (ps_if (ct (oEq hu) (pn 2) pe_int)
  (pss_one (sSet (i := 3) sc__law_stamp.nd rfl (by first | exact .inl rfl | exact .inr rfl) (pe_op oMod (pe_callTy bInt rfl e.b_int (by decide +kernel) (pa_cons (pn 3) pa_nil)) pe_int)))
  pss_nil)
  (pss_cons (ps_if (ct (oEq hu) (pn 2) pe_int)
  (pss_one (sSet (i := 3) sc__law_stamp.nd rfl (by first | exact .inl rfl | exact .inr rfl) (pe_op oMod (pe_callTy bInt rfl e.b_int (by decide +kernel) (pa_cons (pn 3) pa_nil)) pe_int)))
  pss_nil)
  (pss_one (ps_ret (pe_callB (bMax2 rfl) rfl e.b_max (by decide +kernel) (pa_cons pe_int (pa_cons (pe_op oSub (pn 1) (pn 3)) pa_nil))))))))))
abbrev N__law_span : List Str := ["box", "begin", "moment", "best", "form", "aim"]
theorem sc__law_span : FnScope N__law_span ["box", "begin", "moment", "best"] (defScope s__law_span) := ⟨rfl, rfl, rfl, by decide +kernel, rfl, by decide +kernel, by decide +kernel⟩
def rd__law_span (K : PySem.W.Frag) (S__law_draw : Sp2) (E : XK) : TS := (tSeq (tAsg (tCall (mk2 S__law_draw) [] E (tCons (cVar 0) (tCons (tC (.int 8)) tNil))) (gNm 4))
  (tSeq (tAsg (tOp (uAdd K) (tOp (uAdd K) (cVar 1) (tC (.int 1))) (tCall (mk2 S__law_draw) [] E (tCons (cVar 0) (tCons (tC (.int 60)) tNil)))) (gNm 5))
  (tSeq (tIfS (cTest (tOp (uEq K) (cVar 4) (tC (.int 1))))
  (tAsg (cVar 2) (gNm 5))
  tNext)
  (tSeq (tIfS (cTest (tOp (uEq K) (cVar 4) (tC (.int 2))))
  (tAsg (tOp (uAdd K) (cVar 2) (tC (.int 1))) (gNm 5))
  tNext)
  (tSeq (tIfS (cTest (tOp (uEq K) (cVar 4) (tC (.int 3))))
  (tAsg (tOp uSub (cVar 3) (tC (.int 1))) (gNm 5))
  tNext)
  (tSeq (tIfS (cTest (tOp (uEq K) (cVar 4) (tC (.int 4))))
  (tAsg (cVar 3) (gNm 5))
  tNext)
  (tSeq (tIfS (cTest (tOp (uEq K) (cVar 4) (tC (.int 5))))
  (tAsg (tOp (uAdd K) (cVar 3) (tC (.int 1))) (gNm 5))
  tNext)
  (tRet (tCB uMax2 (tCons (tC (.int 1)) (tCons (tCB uMin2 (tCons (tC (.int 60)) (tCons (tOp uSub (cVar 5) (cVar 1)) tNil))) tNil)))))))))))
theorem der__law_span {P : Program} {w : World} {K : PySem.W.Frag} {mg : Str → Option Value} {base : Heap} {sp : Sp4} {S__law_draw : Sp2} (e : Txt K mg) (O__law_draw : Fok P w K mg base 1 (He.ga K "_law_draw") ["box", "size"] (mk2 S__law_draw))
    (h : ∀ a0 a1 a2 a3 H Q E, sp a0 a1 a2 a3 H Q E → rd__law_span K S__law_draw E { nx := fun _ H' => Q .non H', rt := Q } [some a0, some a1, some a2, some a3, none, none] H) : Fok P w K mg base 2 (He.ga K "_law_span") ["box", "begin", "moment", "best"] (mk4 sp) := by
  obtain ⟨fd__law_draw, F__law_draw⟩ := e.F__law_draw
  have G__law_draw := fok_same F__law_draw O__law_draw
  have k__law_draw := F__law_draw.kp
  have b__law_draw := FunD.bindsN (ps := ["box", "size"]) F__law_draw fun _ _ _ _ _ _ us hl => match us, hl with | [_, _], _ => rfl
  obtain ⟨fd, F⟩ := e.F__law_span
  refine ⟨fd, F.ok sc__law_span (fun _ _ _ _ z => mk4_len z) (fun cdv A outer s H vs Q E hr hsp => ?_), fun_lk F⟩
  have hu := hr.units
  obtain ⟨a0, a1, a2, a3, rfl, hs⟩ := mk4_at hsp
  refine ⟨rd__law_span K S__law_draw E, ?_, h a0 a1 a2 a3 H Q E hs⟩
  exact (pss_cons (sSet (i := 4) sc__law_span.nd rfl (by first | exact .inl rfl | exact .inr rfl) (pe_call G__law_draw (hr.mono (by decide)) rfl e.g__law_draw k__law_draw b__law_draw .nil (passes_call (takes_of rfl rfl rfl rfl) fun _ _ _ _ h => h) (pa_cons (pn 0) (pa_cons pe_int pa_nil))))
  (pss_cons (sSet (i := 5) sc__law_span.nd rfl (by first | exact .inl rfl | exact .inr rfl) (pe_op oAdd (pe_op oAdd (pn 1) pe_int) (pe_call G__law_draw (hr.mono (by decide)) rfl e.g__law_draw k__law_draw b__law_draw .nil (passes_call (takes_of rfl rfl rfl rfl) fun _ _ _ _ h => h) (pa_cons (pn 0) (pa_cons pe_int pa_nil)))))
  (pss_cons (ps_if (ct (oEq hu) (pn 4) pe_int)
  (pss_one (sSet (i := 5) sc__law_span.nd rfl (by first | exact .inl rfl | exact .inr rfl) (pn 2)))
  pss_nil)
  (pss_cons (ps_if (ct (oEq hu) (pn 4) pe_int)
  (pss_one (sSet (i := 5) sc__law_span.nd rfl (by first | exact .inl rfl | exact .inr rfl) (pe_op oAdd (pn 2) pe_int)))
  pss_nil)
  (pss_cons (ps_if (ct (oEq hu) (pn 4) pe_int)
  (pss_one (sSet (i := 5) sc__law_span.nd rfl (by first | exact .inl rfl | exact .inr rfl) (pe_op oSub (pn 3) pe_int)))
  pss_nil)
  (pss_cons (ps_if (ct (oEq hu) (pn 4) pe_int)
  (pss_one (sSet (i := 5) sc__law_span.nd rfl (by first | exact .inl rfl | exact .inr rfl) (pn 3)))
  pss_nil)
  (pss_cons (ps_if (ct (oEq hu) (pn 4) pe_int)
  (pss_one (sSet (i := 5) sc__law_span.nd rfl (by first | exact .inl rfl | exact .inr rfl) (pe_op oAdd (pn 3) pe_int)))
  pss_nil)
  (pss_one (ps_ret (pe_callB (bMax2 rfl) rfl e.b_max (by decide +kernel) (pa_cons pe_int (pa_cons (pe_callB (bMin2 rfl) rfl e.b_min (by decide +kernel) (pa_cons pe_int (pa_cons (pe_op oSub (pn 5) (pn 1)) pa_nil))) pa_nil))))))))))))
abbrev N__law_origin : List Str := ["box", "moment", "answered"]
theorem sc__law_origin : FnScope N__law_origin ["box", "moment"] (defScope s__law_origin) := ⟨rfl, rfl, rfl, by decide +kernel, rfl, by decide +kernel, by decide +kernel⟩
def rd__law_origin (K : PySem.W.Frag) (S__law_draw : Sp2) (E : XK) : TS := (tSeq (tIfS (cTest (tOp (uEq K) (tCall (mk2 S__law_draw) [] E (tCons (cVar 0) (tCons (tC (.int 4)) tNil))) (tC (.int 0))))
  (tRet (tC .non))
  tNext)
  (tSeq (tAsg (tCall (mk2 S__law_draw) [] E (tCons (cVar 0) (tCons (tOp (uAdd K) (cVar 1) (tC (.int 1))) tNil))) (gNm 2))
  (tRet (cTup (tCons (cVar 2) (tCons (tOp (uAdd K) (tC (.int 1)) (tCall (mk2 S__law_draw) [] E (tCons (cVar 0) (tCons (tC (.int 60)) tNil)))) tNil))))))
theorem der__law_origin {P : Program} {w : World} {K : PySem.W.Frag} {mg : Str → Option Value} {base : Heap} {sp : Sp2} {S__law_draw : Sp2} (e : Txt K mg) (O__law_draw : Fok P w K mg base 1 (He.ga K "_law_draw") ["box", "size"] (mk2 S__law_draw))
    (h : ∀ a0 a1 H Q E, sp a0 a1 H Q E → rd__law_origin K S__law_draw E { nx := fun _ H' => Q .non H', rt := Q } [some a0, some a1, none] H) : Fok P w K mg base 2 (He.ga K "_law_origin") ["box", "moment"] (mk2 sp) := by
  obtain ⟨fd__law_draw, F__law_draw⟩ := e.F__law_draw
  have G__law_draw := fok_same F__law_draw O__law_draw
  have k__law_draw := F__law_draw.kp
  have b__law_draw := FunD.bindsN (ps := ["box", "size"]) F__law_draw fun _ _ _ _ _ _ us hl => match us, hl with | [_, _], _ => rfl
  obtain ⟨fd, F⟩ := e.F__law_origin
  refine ⟨fd, F.ok sc__law_origin (fun _ _ _ _ z => mk2_len z) (fun cdv A outer s H vs Q E hr hsp => ?_), fun_lk F⟩
  have hu := hr.units
  obtain ⟨a0, a1, rfl, hs⟩ := mk2_at hsp
  refine ⟨rd__law_origin K S__law_draw E, ?_, h a0 a1 H Q E hs⟩
  exact (pss_cons (ps_if (ct (oEq hu) (pe_call G__law_draw (hr.mono (by decide)) rfl e.g__law_draw k__law_draw b__law_draw .nil (passes_call (takes_of rfl rfl rfl rfl) fun _ _ _ _ h => h) (pa_cons (pn 0) (pa_cons pe_int pa_nil))) pe_int)
  (pss_one (ps_ret pe_non))
  pss_nil)
  (pss_cons (sSet (i := 2) sc__law_origin.nd rfl (by first | exact .inl rfl | exact .inr rfl) (pe_call G__law_draw (hr.mono (by decide)) rfl e.g__law_draw k__law_draw b__law_draw .nil (passes_call (takes_of rfl rfl rfl rfl) fun _ _ _ _ h => h) (pa_cons (pn 0) (pa_cons (pe_op oAdd (pn 1) pe_int) pa_nil))))
  (pss_one (ps_ret (eTup (pa_cons (pn 2) (pa_cons (pe_op oAdd pe_int (pe_call G__law_draw (hr.mono (by decide)) rfl e.g__law_draw k__law_draw b__law_draw .nil (passes_call (takes_of rfl rfl rfl rfl) fun _ _ _ _ h => h) (pa_cons (pn 0) (pa_cons pe_int pa_nil)))) pa_nil)))))))
abbrev N__law_given : List Str := ["box", "cache", "table", "word", "moment", "from_stamp", "address", "stamp", "begin", "best", "span", "origin", "until"]
theorem sc__law_given : FnScope N__law_given ["box", "cache", "table", "word", "moment", "from_stamp"] (defScope s__law_given) := ⟨rfl, rfl, rfl, by decide +kernel, rfl, by decide +kernel, by decide +kernel⟩
def rd__law_given (K : PySem.W.Frag) (S__law_address : Sp1) (S__law_stamp : Sp2) (S__law_span : Sp4) (S__law_origin : Sp2) (S__law_is_truth : Sp2) (S_Cache_store : Sp7) (E : XK) : TS := (tSeq (tAsg (tCall (mk1 S__law_address) [] E (tCons (cVar 0) tNil)) (gNm 6))
  (tSeq (tAsg (tCall (mk2 S__law_stamp) [] E (tCons (cVar 0) (tCons (cVar 4) tNil))) (gNm 7))
  (tSeq (tAsg (cVar 4) (gNm 8))
  (tSeq (tIfS (cTru K (cVar 5))
  (tAsg (cVar 7) (gNm 8))
  tNext)
  (tSeq (tAsg (cGet2 (cVar 2) (cVar 3) (cTup (tCons (tC .non) (tCons (tOp (uAdd K) (cVar 4) (tC (.int 2))) (tCons (tC .non) tNil))))) (gNm 9))
  (tSeq (tAsg (tCall (mk4 S__law_span) [] E (tCons (cVar 0) (tCons (cVar 8) (tCons (cVar 4) (tCons (tOp (uIx K) (cVar 9) (tC (.int 1))) tNil))))) (gNm 10))
  (tSeq (tAsg (tCall (mk2 S__law_origin) [] E (tCons (cVar 0) (tCons (cVar 4) tNil))) (gNm 11))
  (tSeq (tAsg (tOp (uAdd K) (cVar 8) (cVar 10)) (gNm 12))
  (tSeq (tIfS (tNot (cTru K (tCall (mk2 S__law_is_truth) [] E (tCons (cMe (He.ga K "Cache") "store" (mk7 S_Cache_store) [] E (cVar 1) (tCons (cVar 4) (tCons (cVar 3) (tCons (cVar 6) (tCons (cVar 10) (tCons (cVar 7) (tCons (cVar 11) tNil))))))) (tCons (tOp uGt (cVar 12) (cVar 4)) tNil)))))
  (tRet (tC (.bl false)))
  tNext)
  (tSeq (tIfS (tAnd (cTest (tOp uGt (cVar 12) (cVar 4))) (tOr (cTest (tOp (uNotIn K) (cVar 3) (cVar 2))) (cTest (tOp (uLt K) (tOp (uIx K) (cVar 9) (tC (.int 1))) (cVar 12)))))
  (tAsg (cTup (tCons (cVar 6) (tCons (cVar 12) (tCons (cVar 11) tNil)))) (gSub (cVar 2) (cVar 3) uSet))
  tNext)
  (tRet (tC (.bl true)))))))))))))
theorem der__law_given {P : Program} {w : World} {K : PySem.W.Frag} {mg : Str → Option Value} {base : Heap} {sp : Sp6} {S__law_address : Sp1} {S__law_stamp : Sp2} {S__law_span : Sp4} {S__law_origin : Sp2} {S__law_is_truth : Sp2} {S_Cache_store : Sp7} (e : Txt K mg) (O__law_address : Fok P w K mg base 2 (He.ga K "_law_address") ["box"] (mk1 S__law_address)) (O__law_stamp : Fok P w K mg base 2 (He.ga K "_law_stamp") ["box", "moment"] (mk2 S__law_stamp)) (O__law_span : Fok P w K mg base 2 (He.ga K "_law_span") ["box", "begin", "moment", "best"] (mk4 S__law_span)) (O__law_origin : Fok P w K mg base 2 (He.ga K "_law_origin") ["box", "moment"] (mk2 S__law_origin)) (O__law_is_truth : Fok P w K mg base 1 (He.ga K "_law_is_truth") ["value", "wanted"] (mk2 S__law_is_truth)) (O_Cache_store : Fok P w K mg base 1 (He.ma K (He.ga K "Cache") "store") ["self", "tick", "name", "address", "span", "stamp", "origin"] (mk7 S_Cache_store))
    (h : ∀ a0 a1 a2 a3 a4 a5 H Q E, sp a0 a1 a2 a3 a4 a5 H Q E → rd__law_given K S__law_address S__law_stamp S__law_span S__law_origin S__law_is_truth S_Cache_store E { nx := fun _ H' => Q .non H', rt := Q } [some a0, some a1, some a2, some a3, some a4, some a5, none, none, none, none, none, none, none] H) : Fok P w K mg base 3 (He.ga K "_law_given") ["box", "cache", "table", "word", "moment", "from_stamp"] (mk6 sp) := by
  obtain ⟨fd__law_address, F__law_address⟩ := e.F__law_address
  have G__law_address := fok_same F__law_address O__law_address
  have k__law_address := F__law_address.kp
  obtain ⟨fd__law_stamp, F__law_stamp⟩ := e.F__law_stamp
  have G__law_stamp := fok_same F__law_stamp O__law_stamp
  have k__law_stamp := F__law_stamp.kp
  obtain ⟨fd__law_span, F__law_span⟩ := e.F__law_span
  have G__law_span := fok_same F__law_span O__law_span
  have k__law_span := F__law_span.kp
  obtain ⟨fd__law_origin, F__law_origin⟩ := e.F__law_origin
  have G__law_origin := fok_same F__law_origin O__law_origin
  have k__law_origin := F__law_origin.kp
  obtain ⟨fd__law_is_truth, F__law_is_truth⟩ := e.F__law_is_truth
  have G__law_is_truth := fok_same F__law_is_truth O__law_is_truth
  have k__law_is_truth := F__law_is_truth.kp
  obtain ⟨fd_Cache_store, F_Cache_store⟩ := e.F_Cache_store
  have G_Cache_store := fok_same F_Cache_store O_Cache_store
  have k_Cache_store := F_Cache_store.kp
  have b__law_address := FunD.bindsN (ps := ["box"]) F__law_address fun _ _ _ _ _ _ us hl => match us, hl with | [_], _ => rfl
  have b__law_stamp := FunD.bindsN (ps := ["box", "moment"]) F__law_stamp fun _ _ _ _ _ _ us hl => match us, hl with | [_, _], _ => rfl
  have b__law_span := FunD.bindsN (ps := ["box", "begin", "moment", "best"]) F__law_span fun _ _ _ _ _ _ us hl => match us, hl with | [_, _, _, _], _ => rfl
  have b__law_origin := FunD.bindsN (ps := ["box", "moment"]) F__law_origin fun _ _ _ _ _ _ us hl => match us, hl with | [_, _], _ => rfl
  have b_Cache_store := FunD.bindsN (ps := ["self", "tick", "name", "address", "span", "stamp", "origin"]) F_Cache_store fun _ _ _ _ _ _ us hl => match us, hl with | [_, _, _, _, _, _, _], _ => rfl
  have b__law_is_truth := FunD.bindsN (ps := ["value", "wanted"]) F__law_is_truth fun _ _ _ _ _ _ us hl => match us, hl with | [_, _], _ => rfl
  obtain ⟨fd, F⟩ := e.F__law_given
  refine ⟨fd, F.ok sc__law_given (fun _ _ _ _ z => mk6_len z) (fun cdv A outer s H vs Q E hr hsp => ?_), fun_lk F⟩
  have hu := hr.units
  obtain ⟨a0, a1, a2, a3, a4, a5, rfl, hs⟩ := mk6_at hsp
  refine ⟨rd__law_given K S__law_address S__law_stamp S__law_span S__law_origin S__law_is_truth S_Cache_store E, ?_, h a0 a1 a2 a3 a4 a5 H Q E hs⟩
  exact (pss_cons (sSet (i := 6) sc__law_given.nd rfl (by first | exact .inl rfl | exact .inr rfl) (pe_call G__law_address (hr.mono (by decide)) rfl e.g__law_address k__law_address b__law_address .nil (passes_call (takes_of rfl rfl rfl rfl) fun _ _ _ _ h => h) (pa_cons (pn 0) pa_nil)))
  (pss_cons (sSet (i := 7) sc__law_given.nd rfl (by first | exact .inl rfl | exact .inr rfl) (pe_call G__law_stamp (hr.mono (by decide)) rfl e.g__law_stamp k__law_stamp b__law_stamp .nil (passes_call (takes_of rfl rfl rfl rfl) fun _ _ _ _ h => h) (pa_cons (pn 0) (pa_cons (pn 4) pa_nil))))
  (pss_cons (sSet (i := 8) sc__law_given.nd rfl (by first | exact .inl rfl | exact .inr rfl) (pn 4))
  (pss_cons (ps_if (tt_ (pn 5))
  (pss_one (sSet (i := 8) sc__law_given.nd rfl (by first | exact .inl rfl | exact .inr rfl) (pn 7)))
  pss_nil)
  (pss_cons (sSet (i := 9) sc__law_given.nd rfl (by first | exact .inl rfl | exact .inr rfl) (eGet2 hu (pn 2) (pn 3) (eTup (pa_cons pe_non (pa_cons (pe_op oAdd (pn 4) pe_int) (pa_cons pe_non pa_nil))))))
  (pss_cons (sSet (i := 10) sc__law_given.nd rfl (by first | exact .inl rfl | exact .inr rfl) (pe_call G__law_span (hr.mono (by decide)) rfl e.g__law_span k__law_span b__law_span .nil (passes_call (takes_of rfl rfl rfl rfl) fun _ _ _ _ h => h) (pa_cons (pn 0) (pa_cons (pn 8) (pa_cons (pn 4) (pa_cons (eIx hu (pn 9) pe_int) pa_nil))))))
  (pss_cons (sSet (i := 11) sc__law_given.nd rfl (by first | exact .inl rfl | exact .inr rfl) (pe_call G__law_origin (hr.mono (by decide)) rfl e.g__law_origin k__law_origin b__law_origin .nil (passes_call (takes_of rfl rfl rfl rfl) fun _ _ _ _ h => h) (pa_cons (pn 0) (pa_cons (pn 4) pa_nil))))
  (pss_cons (sSet (i := 12) sc__law_given.nd rfl (by first | exact .inl rfl | exact .inr rfl) (pe_op oAdd (pn 8) (pn 10)))
  (pss_cons (ps_if (pt_not (tt_ (pe_call G__law_is_truth (hr.mono (by decide)) rfl e.g__law_is_truth k__law_is_truth b__law_is_truth .nil (passes_call (takes_of rfl rfl rfl rfl) fun _ _ _ _ h => h) (pa_cons (eMe (pn 1) e.m_Cache_store G_Cache_store (hr.mono (by decide)) e.k_Cache b_Cache_store .nil (passes_call (takes_of rfl rfl rfl rfl) fun _ _ _ _ h => h) (pa_cons (pn 4) (pa_cons (pn 3) (pa_cons (pn 6) (pa_cons (pn 10) (pa_cons (pn 7) (pa_cons (pn 11) pa_nil))))))) (pa_cons (ce oGt (pn 12) (pn 4)) pa_nil)))))
  (pss_one (ps_ret pe_bl))
  pss_nil)
  (pss_cons (ps_if (PW.pt (pw_and (ct oGt (pn 12) (pn 4)) (pw_and1 (PW.pt (pw_or (ct (oNotIn hu) (pn 3) (pn 2)) (pw_or1 (ct (oLt (Nat.lt_of_le_of_lt (Nat.le_add_right _ 64) hu)) (eIx hu (pn 9) pe_int) (pn 12))))))))
  (pss_one (ps_asg (eTup (pa_cons (pn 6) (pa_cons (pn 12) (pa_cons (pn 11) pa_nil)))) (pg_sub (pn 2) (pn 3) (setU hu))))
  pss_nil)
  (pss_one (ps_ret pe_bl))))))))))))
abbrev N__law_crowded : List Str := ["caches", "tables", "book", "page", "crowd", "moment", "shift", "k", "word", "address", "span", "which", "result", "table"]
theorem sc__law_crowded : FnScope N__law_crowded ["caches", "tables", "book", "page", "crowd", "moment", "shift"] (defScope s__law_crowded) := ⟨rfl, rfl, rfl, by decide +kernel, rfl, by decide +kernel, by decide +kernel⟩
def rd__law_crowded (K : PySem.W.Frag) (S_Records_publish : Sp4) (S_Cache_store : Sp7) (S__law_is_truth : Sp2) (E : XK) : TS := (tSeq (cFor (iR1 (tCons (tCB (uLen K) (tCons (cVar 4) tNil)) tNil)) (gNm 7)
  (tSeq (tAsg (tOp (uIx K) (cVar 4) (cVar 7)) (gNm 8))
  (tSeq (tAsg (tOp uMod (tCB uInt (tCons (tOp (uAdd K) (cVar 7) (cVar 6)) tNil)) (tC (.int 16))) (gNm 9))
  (tSeq (tAsg (tOp (uAdd K) (tC (.int 1)) (tOp uMod (tCB uInt (tCons (tOp (uAdd K) (tOp uMul (cVar 7) (tC (.int 7))) (cVar 6)) tNil)) (tC (.int 60)))) (gNm 10))
  (tSeq (tDrop (cMe (He.ga K "Records") "publish" (mk4 S_Records_publish) [] E (cVar 2) (tCons (cVar 8) (tCons (cVar 9) (tCons (cVar 10) tNil)))))
  (tSeq (tAsg (cTup (tCons (cVar 9) (tCons (cVar 10) tNil))) (gSub (cVar 3) (cVar 8) uSet))
  (cFor (iR1 (tCons (tC (.int 2)) tNil)) (gNm 11)
  (tSeq (tAsg (cMe (He.ga K "Cache") "store" (mk7 S_Cache_store) [] E (tOp (uIx K) (cVar 0) (cVar 11)) (tCons (cVar 5) (tCons (cVar 8) (tCons (cVar 9) (tCons (cVar 10) (tCons (cVar 5) (tCons (cTup (tCons (cVar 5) (tCons (cVar 10) tNil))) tNil))))))) (gNm 12))
  (tSeq (tIfS (tNot (cTru K (tCall (mk2 S__law_is_truth) [] E (tCons (cVar 12) (tCons (tC (.bl true)) tNil)))))
  (tRet (tC (.bl false)))
  tNext)
  (tSeq (tAsg (tOp (uIx K) (cVar 1) (cVar 11)) (gNm 13))
  (tAsg (cTup (tCons (cVar 9) (tCons (tOp (uAdd K) (cVar 5) (cVar 10)) (tCons (cTup (tCons (cVar 5) (tCons (cVar 10) tNil))) tNil)))) (gSub (cVar 13) (cVar 8) uSet))))))))))))
  (tRet (tC (.bl true))))
theorem der__law_crowded {P : Program} {w : World} {K : PySem.W.Frag} {mg : Str → Option Value} {base : Heap} {sp : Sp7} {S_Records_publish : Sp4} {S_Cache_store : Sp7} {S__law_is_truth : Sp2} (e : Txt K mg) (O_Records_publish : Fok P w K mg base 1 (He.ma K (He.ga K "Records") "publish") ["self", "name", "address", "span"] (mk4 S_Records_publish)) (O_Cache_store : Fok P w K mg base 1 (He.ma K (He.ga K "Cache") "store") ["self", "tick", "name", "address", "span", "stamp", "origin"] (mk7 S_Cache_store)) (O__law_is_truth : Fok P w K mg base 1 (He.ga K "_law_is_truth") ["value", "wanted"] (mk2 S__law_is_truth))
    (h : ∀ a0 a1 a2 a3 a4 a5 a6 H Q E, sp a0 a1 a2 a3 a4 a5 a6 H Q E → rd__law_crowded K S_Records_publish S_Cache_store S__law_is_truth E { nx := fun _ H' => Q .non H', rt := Q } [some a0, some a1, some a2, some a3, some a4, some a5, some a6, none, none, none, none, none, none, none] H) : Fok P w K mg base 2 (He.ga K "_law_crowded") ["caches", "tables", "book", "page", "crowd", "moment", "shift"] (mk7 sp) := by
  obtain ⟨fd_Records_publish, F_Records_publish⟩ := e.F_Records_publish
  have G_Records_publish := fok_same F_Records_publish O_Records_publish
  have k_Records_publish := F_Records_publish.kp
  obtain ⟨fd_Cache_store, F_Cache_store⟩ := e.F_Cache_store
  have G_Cache_store := fok_same F_Cache_store O_Cache_store
  have k_Cache_store := F_Cache_store.kp
  obtain ⟨fd__law_is_truth, F__law_is_truth⟩ := e.F__law_is_truth
  have G__law_is_truth := fok_same F__law_is_truth O__law_is_truth
  have k__law_is_truth := F__law_is_truth.kp
  have b_Records_publish := FunD.bindsN (ps := ["self", "name", "address", "span"]) F_Records_publish fun _ _ _ _ _ _ us hl => match us, hl with | [_, _, _, _], _ => rfl
  have b_Cache_store := FunD.bindsN (ps := ["self", "tick", "name", "address", "span", "stamp", "origin"]) F_Cache_store fun _ _ _ _ _ _ us hl => match us, hl with | [_, _, _, _, _, _, _], _ => rfl
  have b__law_is_truth := FunD.bindsN (ps := ["value", "wanted"]) F__law_is_truth fun _ _ _ _ _ _ us hl => match us, hl with | [_, _], _ => rfl
  obtain ⟨fd, F⟩ := e.F__law_crowded
  refine ⟨fd, F.ok sc__law_crowded (fun _ _ _ _ z => mk7_len z) (fun cdv A outer s H vs Q E hr hsp => ?_), fun_lk F⟩
  have hu := hr.units
  obtain ⟨a0, a1, a2, a3, a4, a5, a6, rfl, hs⟩ := mk7_at hsp
  refine ⟨rd__law_crowded K S_Records_publish S_Cache_store S__law_is_truth E, ?_, h a0 a1 a2 a3 a4 a5 a6 H Q E hs⟩
  exact (pss_cons (sFor (passes_of rfl) rfl (fR1 rfl e.b_range (pa_cons (pe_callB bLen rfl e.b_len (by decide +kernel) (pa_cons (pn 4) pa_nil)) pa_nil)) (tNm (i := 7) sc__law_crowded.nd rfl (by first | exact .inl rfl | exact .inr rfl))
  (pss_cons (sSet (i := 8) sc__law_crowded.nd rfl (by first | exact .inl rfl | exact .inr rfl) (eIx hu (pn 4) (pn 7)))
  (pss_cons (sSet (i := 9) sc__law_crowded.nd rfl (by first | exact .inl rfl | exact .inr rfl) (pe_op oMod (pe_callTy bInt rfl e.b_int (by decide +kernel) (pa_cons (pe_op oAdd (pn 7) (pn 6)) pa_nil)) pe_int))
  (pss_cons (sSet (i := 10) sc__law_crowded.nd rfl (by first | exact .inl rfl | exact .inr rfl) (pe_op oAdd pe_int (pe_op oMod (pe_callTy bInt rfl e.b_int (by decide +kernel) (pa_cons (pe_op oAdd (pe_op oMul (pn 7) pe_int) (pn 6)) pa_nil)) pe_int)))
  (pss_cons (ps_expr (eMe (pn 2) e.m_Records_publish G_Records_publish (hr.mono (by decide)) e.k_Records b_Records_publish .nil (passes_call (takes_of rfl rfl rfl rfl) fun _ _ _ _ h => h) (pa_cons (pn 8) (pa_cons (pn 9) (pa_cons (pn 10) pa_nil)))))
  (pss_cons (ps_asg (eTup (pa_cons (pn 9) (pa_cons (pn 10) pa_nil))) (pg_sub (pn 3) (pn 8) (setU hu)))
  (pss_one (sFor (passes_of rfl) rfl (fR1 rfl e.b_range (pa_cons pe_int pa_nil)) (tNm (i := 11) sc__law_crowded.nd rfl (by first | exact .inl rfl | exact .inr rfl))
  (pss_cons (sSet (i := 12) sc__law_crowded.nd rfl (by first | exact .inl rfl | exact .inr rfl) (eMe (eIx hu (pn 0) (pn 11)) e.m_Cache_store G_Cache_store (hr.mono (by decide)) e.k_Cache b_Cache_store .nil (passes_call (takes_of rfl rfl rfl rfl) fun _ _ _ _ h => h) (pa_cons (pn 5) (pa_cons (pn 8) (pa_cons (pn 9) (pa_cons (pn 10) (pa_cons (pn 5) (pa_cons (eTup (pa_cons (pn 5) (pa_cons (pn 10) pa_nil))) pa_nil))))))))
  (pss_cons (ps_if (pt_not (tt_ (pe_call G__law_is_truth (hr.mono (by decide)) rfl e.g__law_is_truth k__law_is_truth b__law_is_truth .nil (passes_call (takes_of rfl rfl rfl rfl) fun _ _ _ _ h => h) (pa_cons (pn 12) (pa_cons pe_bl pa_nil)))))
  (pss_one (ps_ret pe_bl))
  pss_nil)
  (pss_cons (sSet (i := 13) sc__law_crowded.nd rfl (by first | exact .inl rfl | exact .inr rfl) (eIx hu (pn 1) (pn 11)))
  (pss_one (ps_asg (eTup (pa_cons (pn 9) (pa_cons (pe_op oAdd (pn 5) (pn 10)) (pa_cons (eTup (pa_cons (pn 5) (pa_cons (pn 10) pa_nil))) pa_nil)))) (pg_sub (pn 13) (pn 8) (setU hu)))))))))))))))
  (pss_one (ps_ret pe_bl)))
abbrev N__law_deed : List Str := ["box", "caches", "kinds", "tables", "books", "pages", "which", "word", "moment", "deed", "address", "span", "place", "page"]
theorem sc__law_deed : FnScope N__law_deed ["box", "caches", "kinds", "tables", "books", "pages", "which", "word", "moment"] (defScope s__law_deed) := ⟨rfl, rfl, rfl, by decide +kernel, rfl, by decide +kernel, by decide +kernel⟩
def rd__law_deed (K : PySem.W.Frag) (S__law_draw : Sp2) (S__law_given : Sp6) (S__law_address : Sp1) (S_Records_publish : Sp4) (S_Cache_clear_all : Sp1) (E : XK) : TS := (tSeq (tAsg (tCall (mk2 S__law_draw) [] E (tCons (cVar 0) (tCons (tC (.int 14)) tNil))) (gNm 9))
  (tSeq (tIfS (cTest (tOp (uLt K) (cVar 9) (tC (.int 2))))
  (tSeq (tAsg (tCall (mk1 S__law_address) [] E (tCons (cVar 0) tNil)) (gNm 10))
  (tSeq (tAsg (tOp (uAdd K) (tC (.int 1)) (tCall (mk2 S__law_draw) [] E (tCons (cVar 0) (tCons (tC (.int 60)) tNil)))) (gNm 11))
  (tSeq (tAsg (tOp uMod (tCB uInt (tCons (cVar 6) tNil)) (tC (.int 2))) (gNm 12))
  (tSeq (tDrop (cMe (He.ga K "Records") "publish" (mk4 S_Records_publish) [] E (tOp (uIx K) (cVar 4) (cVar 12)) (tCons (cVar 7) (tCons (cVar 10) (tCons (cVar 11) tNil)))))
  (tSeq (tAsg (tOp (uIx K) (cVar 5) (cVar 12)) (gNm 13))
  (tSeq (tAsg (cTup (tCons (cVar 10) (tCons (cVar 11) tNil))) (gSub (cVar 13) (cVar 7) uSet))
  (tRet (tC (.bl true)))))))))
  tNext)
  (tSeq (tIfS (cTest (tOp (uEq K) (cVar 9) (tC (.int 2))))
  (tSeq (tDrop (cMe (He.ga K "Cache") "clear_all" (mk1 S_Cache_clear_all) [] E (tOp (uIx K) (cVar 1) (cVar 6)) tNil))
  (tSeq (tAsg cNewK (gSub (cVar 3) (cVar 6) uSet))
  (tRet (tC (.bl true)))))
  tNext)
  (tRet (tCall (mk6 S__law_given) [] E (tCons (cVar 0) (tCons (tOp (uIx K) (cVar 1) (cVar 6)) (tCons (tOp (uIx K) (cVar 3) (cVar 6)) (tCons (cVar 7) (tCons (cVar 8) (tCons (tOp (uIx K) (cVar 2) (cVar 6)) tNil)))))))))))
theorem der__law_deed {P : Program} {w : World} {K : PySem.W.Frag} {mg : Str → Option Value} {base : Heap} {sp : Sp9} {S__law_draw : Sp2} {S__law_given : Sp6} {S__law_address : Sp1} {S_Records_publish : Sp4} {S_Cache_clear_all : Sp1} (e : Txt K mg) (O__law_draw : Fok P w K mg base 1 (He.ga K "_law_draw") ["box", "size"] (mk2 S__law_draw)) (O__law_given : Fok P w K mg base 3 (He.ga K "_law_given") ["box", "cache", "table", "word", "moment", "from_stamp"] (mk6 S__law_given)) (O__law_address : Fok P w K mg base 2 (He.ga K "_law_address") ["box"] (mk1 S__law_address)) (O_Records_publish : Fok P w K mg base 1 (He.ma K (He.ga K "Records") "publish") ["self", "name", "address", "span"] (mk4 S_Records_publish)) (O_Cache_clear_all : Fok P w K mg base 1 (He.ma K (He.ga K "Cache") "clear_all") ["self"] (mk1 S_Cache_clear_all))
    (h : ∀ a0 a1 a2 a3 a4 a5 a6 a7 a8 H Q E, sp a0 a1 a2 a3 a4 a5 a6 a7 a8 H Q E → rd__law_deed K S__law_draw S__law_given S__law_address S_Records_publish S_Cache_clear_all E { nx := fun _ H' => Q .non H', rt := Q } [some a0, some a1, some a2, some a3, some a4, some a5, some a6, some a7, some a8, none, none, none, none, none] H) : Fok P w K mg base 4 (He.ga K "_law_deed") ["box", "caches", "kinds", "tables", "books", "pages", "which", "word", "moment"] (mk9 sp) := by
  obtain ⟨fd__law_draw, F__law_draw⟩ := e.F__law_draw
  have G__law_draw := fok_same F__law_draw O__law_draw
  have k__law_draw := F__law_draw.kp
  obtain ⟨fd__law_given, F__law_given⟩ := e.F__law_given
  have G__law_given := fok_same F__law_given O__law_given
  have k__law_given := F__law_given.kp
  obtain ⟨fd__law_address, F__law_address⟩ := e.F__law_address
  have G__law_address := fok_same F__law_address O__law_address
  have k__law_address := F__law_address.kp
  obtain ⟨fd_Records_publish, F_Records_publish⟩ := e.F_Records_publish
  have G_Records_publish := fok_same F_Records_publish O_Records_publish
  have k_Records_publish := F_Records_publish.kp
  obtain ⟨fd_Cache_clear_all, F_Cache_clear_all⟩ := e.F_Cache_clear_all
  have G_Cache_clear_all := fok_same F_Cache_clear_all O_Cache_clear_all
  have k_Cache_clear_all := F_Cache_clear_all.kp
  have b__law_draw := FunD.bindsN (ps := ["box", "size"]) F__law_draw fun _ _ _ _ _ _ us hl => match us, hl with | [_, _], _ => rfl
  have b__law_address := FunD.bindsN (ps := ["box"]) F__law_address fun _ _ _ _ _ _ us hl => match us, hl with | [_], _ => rfl
  have b_Records_publish := FunD.bindsN (ps := ["self", "name", "address", "span"]) F_Records_publish fun _ _ _ _ _ _ us hl => match us, hl with | [_, _, _, _], _ => rfl
  have b_Cache_clear_all := FunD.bindsN (ps := ["self"]) F_Cache_clear_all fun _ _ _ _ _ _ us hl => match us, hl with | [_], _ => rfl
  have b__law_given := FunD.bindsN (ps := ["box", "cache", "table", "word", "moment", "from_stamp"]) F__law_given fun _ _ _ _ _ _ us hl => match us, hl with | [_, _, _, _, _, _], _ => rfl
  obtain ⟨fd, F⟩ := e.F__law_deed
  refine ⟨fd, F.ok sc__law_deed (fun _ _ _ _ z => mk9_len z) (fun cdv A outer s H vs Q E hr hsp => ?_), fun_lk F⟩
  have hu := hr.units
  obtain ⟨a0, a1, a2, a3, a4, a5, a6, a7, a8, rfl, hs⟩ := mk9_at hsp
  refine ⟨rd__law_deed K S__law_draw S__law_given S__law_address S_Records_publish S_Cache_clear_all E, ?_, h a0 a1 a2 a3 a4 a5 a6 a7 a8 H Q E hs⟩
  exact (pss_cons (sSet (i := 9) sc__law_deed.nd rfl (by first | exact .inl rfl | exact .inr rfl) (pe_call G__law_draw (hr.mono (by decide)) rfl e.g__law_draw k__law_draw b__law_draw .nil (passes_call (takes_of rfl rfl rfl rfl) fun _ _ _ _ h => h) (pa_cons (pn 0) (pa_cons pe_int pa_nil))))
  (pss_cons (ps_if (ct (oLt (Nat.lt_of_le_of_lt (Nat.le_add_right _ 64) hu)) (pn 9) pe_int)
  (pss_cons (sSet (i := 10) sc__law_deed.nd rfl (by first | exact .inl rfl | exact .inr rfl) (pe_call G__law_address (hr.mono (by decide)) rfl e.g__law_address k__law_address b__law_address .nil (passes_call (takes_of rfl rfl rfl rfl) fun _ _ _ _ h => h) (pa_cons (pn 0) pa_nil)))
  (pss_cons (sSet (i := 11) sc__law_deed.nd rfl (by first | exact .inl rfl | exact .inr rfl) (pe_op oAdd pe_int (pe_call G__law_draw (hr.mono (by decide)) rfl e.g__law_draw k__law_draw b__law_draw .nil (passes_call (takes_of rfl rfl rfl rfl) fun _ _ _ _ h => h) (pa_cons (pn 0) (pa_cons pe_int pa_nil)))))
  (pss_cons (sSet (i := 12) sc__law_deed.nd rfl (by first | exact .inl rfl | exact .inr rfl) (pe_op oMod (pe_callTy bInt rfl e.b_int (by decide +kernel) (pa_cons (pn 6) pa_nil)) pe_int))
  (pss_cons (ps_expr (eMe (eIx hu (pn 4) (pn 12)) e.m_Records_publish G_Records_publish (hr.mono (by decide)) e.k_Records b_Records_publish .nil (passes_call (takes_of rfl rfl rfl rfl) fun _ _ _ _ h => h) (pa_cons (pn 7) (pa_cons (pn 10) (pa_cons (pn 11) pa_nil)))))
  (pss_cons (sSet (i := 13) sc__law_deed.nd rfl (by first | exact .inl rfl | exact .inr rfl) (eIx hu (pn 5) (pn 12)))
  (pss_cons (ps_asg (eTup (pa_cons (pn 10) (pa_cons (pn 11) pa_nil))) (pg_sub (pn 13) (pn 7) (setU hu)))
  (pss_one (ps_ret pe_bl))))))))
  pss_nil)
  (pss_cons (ps_if (ct (oEq hu) (pn 9) pe_int)
  (pss_cons (ps_expr (eMe0 (eIx hu (pn 1) (pn 6)) e.m_Cache_clear_all G_Cache_clear_all (hr.mono (by decide)) e.k_Cache b_Cache_clear_all .nil (passes_call (takes_of rfl rfl rfl rfl) fun _ _ _ _ h => h) ))
  (pss_cons (ps_asg eNewK (pg_sub (pn 3) (pn 6) (setU hu)))
  (pss_one (ps_ret pe_bl))))
  pss_nil)
  (pss_one (ps_ret (pe_call G__law_given (hr.mono (by decide)) rfl e.g__law_given k__law_given b__law_given .nil (passes_call (takes_of rfl rfl rfl rfl) fun _ _ _ _ h => h) (pa_cons (pn 0) (pa_cons (eIx hu (pn 1) (pn 6)) (pa_cons (eIx hu (pn 3) (pn 6)) (pa_cons (pn 7) (pa_cons (pn 8) (pa_cons (eIx hu (pn 2) (pn 6)) pa_nil))))))))))))
abbrev N_law : List Str := ["script", "box", "moment", "stamped_first", "kinds", "steps", "caches", "tables", "books", "pages", "letters", "crowd", "k", "shift", "few", "names", "words", "which", "word", "ending", "later", "kind"]
theorem sc_law : FnScope N_law ["script"] (defScope s_law) := ⟨rfl, rfl, rfl, by decide +kernel, rfl, by decide +kernel, by decide +kernel⟩
def rd_law (K : PySem.W.Frag) (S__law_box : Sp2) (S__law_draw : Sp2) (S__law_all : Sp6) (S_Cache___init__ : Sp2) (S_Records___init__ : Sp1) (S__law_word : Sp1) (S__law_crowded : Sp7) (S__law_moved : Sp3) (S__law_near : Sp2) (S__law_deed : Sp9) (S__law_found : Sp4) (E : XK) : TS := (tSeq (tAsg (tCall (mk2 S__law_box) [] E (tCons (cVar 0) (tCons (tC (.int 0)) tNil))) (gNm 1))
  (tSeq (tAsg (tCall (mk2 S__law_draw) [] E (tCons (cVar 1) (tCons (tC (.int 60)) tNil))) (gNm 2))
  (tSeq (tAsg (tOp (uEq K) (tCall (mk2 S__law_draw) [] E (tCons (cVar 1) (tCons (tC (.int 2)) tNil))) (tC (.int 1))) (gNm 3))
  (tSeq (tAsg (cLst (tCons (cVar 3) (tCons (cNot K (cVar 3)) (tCons (cVar 3) tNil)))) (gNm 4))
  (tSeq (tAsg (tOp (uAdd K) (tC (.int 1)) (tCall (mk2 S__law_draw) [] E (tCons (cVar 1) (tCons (tC (.int 60)) tNil)))) (gNm 5))
  (tSeq (tAsg (cLc (iSeq K (cVar 4)) (gNm 21) tYes (cMk (He.ga K "Cache") (mk2 S_Cache___init__) [] E0 (tCons (cVar 21) tNil)) [21]) (gNm 6))
  (tSeq (tAsg (cLst (tCons cNewK (tCons cNewK (tCons cNewK tNil)))) (gNm 7))
  (tSeq (tAsg (cLst (tCons (cMk (He.ga K "Records") (mk1 S_Records___init__) [] E tNil) (tCons (cMk (He.ga K "Records") (mk1 S_Records___init__) [] E tNil) tNil))) (gNm 8))
  (tSeq (tAsg (cLst (tCons cNewK (tCons cNewK tNil))) (gNm 9))
  (tSeq (tAsg (tC (.str "abcdefghijklmnopqrstuvwxyz")) (gNm 10))
  (tSeq (tAsg (cLst tNil) (gNm 11))
  (tSeq (tIfS (cTest (tOp (uEq K) (tCall (mk2 S__law_draw) [] E (tCons (cVar 1) (tCons (tC (.int 8)) tNil))) (tC (.int 1))))
  (tAsg (cLc (iR1 (tCons (tC (.int 70)) tNil)) (gNm 12) tYes (tOp (uAdd K) (tOp (uIx K) (cVar 10) (tOp uMod (tCB uInt (tCons (cVar 12) tNil)) (tC (.int 26)))) (tOp (uIx K) (cVar 10) (tOp uDiv (cVar 12) (tC (.int 26))))) [12]) (gNm 11))
  tNext)
  (tSeq (tAsg (tCall (mk2 S__law_draw) [] E (tCons (cVar 1) (tCons (tC (.int 60)) tNil))) (gNm 13))
  (tSeq (tAsg (tOp (uAdd K) (tC (.int 1)) (tCall (mk2 S__law_draw) [] E (tCons (cVar 1) (tCons (tC (.int 5)) tNil)))) (gNm 14))
  (tSeq (tAsg (tCall (mk2 S__law_box) [] E (tCons (cVar 0) (tCons (tC (.int 1)) tNil))) (gNm 15))
  (tSeq (tAsg (cLst (tCons (tCall (mk1 S__law_word) [] E (tCons (cVar 15) tNil)) (tCons (tCall (mk1 S__law_word) [] E (tCons (cVar 15) tNil)) tNil))) (gNm 16))
  (tSeq (tAsg (tOp (uAdd K) (cVar 16) (cLst (tCons (tCall (mk2 S__law_near) [] E (tCons (cVar 15) (tCons (tOp (uIx K) (cVar 16) (tC (.int 0))) tNil))) (tCons (tCall (mk2 S__law_near) [] E (tCons (cVar 15) (tCons (tOp (uIx K) (cVar 16) (tC (.int 0))) tNil))) (tCons (tCall (mk2 S__law_near) [] E (tCons (cVar 15) (tCons (tOp (uIx K) (cVar 16) (tC (.int 1))) tNil))) tNil))))) (gNm 16))
  (tSeq (tIfS (tNot (cTru K (tCall (mk6 S__law_all) [] E (tCons (cVar 6) (tCons (cVar 7) (tCons (cVar 8) (tCons (cVar 9) (tCons (cVar 16) (tCons (cVar 2) tNil)))))))))
  (tRet (tC (.bl false)))
  tNext)
  (tSeq (tIfS (tNot (cTru K (tCall (mk7 S__law_crowded) [] E (tCons (cVar 6) (tCons (cVar 7) (tCons (tOp (uIx K) (cVar 8) (tC (.int 0))) (tCons (tOp (uIx K) (cVar 9) (tC (.int 0))) (tCons (cVar 11) (tCons (cVar 2) (tCons (cVar 13) tNil))))))))))
  (tRet (tC (.bl false)))
  tNext)
  (tSeq (tIfS (tNot (cTru K (tCall (mk6 S__law_all) [] E (tCons (cVar 6) (tCons (cVar 7) (tCons (cVar 8) (tCons (cVar 9) (tCons (cVar 11) (tCons (cVar 2) tNil)))))))))
  (tRet (tC (.bl false)))
  tNext)
  (tSeq (cFor (iR1 (tCons (cVar 5) tNil)) (gNm 12)
  (tSeq (tAsg (tCall (mk2 S__law_box) [] E (tCons (cVar 0) (tCons (tOp (uAdd K) (tC (.int 2)) (cVar 12)) tNil))) (gNm 1))
  (tSeq (tAsg (tCall (mk2 S__law_draw) [] E (tCons (cVar 1) (tCons (tC (.int 3)) tNil))) (gNm 17))
  (tSeq (tAsg (tOp (uIx K) (cVar 16) (tCall (mk2 S__law_draw) [] E (tCons (cVar 1) (tCons (cVar 14) tNil)))) (gNm 18))
  (tSeq (tAsg (tCall (mk3 S__law_moved) [] E (tCons (cVar 1) (tCons (cVar 2) (tCons (tOp (uIx K) (cGet2 (tOp (uIx K) (cVar 7) (cVar 17)) (cVar 18) (cTup (tCons (tC .non) (tCons (cVar 2) (tCons (tC .non) tNil))))) (tC (.int 1))) tNil)))) (gNm 2))
  (tSeq (tIfS (tNot (cTru K (tCall (mk9 S__law_deed) [] E (tCons (cVar 1) (tCons (cVar 6) (tCons (cVar 4) (tCons (cVar 7) (tCons (cVar 8) (tCons (cVar 9) (tCons (cVar 17) (tCons (cVar 18) (tCons (cVar 2) tNil))))))))))))
  (tRet (tC (.bl false)))
  tNext)
  (tIfS (tAnd (cTest (tOp (uEq K) (tCall (mk2 S__law_draw) [] E (tCons (cVar 1) (tCons (tC (.int 2)) tNil))) (tC (.int 1)))) (tNot (cTru K (tCall (mk6 S__law_all) [] E (tCons (cVar 6) (tCons (cVar 7) (tCons (cVar 8) (tCons (cVar 9) (tCons (cVar 16) (tCons (cVar 2) tNil))))))))))
  (tRet (tC (.bl false)))
  tNext)))))))
  (tSeq (tIfS (tNot (cTru K (tCall (mk6 S__law_all) [] E (tCons (cVar 6) (tCons (cVar 7) (tCons (cVar 8) (tCons (cVar 9) (tCons (tOp (uAdd K) (cVar 16) (cVar 11)) (tCons (cVar 2) tNil)))))))))
  (tRet (tC (.bl false)))
  tNext)
  (tSeq (tAsg (tCB uMin2 (tCons (tC (.int 239)) (tCons (tOp (uAdd K) (cVar 2) (tC (.int 61))) tNil))) (gNm 19))
  (tSeq (cFor (iR2 (tCons (cVar 2) (tCons (tOp (uAdd K) (cVar 19) (tC (.int 1))) tNil))) (gNm 20)
  (cFor (iSeq K (cVar 16)) (gNm 18)
  (cFor (iR1 (tCons (tC (.int 3)) tNil)) (gNm 17)
  (tIfS (tNot (cTru K (tCall (mk4 S__law_found) [] E (tCons (tOp (uIx K) (cVar 6) (cVar 17)) (tCons (tOp (uIx K) (cVar 7) (cVar 17)) (tCons (cVar 18) (tCons (cVar 20) tNil)))))))
  (tRet (tC (.bl false)))
  tNext))))
  (tRet (tCall (mk6 S__law_all) [] E (tCons (cVar 6) (tCons (cVar 7) (tCons (cVar 8) (tCons (cVar 9) (tCons (tOp (uAdd K) (cVar 16) (cVar 11)) (tCons (cVar 19) tNil))))))))))))))))))))))))))))))))
theorem der_law {P : Program} {w : World} {K : PySem.W.Frag} {mg : Str → Option Value} {base : Heap} {sp : Sp1} {S__law_box : Sp2} {S__law_draw : Sp2} {S__law_all : Sp6} {S_Cache___init__ : Sp2} {S_Records___init__ : Sp1} {S__law_word : Sp1} {S__law_crowded : Sp7} {S__law_moved : Sp3} {S__law_near : Sp2} {S__law_deed : Sp9} {S__law_found : Sp4} (e : Txt K mg) (O__law_box : Fok P w K mg base 1 (He.ga K "_law_box") ["script", "k"] (mk2 S__law_box)) (O__law_draw : Fok P w K mg base 1 (He.ga K "_law_draw") ["box", "size"] (mk2 S__law_draw)) (O__law_all : Fok P w K mg base 3 (He.ga K "_law_all") ["caches", "tables", "books", "pages", "words", "moment"] (mk6 S__law_all)) (O_Cache___init__ : Fok P w K mg base 1 (He.ma K (He.ga K "Cache") "__init__") ["self", "stamped"] (mk2 S_Cache___init__)) (O_Records___init__ : Fok P w K mg base 1 (He.ma K (He.ga K "Records") "__init__") ["self"] (mk1 S_Records___init__)) (O__law_word : Fok P w K mg base 2 (He.ga K "_law_word") ["box"] (mk1 S__law_word)) (O__law_crowded : Fok P w K mg base 2 (He.ga K "_law_crowded") ["caches", "tables", "book", "page", "crowd", "moment", "shift"] (mk7 S__law_crowded)) (O__law_moved : Fok P w K mg base 2 (He.ga K "_law_moved") ["box", "moment", "best"] (mk3 S__law_moved)) (O__law_near : Fok P w K mg base 2 (He.ga K "_law_near") ["box", "word"] (mk2 S__law_near)) (O__law_deed : Fok P w K mg base 4 (He.ga K "_law_deed") ["box", "caches", "kinds", "tables", "books", "pages", "which", "word", "moment"] (mk9 S__law_deed)) (O__law_found : Fok P w K mg base 2 (He.ga K "_law_found") ["cache", "table", "word", "moment"] (mk4 S__law_found))
    (h : ∀ a0 H Q E, sp a0 H Q E → rd_law K S__law_box S__law_draw S__law_all S_Cache___init__ S_Records___init__ S__law_word S__law_crowded S__law_moved S__law_near S__law_deed S__law_found E { nx := fun _ H' => Q .non H', rt := Q } [some a0, none, none, none, none, none, none, none, none, none, none, none, none, none, none, none, none, none, none, none, none, none] H) : Fok P w K mg base 5 (He.ga K "law") ["script"] (mk1 sp) := by
  obtain ⟨fd__law_box, F__law_box⟩ := e.F__law_box
  have G__law_box := fok_same F__law_box O__law_box
  have k__law_box := F__law_box.kp
  obtain ⟨fd__law_draw, F__law_draw⟩ := e.F__law_draw
  have G__law_draw := fok_same F__law_draw O__law_draw
  have k__law_draw := F__law_draw.kp
  obtain ⟨fd__law_all, F__law_all⟩ := e.F__law_all
  have G__law_all := fok_same F__law_all O__law_all
  have k__law_all := F__law_all.kp
  obtain ⟨fd_Cache___init__, F_Cache___init__⟩ := e.F_Cache___init__
  have G_Cache___init__ := fok_same F_Cache___init__ O_Cache___init__
  have k_Cache___init__ := F_Cache___init__.kp
  obtain ⟨fd_Records___init__, F_Records___init__⟩ := e.F_Records___init__
  have G_Records___init__ := fok_same F_Records___init__ O_Records___init__
  have k_Records___init__ := F_Records___init__.kp
  obtain ⟨fd__law_word, F__law_word⟩ := e.F__law_word
  have G__law_word := fok_same F__law_word O__law_word
  have k__law_word := F__law_word.kp
  obtain ⟨fd__law_crowded, F__law_crowded⟩ := e.F__law_crowded
  have G__law_crowded := fok_same F__law_crowded O__law_crowded
  have k__law_crowded := F__law_crowded.kp
  obtain ⟨fd__law_moved, F__law_moved⟩ := e.F__law_moved
  have G__law_moved := fok_same F__law_moved O__law_moved
  have k__law_moved := F__law_moved.kp
  obtain ⟨fd__law_near, F__law_near⟩ := e.F__law_near
  have G__law_near := fok_same F__law_near O__law_near
  have k__law_near := F__law_near.kp
  obtain ⟨fd__law_deed, F__law_deed⟩ := e.F__law_deed
  have G__law_deed := fok_same F__law_deed O__law_deed
  have k__law_deed := F__law_deed.kp
  obtain ⟨fd__law_found, F__law_found⟩ := e.F__law_found
  have G__law_found := fok_same F__law_found O__law_found
  have k__law_found := F__law_found.kp
  have b__law_box := FunD.bindsN (ps := ["script", "k"]) F__law_box fun _ _ _ _ _ _ us hl => match us, hl with | [_, _], _ => rfl
  have b__law_draw := FunD.bindsN (ps := ["box", "size"]) F__law_draw fun _ _ _ _ _ _ us hl => match us, hl with | [_, _], _ => rfl
  have b_Cache___init__ := FunD.bindsN (ps := ["self", "stamped"]) F_Cache___init__ fun _ _ _ _ _ _ us hl => match us, hl with | [_, _], _ => rfl
  have b_Records___init__ := FunD.bindsN (ps := ["self"]) F_Records___init__ fun _ _ _ _ _ _ us hl => match us, hl with | [_], _ => rfl
  have b__law_word := FunD.bindsN (ps := ["box"]) F__law_word fun _ _ _ _ _ _ us hl => match us, hl with | [_], _ => rfl
  have b__law_near := FunD.bindsN (ps := ["box", "word"]) F__law_near fun _ _ _ _ _ _ us hl => match us, hl with | [_, _], _ => rfl
  have b__law_all := FunD.bindsN (ps := ["caches", "tables", "books", "pages", "words", "moment"]) F__law_all fun _ _ _ _ _ _ us hl => match us, hl with | [_, _, _, _, _, _], _ => rfl
  have b__law_crowded := FunD.bindsN (ps := ["caches", "tables", "book", "page", "crowd", "moment", "shift"]) F__law_crowded fun _ _ _ _ _ _ us hl => match us, hl with | [_, _, _, _, _, _, _], _ => rfl
  have b__law_moved := FunD.bindsN (ps := ["box", "moment", "best"]) F__law_moved fun _ _ _ _ _ _ us hl => match us, hl with | [_, _, _], _ => rfl
  have b__law_deed := FunD.bindsN (ps := ["box", "caches", "kinds", "tables", "books", "pages", "which", "word", "moment"]) F__law_deed fun _ _ _ _ _ _ us hl => match us, hl with | [_, _, _, _, _, _, _, _, _], _ => rfl
  have b__law_found := FunD.bindsN (ps := ["cache", "table", "word", "moment"]) F__law_found fun _ _ _ _ _ _ us hl => match us, hl with | [_, _, _, _], _ => rfl
  obtain ⟨fd, F⟩ := e.F_law
  refine ⟨fd, F.ok sc_law (fun _ _ _ _ z => mk1_len z) (fun cdv A outer s H vs Q E hr hsp => ?_), fun_lk F⟩
  have hu := hr.units
  obtain ⟨a0, rfl, hs⟩ := mk1_at hsp
  refine ⟨rd_law K S__law_box S__law_draw S__law_all S_Cache___init__ S_Records___init__ S__law_word S__law_crowded S__law_moved S__law_near S__law_deed S__law_found E, ?_, h a0 H Q E hs⟩
  exact (pss_cons (sSet (i := 1) sc_law.nd rfl (by first | exact .inl rfl | exact .inr rfl) (pe_call G__law_box (hr.mono (by decide)) rfl e.g__law_box k__law_box b__law_box .nil (passes_call (takes_of rfl rfl rfl rfl) fun _ _ _ _ h => h) (pa_cons (pn 0) (pa_cons pe_int pa_nil))))
  (pss_cons (sSet (i := 2) sc_law.nd rfl (by first | exact .inl rfl | exact .inr rfl) (pe_call G__law_draw (hr.mono (by decide)) rfl e.g__law_draw k__law_draw b__law_draw .nil (passes_call (takes_of rfl rfl rfl rfl) fun _ _ _ _ h => h) (pa_cons (pn 1) (pa_cons pe_int pa_nil))))
  (pss_cons (sSet (i := 3) sc_law.nd rfl (by first | exact .inl rfl | exact .inr rfl) (ce (oEq hu) (pe_call G__law_draw (hr.mono (by decide)) rfl e.g__law_draw k__law_draw b__law_draw .nil (passes_call (takes_of rfl rfl rfl rfl) fun _ _ _ _ h => h) (pa_cons (pn 1) (pa_cons pe_int pa_nil))) pe_int))
  (pss_cons (sSet (i := 4) sc_law.nd rfl (by first | exact .inl rfl | exact .inr rfl) (eLst (pa_cons (pn 3) (pa_cons (eNot (pn 3)) (pa_cons (pn 3) pa_nil)))))
  (pss_cons (sSet (i := 5) sc_law.nd rfl (by first | exact .inl rfl | exact .inr rfl) (pe_op oAdd pe_int (pe_call G__law_draw (hr.mono (by decide)) rfl e.g__law_draw k__law_draw b__law_draw .nil (passes_call (takes_of rfl rfl rfl rfl) fun _ _ _ _ h => h) (pa_cons (pn 1) (pa_cons pe_int pa_nil)))))
  (pss_cons (sSetLc (i := 6) (own := [("kind", 21)]) rfl sc_law.nd rfl rfl (sw_true rfl rfl rfl (by decide +kernel)) (fSeq (pn 4)) (blkOk_by (N := N_law) (sc := defScope s_law) (own := [("kind", 21)]) (by decide +kernel)) (fun _ _ _ _ _ => (tNm (i := 21) sc_law.nd rfl (by first | exact .inl rfl | exact .inr rfl))) (fun _ _ _ _ _ => pts_nil) (fun _ _ _ _ _ => (eMk e.M_Cache G_Cache___init__ (hr.mono (by decide)) rfl e.g_Cache b_Cache___init__ .nil passL (pa_cons (pn 21) pa_nil))))
  (pss_cons (sSet (i := 7) sc_law.nd rfl (by first | exact .inl rfl | exact .inr rfl) (eLst (pa_cons eNewK (pa_cons eNewK (pa_cons eNewK pa_nil)))))
  (pss_cons (sSet (i := 8) sc_law.nd rfl (by first | exact .inl rfl | exact .inr rfl) (eLst (pa_cons (eMk0 e.M_Records G_Records___init__ (hr.mono (by decide)) rfl e.g_Records b_Records___init__ .nil (passes_call (takes_of rfl rfl rfl rfl) fun _ _ _ _ h => h) ) (pa_cons (eMk0 e.M_Records G_Records___init__ (hr.mono (by decide)) rfl e.g_Records b_Records___init__ .nil (passes_call (takes_of rfl rfl rfl rfl) fun _ _ _ _ h => h) ) pa_nil))))
  (pss_cons (sSet (i := 9) sc_law.nd rfl (by first | exact .inl rfl | exact .inr rfl) (eLst (pa_cons eNewK (pa_cons eNewK pa_nil))))
  (pss_cons (sSet (i := 10) sc_law.nd rfl (by first | exact .inl rfl | exact .inr rfl) pe_str)
  (pss_cons (sSet (i := 11) sc_law.nd rfl (by first | exact .inl rfl | exact .inr rfl) (eLst pa_nil))
  (pss_cons (ps_if (ct (oEq hu) (pe_call G__law_draw (hr.mono (by decide)) rfl e.g__law_draw k__law_draw b__law_draw .nil (passes_call (takes_of rfl rfl rfl rfl) fun _ _ _ _ h => h) (pa_cons (pn 1) (pa_cons pe_int pa_nil))) pe_int)
  (pss_one (sSetLc (i := 11) (own := [("k", 12)]) rfl sc_law.nd rfl rfl (sw_true rfl rfl rfl (by decide +kernel)) (fR1 rfl e.b_range (pa_cons pe_int pa_nil)) (blkOk_by (N := N_law) (sc := defScope s_law) (own := [("k", 12)]) (by decide +kernel)) (fun _ _ _ _ _ => (tNm (i := 12) sc_law.nd rfl (by first | exact .inl rfl | exact .inr rfl))) (fun _ _ _ _ _ => pts_nil) (fun _ _ _ _ _ => (pe_op oAdd (eIx hu (pn 10) (pe_op oMod (pe_callTy bInt rfl e.b_int (by decide +kernel) (pa_cons (pn 12) pa_nil)) pe_int)) (eIx hu (pn 10) (pe_op oDiv (pn 12) pe_int))))))
  pss_nil)
  (pss_cons (sSet (i := 13) sc_law.nd rfl (by first | exact .inl rfl | exact .inr rfl) (pe_call G__law_draw (hr.mono (by decide)) rfl e.g__law_draw k__law_draw b__law_draw .nil (passes_call (takes_of rfl rfl rfl rfl) fun _ _ _ _ h => h) (pa_cons (pn 1) (pa_cons pe_int pa_nil))))
  (pss_cons (sSet (i := 14) sc_law.nd rfl (by first | exact .inl rfl | exact .inr rfl) (pe_op oAdd pe_int (pe_call G__law_draw (hr.mono (by decide)) rfl e.g__law_draw k__law_draw b__law_draw .nil (passes_call (takes_of rfl rfl rfl rfl) fun _ _ _ _ h => h) (pa_cons (pn 1) (pa_cons pe_int pa_nil)))))
  (pss_cons (sSet (i := 15) sc_law.nd rfl (by first | exact .inl rfl | exact .inr rfl) (pe_call G__law_box (hr.mono (by decide)) rfl e.g__law_box k__law_box b__law_box .nil (passes_call (takes_of rfl rfl rfl rfl) fun _ _ _ _ h => h) (pa_cons (pn 0) (pa_cons pe_int pa_nil))))
  (pss_cons (sSet (i := 16) sc_law.nd rfl (by first | exact .inl rfl | exact .inr rfl) (eLst (pa_cons (pe_call G__law_word (hr.mono (by decide)) rfl e.g__law_word k__law_word b__law_word .nil (passes_call (takes_of rfl rfl rfl rfl) fun _ _ _ _ h => h) (pa_cons (pn 15) pa_nil)) (pa_cons (pe_call G__law_word (hr.mono (by decide)) rfl e.g__law_word k__law_word b__law_word .nil (passes_call (takes_of rfl rfl rfl rfl) fun _ _ _ _ h => h) (pa_cons (pn 15) pa_nil)) pa_nil))))
  (pss_cons (sSet (i := 16) sc_law.nd rfl (by first | exact .inl rfl | exact .inr rfl) (pe_op oAdd (pn 16) (eLst (pa_cons (pe_call G__law_near (hr.mono (by decide)) rfl e.g__law_near k__law_near b__law_near .nil (passes_call (takes_of rfl rfl rfl rfl) fun _ _ _ _ h => h) (pa_cons (pn 15) (pa_cons (eIx hu (pn 16) pe_int) pa_nil))) (pa_cons (pe_call G__law_near (hr.mono (by decide)) rfl e.g__law_near k__law_near b__law_near .nil (passes_call (takes_of rfl rfl rfl rfl) fun _ _ _ _ h => h) (pa_cons (pn 15) (pa_cons (eIx hu (pn 16) pe_int) pa_nil))) (pa_cons (pe_call G__law_near (hr.mono (by decide)) rfl e.g__law_near k__law_near b__law_near .nil (passes_call (takes_of rfl rfl rfl rfl) fun _ _ _ _ h => h) (pa_cons (pn 15) (pa_cons (eIx hu (pn 16) pe_int) pa_nil))) pa_nil))))))
  (pss_cons (ps_if (pt_not (tt_ (pe_call G__law_all (hr.mono (by decide)) rfl e.g__law_all k__law_all b__law_all .nil (passes_call (takes_of rfl rfl rfl rfl) fun _ _ _ _ h => h) (pa_cons (pn 6) (pa_cons (pn 7) (pa_cons (pn 8) (pa_cons (pn 9) (pa_cons (pn 16) (pa_cons (pn 2) pa_nil)))))))))
  (pss_one (ps_ret pe_bl))
  pss_nil)
  (pss_cons (ps_if (pt_not (tt_ (pe_call G__law_crowded (hr.mono (by decide)) rfl e.g__law_crowded k__law_crowded b__law_crowded .nil (passes_call (takes_of rfl rfl rfl rfl) fun _ _ _ _ h => h) (pa_cons (pn 6) (pa_cons (pn 7) (pa_cons (eIx hu (pn 8) pe_int) (pa_cons (eIx hu (pn 9) pe_int) (pa_cons (pn 11) (pa_cons (pn 2) (pa_cons (pn 13) pa_nil))))))))))
  (pss_one (ps_ret pe_bl))
  pss_nil)
  (pss_cons (ps_if (pt_not (tt_ (pe_call G__law_all (hr.mono (by decide)) rfl e.g__law_all k__law_all b__law_all .nil (passes_call (takes_of rfl rfl rfl rfl) fun _ _ _ _ h => h) (pa_cons (pn 6) (pa_cons (pn 7) (pa_cons (pn 8) (pa_cons (pn 9) (pa_cons (pn 11) (pa_cons (pn 2) pa_nil)))))))))
  (pss_one (ps_ret pe_bl))
  pss_nil)
  (pss_cons (sFor (passes_of rfl) rfl (fR1 rfl e.b_range (pa_cons (pn 5) pa_nil)) (tNm (i := 12) sc_law.nd rfl (by first | exact .inl rfl | exact .inr rfl))
  (pss_cons (sSet (i := 1) sc_law.nd rfl (by first | exact .inl rfl | exact .inr rfl) (pe_call G__law_box (hr.mono (by decide)) rfl e.g__law_box k__law_box b__law_box .nil (passes_call (takes_of rfl rfl rfl rfl) fun _ _ _ _ h => h) (pa_cons (pn 0) (pa_cons (pe_op oAdd pe_int (pn 12)) pa_nil))))
  (pss_cons (sSet (i := 17) sc_law.nd rfl (by first | exact .inl rfl | exact .inr rfl) (pe_call G__law_draw (hr.mono (by decide)) rfl e.g__law_draw k__law_draw b__law_draw .nil (passes_call (takes_of rfl rfl rfl rfl) fun _ _ _ _ h => h) (pa_cons (pn 1) (pa_cons pe_int pa_nil))))
  (pss_cons (sSet (i := 18) sc_law.nd rfl (by first | exact .inl rfl | exact .inr rfl) (eIx hu (pn 16) (pe_call G__law_draw (hr.mono (by decide)) rfl e.g__law_draw k__law_draw b__law_draw .nil (passes_call (takes_of rfl rfl rfl rfl) fun _ _ _ _ h => h) (pa_cons (pn 1) (pa_cons (pn 14) pa_nil)))))
  (pss_cons (sSet (i := 2) sc_law.nd rfl (by first | exact .inl rfl | exact .inr rfl) (pe_call G__law_moved (hr.mono (by decide)) rfl e.g__law_moved k__law_moved b__law_moved .nil (passes_call (takes_of rfl rfl rfl rfl) fun _ _ _ _ h => h) (pa_cons (pn 1) (pa_cons (pn 2) (pa_cons (eIx hu (eGet2 hu (eIx hu (pn 7) (pn 17)) (pn 18) (eTup (pa_cons pe_non (pa_cons (pn 2) (pa_cons pe_non pa_nil))))) pe_int) pa_nil)))))
  (pss_cons (ps_if (pt_not (tt_ (pe_call G__law_deed (hr.mono (by decide)) rfl e.g__law_deed k__law_deed b__law_deed .nil (passes_call (takes_of rfl rfl rfl rfl) fun _ _ _ _ h => h) (pa_cons (pn 1) (pa_cons (pn 6) (pa_cons (pn 4) (pa_cons (pn 7) (pa_cons (pn 8) (pa_cons (pn 9) (pa_cons (pn 17) (pa_cons (pn 18) (pa_cons (pn 2) pa_nil))))))))))))
  (pss_one (ps_ret pe_bl))
  pss_nil)
  (pss_one (ps_if (PW.pt (pw_and (ct (oEq hu) (pe_call G__law_draw (hr.mono (by decide)) rfl e.g__law_draw k__law_draw b__law_draw .nil (passes_call (takes_of rfl rfl rfl rfl) fun _ _ _ _ h => h) (pa_cons (pn 1) (pa_cons pe_int pa_nil))) pe_int) (pw_and1 (pt_not (tt_ (pe_call G__law_all (hr.mono (by decide)) rfl e.g__law_all k__law_all b__law_all .nil (passes_call (takes_of rfl rfl rfl rfl) fun _ _ _ _ h => h) (pa_cons (pn 6) (pa_cons (pn 7) (pa_cons (pn 8) (pa_cons (pn 9) (pa_cons (pn 16) (pa_cons (pn 2) pa_nil))))))))))))
  (pss_one (ps_ret pe_bl))
  pss_nil))))))))
  (pss_cons (ps_if (pt_not (tt_ (pe_call G__law_all (hr.mono (by decide)) rfl e.g__law_all k__law_all b__law_all .nil (passes_call (takes_of rfl rfl rfl rfl) fun _ _ _ _ h => h) (pa_cons (pn 6) (pa_cons (pn 7) (pa_cons (pn 8) (pa_cons (pn 9) (pa_cons (pe_op oAdd (pn 16) (pn 11)) (pa_cons (pn 2) pa_nil)))))))))
  (pss_one (ps_ret pe_bl))
  pss_nil)
  (pss_cons (sSet (i := 19) sc_law.nd rfl (by first | exact .inl rfl | exact .inr rfl) (pe_callB (bMin2 rfl) rfl e.b_min (by decide +kernel) (pa_cons pe_int (pa_cons (pe_op oAdd (pn 2) pe_int) pa_nil))))
  (pss_cons (sFor (passes_of rfl) rfl (fR2 rfl e.b_range (pa_cons (pn 2) (pa_cons (pe_op oAdd (pn 19) pe_int) pa_nil))) (tNm (i := 20) sc_law.nd rfl (by first | exact .inl rfl | exact .inr rfl))
  (pss_one (sFor (passes_of rfl) rfl (fSeq (pn 16)) (tNm (i := 18) sc_law.nd rfl (by first | exact .inl rfl | exact .inr rfl))
  (pss_one (sFor (passes_of rfl) rfl (fR1 rfl e.b_range (pa_cons pe_int pa_nil)) (tNm (i := 17) sc_law.nd rfl (by first | exact .inl rfl | exact .inr rfl))
  (pss_one (ps_if (pt_not (tt_ (pe_call G__law_found (hr.mono (by decide)) rfl e.g__law_found k__law_found b__law_found .nil (passes_call (takes_of rfl rfl rfl rfl) fun _ _ _ _ h => h) (pa_cons (eIx hu (pn 6) (pn 17)) (pa_cons (eIx hu (pn 7) (pn 17)) (pa_cons (pn 18) (pa_cons (pn 20) pa_nil)))))))
  (pss_one (ps_ret pe_bl))
  pss_nil)))))))
  (pss_one (ps_ret (pe_call G__law_all (hr.mono (by decide)) rfl e.g__law_all k__law_all b__law_all .nil (passes_call (takes_of rfl rfl rfl rfl) fun _ _ _ _ h => h) (pa_cons (pn 6) (pa_cons (pn 7) (pa_cons (pn 8) (pa_cons (pn 9) (pa_cons (pe_op oAdd (pn 16) (pn 11)) (pa_cons (pn 19) pa_nil)))))))))))))))))))))))))))))))))
end Wk
namespace Wk
open PySem PySem.Spec PyProof.Rows L2
local macro_rules | `(tactic| walk_at "lk") => `(tactic| repeat (first | exact lk_nil | exact lk_here | refine lk_past ?_))
local macro_rules | `(tactic| walk_at "pf") => `(tactic| repeat (first | exact put_nil | exact put_here | refine put_past ?_))
local macro_rules | `(tactic| walk_at "nm") => `(tactic| try dsimp only [gNm, setK, uAdd, uSub, tNext, Option.getD, tC, uNe, uEq, uLe, uLt, uGe, uGt, uIs, uIsnt])
local macro_rules | `(tactic| walk_at "sub") => `(tactic| repeat first | exact List.nil_sublist _ | exact .slnil | apply List.Sublist.cons₂ | apply List.Sublist.cons)
local macro_rules | `(tactic| walk_at "ar") => `(tactic| first
  | decide
  | exact Nat.le_of_lt (sl_lt (by first | decide | omega))
  | exact .inl (.inr ⟨by first | decide | omega, by first | decide | omega⟩)
  | exact .inl (.inl ⟨by first | decide | omega, by first | decide | omega⟩)
  | exact .inl ⟨by first | decide | omega, by first | decide | omega⟩
  | exact ⟨by first | decide | omega, by first | decide | omega⟩
  | exact ⟨by first | decide | omega, by first | decide | omega, by first | decide | omega⟩
  | exact ⟨by first | decide | omega, by first | decide | omega, by first | decide | omega, by first | decide | omega⟩
  | exact ⟨by first | decide | omega, by first | decide | omega, by first | decide | omega, by first | decide | omega, by first | decide | omega⟩
  | omega
  | exact sl_lt (by omega))
local macro_rules | `(tactic| walk_at "g1") => `(tactic| refine And.intro (by walk_at "ar") ?_)
local macro_rules | `(tactic| walk_at "go") => `(tactic| repeat (refine And.intro (by walk_at "ar") ?_))
section
variable {P : Program} {w : World} {K : PySem.W.Frag} {mg : Str → Option Value} {base : Heap}

/-! ### the box -/
def bx (b : Addr) (c d : Int) : List (Addr × HO) := [(b, .lst [.int c, .int d])]
@[irreducible] def sp_lbox (K : PySem.W.Frag) : Sp2 := fun x0 x1 H Q _ => ∃ (a : Addr) (ns : List Int) (k : Nat), x0 = .ref a ∧ x1 = .int k ∧ SqL K H a (ns.map V.int) ∧ ns.length ≤ 63 ∧ k < 1000 ∧
  ∀ H' b c d, Sv K H [] H' (bx b c d ++ []) [] → Q (.ref b) H'
theorem ok_lbox (e : Txt K mg) : Fok P w K mg base 1 (He.ga K "_law_box") ["script", "k"] (mk2 (sp_lbox K)) := by
  refine der__law_box e fun a0 a1 H Q E h => ?_
  unfold sp_lbox at h
  obtain ⟨a, ns, k, rfl, rfl, hS, hl, hk, q⟩ := h
  have st : Sv K H [] H [] [] := Sv.start0
  refine st.sl (es := (ns.take 63).map V.int) hS (by rw [cut_hi (by decide), List.map_take]; rfl) fun p H1 st => ?_
  refine sum_L (st.sq 0 rfl) ?_
  walk_at "go"
  have hS := st.oldL hS (by simp)
  walk_at "nm"
  refine cut (fun σ H' => ∃ c, σ = [some (.ref a), some (.int k), some (.int c), none, none] ∧ Sv K H [] H' [] []) ?rest (fun fin => ?stm)
  case stm =>
    refine len_L hS ?_
    simp only [List.length_map]
    refine iteD (fun hr => ?_) (fun hr => ?_)
    · obtain ⟨c, _, hc⟩ := at_int (ns := ns) (i := (k : Int)) (by omega) (by omega)
      refine ix_L hS ?_ (hv := hc)
      exact fin _ _ ⟨c, rfl, st.sub (List.nil_sublist _)⟩
    · exact fin _ _ ⟨_, rfl, st.sub (List.nil_sublist _)⟩
  case rest =>
    rintro σ H2 ⟨c, rfl, st⟩
    walk_at "nm"
    refine cut2 (fun σ H' => ∃ c d, σ = [some (.ref a), some (.int k), some (.int c), some (.int d), none] ∧ Sv K H [] H' [] []) ?rest2 (fun fin => ?stm2)
    case stm2 =>
      walk_at "g1"
      refine iteD (fun hr => ?_) (fun hr => ?_)
      · walk_at "g1"
        walk_at "g1"
        exact fin _ _ ⟨c, _, rfl, st⟩
      · exact fin _ _ ⟨c, _, rfl, st⟩
    case rest2 =>
      rintro σ H3 ⟨c, d, rfl, st⟩
      walk_at "go"
      have h1 := Int.emod_nonneg (c * 48271 + k * 69621 + 2555) (show (2147483647 : Int) ≠ 0 by decide)
      have h2 := Int.emod_lt_of_pos (c * 48271 + k * 69621 + 2555) (show (0 : Int) < 2147483647 by decide)
      walk_at "go"
      refine st.lst fun b H4 st => ?_
      exact q _ b _ _ st
theorem use_lbox {H0 H : Hp} {A : List Addr} {L : List (Addr × HO)} {T : List (V × PyData)} {x y : V} {a : Addr} {ns : List Int} {k : Nat} {Q : VK} {E : XK} (st : Sv K H0 A H L T) (h1 : SqL K H a (ns.map V.int)) (hl : ns.length ≤ 63)
    (q : ∀ H' b c d, Sv K H0 A H' (bx b c d ++ L) T → Q (.ref b) H') (ex : x = .ref a := by rfl) (ey : y = .int k := by rfl) (hk : k < 1000 := by omega) : sp_lbox K x y H Q E := by
  subst ex ey
  unfold sp_lbox
  exact ⟨a, ns, k, rfl, rfl, h1, hl, hk, fun H' b c d u => q H' b c d (st.call0 u)⟩
@[irreducible] def sp_draw (K : PySem.W.Frag) : Sp2 := fun x0 x1 H Q _ => ∃ (b : Addr) (c d n : Int), x0 = .ref b ∧ x1 = .int n ∧ 0 < n ∧ n < 1073741824 ∧ Cells H (bx b c d) ∧
  ∀ H' c' d' x, 0 ≤ x → x < n → Sv K H [b] H' (bx b c' d') [] → Q (.int x) H'
theorem ok_draw (e : Txt K mg) : Fok P w K mg base 1 (He.ga K "_law_draw") ["box", "size"] (mk2 (sp_draw K)) := by
  refine der__law_draw e fun a0 a1 H Q E h => ?_
  unfold sp_draw at h
  obtain ⟨b, c, d, n, rfl, rfl, h0, h1, hc, q⟩ := h
  have st : Sv K H [b] H (bx b c d) [] := hc.sv
  have dv : ∀ x : Int, DivOk x n := fun x => .inl ⟨h0, h1⟩
  refine st.ixL 0 ?_
  refine iteD (fun hr => ?_) (fun hr => ?_)
  · refine st.ixL 0 ?_
    refine ⟨h0, ?_⟩
    refine st.ixL 0 ?_
    refine ⟨dv _, ?_⟩
    refine st.setI 0 (bx b (c / n) d) fun H1 st => ?_
    exact q _ _ _ _ (Int.emod_nonneg _ (by omega)) (Int.emod_lt_of_pos _ h0) st
  · refine st.ixL 0 ?_
    walk_at "g1"
    walk_at "g1"
    refine st.setI 0 (bx b c ((d * 48271 + 30011) % 2147483647)) fun H1 st => ?_
    refine st.ixL 0 ?_
    walk_at "go"
    refine st.ixL 0 ?_
    walk_at "go"
    exact q _ _ _ _ (Int.emod_nonneg _ (by omega)) (Int.emod_lt_of_pos _ h0) st
theorem use_draw {H0 H : Hp} {A : List Addr} {b : Addr} {c d : Int} {L : List (Addr × HO)} {T : List (V × PyData)} {x y : V} {n : Int} {Q : VK} {E : XK} (st : Sv K H0 A H (bx b c d ++ L) T)
    (k : ∀ H' c' d' x, 0 ≤ x → x < n → Sv K H0 A H' (bx b c' d' ++ L) T → Q (.int x) H') (ex : x = .ref b := by rfl) (ey : y = .int n := by rfl) (h1 : 0 < n := by first | decide | omega) (h2 : n < 1073741824 := by first | decide | omega) : sp_draw K x y H Q E := by
  subst ex ey
  unfold sp_draw
  exact ⟨b, c, d, n, rfl, rfl, h1, h2, st.cellsF, fun H' c' d' x a2 a3 u => k H' c' d' x a2 a3 (st.call (T' := []) u)⟩
@[irreducible] def sp_word (K : PySem.W.Frag) : Sp1 := fun x0 H Q _ => ∃ (b : Addr) (c d : Int), x0 = .ref b ∧ Cells H (bx b c d) ∧
  ∀ H' c' d' (z : Str), 1 ≤ z.length → z.length ≤ 4 → Sv K H [b] H' (bx b c' d') [] → Q (.str z) H'
theorem ok_word (e : Txt K mg) : Fok P w K mg base 2 (He.ga K "_law_word") ["box"] (mk1 (sp_word K)) := by
  refine der__law_word e (ok_draw e) fun a0 H Q E h => ?_
  unfold sp_word at h
  obtain ⟨b, c, d, rfl, hc, q⟩ := h
  have st : Sv K H [b] H (bx b c d ++ []) [] := hc.sv
  refine use_draw st fun H1 c d n n0 n1 st => ?_
  walk_at "go"
  refine forR0 (fun k σ H' => ∃ (z : Str) (c d : Int) (x3 : Option V), σ = [some (.ref b), some (.str "abcdefghijklmnopqrstuvwxyz"), some (.str z), x3] ∧ z.length = k ∧ Sv K H [b] H' (bx b c d ++ []) []) ⟨_, c, d, none, rfl, rfl, st⟩ ?_ ?_
  · rintro k σ H2 hk ⟨z, c, d, x3, rfl, hz, st⟩
    refine use_draw st fun H3 c d i i0 i1 st => ?_
    have hA := az_len
    refine ixS (fun l _ => ?_)
    refine ⟨by rw [one_len]; exact sl_le (by omega), ?_⟩
    exact ⟨_, c, d, _, rfl, by rw [cat_len, one_len, hz], st⟩
  · rintro σ H2 ⟨z, c, d, x3, rfl, hz, st⟩
    exact q _ c d z (by omega) (by omega) st
theorem use_word {H0 H : Hp} {A : List Addr} {b : Addr} {c d : Int} {L : List (Addr × HO)} {T : List (V × PyData)} {x : V} {Q : VK} {E : XK} (st : Sv K H0 A H (bx b c d ++ L) T)
    (k : ∀ H' c' d' (z : Str), 1 ≤ z.length → z.length ≤ 4 → Sv K H0 A H' (bx b c' d' ++ L) T → Q (.str z) H') (ex : x = .ref b := by rfl) : sp_word K x H Q E := by
  subst ex
  unfold sp_word
  exact ⟨b, c, d, rfl, st.cellsF, fun H' c' d' x a2 a3 u => k H' c' d' x a2 a3 (st.call (T' := []) u)⟩
@[irreducible] def sp_near (K : PySem.W.Frag) : Sp2 := fun x0 x1 H Q _ => ∃ (b : Addr) (c d : Int) (z : Str), x0 = .ref b ∧ x1 = .str z ∧ 1 ≤ z.length ∧ z.length ≤ 4 ∧ Cells H (bx b c d) ∧
  ∀ H' c' d' (y : Str), Sv K H [b] H' (bx b c' d') [] → Q (.str y) H'
theorem ok_near (e : Txt K mg) : Fok P w K mg base 2 (He.ga K "_law_near") ["box", "word"] (mk2 (sp_near K)) := by
  refine der__law_near e (ok_draw e) fun a0 a1 H Q E h => ?_
  unfold sp_near at h
  obtain ⟨b, c, d, z, rfl, rfl, hz1, hz2, hc, q⟩ := h
  have st : Sv K H [b] H (bx b c d ++ []) [] := hc.sv
  refine use_draw st fun H1 c d n n0 n1 st => ?_
  have ln : ∀ {H Q}, Q (.int z.length) H → uLen K [.str z] H Q := fun {H Q} h => by
    unfold uLen
    exact ⟨sl_le (by omega), h⟩
  refine ln ?_
  walk_at "nm"
  refine use_draw st (fun H1 c d n2 m0 m1 st => ?_) rfl rfl (by omega) (by omega)
  refine use_draw st fun H1 c d i i0 i1 st => ?_
  have hA := az_len
  refine ixS (fun l _ => ?_)
  have two : ∀ {lo hi lo2 hi2 : Option Int} {R : V → Hp → Prop} {H1 : Hp}, (∀ y : Str, R (.str y) H1) → uSl K (.str z) lo hi H1 fun x1 H2 => uSl K (.str z) lo2 hi2 H2 fun x2 H3 => uAdd K x1 x2 H3 R := fun {lo hi lo2 hi2 R H1} k => by
    refine slS fun y1 h1 => ?_
    refine slS fun y2 h2 => ?_
    exact ⟨sl_le (by omega), k _⟩
  have three : ∀ {lo hi lo2 hi2 : Option Int} {R : V → Hp → Prop} {H1 : Hp}, (∀ y : Str, R (.str y) H1) → uSl K (.str z) lo hi H1 fun x1 H2 => uAdd K x1 (.str ⟨#[l]⟩) H2 fun x3 H4 => uSl K (.str z) lo2 hi2 H4 fun x2 H3 => uAdd K x3 x2 H3 R := fun {lo hi lo2 hi2 R H1} k => by
    refine slS fun y1 h1 => ?_
    refine ⟨by rw [one_len]; exact sl_le (by omega), ?_⟩
    refine slS fun y2 h2 => ?_
    exact ⟨by rw [cat_len, one_len]; exact sl_le (by omega), k _⟩
  walk_at "nm"
  refine cut (fun σ H' => σ = [some (.ref b), some (.str z), some (.str "abcdefghijklmnopqrstuvwxyz"), some (.int n), some (.int n2), some (.str ⟨#[l]⟩), none] ∧ H' = H1) ?rest (fun fin => ?stm)
  case stm =>
    refine iteD (fun hr => ?_) (fun hr => ?_)
    · refine ln ?_
      refine iteD (fun hr2 => ?_) (fun hr2 => ?_)
      · exact three fun y => q _ _ _ y st
      · exact fin _ _ ⟨rfl, rfl⟩
    · exact fin _ _ ⟨rfl, rfl⟩
  case rest =>
    rintro σ H2 ⟨rfl, rfl⟩
    refine ln ?_
    walk_at "g1"
    walk_at "nm"
    refine cut (fun σ H' => σ = [some (.ref b), some (.str z), some (.str "abcdefghijklmnopqrstuvwxyz"), some (.int n), some (.int n2), some (.str ⟨#[l]⟩), some (.int (n2 % (z.length : Int)))] ∧ H' = H2) ?rest2 (fun fin => ?stm2)
    case stm2 =>
      refine iteD (fun hr => ?_) (fun hr => ?_)
      · refine ln ?_
        refine iteD (fun hr2 => ?_) (fun hr2 => ?_)
        · exact two fun y => q _ _ _ y st
        · exact fin _ _ ⟨rfl, rfl⟩
      · exact fin _ _ ⟨rfl, rfl⟩
    case rest2 =>
      rintro σ H3 ⟨rfl, rfl⟩
      refine iteD (fun hr => ?_) (fun hr => ?_)
      · exact revS fun y _ => q _ _ _ y st
      · exact three fun y => q _ _ _ y st
theorem use_near {H0 H : Hp} {A : List Addr} {b : Addr} {c d : Int} {L : List (Addr × HO)} {T : List (V × PyData)} {x y : V} {z : Str} {Q : VK} {E : XK} (st : Sv K H0 A H (bx b c d ++ L) T) (h1 : 1 ≤ z.length) (h2 : z.length ≤ 4)
    (k : ∀ H' c' d' (y : Str), Sv K H0 A H' (bx b c' d' ++ L) T → Q (.str y) H') (ex : x = .ref b := by rfl) (ey : y = .str z := by rfl) : sp_near K x y H Q E := by
  subst ex ey
  unfold sp_near
  exact ⟨b, c, d, z, rfl, rfl, h1, h2, st.cellsF, fun H' c' d' x u => k H' c' d' x (st.call (T' := []) u)⟩
@[irreducible] def sp_moved (K : PySem.W.Frag) : Sp3 := fun x0 x1 x2 H Q _ => ∃ (b : Addr) (c d m n : Int), x0 = .ref b ∧ x1 = .int m ∧ x2 = .int n ∧ Cells H (bx b c d) ∧
  ∀ H' c' d' (y : Int), y ≤ 239 → (m ≤ 239 → m ≤ y) → Sv K H [b] H' (bx b c' d') [] → Q (.int y) H'
theorem ok_moved (e : Txt K mg) : Fok P w K mg base 2 (He.ga K "_law_moved") ["box", "moment", "best"] (mk3 (sp_moved K)) := by
  refine der__law_moved e (ok_draw e) fun a0 a1 a2 H Q E h => ?_
  unfold sp_moved at h
  obtain ⟨b, c, d, m, n, rfl, rfl, rfl, hc, q⟩ := h
  have st : Sv K H [b] H (bx b c d ++ []) [] := hc.sv
  refine use_draw st fun H1 c d f f0 f1 st => ?_
  refine use_draw st fun H1 c d hop h0 h1 st => ?_
  walk_at "nm"
  refine cut2 (fun σ H' => ∃ y : Int, σ = [some (.ref b), some (.int m), some (.int n), some (.int f), some (.int hop), some (.int y)] ∧ m ≤ y ∧ Sv K H [b] H' (bx b c d ++ []) []) ?rest0 (fun fin => ?stm0)
  case stm0 =>
    refine iteD (fun hr => ?_) (fun hr => ?_)
    · (refine fin _ _ ⟨_, rfl, ?_, st⟩; omega)
    · (refine fin _ _ ⟨_, rfl, ?_, st⟩; omega)
  case rest0 =>
    rintro σ H2 ⟨y, rfl, hy, st⟩
    refine cut (fun σ H' => ∃ y : Int, σ = [some (.ref b), some (.int m), some (.int n), some (.int f), some (.int hop), some (.int y)] ∧ m ≤ y ∧ Sv K H [b] H' (bx b c d ++ []) []) ?rest1 (fun fin => ?stm1)
    case stm1 =>
      refine iteD (fun hr => ?_) (fun hr => ?_)
      · walk_at "g1"
        (refine fin _ _ ⟨_, rfl, ?_, st⟩; omega)
      · (refine fin _ _ ⟨_, rfl, ?_, st⟩; omega)
    case rest1 =>
      rintro σ H2 ⟨y, rfl, hy, st⟩
      refine cut (fun σ H' => ∃ y : Int, σ = [some (.ref b), some (.int m), some (.int n), some (.int f), some (.int hop), some (.int y)] ∧ m ≤ y ∧ Sv K H [b] H' (bx b c d ++ []) []) ?rest2 (fun fin => ?stm2)
      case stm2 =>
        refine iteD (fun hr => ?_) (fun hr => ?_)
        · (refine fin _ _ ⟨_, rfl, ?_, st⟩; omega)
        · (refine fin _ _ ⟨_, rfl, ?_, st⟩; omega)
      case rest2 =>
        rintro σ H2 ⟨y, rfl, hy, st⟩
        refine cut (fun σ H' => ∃ y : Int, σ = [some (.ref b), some (.int m), some (.int n), some (.int f), some (.int hop), some (.int y)] ∧ m ≤ y ∧ Sv K H [b] H' (bx b c d ++ []) []) ?rest3 (fun fin => ?stm3)
        case stm3 =>
          refine iteD (fun hr => ?_) (fun hr => ?_)
          · (refine fin _ _ ⟨_, rfl, ?_, st⟩; omega)
          · (refine fin _ _ ⟨_, rfl, ?_, st⟩; omega)
        case rest3 =>
          rintro σ H2 ⟨y, rfl, hy, st⟩
          refine cut (fun σ H' => ∃ y : Int, σ = [some (.ref b), some (.int m), some (.int n), some (.int f), some (.int hop), some (.int y)] ∧ m ≤ y ∧ Sv K H [b] H' (bx b c d ++ []) []) ?rest4 (fun fin => ?stm4)
          case stm4 =>
            refine iteD (fun hr => ?_) (fun hr => ?_)
            · (refine fin _ _ ⟨_, rfl, ?_, st⟩; omega)
            · (refine fin _ _ ⟨_, rfl, ?_, st⟩; omega)
          case rest4 =>
            rintro σ H2 ⟨y, rfl, hy, st⟩
            exact q _ c d _ (by omega) (by omega) st
theorem use_moved {H0 H : Hp} {A : List Addr} {b : Addr} {c d : Int} {L : List (Addr × HO)} {T : List (V × PyData)} {x y z : V} {m n : Int} {Q : VK} {E : XK} (st : Sv K H0 A H (bx b c d ++ L) T)
    (k : ∀ H' c' d' (y : Int), y ≤ 239 → (m ≤ 239 → m ≤ y) → Sv K H0 A H' (bx b c' d' ++ L) T → Q (.int y) H') (ex : x = .ref b := by rfl) (ey : y = .int m := by rfl) (ez : z = .int n := by rfl) : sp_moved K x y z H Q E := by
  subst ex ey ez
  unfold sp_moved
  exact ⟨b, c, d, m, n, rfl, rfl, rfl, st.cellsF, fun H' c' d' x a1 a2 u => k H' c' d' x a1 a2 (st.call (T' := []) u)⟩
end
end Wk

namespace Wk
open PySem PySem.Spec PyProof.Rows L2
local macro_rules | `(tactic| walk_at "lk") => `(tactic| repeat (first | exact lk_nil | exact lk_here | refine lk_past ?_))
local macro_rules | `(tactic| walk_at "pf") => `(tactic| repeat (first | exact put_nil | exact put_here | refine put_past ?_))
local macro_rules | `(tactic| walk_at "nm") => `(tactic| try dsimp only [gNm, setK, uAdd, uSub, tNext, Option.getD, tC, uNe, uEq, uLe, uLt, uGe, uGt, uIs, uIsnt])
local macro_rules | `(tactic| walk_at "sub") => `(tactic| repeat first | exact List.nil_sublist _ | exact .slnil | apply List.Sublist.cons₂ | apply List.Sublist.cons)
local macro_rules | `(tactic| walk_at "ar") => `(tactic| first
  | decide
  | exact Nat.le_of_lt (sl_lt (by first | decide | omega))
  | exact .inl (.inr ⟨by first | decide | omega, by first | decide | omega⟩)
  | exact .inl (.inl ⟨by first | decide | omega, by first | decide | omega⟩)
  | exact .inl ⟨by first | decide | omega, by first | decide | omega⟩
  | exact ⟨by first | decide | omega, by first | decide | omega⟩
  | exact ⟨by first | decide | omega, by first | decide | omega, by first | decide | omega⟩
  | exact ⟨by first | decide | omega, by first | decide | omega, by first | decide | omega, by first | decide | omega⟩
  | exact ⟨by first | decide | omega, by first | decide | omega, by first | decide | omega, by first | decide | omega, by first | decide | omega⟩
  | omega
  | exact sl_lt (by omega))
local macro_rules | `(tactic| walk_at "g1") => `(tactic| refine And.intro (by walk_at "ar") ?_)
local macro_rules | `(tactic| walk_at "go") => `(tactic| repeat (refine And.intro (by walk_at "ar") ?_))
section
variable {P : Program} {w : World} {K : PySem.W.Frag} {mg : Str → Option Value} {base : Heap}

/-! ### data -/
def adD : Option Int → PyData
  | none => .none
  | some i => .int i
def adV : Option Int → V
  | none => .non
  | some i => .int i
def ogD : Option (Int × Int) → PyData
  | none => .none
  | some (i, j) => .tuple [.int i, .int j]
structure Ent where
  ad : Option Int
  u : Int
  og : Option (Int × Int)
def Ent.D (e : Ent) : PyData := .tuple [adD e.ad, .int e.u, ogD e.og]
theorem ent_shaped (e : Ent) : SeqAt.shaped e.D = true := by
  obtain ⟨ad, u, og⟩ := e
  cases ad <;> cases og <;> rfl
def rcD (ad : Option Int) (n : Int) : PyData := .tuple [adD ad, .int n]
theorem rc_shaped (ad : Option Int) (n : Int) : SeqAt.shaped (rcD ad n) = true := by
  cases ad <;> rfl
theorem Dt.adV {H : Hp} {v : V} {a : Option Int} (h : Dt K H v (adD a)) : v = adV a := by
  cases a with
  | none => exact h.eqN
  | some i => exact h.eqI
theorem dt_ad (H : Hp) (a : Option Int) : Dt K H (adV a) (adD a) := by
  cases a with
  | none => exact .non
  | some i => exact .int i
/-- what a dict holds at a word -/
def Lk (K : PySem.W.Frag) (H : Hp) (kvs : List (Key × V)) (z : Str) (lk : Option Ent) : Prop := match lk with
  | none => valV kvs (.inr z) = none
  | some e => ∃ v, valV kvs (.inr z) = some v ∧ Dt K H v e.D
theorem Lk.mono {H H' : Hp} {kvs : List (Key × V)} {z : Str} {lk : Option Ent} (h : Lk K H kvs z lk) (t : Tp H H') : Lk K H' kvs z lk := by
  cases lk with
  | none => exact h
  | some e =>
    obtain ⟨v, h1, h2⟩ := h
    exact ⟨v, h1, h2.mono t⟩
def LkR (K : PySem.W.Frag) (H : Hp) (kvs : List (Key × V)) (z : Str) (lk : Option (Option Int × Int)) : Prop := match lk with
  | none => valV kvs (.inr z) = none
  | some e => ∃ v, valV kvs (.inr z) = some v ∧ Dt K H v (rcD e.1 e.2)
theorem LkR.mono {H H' : Hp} {kvs : List (Key × V)} {z : Str} {lk : Option (Option Int × Int)} (h : LkR K H kvs z lk) (t : Tp H H') : LkR K H' kvs z lk := by
  cases lk with
  | none => exact h
  | some e =>
    obtain ⟨v, h1, h2⟩ := h
    exact ⟨v, h1, h2.mono t⟩
/-! ### small defs -/
@[irreducible] def sp_is_whole : Sp1 := fun x0 H Q _ => ∃ i : Int, x0 = .int i ∧ Q (.bl true) H
theorem ok_is_whole (e : Txt K mg) : Fok P w K mg base 1 (He.ga K "_law_is_whole") ["value"] (mk1 sp_is_whole) := by
  refine der__law_is_whole e fun a0 H Q E h => ?_
  unfold sp_is_whole at h
  obtain ⟨i, rfl, q⟩ := h
  exact q
theorem use_is_whole {x : V} {i : Int} {H : Hp} {Q : VK} {E : XK} (q : Q (.bl true) H) (e : x = .int i := by rfl) : sp_is_whole x H Q E := by
  unfold sp_is_whole
  exact ⟨i, e, q⟩
@[irreducible] def sp_is_truth : Sp2 := fun x0 x1 H Q _ => ∃ i j : Bool, x0 = .bl i ∧ x1 = .bl j ∧ Q (.bl (decide (i = j))) H
theorem ok_is_truth (e : Txt K mg) : Fok P w K mg base 1 (He.ga K "_law_is_truth") ["value", "wanted"] (mk2 sp_is_truth) := by
  refine der__law_is_truth e fun a0 a1 H Q E h => ?_
  unfold sp_is_truth at h
  obtain ⟨i, j, rfl, rfl, q⟩ := h
  exact q
theorem use_is_truth {x y : V} {i j : Bool} {H : Hp} {Q : VK} {E : XK} (q : Q (.bl (decide (i = j))) H) (e : x = .bl i := by rfl) (e2 : y = .bl j := by rfl) : sp_is_truth x y H Q E := by
  unfold sp_is_truth
  exact ⟨i, j, e, e2, q⟩
@[irreducible] def sp_address (K : PySem.W.Frag) : Sp1 := fun x0 H Q _ => ∃ (b : Addr) (c d : Int), x0 = .ref b ∧ Cells H (bx b c d) ∧
  ∀ H' c' d' (a : Option Int), Sv K H [b] H' (bx b c' d') [] → Q (adV a) H'
theorem ok_address (e : Txt K mg) : Fok P w K mg base 2 (He.ga K "_law_address") ["box"] (mk1 (sp_address K)) := by
  refine der__law_address e (ok_draw e) fun a0 H Q E h => ?_
  unfold sp_address at h
  obtain ⟨b, c, d, rfl, hc, q⟩ := h
  have st : Sv K H [b] H (bx b c d ++ []) [] := hc.sv
  refine use_draw st fun H1 c d n n0 n1 st => ?_
  refine iteD (fun hr => ?_) (fun hr => ?_)
  · exact q _ c d none st
  · exact q _ c d (some n) st
theorem use_address {H0 H : Hp} {A : List Addr} {b : Addr} {c d : Int} {L : List (Addr × HO)} {T : List (V × PyData)} {x : V} {Q : VK} {E : XK} (st : Sv K H0 A H (bx b c d ++ L) T)
    (k : ∀ H' c' d' (a : Option Int), Sv K H0 A H' (bx b c' d' ++ L) T → Q (adV a) H') (ex : x = .ref b := by rfl) : sp_address K x H Q E := by
  subst ex
  unfold sp_address
  exact ⟨b, c, d, rfl, st.cellsF, fun H' c' d' x u => k H' c' d' x (st.call (T' := []) u)⟩
@[irreducible] def sp_stamp (K : PySem.W.Frag) : Sp2 := fun x0 x1 H Q _ => ∃ (b : Addr) (c d m : Int), x0 = .ref b ∧ x1 = .int m ∧ Cells H (bx b c d) ∧
  ∀ H' c' d' (a : Int), 0 ≤ a → Sv K H [b] H' (bx b c' d') [] → Q (.int a) H'
theorem ok_stamp (e : Txt K mg) : Fok P w K mg base 2 (He.ga K "_law_stamp") ["box", "moment"] (mk2 (sp_stamp K)) := by
  refine der__law_stamp e (ok_draw e) fun a0 a1 H Q E h => ?_
  unfold sp_stamp at h
  obtain ⟨b, c, d, m, rfl, rfl, hc, q⟩ := h
  have st : Sv K H [b] H (bx b c d ++ []) [] := hc.sv
  refine use_draw st fun H1 c d f f0 f1 st => ?_
  refine use_draw st fun H1 c d y hy y1 st => ?_
  walk_at "nm"
  refine cut (fun σ H' => ∃ (f y : Int) (c d : Int), σ = [some (.ref b), some (.int m), some (.int f), some (.int y)] ∧ 0 ≤ y ∧ Sv K H [b] H' (bx b c d ++ []) []) ?rest0 (fun fin => ?stm0)
  case stm0 =>
    refine iteD (fun hr => ?_) (fun hr => ?_)
    · (refine fin _ _ ⟨f, _, _, _, rfl, ?_, st⟩; decide)
    · (refine fin _ _ ⟨f, _, _, _, rfl, ?_, st⟩; omega)
  case rest0 =>
    rintro σ H20 ⟨f, y, c, d, rfl, hy, st⟩
    walk_at "nm"
    refine cut (fun σ H' => ∃ (f y : Int) (c d : Int), σ = [some (.ref b), some (.int m), some (.int f), some (.int y)] ∧ 0 ≤ y ∧ Sv K H [b] H' (bx b c d ++ []) []) ?rest1 (fun fin => ?stm1)
    case stm1 =>
      refine iteD (fun hr => ?_) (fun hr => ?_)
      · walk_at "g1"
        have := Int.emod_nonneg y (show (4 : Int) ≠ 0 by decide)
        (refine fin _ _ ⟨f, _, _, _, rfl, ?_, st⟩; omega)
      · (refine fin _ _ ⟨f, _, _, _, rfl, ?_, st⟩; omega)
    case rest1 =>
      rintro σ H21 ⟨f, y, c, d, rfl, hy, st⟩
      walk_at "nm"
      refine cut (fun σ H' => ∃ (f y : Int) (c d : Int), σ = [some (.ref b), some (.int m), some (.int f), some (.int y)] ∧ 0 ≤ y ∧ Sv K H [b] H' (bx b c d ++ []) []) ?rest2 (fun fin => ?stm2)
      case stm2 =>
        refine iteD (fun hr => ?_) (fun hr => ?_)
        · walk_at "g1"
          have := Int.emod_nonneg y (show (20 : Int) ≠ 0 by decide)
          (refine fin _ _ ⟨f, _, _, _, rfl, ?_, st⟩; omega)
        · (refine fin _ _ ⟨f, _, _, _, rfl, ?_, st⟩; omega)
      case rest2 =>
        rintro σ H22 ⟨f, y, c, d, rfl, hy, st⟩
        exact q _ c d _ (by omega) st
theorem use_stamp {H0 H : Hp} {A : List Addr} {b : Addr} {c d : Int} {L : List (Addr × HO)} {T : List (V × PyData)} {x y : V} {m : Int} {Q : VK} {E : XK} (st : Sv K H0 A H (bx b c d ++ L) T)
    (k : ∀ H' c' d' (a : Int), 0 ≤ a → Sv K H0 A H' (bx b c' d' ++ L) T → Q (.int a) H') (ex : x = .ref b := by rfl) (ey : y = .int m := by rfl) : sp_stamp K x y H Q E := by
  subst ex ey
  unfold sp_stamp
  exact ⟨b, c, d, m, rfl, rfl, st.cellsF, fun H' c' d' x a1 u => k H' c' d' x a1 (st.call (T' := []) u)⟩
@[irreducible] def sp_span (K : PySem.W.Frag) : Sp4 := fun x0 x1 x2 x3 H Q _ => ∃ (b : Addr) (c d i j k : Int), x0 = .ref b ∧ x1 = .int i ∧ x2 = .int j ∧ x3 = .int k ∧ Cells H (bx b c d) ∧
  ∀ H' c' d' (a : Int), 1 ≤ a → a ≤ 60 → Sv K H [b] H' (bx b c' d') [] → Q (.int a) H'
theorem ok_span (e : Txt K mg) : Fok P w K mg base 2 (He.ga K "_law_span") ["box", "begin", "moment", "best"] (mk4 (sp_span K)) := by
  refine der__law_span e (ok_draw e) fun a0 a1 a2 a3 H Q E h => ?_
  unfold sp_span at h
  obtain ⟨b, c, d, i, j, k, rfl, rfl, rfl, rfl, hc, q⟩ := h
  have st : Sv K H [b] H (bx b c d ++ []) [] := hc.sv
  refine use_draw st fun H1 c d f f0 f1 st => ?_
  refine use_draw st fun H1 c d y hy y1 st => ?_
  walk_at "nm"
  refine cut (fun σ H' => ∃ (f y : Int) (c d : Int), σ = [some (.ref b), some (.int i), some (.int j), some (.int k), some (.int f), some (.int y)] ∧ Sv K H [b] H' (bx b c d ++ []) []) ?rest0 (fun fin => ?stm0)
  case stm0 =>
    refine iteD (fun hr => ?_) (fun hr => ?_)
    · exact fin _ _ ⟨f, _, _, _, rfl, st⟩
    · exact fin _ _ ⟨f, _, _, _, rfl, st⟩
  case rest0 =>
    rintro σ H20 ⟨f, y, c, d, rfl, st⟩
    walk_at "nm"
    refine cut (fun σ H' => ∃ (f y : Int) (c d : Int), σ = [some (.ref b), some (.int i), some (.int j), some (.int k), some (.int f), some (.int y)] ∧ Sv K H [b] H' (bx b c d ++ []) []) ?rest1 (fun fin => ?stm1)
    case stm1 =>
      refine iteD (fun hr => ?_) (fun hr => ?_)
      · exact fin _ _ ⟨f, _, _, _, rfl, st⟩
      · exact fin _ _ ⟨f, _, _, _, rfl, st⟩
    case rest1 =>
      rintro σ H21 ⟨f, y, c, d, rfl, st⟩
      walk_at "nm"
      refine cut (fun σ H' => ∃ (f y : Int) (c d : Int), σ = [some (.ref b), some (.int i), some (.int j), some (.int k), some (.int f), some (.int y)] ∧ Sv K H [b] H' (bx b c d ++ []) []) ?rest2 (fun fin => ?stm2)
      case stm2 =>
        refine iteD (fun hr => ?_) (fun hr => ?_)
        · exact fin _ _ ⟨f, _, _, _, rfl, st⟩
        · exact fin _ _ ⟨f, _, _, _, rfl, st⟩
      case rest2 =>
        rintro σ H22 ⟨f, y, c, d, rfl, st⟩
        walk_at "nm"
        refine cut (fun σ H' => ∃ (f y : Int) (c d : Int), σ = [some (.ref b), some (.int i), some (.int j), some (.int k), some (.int f), some (.int y)] ∧ Sv K H [b] H' (bx b c d ++ []) []) ?rest3 (fun fin => ?stm3)
        case stm3 =>
          refine iteD (fun hr => ?_) (fun hr => ?_)
          · exact fin _ _ ⟨f, _, _, _, rfl, st⟩
          · exact fin _ _ ⟨f, _, _, _, rfl, st⟩
        case rest3 =>
          rintro σ H23 ⟨f, y, c, d, rfl, st⟩
          walk_at "nm"
          refine cut (fun σ H' => ∃ (f y : Int) (c d : Int), σ = [some (.ref b), some (.int i), some (.int j), some (.int k), some (.int f), some (.int y)] ∧ Sv K H [b] H' (bx b c d ++ []) []) ?rest4 (fun fin => ?stm4)
          case stm4 =>
            refine iteD (fun hr => ?_) (fun hr => ?_)
            · exact fin _ _ ⟨f, _, _, _, rfl, st⟩
            · exact fin _ _ ⟨f, _, _, _, rfl, st⟩
          case rest4 =>
            rintro σ H24 ⟨f, y, c, d, rfl, st⟩
            exact q _ c d _ (by omega) (by omega) st
theorem use_span {H0 H : Hp} {A : List Addr} {b : Addr} {c d : Int} {L : List (Addr × HO)} {T : List (V × PyData)} {x y z u : V} {i j k : Int} {Q : VK} {E : XK} (st : Sv K H0 A H (bx b c d ++ L) T)
    (q : ∀ H' c' d' (a : Int), 1 ≤ a → a ≤ 60 → Sv K H0 A H' (bx b c' d' ++ L) T → Q (.int a) H') (ex : x = .ref b := by rfl) (ey : y = .int i := by rfl) (ez : z = .int j := by rfl) (eu : u = .int k := by rfl) : sp_span K x y z u H Q E := by
  subst ex ey ez eu
  unfold sp_span
  exact ⟨b, c, d, i, j, k, rfl, rfl, rfl, rfl, st.cellsF, fun H' c' d' x a1 a2 u => q H' c' d' x a1 a2 (st.call (T' := []) u)⟩
@[irreducible] def sp_origin (K : PySem.W.Frag) : Sp2 := fun x0 x1 H Q _ => ∃ (b : Addr) (c d m : Int), x0 = .ref b ∧ x1 = .int m ∧ 0 ≤ m ∧ m ≤ 1000 ∧ Cells H (bx b c d) ∧
  ∀ H' c' d' v (a : Option (Int × Int)), Sv K H [b] H' (bx b c' d') [(v, ogD a)] → Q v H'
theorem ok_origin (e : Txt K mg) : Fok P w K mg base 2 (He.ga K "_law_origin") ["box", "moment"] (mk2 (sp_origin K)) := by
  refine der__law_origin e (ok_draw e) fun a0 a1 H Q E h => ?_
  unfold sp_origin at h
  obtain ⟨b, c, d, m, rfl, rfl, h0, h1, hc, q⟩ := h
  have st : Sv K H [b] H (bx b c d ++ []) [] := hc.sv
  refine use_draw st fun H1 c d f f0 f1 st => ?_
  refine iteD (fun hr => ?_) (fun hr => ?_)
  · exact q _ c d .non none (st.addT .non)
  · refine use_draw st (fun H1 c d i i0 i1 st => ?_) rfl rfl (by omega) (by omega)
    refine use_draw st (fun H1 c d j j0 j1 st => ?_)
    refine st.tup (.cons (.int _) (.cons (.int _) .nil)) fun v H2 st => ?_
    exact q _ c d _ (some (i, 1 + j)) st
theorem use_origin {H0 H : Hp} {A : List Addr} {b : Addr} {c d : Int} {L : List (Addr × HO)} {T : List (V × PyData)} {x y : V} {m : Int} {Q : VK} {E : XK} (st : Sv K H0 A H (bx b c d ++ L) T)
    (k : ∀ H' c' d' v (a : Option (Int × Int)), Sv K H0 A H' (bx b c' d' ++ L) ((v, ogD a) :: T) → Q v H') (h0 : 0 ≤ m) (h1 : m ≤ 1000) (ex : x = .ref b := by rfl) (ey : y = .int m := by rfl) : sp_origin K x y H Q E := by
  subst ex ey
  unfold sp_origin
  exact ⟨b, c, d, m, rfl, rfl, h0, h1, st.cellsF, fun H' c' d' v x u => k H' c' d' v x (st.call u)⟩
end
end Wk

namespace Wk
open PySem PySem.Spec PyProof.Rows L2
local macro_rules | `(tactic| walk_at "lk") => `(tactic| repeat (first | exact lk_nil | exact lk_here | refine lk_past ?_))
local macro_rules | `(tactic| walk_at "pf") => `(tactic| repeat (first | exact put_nil | exact put_here | refine put_past ?_))
local macro_rules | `(tactic| walk_at "nm") => `(tactic| try dsimp only [gNm, setK, uAdd, uSub, tNext, Option.getD, tC, uNe, uEq, uLe, uLt, uGe, uGt, uIs, uIsnt])
local macro_rules | `(tactic| walk_at "sub") => `(tactic| repeat first | exact List.nil_sublist _ | exact .slnil | apply List.Sublist.cons₂ | apply List.Sublist.cons)
local macro_rules | `(tactic| walk_at "ar") => `(tactic| first
  | decide
  | exact Nat.le_of_lt (sl_lt (by first | decide | omega))
  | exact .inl (.inr ⟨by first | decide | omega, by first | decide | omega⟩)
  | exact .inl (.inl ⟨by first | decide | omega, by first | decide | omega⟩)
  | exact .inl ⟨by first | decide | omega, by first | decide | omega⟩
  | exact ⟨by first | decide | omega, by first | decide | omega⟩
  | exact ⟨by first | decide | omega, by first | decide | omega, by first | decide | omega⟩
  | exact ⟨by first | decide | omega, by first | decide | omega, by first | decide | omega, by first | decide | omega⟩
  | exact ⟨by first | decide | omega, by first | decide | omega, by first | decide | omega, by first | decide | omega, by first | decide | omega⟩
  | omega
  | exact sl_lt (by omega))
local macro_rules | `(tactic| walk_at "g1") => `(tactic| refine And.intro (by walk_at "ar") ?_)
local macro_rules | `(tactic| walk_at "go") => `(tactic| repeat (refine And.intro (by walk_at "ar") ?_))
section
variable {P : Program} {w : World} {K : PySem.W.Frag} {mg : Str → Option Value} {base : Heap}

abbrev CA (K : PySem.W.Frag) : Addr := He.ga K "Cache"
abbrev RE (K : PySem.W.Frag) : Addr := He.ga K "Records"
/-- a cache: its fields -/
def caF (s : Bool) (D : Addr) : List (Str × V) := [("_stamped", .bl s), ("_answers", .ref D)]
def reF (D : Addr) : List (Str × V) := [("_entries", .ref D)]
/-! ### Cache -/
def fndD (lk : Option Ent) (t : Int) : PyData := match lk with
  | none => .none
  | some e => if e.u ≤ t then .none else .tuple [adD e.ad, .int (e.u - t), ogD e.og]
@[irreducible] def sp_Cache_find (K : PySem.W.Frag) : Sp3 := fun x0 x1 x2 H Q _ => ∃ (a dx D : Addr) (s : Bool) (kvs : List (Key × V)) (t : Int) (z : Str) (lk : Option Ent), x0 = .ref a ∧ x1 = .int t ∧ x2 = .str z ∧
  H a = some (.ins (CA K) dx (caF s D)) ∧ H D = some (.dK kvs) ∧ Lk K H kvs z lk ∧ ∀ H' x, Sv K H [] H' [] [(x, fndD lk t)] → Q x H'
theorem ok_Cache_find (e : Txt K mg) : Fok P w K mg base 1 (He.ma K (He.ga K "Cache") "find") ["self", "tick", "name"] (mk3 (sp_Cache_find K)) := by
  refine der_Cache_find e fun a0 a1 a2 H Q E h => ?_
  unfold sp_Cache_find at h
  obtain ⟨a, dx, D, s, kvs, t, z, lk, rfl, rfl, rfl, ha, hD, hl, q⟩ := h
  have st : Sv K H [] H [] [] := Sv.start0
  unfold caF at ha
  refine fl_H ha ?_
  refine notInK_H (.inr z) hD ?_
  cases lk with
  | none =>
    have hl : valV kvs (.inr z) = none := hl
    rw [hl]
    exact q _ _ (st.addT .non)
  | some e =>
    obtain ⟨v, hv, hd⟩ := hl
    rw [hv]
    refine fl_H ha ?_
    refine ixK_H (.inr z) hD hv ?_
    refine Dt.unp hd fun xs hx => ?_
    obtain ⟨x1, _, rfl, h1, hx1⟩ := hx.c
    obtain ⟨_, rfl, hx2⟩ := hx1.cI
    obtain ⟨x3, _, rfl, h3, hx3⟩ := hx2.c
    have := hx3.n
    subst this
    refine iteD (fun hr => ?_) (fun hr => ?_)
    · refine q _ _ (st.addT ?_)
      show Dt K H _ (if _ then _ else _)
      rw [if_pos hr]
      exact .non
    · refine st.tup (.cons h1 (.cons (.int _) (.cons h3 .nil))) fun v H1 st => ?_
      refine q _ _ ?_
      show Sv K H [] H1 [] [(_, if _ then _ else _)]
      rw [if_neg hr]
      exact st
theorem use_Cache_find {H0 H : Hp} {A : List Addr} {L : List (Addr × HO)} {T : List (V × PyData)} {x y u : V} {a dx D : Addr} {s : Bool} {kvs : List (Key × V)} {t : Int} {z : Str} {lk : Option Ent} {Q : VK} {E : XK} (st : Sv K H0 A H L T)
    (ha : H a = some (.ins (CA K) dx (caF s D))) (hD : H D = some (.dK kvs)) (hl : Lk K H kvs z lk) (q : ∀ H' v, Sv K H0 A H' L ((v, fndD lk t) :: T) → Q v H') (ex : x = .ref a := by rfl) (ey : y = .int t := by rfl) (eu : u = .str z := by rfl) : sp_Cache_find K x y u H Q E := by
  subst ex ey eu
  unfold sp_Cache_find
  exact ⟨a, dx, D, s, kvs, t, z, lk, rfl, rfl, rfl, ha, hD, hl, fun H' v u => q H' v (st.call0 u)⟩
/-- does an entry go in -/
def later (lk : Option Ent) (u : Int) : Bool := match lk with
  | none => true
  | some e => decide (e.u < u)
def goes (lk : Option Ent) (t u : Int) : Bool := decide (t < u) && later lk u
/-- the dict behind a giving -/
def Up (K : PySem.W.Frag) (H : Hp) (kvs : List (Key × V)) (z : Str) (b : Bool) (e : Ent) (kvs' : List (Key × V)) : Prop :=
  if b = true then ∃ v, kvs' = putK kvs (.inr z) v ∧ Dt K H v e.D else kvs' = kvs
theorem Up.mono {H H' : Hp} {kvs kvs' : List (Key × V)} {z : Str} {b : Bool} {e : Ent} (h : Up K H kvs z b e kvs') (t : Tp H H') : Up K H' kvs z b e kvs' := by
  unfold Up at h ⊢
  cases b with
  | false => exact h
  | true =>
    obtain ⟨v, h1, h2⟩ := h
    exact ⟨v, h1, h2.mono t⟩
def began (s : Bool) (t m : Int) : Int := if s = true then m else t
@[irreducible] def sp_Cache_store (K : PySem.W.Frag) : Sp7 := fun x0 x1 x2 x3 x4 x5 x6 H Q _ => ∃ (a dx D : Addr) (s : Bool) (kvs : List (Key × V)) (t n m : Int) (z : Str) (ad : Option Int) (og : Option (Int × Int)) (lk : Option Ent),
  x0 = .ref a ∧ x1 = .int t ∧ x2 = .str z ∧ x4 = .int n ∧ x5 = .int m ∧ Dt K H x3 (adD ad) ∧ Dt K H x6 (ogD og) ∧ kvs.length < 1000 ∧
  Cells H [(a, .ins (CA K) dx (caF s D)), (D, .dK kvs)] ∧ Lk K H kvs z lk ∧
  ∀ H' kvs', Sv K H [a, D] H' [(a, .ins (CA K) dx (caF s D)), (D, .dK kvs')] [] → Up K H' kvs z (goes lk t (began s t m + n)) ⟨ad, began s t m + n, og⟩ kvs' → Q (.bl (decide (t < began s t m + n))) H'
theorem ok_Cache_store (e : Txt K mg) : Fok P w K mg base 1 (He.ma K (He.ga K "Cache") "store") ["self", "tick", "name", "address", "span", "stamp", "origin"] (mk7 (sp_Cache_store K)) := by
  refine der_Cache_store e fun a0 a1 a2 a3 a4 a5 a6 H Q E h => ?_
  unfold sp_Cache_store at h
  obtain ⟨a, dx, D, s, kvs, t, n, m, z, ad, og, lk, rfl, rfl, rfl, rfl, rfl, had, hog, hkl, hc, hl, q⟩ := h
  have st : Sv K H [a, D] H [(a, .ins (CA K) dx (caF s D)), (D, .dK kvs)] [] := hc.sv
  unfold caF at st q
  walk_at "nm"
  refine cut2 (fun σ H' => σ = [some (.ref a), some (.int t), some (.str z), some a3, some (.int n), some (.int m), some a6, some (.int (began s t m)), some (.int (began s t m + n))] ∧ H' = H) ?rest (fun fin => ?stm)
  case stm =>
    refine st.fl 0 ?_
    cases s with
    | true => exact fin _ _ ⟨rfl, rfl⟩
    | false => exact fin _ _ ⟨rfl, rfl⟩
  case rest =>
    rintro σ H1 ⟨rfl, rfl⟩
    generalize hu : began s t m + n = u at q
    refine iteD (fun hr => ?_) (fun hr => ?_)
    · have hr : u ≤ t := hr
      have e1 : goes lk t u = false := by
        unfold goes
        rw [decide_eq_false (by omega), Bool.false_and]
      rw [e1, decide_eq_false (by omega)] at q
      exact q _ kvs st rfl
    · have hr : ¬ u ≤ t := hr
      rw [decide_eq_true (show t < u by omega)] at q
      have e0 : goes lk t u = later lk u := by
        unfold goes
        rw [decide_eq_true (by omega), Bool.true_and]
      rw [e0] at q
      walk_at "nm"
      refine cut (fun σ H' => ∃ kvs', σ = [some (.ref a), some (.int t), some (.str z), some a3, some (.int n), some (.int m), some a6, some (.int (began s t m)), some (.int u)] ∧ Sv K H1 [a, D] H' [(a, .ins (CA K) dx [("_stamped", .bl s), ("_answers", .ref D)]), (D, .dK kvs')] [] ∧ Up K H' kvs z (later lk u) ⟨ad, u, og⟩ kvs') ?rest2 (fun fin => ?stm2)
      case rest2 =>
        rintro σ H2 ⟨kvs', rfl, st, hup⟩
        exact q _ kvs' st hup
      case stm2 =>
        have no : later lk u = false → ∃ kvs', [some (V.ref a), some (.int t), some (.str z), some a3, some (.int n), some (.int m), some a6, some (.int (began s t m)), some (.int u)] = [some (.ref a), some (.int t), some (.str z), some a3, some (.int n), some (.int m), some a6, some (.int (began s t m)), some (.int u)] ∧ Sv K H1 [a, D] H1 [(a, .ins (CA K) dx [("_stamped", .bl s), ("_answers", .ref D)]), (D, .dK kvs')] [] ∧ Up K H1 kvs z (later lk u) ⟨ad, u, og⟩ kvs' := fun hb => ⟨kvs, rfl, st, by rw [hb]; rfl⟩
        refine st.fl 0 ?_
        refine st.notInK 1 (.inr z) ?_
        cases lk with
        | none =>
          have hl : valV kvs (.inr z) = none := hl
          rw [hl]
          refine st.tup (.cons had (.cons (.int u) (.cons hog .nil))) fun v H2 st => ?_
          refine st.fl 0 ?_
          refine st.setK 1 (.inr z) [(a, .ins (CA K) dx [("_stamped", .bl s), ("_answers", .ref D)]), (D, .dK (putK kvs (.inr z) (.ref v)))] (fun H3 st => ?_) (hn := by omega)
          exact fin _ _ ⟨_, rfl, st.noT, _, rfl, st.d 0 rfl⟩
        | some e =>
          obtain ⟨v, hv, hd⟩ := hl
          rw [hv]
          refine st.fl 0 ?_
          refine st.ixK 1 (.inr z) hv ?_
          refine hd.ixI ?_
          refine iteD (fun hr => ?_) (fun hr => ?_)
          · refine st.tup (.cons had (.cons (.int u) (.cons hog .nil))) fun v H2 st => ?_
            refine st.fl 0 ?_
            refine st.setK 1 (.inr z) [(a, .ins (CA K) dx [("_stamped", .bl s), ("_answers", .ref D)]), (D, .dK (putK kvs (.inr z) (.ref v)))] (fun H3 st => ?_) (hn := by omega)
            refine fin _ _ ⟨_, rfl, st.noT, ?_⟩
            have e2 : later (some e) u = true := decide_eq_true hr
            rw [e2]
            exact ⟨_, rfl, st.d 0 rfl⟩
          · exact fin _ _ (no (decide_eq_false hr))
theorem use_Cache_store {H0 H : Hp} {A : List Addr} {L : List (Addr × HO)} {T : List (V × PyData)} {x0 x1 x2 x3 x4 x5 x6 : V} {a dx D : Addr} {s : Bool} {kvs : List (Key × V)} {t n m : Int} {z : Str} {ad : Option Int} {og : Option (Int × Int)} {lk : Option Ent} {Q : VK} {E : XK}
    (st : Sv K H0 A H ([(a, .ins (CA K) dx (caF s D)), (D, .dK kvs)] ++ L) T) (hl : Lk K H kvs z lk) (h3 : Dt K H x3 (adD ad)) (h6 : Dt K H x6 (ogD og)) (hk : kvs.length < 1000)
    (q : ∀ H' kvs', Sv K H0 A H' ([(a, .ins (CA K) dx (caF s D)), (D, .dK kvs')] ++ L) T → Tp H H' → Up K H' kvs z (goes lk t (began s t m + n)) ⟨ad, began s t m + n, og⟩ kvs' → Q (.bl (decide (t < began s t m + n))) H')
    (e0 : x0 = .ref a := by rfl) (e1 : x1 = .int t := by rfl) (e2 : x2 = .str z := by rfl) (e4 : x4 = .int n := by rfl) (e5 : x5 = .int m := by rfl) : sp_Cache_store K x0 x1 x2 x3 x4 x5 x6 H Q E := by
  subst e0 e1 e2 e4 e5
  unfold sp_Cache_store
  exact ⟨a, dx, D, s, kvs, t, n, m, z, ad, og, lk, rfl, rfl, rfl, rfl, rfl, h3, h6, hk, st.cellsF, hl, fun H' kvs' u up => q H' kvs' (st.call (T' := []) u) u.tps up⟩
@[irreducible] def sp_Cache_init (K : PySem.W.Frag) : Sp2 := fun x0 x1 H Q _ => ∃ (a dx : Addr) (s : Bool), x0 = .ref a ∧ x1 = .bl s ∧ Cells H [(a, .ins (CA K) dx [])] ∧
  ∀ H' D, Sv K H [a] H' [(a, .ins (CA K) dx (caF s D)), (D, .dK [])] [] → Q .non H'
theorem ok_Cache_init (e : Txt K mg) : Fok P w K mg base 1 (He.ma K (He.ga K "Cache") "__init__") ["self", "stamped"] (mk2 (sp_Cache_init K)) := by
  refine der_Cache___init__ e fun a0 a1 H Q E h => ?_
  unfold sp_Cache_init at h
  obtain ⟨a, dx, s, rfl, rfl, hc, q⟩ := h
  have st : Sv K H [a] H [(a, .ins (CA K) dx [])] [] := hc.sv
  refine st.putFl 0 [(a, .ins (CA K) dx [("_stamped", .bl s)])] fun H1 st => ?_
  refine st.nwK fun D H2 st => ?_
  refine st.putFl 1 [(D, .dK []), (a, .ins (CA K) dx [("_stamped", .bl s), ("_answers", .ref D)])] fun H3 st => ?_
  exact q _ D (st.perm (List.Perm.swap _ _ _))
@[irreducible] def sp_Cache_clear_all (K : PySem.W.Frag) : Sp1 := fun x0 H Q _ => ∃ (a dx D : Addr) (s : Bool), x0 = .ref a ∧ Cells H [(a, .ins (CA K) dx (caF s D))] ∧
  ∀ H' D, Sv K H [a] H' [(a, .ins (CA K) dx (caF s D)), (D, .dK [])] [] → Q .non H'
theorem ok_Cache_clear_all (e : Txt K mg) : Fok P w K mg base 1 (He.ma K (He.ga K "Cache") "clear_all") ["self"] (mk1 (sp_Cache_clear_all K)) := by
  refine der_Cache_clear_all e fun a0 H Q E h => ?_
  unfold sp_Cache_clear_all at h
  obtain ⟨a, dx, D0, s, rfl, hc, q⟩ := h
  have st : Sv K H [a] H [(a, .ins (CA K) dx [("_stamped", .bl s), ("_answers", .ref D0)])] [] := hc.sv
  refine st.nwK fun D H2 st => ?_
  refine st.putFl 1 [(D, .dK []), (a, .ins (CA K) dx [("_stamped", .bl s), ("_answers", .ref D)])] fun H3 st => ?_
  exact q _ D (st.perm (List.Perm.swap _ _ _))
/-! ### Records -/
def frec (r : Option (Option Int × Int)) : PyData := match r with
  | none => rcD none 3
  | some e => rcD e.1 e.2
@[irreducible] def sp_Records_init (K : PySem.W.Frag) : Sp1 := fun x0 H Q _ => ∃ (a dx : Addr), x0 = .ref a ∧ Cells H [(a, .ins (RE K) dx [])] ∧
  ∀ H' D, Sv K H [a] H' [(a, .ins (RE K) dx (reF D)), (D, .dK [])] [] → Q .non H'
theorem ok_Records_init (e : Txt K mg) : Fok P w K mg base 1 (He.ma K (He.ga K "Records") "__init__") ["self"] (mk1 (sp_Records_init K)) := by
  refine der_Records___init__ e fun a0 H Q E h => ?_
  unfold sp_Records_init at h
  obtain ⟨a, dx, rfl, hc, q⟩ := h
  have st : Sv K H [a] H [(a, .ins (RE K) dx [])] [] := hc.sv
  refine st.nwK fun D H2 st => ?_
  refine st.putFl 1 [(D, .dK []), (a, .ins (RE K) dx [("_entries", .ref D)])] fun H3 st => ?_
  exact q _ D (st.perm (List.Perm.swap _ _ _))
@[irreducible] def sp_Records_find (K : PySem.W.Frag) : Sp2 := fun x0 x1 H Q _ => ∃ (a dx D : Addr) (kvs : List (Key × V)) (z : Str) (r : Option (Option Int × Int)), x0 = .ref a ∧ x1 = .str z ∧
  H a = some (.ins (RE K) dx (reF D)) ∧ H D = some (.dK kvs) ∧ LkR K H kvs z r ∧ ∀ H' x, Sv K H [] H' [] [(x, frec r)] → Q x H'
theorem ok_Records_find (e : Txt K mg) : Fok P w K mg base 1 (He.ma K (He.ga K "Records") "find") ["self", "name"] (mk2 (sp_Records_find K)) := by
  refine der_Records_find e fun a0 a1 H Q E h => ?_
  unfold sp_Records_find at h
  obtain ⟨a, dx, D, kvs, z, r, rfl, rfl, ha, hD, hl, q⟩ := h
  have st : Sv K H [] H [] [] := Sv.start0
  unfold reF at ha
  refine fl_H ha ?_
  refine ⟨isK_H hD, ?_⟩
  refine st.tup (.cons .non (.cons (.int 3) .nil)) fun x H1 st => ?_
  refine getK_H (.inr z) (st.old hD (by simp)) ?_
  cases r with
  | none =>
    have hl : valV kvs (.inr z) = none := hl
    rw [hl]
    exact q _ _ st
  | some e =>
    obtain ⟨v, hv, hd⟩ := hl
    rw [hv]
    exact q _ _ (st.addT (st.oldD hd)).oneT
theorem use_Records_find {H0 H : Hp} {A : List Addr} {L : List (Addr × HO)} {T : List (V × PyData)} {x y : V} {a dx D : Addr} {kvs : List (Key × V)} {z : Str} {r : Option (Option Int × Int)} {Q : VK} {E : XK} (st : Sv K H0 A H L T)
    (ha : H a = some (.ins (RE K) dx (reF D))) (hD : H D = some (.dK kvs)) (hl : LkR K H kvs z r) (q : ∀ H' v, Sv K H0 A H' L ((v, frec r) :: T) → Q v H') (ex : x = .ref a := by rfl) (ey : y = .str z := by rfl) : sp_Records_find K x y H Q E := by
  subst ex ey
  unfold sp_Records_find
  exact ⟨a, dx, D, kvs, z, r, rfl, rfl, ha, hD, hl, fun H' v u => q H' v (st.call0 u)⟩
@[irreducible] def sp_Records_publish (K : PySem.W.Frag) : Sp4 := fun x0 x1 x2 x3 H Q _ => ∃ (a dx D : Addr) (kvs : List (Key × V)) (z : Str) (ad : Option Int) (n : Int), x0 = .ref a ∧ x1 = .str z ∧ Dt K H x2 (adD ad) ∧ x3 = .int n ∧ kvs.length < 1000 ∧
  Cells H [(a, .ins (RE K) dx (reF D)), (D, .dK kvs)] ∧ ∀ H' v, Sv K H [a, D] H' [(a, .ins (RE K) dx (reF D)), (D, .dK (putK kvs (.inr z) v))] [(v, rcD ad n)] → Q .non H'
theorem ok_Records_publish (e : Txt K mg) : Fok P w K mg base 1 (He.ma K (He.ga K "Records") "publish") ["self", "name", "address", "span"] (mk4 (sp_Records_publish K)) := by
  refine der_Records_publish e fun a0 a1 a2 a3 H Q E h => ?_
  unfold sp_Records_publish at h
  obtain ⟨a, dx, D, kvs, z, ad, n, rfl, rfl, h2, rfl, hk, hc, q⟩ := h
  have st : Sv K H [a, D] H [(a, .ins (RE K) dx [("_entries", .ref D)]), (D, .dK kvs)] [] := hc.sv
  refine st.tup (.cons h2 (.cons (.int n) .nil)) fun v H1 st => ?_
  refine st.fl 0 ?_
  refine st.setK 1 (.inr z) [(a, .ins (RE K) dx [("_entries", .ref D)]), (D, .dK (putK kvs (.inr z) (.ref v)))] (fun H3 st => ?_) (hn := by omega)
  exact q _ _ st
theorem use_Records_publish {H0 H : Hp} {A : List Addr} {L : List (Addr × HO)} {T : List (V × PyData)} {x0 x1 x2 x3 : V} {a dx D : Addr} {kvs : List (Key × V)} {z : Str} {ad : Option Int} {n : Int} {Q : VK} {E : XK}
    (st : Sv K H0 A H ([(a, .ins (RE K) dx (reF D)), (D, .dK kvs)] ++ L) T) (h2 : Dt K H x2 (adD ad)) (hk : kvs.length < 1000)
    (q : ∀ H' v, Sv K H0 A H' ([(a, .ins (RE K) dx (reF D)), (D, .dK (putK kvs (.inr z) v))] ++ L) ((v, rcD ad n) :: T) → Q .non H')
    (e0 : x0 = .ref a := by rfl) (e1 : x1 = .str z := by rfl) (e3 : x3 = .int n := by rfl) : sp_Records_publish K x0 x1 x2 x3 H Q E := by
  subst e0 e1 e3
  unfold sp_Records_publish
  exact ⟨a, dx, D, kvs, z, ad, n, rfl, rfl, h2, rfl, hk, st.cellsF, fun H' v u => q H' v (st.call u)⟩
theorem use_Cache_clear_all {H0 H : Hp} {A : List Addr} {L : List (Addr × HO)} {T : List (V × PyData)} {x0 : V} {a dx D : Addr} {s : Bool} {Q : VK} {E : XK}
    (st : Sv K H0 A H ([(a, .ins (CA K) dx (caF s D))] ++ L) T)
    (q : ∀ H' D, Sv K H0 A H' ([(a, .ins (CA K) dx (caF s D)), (D, .dK [])] ++ L) T → Q .non H')
    (e0 : x0 = .ref a := by rfl) : sp_Cache_clear_all K x0 H Q E := by
  subst e0
  unfold sp_Cache_clear_all
  exact ⟨a, dx, D, s, rfl, st.cellsF, fun H' D u => q H' D (st.call (T' := []) u)⟩
theorem use_Cache_init {H0 H : Hp} {A : List Addr} {L : List (Addr × HO)} {T : List (V × PyData)} {x0 x1 : V} {a dx : Addr} {s : Bool} {Q : VK} {E : XK}
    (st : Sv K H0 A H ([(a, .ins (CA K) dx [])] ++ L) T)
    (q : ∀ H' D, Sv K H0 A H' ([(a, .ins (CA K) dx (caF s D)), (D, .dK [])] ++ L) T → Q .non H')
    (e0 : x0 = .ref a := by rfl) (e1 : x1 = .bl s := by rfl) : sp_Cache_init K x0 x1 H Q E := by
  subst e0 e1
  unfold sp_Cache_init
  exact ⟨a, dx, s, rfl, rfl, st.cellsF, fun H' D u => q H' D (st.call (T' := []) u)⟩
theorem use_Records_init {H0 H : Hp} {A : List Addr} {L : List (Addr × HO)} {T : List (V × PyData)} {x0 : V} {a dx : Addr} {Q : VK} {E : XK}
    (st : Sv K H0 A H ([(a, .ins (RE K) dx [])] ++ L) T)
    (q : ∀ H' D, Sv K H0 A H' ([(a, .ins (RE K) dx (reF D)), (D, .dK [])] ++ L) T → Q .non H')
    (e0 : x0 = .ref a := by rfl) : sp_Records_init K x0 H Q E := by
  subst e0
  unfold sp_Records_init
  exact ⟨a, dx, rfl, st.cellsF, fun H' D u => q H' D (st.call (T' := []) u)⟩
end
end Wk

namespace Wk
open PySem PySem.Spec PyProof.Rows L2
local macro_rules | `(tactic| walk_at "lk") => `(tactic| repeat (first | exact lk_nil | exact lk_here | refine lk_past ?_))
local macro_rules | `(tactic| walk_at "pf") => `(tactic| repeat (first | exact put_nil | exact put_here | refine put_past ?_))
local macro_rules | `(tactic| walk_at "nm") => `(tactic| try dsimp only [gNm, setK, uAdd, uSub, tNext, Option.getD, tC, uNe, uEq, uLe, uLt, uGe, uGt, uIs, uIsnt])
local macro_rules | `(tactic| walk_at "sub") => `(tactic| repeat first | exact List.nil_sublist _ | exact .slnil | apply List.Sublist.cons₂ | apply List.Sublist.cons)
local macro_rules | `(tactic| walk_at "ar") => `(tactic| first
  | decide
  | exact Nat.le_of_lt (sl_lt (by first | decide | omega))
  | exact .inl (.inr ⟨by first | decide | omega, by first | decide | omega⟩)
  | exact .inl (.inl ⟨by first | decide | omega, by first | decide | omega⟩)
  | exact .inl ⟨by first | decide | omega, by first | decide | omega⟩
  | exact ⟨by first | decide | omega, by first | decide | omega⟩
  | exact ⟨by first | decide | omega, by first | decide | omega, by first | decide | omega⟩
  | exact ⟨by first | decide | omega, by first | decide | omega, by first | decide | omega, by first | decide | omega⟩
  | exact ⟨by first | decide | omega, by first | decide | omega, by first | decide | omega, by first | decide | omega, by first | decide | omega⟩
  | omega
  | exact sl_lt (by omega))
local macro_rules | `(tactic| walk_at "g1") => `(tactic| refine And.intro (by walk_at "ar") ?_)
local macro_rules | `(tactic| walk_at "go") => `(tactic| repeat (refine And.intro (by walk_at "ar") ?_))
section
variable {P : Program} {w : World} {K : PySem.W.Frag} {mg : Str → Option Value} {base : Heap}

@[irreducible] def sp_found (K : PySem.W.Frag) : Sp4 := fun x0 x1 x2 x3 H Q _ => ∃ (a dx D tb : Addr) (s : Bool) (kvs kvt : List (Key × V)) (t : Int) (z : Str) (lk : Option Ent), x0 = .ref a ∧ x1 = .ref tb ∧ x2 = .str z ∧ x3 = .int t ∧
  H a = some (.ins (CA K) dx (caF s D)) ∧ H D = some (.dK kvs) ∧ H tb = some (.dK kvt) ∧ Lk K H kvs z lk ∧ Lk K H kvt z lk ∧ ∀ H', Sv K H [] H' [] [] → Q (.bl true) H'
theorem ok_found (e : Txt K mg) : Fok P w K mg base 2 (He.ga K "_law_found") ["cache", "table", "word", "moment"] (mk4 (sp_found K)) := by
  refine der__law_found e (ok_Cache_find e) (ok_is_whole e) fun a0 a1 a2 a3 H Q E h => ?_
  unfold sp_found at h
  obtain ⟨a, dx, D, tb, s, kvs, kvt, t, z, lk, rfl, rfl, rfl, rfl, ha, hD, ht, h1, h2, q⟩ := h
  have st : Sv K H [] H [] [] := Sv.start0
  refine ins_H ha ?_
  refine use_Cache_find st ha hD h1 fun H1 v st => ?_
  have ht := st.old ht (by simp)
  have h2 := h2.mono st.tps
  refine ⟨isK_H ht, ?_⟩
  refine getK_H (.inr z) ht ?_
  have hd := st.d 0 rfl
  cases lk with
  | none =>
    have h2 : valV kvt (.inr z) = none := h2
    rw [h2]
    have := hd.eqN
    subst this
    exact q _ st.noT
  | some e =>
    obtain ⟨u, hu, hud⟩ := h2
    rw [hu]
    obtain ⟨p2, xs2, rfl, _⟩ := hud.eqT
    refine hud.ixI ?_
    have hd : Dt K H1 v (if e.u ≤ t then .none else .tuple [adD e.ad, .int (e.u - t), ogD e.og]) := hd
    refine iteD (fun hr => ?_) (fun hr => ?_)
    · rw [if_pos hr] at hd
      have := hd.eqN
      subst this
      exact q _ st.noT
    · rw [if_neg hr] at hd
      obtain ⟨p, xs, rfl, _⟩ := hd.eqT
      refine hd.isiT ?_
      refine hd.len ?_
      walk_at "nm"
      refine iteND (fun hz => absurd rfl hz) (fun _ => ?_)
      walk_at "nm"
      refine cut (fun σ H' => σ = [some (.ref a), some (.ref tb), some (.str z), some (.int t), some (.ref p), some (.ref p2), none] ∧ H' = H1) ?rest (fun fin => ?stm)
      case stm =>
        refine hd.ix fun x hx => ?_
        cases had : e.ad with
        | none =>
          rw [had] at hx
          have := hx.eqN
          subst this
          exact fin _ _ ⟨rfl, rfl⟩
        | some i =>
          rw [had] at hx
          have := hx.eqI
          subst this
          refine hd.ix fun x2 hx2 => ?_
          rw [had] at hx2
          have := hx2.eqI
          subst this
          refine use_is_whole ?_
          exact fin _ _ ⟨rfl, rfl⟩
      case rest =>
        rintro σ H2 ⟨rfl, rfl⟩
        refine hd.ix fun o ho => ?_
        walk_at "nm"
        refine cut (fun σ H' => σ = [some (.ref a), some (.ref tb), some (.str z), some (.int t), some (.ref p), some (.ref p2), some o] ∧ H' = H2) ?rest2 (fun fin => ?stm2)
        case stm2 =>
          cases hog : e.og with
          | none =>
            rw [hog] at ho
            have := ho.eqN
            subst this
            exact fin _ _ ⟨rfl, rfl⟩
          | some ij =>
            obtain ⟨i, j⟩ := ij
            rw [hog] at ho
            have ho : Dt K H2 o (.tuple [.int i, .int j]) := ho
            obtain ⟨p3, xs3, rfl, _⟩ := ho.eqT
            refine ho.isiT ?_
            refine ho.len ?_
            walk_at "nm"
            refine iteND (fun hz => absurd rfl hz) (fun _ => ?_)
            refine ho.ixI ?_
            refine use_is_whole ?_
            refine ho.ixI ?_
            refine use_is_whole ?_
            exact fin _ _ ⟨rfl, rfl⟩
        case rest2 =>
          rintro σ H3 ⟨rfl, rfl⟩
          refine hd.ixI ?_
          refine use_is_whole ?_
          refine hud.ix fun y1 hy1 => ?_
          refine hud.ixI ?_
          refine hud.ix fun y3 hy3 => ?_
          refine st.tup (.cons hy1 (.cons (.int _) (.cons hy3 .nil))) fun w H4 st => ?_
          have hs : SeqAt.shaped (.tuple [adD e.ad, .int (e.u - t), ogD e.og]) = true := ent_shaped ⟨e.ad, e.u - t, e.og⟩
          refine eqSame (d := .tuple [adD e.ad, .int (e.u - t), ogD e.og]) ?_ (st.d 0 rfl) hs ?_
          · have := st.d 1 rfl
            have e3 : fndD (some e) t = .tuple [adD e.ad, .int (e.u - t), ogD e.og] := if_neg hr
            rw [e3] at this
            exact this
          · exact q _ st.noT
theorem use_found {H0 H : Hp} {A : List Addr} {L : List (Addr × HO)} {T : List (V × PyData)} {x0 x1 x2 x3 : V} {a dx D tb : Addr} {s : Bool} {kvs kvt : List (Key × V)} {t : Int} {z : Str} {lk : Option Ent} {Q : VK} {E : XK} (st : Sv K H0 A H L T)
    (ha : H a = some (.ins (CA K) dx (caF s D))) (hD : H D = some (.dK kvs)) (ht : H tb = some (.dK kvt)) (h1 : Lk K H kvs z lk) (h2 : Lk K H kvt z lk) (q : ∀ H', Sv K H0 A H' L T → Q (.bl true) H')
    (e0 : x0 = .ref a := by rfl) (e1 : x1 = .ref tb := by rfl) (e2 : x2 = .str z := by rfl) (e3 : x3 = .int t := by rfl) : sp_found K x0 x1 x2 x3 H Q E := by
  subst e0 e1 e2 e3
  unfold sp_found
  exact ⟨a, dx, D, tb, s, kvs, kvt, t, z, lk, rfl, rfl, rfl, rfl, ha, hD, ht, h1, h2, fun H' u => q H' (st.call0 u)⟩
@[irreducible] def sp_written (K : PySem.W.Frag) : Sp3 := fun x0 x1 x2 H Q _ => ∃ (a dx D tb : Addr) (kvs kvt : List (Key × V)) (z : Str) (lk : Option (Option Int × Int)), x0 = .ref a ∧ x1 = .ref tb ∧ x2 = .str z ∧
  H a = some (.ins (RE K) dx (reF D)) ∧ H D = some (.dK kvs) ∧ H tb = some (.dK kvt) ∧ LkR K H kvs z lk ∧ LkR K H kvt z lk ∧ ∀ H', Sv K H [] H' [] [] → Q (.bl true) H'
theorem ok_written (e : Txt K mg) : Fok P w K mg base 2 (He.ga K "_law_written") ["book", "page", "word"] (mk3 (sp_written K)) := by
  refine der__law_written e (ok_Records_find e) (ok_is_whole e) fun a0 a1 a2 H Q E h => ?_
  unfold sp_written at h
  obtain ⟨a, dx, D, tb, kvs, kvt, z, lk, rfl, rfl, rfl, ha, hD, ht0, h1, h20, q⟩ := h
  have st : Sv K H [] H [] [] := Sv.start0
  refine ins_H ha ?_
  refine use_Records_find st ha hD h1 fun H1 v st => ?_
  have ht := st.old ht0 (by simp)
  obtain ⟨ad, n, hf⟩ : ∃ ad n, frec lk = rcD ad n := by
    cases lk with
    | none => exact ⟨_, _, rfl⟩
    | some e => exact ⟨_, _, rfl⟩
  rw [hf] at st
  have hd : Dt K H1 v (.tuple [adD ad, .int n]) := st.d 0 rfl
  obtain ⟨p, xs, rfl, _⟩ := hd.eqT
  refine hd.isiT ?_
  refine hd.len ?_
  walk_at "nm"
  refine iteND (fun hz => absurd rfl hz) (fun _ => ?_)
  walk_at "nm"
  refine cut (fun σ H' => σ = [some (.ref a), some (.ref tb), some (.str z), some (.ref p)] ∧ H' = H1) ?rest (fun fin => ?stm)
  case stm =>
    refine hd.ix fun x hx => ?_
    cases ad with
    | none =>
      have := hx.eqN
      subst this
      exact fin _ _ ⟨rfl, rfl⟩
    | some i =>
      have := hx.eqI
      subst this
      refine hd.ixI ?_
      refine use_is_whole ?_
      exact fin _ _ ⟨rfl, rfl⟩
  case rest =>
    rintro σ H2 ⟨rfl, rfl⟩
    refine hd.ixI ?_
    refine use_is_whole ?_
    refine ⟨isK_H ht, ?_⟩
    refine st.tup (.cons .non (.cons (.int 3) .nil)) fun w H3 st => ?_
    refine getK_H (.inr z) (st.old ht0 (by simp)) ?_
    have hs := rc_shaped ad n
    have hdd := st.d 1 rfl
    have h3 := h20.mono st.tps
    cases lk with
    | none =>
      have h3 : valV kvt (.inr z) = none := h3
      rw [h3]
      have hf : rcD none 3 = rcD ad n := hf
      refine eqSame hdd (by rw [← hf]; exact st.d 0 rfl) hs ?_
      exact q _ st.noT
    | some e =>
      obtain ⟨u, hu, hud⟩ := h3
      rw [hu]
      have hf : rcD e.1 e.2 = rcD ad n := hf
      refine eqSame hdd (by rw [← hf]; exact hud) hs ?_
      exact q _ st.noT
theorem use_written {H0 H : Hp} {A : List Addr} {L : List (Addr × HO)} {T : List (V × PyData)} {x0 x1 x2 : V} {a dx D tb : Addr} {kvs kvt : List (Key × V)} {z : Str} {lk : Option (Option Int × Int)} {Q : VK} {E : XK} (st : Sv K H0 A H L T)
    (ha : H a = some (.ins (RE K) dx (reF D))) (hD : H D = some (.dK kvs)) (ht : H tb = some (.dK kvt)) (h1 : LkR K H kvs z lk) (h2 : LkR K H kvt z lk) (q : ∀ H', Sv K H0 A H' L T → Q (.bl true) H')
    (e0 : x0 = .ref a := by rfl) (e1 : x1 = .ref tb := by rfl) (e2 : x2 = .str z := by rfl) : sp_written K x0 x1 x2 H Q E := by
  subst e0 e1 e2
  unfold sp_written
  exact ⟨a, dx, D, tb, kvs, kvt, z, lk, rfl, rfl, rfl, ha, hD, ht, h1, h2, fun H' u => q H' (st.call0 u)⟩
end
end Wk

namespace Wk
open PySem PySem.Spec PyProof.Rows L2
local macro_rules | `(tactic| walk_at "lk") => `(tactic| repeat (first | exact lk_nil | exact lk_here | refine lk_past ?_))
local macro_rules | `(tactic| walk_at "pf") => `(tactic| repeat (first | exact put_nil | exact put_here | refine put_past ?_))
local macro_rules | `(tactic| walk_at "nm") => `(tactic| try dsimp only [gNm, setK, uAdd, uSub, tNext, Option.getD, tC, uNe, uEq, uLe, uLt, uGe, uGt, uIs, uIsnt])
local macro_rules | `(tactic| walk_at "sub") => `(tactic| repeat first | exact List.nil_sublist _ | exact .slnil | apply List.Sublist.cons₂ | apply List.Sublist.cons)
local macro_rules | `(tactic| walk_at "ar") => `(tactic| first
  | decide
  | exact Nat.le_of_lt (sl_lt (by first | decide | omega))
  | exact .inl (.inr ⟨by first | decide | omega, by first | decide | omega⟩)
  | exact .inl (.inl ⟨by first | decide | omega, by first | decide | omega⟩)
  | exact .inl ⟨by first | decide | omega, by first | decide | omega⟩
  | exact ⟨by first | decide | omega, by first | decide | omega⟩
  | exact ⟨by first | decide | omega, by first | decide | omega, by first | decide | omega⟩
  | exact ⟨by first | decide | omega, by first | decide | omega, by first | decide | omega, by first | decide | omega⟩
  | exact ⟨by first | decide | omega, by first | decide | omega, by first | decide | omega, by first | decide | omega, by first | decide | omega⟩
  | omega
  | exact sl_lt (by omega))
local macro_rules | `(tactic| walk_at "g1") => `(tactic| refine And.intro (by walk_at "ar") ?_)
local macro_rules | `(tactic| walk_at "go") => `(tactic| repeat (refine And.intro (by walk_at "ar") ?_))
section
variable {P : Program} {w : World} {K : PySem.W.Frag} {mg : Str → Option Value} {base : Heap}

/-- the caches with their tables, the books with their pages, the lists of them -/
structure Wd where
  c : Nat → Addr
  D : Nat → Addr
  t : Nat → Addr
  x : Nat → Addr
  s : Nat → Bool
  kv : Nat → List (Key × V)
  kt : Nat → List (Key × V)
  B : Nat → Addr
  E : Nat → Addr
  p : Nat → Addr
  y : Nat → Addr
  kr : Nat → List (Key × V)
  kp : Nat → List (Key × V)
  cl : Addr
  tl : Addr
  bl : Addr
  pl : Addr
  kl : Addr
def ck (K : PySem.W.Frag) (W : Wd) (i : Nat) : List (Addr × HO) := [(W.c i, .ins (CA K) (W.x i) (caF (W.s i) (W.D i))), (W.D i, .dK (W.kv i)), (W.t i, .dK (W.kt i))]
def bk (K : PySem.W.Frag) (W : Wd) (i : Nat) : List (Addr × HO) := [(W.B i, .ins (RE K) (W.y i) (reF (W.E i))), (W.E i, .dK (W.kr i)), (W.p i, .dK (W.kp i))]
def r3 (f : Nat → Addr) : List V := [.ref (f 0), .ref (f 1), .ref (f 2)]
def r2' (f : Nat → Addr) : List V := [.ref (f 0), .ref (f 1)]
def b3 (f : Nat → Bool) : List V := [.bl (f 0), .bl (f 1), .bl (f 2)]
def ws (K : PySem.W.Frag) (W : Wd) : List (Addr × HO) := ck K W 0 ++ (ck K W 1 ++ (ck K W 2 ++ (bk K W 0 ++ (bk K W 1 ++ [(W.cl, .lst (r3 W.c)), (W.tl, .lst (r3 W.t)), (W.bl, .lst (r2' W.B)), (W.pl, .lst (r2' W.p)), (W.kl, .lst (b3 W.s))]))))
def Agr (K : PySem.W.Frag) (H : Hp) (kv kt : List (Key × V)) : Prop := ∀ z, ∃ lk, Lk K H kv z lk ∧ Lk K H kt z lk
def AgR (K : PySem.W.Frag) (H : Hp) (kv kt : List (Key × V)) : Prop := ∀ z, ∃ lk, LkR K H kv z lk ∧ LkR K H kt z lk
structure Ag (K : PySem.W.Frag) (H : Hp) (W : Wd) : Prop where
  a : ∀ i, i < 3 → Agr K H (W.kv i) (W.kt i)
  b : ∀ i, i < 2 → AgR K H (W.kr i) (W.kp i)
structure Ln (W : Wd) (n : Nat) : Prop where
  a : ∀ i, i < 3 → (W.kv i).length ≤ n ∧ (W.kt i).length ≤ n
  b : ∀ i, i < 2 → (W.kr i).length ≤ n ∧ (W.kp i).length ≤ n
theorem Agr.mono {H H' : Hp} {kv kt : List (Key × V)} (h : Agr K H kv kt) (t : Tp H H') : Agr K H' kv kt := fun z =>
  let ⟨lk, h1, h2⟩ := h z
  ⟨lk, h1.mono t, h2.mono t⟩
theorem AgR.mono {H H' : Hp} {kv kt : List (Key × V)} (h : AgR K H kv kt) (t : Tp H H') : AgR K H' kv kt := fun z =>
  let ⟨lk, h1, h2⟩ := h z
  ⟨lk, h1.mono t, h2.mono t⟩
theorem Ag.mono {H H' : Hp} {W : Wd} (h : Ag K H W) (t : Tp H H') : Ag K H' W := ⟨fun i hi => (h.a i hi).mono t, fun i hi => (h.b i hi).mono t⟩
theorem Lk.put {H : Hp} {kv : List (Key × V)} {z z' : Str} {lk : Option Ent} {v : V} {e : Ent} (h : Lk K H kv z' lk) (hv : Dt K H v e.D) : Lk K H (putK kv (.inr z) v) z' (if z' = z then some e else lk) := by
  have q : ∀ r, Lk K H (putK kv (.inr z) v) z' r ↔ (match r with
      | none => (if (Sum.inr z' : Key) = .inr z then some v else valV kv (.inr z')) = none
      | some e => ∃ w, (if (Sum.inr z' : Key) = .inr z then some v else valV kv (.inr z')) = some w ∧ Dt K H w e.D) := fun r => by
    unfold Lk
    rw [valV_put] <;> cases r <;> exact Iff.rfl
  by_cases c : z' = z
  · rw [if_pos c, q]
    exact ⟨v, by rw [if_pos (by rw [c])], hv⟩
  · rw [if_neg c, q, if_neg (fun x => c (Sum.inr.inj x))]
    exact h
theorem LkR.put {H : Hp} {kv : List (Key × V)} {z z' : Str} {lk : Option (Option Int × Int)} {v : V} {e : Option Int × Int} (h : LkR K H kv z' lk) (hv : Dt K H v (rcD e.1 e.2)) : LkR K H (putK kv (.inr z) v) z' (if z' = z then some e else lk) := by
  have q : ∀ r, LkR K H (putK kv (.inr z) v) z' r ↔ (match r with
      | none => (if (Sum.inr z' : Key) = .inr z then some v else valV kv (.inr z')) = none
      | some e => ∃ w, (if (Sum.inr z' : Key) = .inr z then some v else valV kv (.inr z')) = some w ∧ Dt K H w (rcD e.1 e.2)) := fun r => by
    unfold LkR
    rw [valV_put] <;> cases r <;> exact Iff.rfl
  by_cases c : z' = z
  · rw [if_pos c, q]
    exact ⟨v, by rw [if_pos (by rw [c])], hv⟩
  · rw [if_neg c, q, if_neg (fun x => c (Sum.inr.inj x))]
    exact h
theorem Agr.put {H : Hp} {kv kt : List (Key × V)} {z : Str} {v w : V} {e : Ent} (h : Agr K H kv kt) (hv : Dt K H v e.D) (hw : Dt K H w e.D) : Agr K H (putK kv (.inr z) v) (putK kt (.inr z) w) := fun z' =>
  let ⟨_, h1, h2⟩ := h z'
  ⟨_, h1.put hv, h2.put hw⟩
theorem AgR.put {H : Hp} {kv kt : List (Key × V)} {z : Str} {v w : V} {e : Option Int × Int} (h : AgR K H kv kt) (hv : Dt K H v (rcD e.1 e.2)) (hw : Dt K H w (rcD e.1 e.2)) : AgR K H (putK kv (.inr z) v) (putK kt (.inr z) w) := fun z' =>
  let ⟨_, h1, h2⟩ := h z'
  ⟨_, h1.put hv, h2.put hw⟩
theorem Agr.up {H : Hp} {kv kt kv' kt' : List (Key × V)} {z : Str} {b : Bool} {e : Ent} (h : Agr K H kv kt) (h1 : Up K H kv z b e kv') (h2 : Up K H kt z b e kt') : Agr K H kv' kt' := by
  unfold Up at h1 h2
  cases b with
  | false =>
    have e1 : kv' = kv := h1
    have e2 : kt' = kt := h2
    rw [e1, e2]
    exact h
  | true =>
    obtain ⟨v, e1, d1⟩ := h1
    obtain ⟨w, e2, d2⟩ := h2
    rw [e1, e2]
    exact h.put d1 d2
theorem Up.len {H : Hp} {kv kv' : List (Key × V)} {z : Str} {b : Bool} {e : Ent} (h1 : Up K H kv z b e kv') : kv'.length ≤ kv.length + 1 := by
  unfold Up at h1
  cases b with
  | false =>
    have e1 : kv' = kv := h1
    rw [e1]
    omega
  | true =>
    obtain ⟨v, e1, d1⟩ := h1
    rw [e1]
    exact length_putK _ _ _
theorem at3 {f : Nat → Addr} {i : Nat} (h : i < 3) : atI (r3 f) (i : Int) = some (.ref (f i)) := by
  have : i = 0 ∨ i = 1 ∨ i = 2 := by omega
  rcases this with rfl | rfl | rfl <;> rfl
theorem at2 {f : Nat → Addr} {i : Nat} (h : i < 2) : atI (r2' f) (i : Int) = some (.ref (f i)) := by
  have : i = 0 ∨ i = 1 := by omega
  rcases this with rfl | rfl <;> rfl
theorem atb {f : Nat → Bool} {i : Nat} (h : i < 3) : atI (b3 f) (i : Int) = some (.bl (f i)) := by
  have : i = 0 ∨ i = 1 ∨ i = 2 := by omega
  rcases this with rfl | rfl | rfl <;> rfl
theorem ck_mem {W : Wd} {i : Nat} (h : i < 3) : ∀ q ∈ ck K W i, q ∈ ws K W := fun q hq => by
  have : i = 0 ∨ i = 1 ∨ i = 2 := by omega
  unfold ws
  rcases this with rfl | rfl | rfl
  · exact List.mem_append_left _ hq
  · exact List.mem_append_right _ (List.mem_append_left _ hq)
  · exact List.mem_append_right _ (List.mem_append_right _ (List.mem_append_left _ hq))
theorem bk_mem {W : Wd} {i : Nat} (h : i < 2) : ∀ q ∈ bk K W i, q ∈ ws K W := fun q hq => by
  have : i = 0 ∨ i = 1 := by omega
  unfold ws
  rcases this with rfl | rfl
  · exact List.mem_append_right _ (List.mem_append_right _ (List.mem_append_right _ (List.mem_append_left _ hq)))
  · exact List.mem_append_right _ (List.mem_append_right _ (List.mem_append_right _ (List.mem_append_right _ (List.mem_append_left _ hq))))
/-- the cells stand -/
def HC (K : PySem.W.Frag) (H : Hp) (W : Wd) : Prop := ∀ q ∈ ws K W, H q.1 = some q.2
theorem HC.c {H : Hp} {W : Wd} {i : Nat} (h : HC K H W) (hi : i < 3) : H (W.c i) = some (.ins (CA K) (W.x i) (caF (W.s i) (W.D i))) := h _ (ck_mem hi (W.c i, _) (List.mem_cons_self ..))
theorem HC.D {H : Hp} {W : Wd} {i : Nat} (h : HC K H W) (hi : i < 3) : H (W.D i) = some (.dK (W.kv i)) := h _ (ck_mem hi (W.D i, _) (List.mem_cons_of_mem _ (List.mem_cons_self ..)))
theorem HC.t {H : Hp} {W : Wd} {i : Nat} (h : HC K H W) (hi : i < 3) : H (W.t i) = some (.dK (W.kt i)) := h _ (ck_mem hi (W.t i, _) (List.mem_cons_of_mem _ (List.mem_cons_of_mem _ (List.mem_cons_self ..))))
theorem HC.B {H : Hp} {W : Wd} {i : Nat} (h : HC K H W) (hi : i < 2) : H (W.B i) = some (.ins (RE K) (W.y i) (reF (W.E i))) := h _ (bk_mem hi (W.B i, _) (List.mem_cons_self ..))
theorem HC.E {H : Hp} {W : Wd} {i : Nat} (h : HC K H W) (hi : i < 2) : H (W.E i) = some (.dK (W.kr i)) := h _ (bk_mem hi (W.E i, _) (List.mem_cons_of_mem _ (List.mem_cons_self ..)))
theorem HC.p {H : Hp} {W : Wd} {i : Nat} (h : HC K H W) (hi : i < 2) : H (W.p i) = some (.dK (W.kp i)) := h _ (bk_mem hi (W.p i, _) (List.mem_cons_of_mem _ (List.mem_cons_of_mem _ (List.mem_cons_self ..))))
theorem ls_mem {W : Wd} : ∀ q ∈ [(W.cl, HO.lst (r3 W.c)), (W.tl, .lst (r3 W.t)), (W.bl, .lst (r2' W.B)), (W.pl, .lst (r2' W.p)), (W.kl, .lst (b3 W.s))], q ∈ ws K W := fun q hq =>
  List.mem_append_right _ (List.mem_append_right _ (List.mem_append_right _ (List.mem_append_right _ (List.mem_append_right _ hq))))
theorem HC.cl {H : Hp} {W : Wd} (h : HC K H W) : SqL K H W.cl (r3 W.c) := .inl (.inl (h _ (ls_mem (W.cl, _) (by simp))))
theorem HC.tl {H : Hp} {W : Wd} (h : HC K H W) : SqL K H W.tl (r3 W.t) := .inl (.inl (h _ (ls_mem (W.tl, _) (by simp))))
theorem HC.bl {H : Hp} {W : Wd} (h : HC K H W) : SqL K H W.bl (r2' W.B) := .inl (.inl (h _ (ls_mem (W.bl, _) (by simp))))
theorem HC.pl {H : Hp} {W : Wd} (h : HC K H W) : SqL K H W.pl (r2' W.p) := .inl (.inl (h _ (ls_mem (W.pl, _) (by simp))))
theorem HC.kl {H : Hp} {W : Wd} (h : HC K H W) : SqL K H W.kl (b3 W.s) := .inl (.inl (h _ (ls_mem (W.kl, _) (by simp))))
theorem HC.keep {H0 H : Hp} {W : Wd} {L : List (Addr × HO)} {T : List (V × PyData)} (h : HC K H0 W) (st : Sv K H0 [] H L T) : HC K H W := fun q hq => st.keep _ _ (h q hq) (by simp)
theorem Sv.hc {H0 H : Hp} {A : List Addr} {W : Wd} {L R : List (Addr × HO)} {T : List (V × PyData)} (st : Sv K H0 A H (L ++ (ws K W ++ R)) T) : HC K H W := fun q hq => (st.own q (List.mem_append_right _ (List.mem_append_left _ hq))).1
@[irreducible] def sp_all (K : PySem.W.Frag) : Sp6 := fun x0 x1 x2 x3 x4 x5 H Q _ => ∃ (W : Wd) (wl : Addr) (zs : List Str) (m : Int), x0 = .ref W.cl ∧ x1 = .ref W.tl ∧ x2 = .ref W.bl ∧ x3 = .ref W.pl ∧ x4 = .ref wl ∧ x5 = .int m ∧
  HC K H W ∧ Ag K H W ∧ SqL K H wl (zs.map V.str) ∧ ∀ H', Sv K H [] H' [] [] → Q (.bl true) H'
theorem ok_all (e : Txt K mg) : Fok P w K mg base 3 (He.ga K "_law_all") ["caches", "tables", "books", "pages", "words", "moment"] (mk6 (sp_all K)) := by
  refine der__law_all e (ok_found e) (ok_written e) fun a0 a1 a2 a3 a4 a5 H Q E h => ?_
  unfold sp_all at h
  obtain ⟨W, wl, zs, m, rfl, rfl, rfl, rfl, rfl, rfl, hc, ag, hw, q⟩ := h
  have st : Sv K H [] H [] [] := Sv.start0
  refine forL (fun i σ H' => Sv K H [] H' [] [] ∧ ∃ v x, σ = [some (.ref W.cl), some (.ref W.tl), some (.ref W.bl), some (.ref W.pl), some (.ref wl), some (.int m), v, x]) hw ⟨st, none, none, rfl⟩ (fun i σ H' _ h => h.1.oldL hw (by simp)) ?_ ?_
  · rintro i x σ H1 hx ⟨st, v, y, rfl⟩
    rw [List.getElem?_map] at hx
    obtain ⟨z, rfl⟩ : ∃ z, x = V.str z := by
      cases e : zs[i]? with
      | none => rw [e] at hx; cases hx
      | some z => rw [e] at hx; exact ⟨z, (Option.some.inj hx).symm⟩
    walk_at "nm"
    refine cut (fun σ H' => Sv K H [] H' [] [] ∧ ∃ y, σ = [some (.ref W.cl), some (.ref W.tl), some (.ref W.bl), some (.ref W.pl), some (.ref wl), some (.int m), some (.str z), y]) ?rest (fun fin => ?stm)
    case stm =>
      refine ⟨by walk_at "ar", ?_⟩
      refine forR0 (fun i σ H' => Sv K H [] H' [] [] ∧ ∃ y, σ = [some (.ref W.cl), some (.ref W.tl), some (.ref W.bl), some (.ref W.pl), some (.ref wl), some (.int m), some (.str z), y]) ⟨st, _, rfl⟩ ?_ ?_
      · rintro j σ H2 hj ⟨st, y, rfl⟩
        have hj : j < 3 := hj
        have hc := hc.keep st
        refine ix_L hc.cl ?_ (hv := at3 hj)
        refine ix_L hc.tl ?_ (hv := at3 hj)
        obtain ⟨lk, h1, h2⟩ := (ag.mono st.tps).a j hj z
        refine use_found st (hc.c hj) (hc.D hj) (hc.t hj) h1 h2 fun H3 st => ?_
        exact ⟨st, _, rfl⟩
      · rintro σ H2 ⟨st, y, rfl⟩
        exact fin _ _ ⟨st, _, rfl⟩
    case rest =>
      rintro σ H2 ⟨st, y, rfl⟩
      refine ⟨by walk_at "ar", ?_⟩
      refine forR0 (fun i σ H' => Sv K H [] H' [] [] ∧ ∃ y, σ = [some (.ref W.cl), some (.ref W.tl), some (.ref W.bl), some (.ref W.pl), some (.ref wl), some (.int m), some (.str z), y]) ⟨st, _, rfl⟩ ?_ ?_
      · rintro j σ H2 hj ⟨st, y, rfl⟩
        have hj : j < 2 := hj
        have hc := hc.keep st
        refine ix_L hc.bl ?_ (hv := at2 hj)
        refine ix_L hc.pl ?_ (hv := at2 hj)
        obtain ⟨lk, h1, h2⟩ := (ag.mono st.tps).b j hj z
        refine use_written st (hc.B hj) (hc.E hj) (hc.p hj) h1 h2 fun H3 st => ?_
        exact ⟨st, _, rfl⟩
      · rintro σ H2 ⟨st, y, rfl⟩
        exact ⟨st, _, _, rfl⟩
  · rintro σ H1 ⟨st, v, y, rfl⟩
    exact q _ st
theorem use_all {H0 H : Hp} {A : List Addr} {L : List (Addr × HO)} {T : List (V × PyData)} {x0 x1 x2 x3 x4 x5 : V} {W : Wd} {wl : Addr} {zs : List Str} {m : Int} {Q : VK} {E : XK} (st : Sv K H0 A H L T)
    (hc : HC K H W) (ag : Ag K H W) (hw : SqL K H wl (zs.map V.str)) (q : ∀ H', Sv K H0 A H' L T → Tp H H' → Q (.bl true) H')
    (e0 : x0 = .ref W.cl := by rfl) (e1 : x1 = .ref W.tl := by rfl) (e2 : x2 = .ref W.bl := by rfl) (e3 : x3 = .ref W.pl := by rfl) (e4 : x4 = .ref wl := by rfl) (e5 : x5 = .int m := by rfl) : sp_all K x0 x1 x2 x3 x4 x5 H Q E := by
  subst e0 e1 e2 e3 e4 e5
  unfold sp_all
  exact ⟨W, wl, zs, m, rfl, rfl, rfl, rfl, rfl, rfl, hc, ag, hw, fun H' u => q H' (st.call0 u) u.tps⟩
end
end Wk

namespace Wk
open PySem PySem.Spec PyProof.Rows L2
local macro_rules | `(tactic| walk_at "lk") => `(tactic| repeat (first | exact lk_nil | exact lk_here | refine lk_past ?_))
local macro_rules | `(tactic| walk_at "pf") => `(tactic| repeat (first | exact put_nil | exact put_here | refine put_past ?_))
local macro_rules | `(tactic| walk_at "nm") => `(tactic| try dsimp only [gNm, setK, uAdd, uSub, tNext, Option.getD, tC, uNe, uEq, uLe, uLt, uGe, uGt, uIs, uIsnt])
local macro_rules | `(tactic| walk_at "sub") => `(tactic| repeat first | exact List.nil_sublist _ | exact .slnil | apply List.Sublist.cons₂ | apply List.Sublist.cons)
local macro_rules | `(tactic| walk_at "ar") => `(tactic| first
  | decide
  | exact Nat.le_of_lt (sl_lt (by first | decide | omega))
  | exact .inl (.inr ⟨by first | decide | omega, by first | decide | omega⟩)
  | exact .inl (.inl ⟨by first | decide | omega, by first | decide | omega⟩)
  | exact .inl ⟨by first | decide | omega, by first | decide | omega⟩
  | exact ⟨by first | decide | omega, by first | decide | omega⟩
  | exact ⟨by first | decide | omega, by first | decide | omega, by first | decide | omega⟩
  | exact ⟨by first | decide | omega, by first | decide | omega, by first | decide | omega, by first | decide | omega⟩
  | exact ⟨by first | decide | omega, by first | decide | omega, by first | decide | omega, by first | decide | omega, by first | decide | omega⟩
  | omega
  | exact sl_lt (by omega))
local macro_rules | `(tactic| walk_at "g1") => `(tactic| refine And.intro (by walk_at "ar") ?_)
local macro_rules | `(tactic| walk_at "go") => `(tactic| repeat (refine And.intro (by walk_at "ar") ?_))
section
variable {P : Program} {w : World} {K : PySem.W.Frag} {mg : Str → Option Value} {base : Heap}

@[irreducible] def sp_given (K : PySem.W.Frag) : Sp6 := fun x0 x1 x2 x3 x4 x5 H Q _ => ∃ (b : Addr) (c d : Int) (a dx D tb : Addr) (s : Bool) (kv kt : List (Key × V)) (z : Str) (m : Int), x0 = .ref b ∧ x1 = .ref a ∧ x2 = .ref tb ∧ x3 = .str z ∧ x4 = .int m ∧ x5 = .bl s ∧ 0 ≤ m ∧ m ≤ 1000 ∧ kv.length < 1000 ∧ kt.length < 1000 ∧
  Cells H (bx b c d ++ [(a, .ins (CA K) dx (caF s D)), (D, .dK kv), (tb, .dK kt)]) ∧ Agr K H kv kt ∧
  ∀ H' c' d' kv' kt', Sv K H [b, a, D, tb] H' (bx b c' d' ++ [(a, .ins (CA K) dx (caF s D)), (D, .dK kv'), (tb, .dK kt')]) [] → Agr K H' kv' kt' → kv'.length ≤ kv.length + 1 → kt'.length ≤ kt.length + 1 → Q (.bl true) H'
theorem ok_given (e : Txt K mg) : Fok P w K mg base 3 (He.ga K "_law_given") ["box", "cache", "table", "word", "moment", "from_stamp"] (mk6 (sp_given K)) := by
  refine der__law_given e (ok_address e) (ok_stamp e) (ok_span e) (ok_origin e) (ok_is_truth e) (ok_Cache_store e) fun a0 a1 a2 a3 a4 a5 H Q E h => ?_
  unfold sp_given at h
  obtain ⟨b, c, d, a, dx, D, tb, s, kv, kt, z, m, rfl, rfl, rfl, rfl, rfl, rfl, hm0, hm1, hk1, hk2, hc, ag, q⟩ := h
  have st : Sv K H [b, a, D, tb] H (bx b c d ++ [(a, .ins (CA K) dx (caF s D)), (D, .dK kv), (tb, .dK kt)]) [] := hc.sv
  refine use_address st fun H1 c d ad st => ?_
  refine use_stamp st fun H1 c d sp hsp st => ?_
  walk_at "nm"
  refine cut2 (fun σ H' => σ = [some (.ref b), some (.ref a), some (.ref tb), some (.str z), some (.int m), some (.bl s), some (adV ad), some (.int sp), some (.int (began s m sp)), none, none, none, none] ∧ H' = H1) ?rest (fun fin => ?stm)
  case stm =>
    cases s with
    | true => exact fin _ _ ⟨rfl, rfl⟩
    | false => exact fin _ _ ⟨rfl, rfl⟩
  case rest =>
    rintro σ H2 ⟨rfl, rfl⟩
    generalize hbg : began s m sp = bg
    refine ⟨st.isK 3, ?_⟩
    refine st.tup (.cons .non (.cons (.int (m + 2)) (.cons .non .nil))) fun v0 H2 st => ?_
    refine st.getK 3 (.inr z) ?_
    obtain ⟨lk, h10, h20⟩ := ag z
    have h2 := h20.mono st.tps
    obtain ⟨best, d0, d2, bu, hb1, hb2, hb3⟩ : ∃ best d0 d2 bu, (valV kt (.inr z)).getD (.ref v0) = best ∧ Dt K H2 best (.tuple [d0, .int bu, d2]) ∧ (∀ e, lk = some e → bu = e.u) := by
      cases lk with
      | none =>
        have h2 : valV kt (.inr z) = none := h2
        rw [h2]
        exact ⟨_, _, _, _, rfl, st.d 0 rfl, fun e q => nomatch q⟩
      | some e =>
        obtain ⟨v, hv, hd⟩ := h2
        rw [hv]
        exact ⟨_, _, _, _, rfl, hd, fun e' q => by cases q; rfl⟩
    rw [hb1]
    refine hb2.ixI ?_
    refine use_span st fun H3 c d n hn0 hn1 st => ?_
    refine use_origin st (fun H4 c d v og st => ?_) hm0 hm1
    walk_at "nm"
    have st := (st.pull 2 rfl).pull 2 rfl
    refine st.ins 0 ?_
    refine use_Cache_store (s := s) (ad := ad) (og := og) st (h10.mono st.tps) (dt_ad _ _) (st.d 0 rfl) hk1 fun H5 kv' st tp up => ?_
    rw [hbg] at up ⊢
    refine use_is_truth ?_
    rw [decide_eq_true rfl]
    walk_at "nm"
    -- what is left: the law's own table
    have fin : ∀ {H' : Hp} {T : List (V × PyData)} {kt' : List (Key × V)}, Sv K H [b, a, D, tb] H' ([(a, .ins (CA K) dx (caF s D)), (D, .dK kv')] ++ (b, .lst [.int c, .int d]) :: [(tb, .dK kt')]) T → Up K H' kv z (goes lk m (bg + n)) ⟨ad, bg + n, og⟩ kv' → Up K H' kt z (goes lk m (bg + n)) ⟨ad, bg + n, og⟩ kt' → Q (.bl true) H' := fun st up1 up2 => by
      refine q _ c d kv' _ ((st.pull 2 rfl).noT) ?_ up1.len up2.len
      exact (ag.mono st.tps).up up1 up2
    refine iteD (fun hr => ?_) (fun hr => ?_)
    · refine st.notInK 3 (.inr z) ?_
      have hr : m < bg + n := hr
      cases lk with
      | none =>
        have h3 : valV kt (.inr z) = none := h20
        rw [h3]
        have hgo : goes none m (bg + n) = true := by
          unfold goes
          rw [decide_eq_true hr]
          rfl
        rw [hgo] at up fin
        obtain ⟨v1, ev1, hv1⟩ := up
        have st := st.addT hv1
        refine st.tup (.cons (dt_ad _ _) (.cons (.int (bg + n)) (.cons (st.d 1 rfl) .nil))) fun w2 H6 st => ?_
        refine st.setK 3 (.inr z) ([(a, .ins (CA K) dx (caF s D)), (D, .dK kv')] ++ (b, .lst [.int c, .int d]) :: [(tb, .dK (putK kt (.inr z) (.ref w2)))]) (fun H7 st => ?_) (hn := by omega)
        exact fin st ⟨v1, ev1, st.d 1 rfl⟩ ⟨_, rfl, st.d 0 rfl⟩
      | some e =>
        obtain ⟨v2, hv2, hd2⟩ := h20
        rw [hv2] at hb1 ⊢
        have hb1 : v2 = best := hb1
        subst hb1
        refine (hd2.mono st.tps).ixI ?_
        refine iteD (fun hr2 => ?_) (fun hr2 => ?_)
        · have hgo : goes (some e) m (bg + n) = true := by
            unfold goes
            rw [decide_eq_true hr]
            exact decide_eq_true hr2
          rw [hgo] at up fin
          obtain ⟨v1, ev1, hv1⟩ := up
          have st := st.addT hv1
          refine st.tup (.cons (dt_ad _ _) (.cons (.int (bg + n)) (.cons (st.d 1 rfl) .nil))) fun w2 H6 st => ?_
          refine st.setK 3 (.inr z) ([(a, .ins (CA K) dx (caF s D)), (D, .dK kv')] ++ (b, .lst [.int c, .int d]) :: [(tb, .dK (putK kt (.inr z) (.ref w2)))]) (fun H7 st => ?_) (hn := by omega)
          exact fin st ⟨v1, ev1, st.d 1 rfl⟩ ⟨_, rfl, st.d 0 rfl⟩
        · have hgo : goes (some e) m (bg + n) = false := by
            unfold goes
            rw [decide_eq_true hr]
            exact decide_eq_false hr2
          exact fin st up (by rw [hgo]; rfl)
    · have hgo : goes lk m (bg + n) = false := by
        unfold goes
        rw [decide_eq_false hr, Bool.false_and]
      exact fin st up (by rw [hgo]; rfl)
theorem use_given {H0 H : Hp} {A : List Addr} {b : Addr} {c d : Int} {L : List (Addr × HO)} {T : List (V × PyData)} {x0 x1 x2 x3 x4 x5 : V} {a dx D tb : Addr} {s : Bool} {kv kt : List (Key × V)} {z : Str} {m : Int} {Q : VK} {E : XK}
    (st : Sv K H0 A H ((bx b c d ++ [(a, .ins (CA K) dx (caF s D)), (D, .dK kv), (tb, .dK kt)]) ++ L) T) (ag : Agr K H kv kt) (h0 : 0 ≤ m) (h1 : m ≤ 1000) (hk1 : kv.length < 1000) (hk2 : kt.length < 1000)
    (q : ∀ H' c' d' kv' kt', Sv K H0 A H' ((bx b c' d' ++ [(a, .ins (CA K) dx (caF s D)), (D, .dK kv'), (tb, .dK kt')]) ++ L) T → Tp H H' → Agr K H' kv' kt' → kv'.length ≤ kv.length + 1 → kt'.length ≤ kt.length + 1 → Q (.bl true) H')
    (e0 : x0 = .ref b := by rfl) (e1 : x1 = .ref a := by rfl) (e2 : x2 = .ref tb := by rfl) (e3 : x3 = .str z := by rfl) (e4 : x4 = .int m := by rfl) (e5 : x5 = .bl s := by rfl) : sp_given K x0 x1 x2 x3 x4 x5 H Q E := by
  subst e0 e1 e2 e3 e4 e5
  unfold sp_given
  exact ⟨b, c, d, a, dx, D, tb, s, kv, kt, z, m, rfl, rfl, rfl, rfl, rfl, rfl, h0, h1, hk1, hk2, st.cellsF, ag, fun H' c' d' kv' kt' u g l1 l2 => q H' c' d' kv' kt' (st.call (T' := []) u) u.tps g l1 l2⟩
end
end Wk

namespace Wk
open PySem PySem.Spec PyProof.Rows L2
local macro_rules | `(tactic| walk_at "lk") => `(tactic| repeat (first | exact lk_nil | exact lk_here | refine lk_past ?_))
local macro_rules | `(tactic| walk_at "pf") => `(tactic| repeat (first | exact put_nil | exact put_here | refine put_past ?_))
local macro_rules | `(tactic| walk_at "nm") => `(tactic| try dsimp only [gNm, setK, uAdd, uSub, tNext, Option.getD, tC, uNe, uEq, uLe, uLt, uGe, uGt, uIs, uIsnt])
local macro_rules | `(tactic| walk_at "sub") => `(tactic| repeat first | exact List.nil_sublist _ | exact .slnil | apply List.Sublist.cons₂ | apply List.Sublist.cons)
local macro_rules | `(tactic| walk_at "ar") => `(tactic| first
  | decide
  | exact Nat.le_of_lt (sl_lt (by first | decide | omega))
  | exact .inl (.inr ⟨by first | decide | omega, by first | decide | omega⟩)
  | exact .inl (.inl ⟨by first | decide | omega, by first | decide | omega⟩)
  | exact .inl ⟨by first | decide | omega, by first | decide | omega⟩
  | exact ⟨by first | decide | omega, by first | decide | omega⟩
  | exact ⟨by first | decide | omega, by first | decide | omega, by first | decide | omega⟩
  | exact ⟨by first | decide | omega, by first | decide | omega, by first | decide | omega, by first | decide | omega⟩
  | exact ⟨by first | decide | omega, by first | decide | omega, by first | decide | omega, by first | decide | omega, by first | decide | omega⟩
  | omega
  | exact sl_lt (by omega))
local macro_rules | `(tactic| walk_at "g1") => `(tactic| refine And.intro (by walk_at "ar") ?_)
local macro_rules | `(tactic| walk_at "go") => `(tactic| repeat (refine And.intro (by walk_at "ar") ?_))
section
variable {P : Program} {w : World} {K : PySem.W.Frag} {mg : Str → Option Value} {base : Heap}

def up1 {α : Type} (f : Nat → α) (j : Nat) (v : α) : Nat → α := fun i => if i = j then v else f i
theorem up1_self {α : Type} {f : Nat → α} {j : Nat} {v : α} : up1 f j v j = v := if_pos rfl
theorem up1_ne {α : Type} {f : Nat → α} {i j : Nat} {v : α} (h : i ≠ j) : up1 f j v i = f i := if_neg h
/-- a cache and its table are new -/
def setC (W : Wd) (j : Nat) (kv kt : List (Key × V)) : Wd := { W with kv := up1 W.kv j kv, kt := up1 W.kt j kt }
def setB (W : Wd) (j : Nat) (kr kp : List (Key × V)) : Wd := { W with kr := up1 W.kr j kr, kp := up1 W.kp j kp }
theorem Ag.setC {H : Hp} {W : Wd} {j : Nat} {kv kt : List (Key × V)} (h : Ag K H W) (a : Agr K H kv kt) : Ag K H (setC W j kv kt) := ⟨fun i hi => by
  show Agr K H (up1 W.kv j kv i) (up1 W.kt j kt i)
  by_cases c : i = j
  · subst c
    rw [up1_self, up1_self]
    exact a
  · rw [up1_ne c, up1_ne c]
    exact h.a i hi, h.b⟩
theorem Ag.setB {H : Hp} {W : Wd} {j : Nat} {kr kp : List (Key × V)} (h : Ag K H W) (a : AgR K H kr kp) : Ag K H (setB W j kr kp) := ⟨h.a, fun i hi => by
  show AgR K H (up1 W.kr j kr i) (up1 W.kp j kp i)
  by_cases c : i = j
  · subst c
    rw [up1_self, up1_self]
    exact a
  · rw [up1_ne c, up1_ne c]
    exact h.b i hi⟩
theorem Ln.setC {W : Wd} {n j : Nat} {kv kt : List (Key × V)} (h : Ln W n) (h1 : kv.length ≤ n + 1) (h2 : kt.length ≤ n + 1) : Ln (setC W j kv kt) (n + 1) := ⟨fun i hi => by
  show (up1 W.kv j kv i).length ≤ _ ∧ (up1 W.kt j kt i).length ≤ _
  by_cases c : i = j
  · subst c
    rw [up1_self, up1_self]
    exact ⟨h1, h2⟩
  · rw [up1_ne c, up1_ne c]
    have := h.a i hi
    omega, fun i hi => by
  have : (W.kr i).length ≤ n ∧ (W.kp i).length ≤ n := h.b i hi
  exact ⟨by show (W.kr i).length ≤ _; omega, by show (W.kp i).length ≤ _; omega⟩⟩
theorem Ln.setB {W : Wd} {n j : Nat} {kv kt : List (Key × V)} (h : Ln W n) (h1 : kv.length ≤ n + 1) (h2 : kt.length ≤ n + 1) : Ln (setB W j kv kt) (n + 1) := ⟨fun i hi => by
  have : (W.kv i).length ≤ n ∧ (W.kt i).length ≤ n := h.a i hi
  exact ⟨by show (W.kv i).length ≤ _; omega, by show (W.kt i).length ≤ _; omega⟩, fun i hi => by
  show (up1 W.kr j kv i).length ≤ _ ∧ (up1 W.kp j kt i).length ≤ _
  by_cases c : i = j
  · subst c
    rw [up1_self, up1_self]
    exact ⟨h1, h2⟩
  · rw [up1_ne c, up1_ne c]
    have := h.b i hi
    omega⟩
theorem Ln.le {W : Wd} {n m : Nat} (h : Ln W n) (l : n ≤ m) : Ln W m := ⟨fun i hi => by have := h.a i hi; omega, fun i hi => by have := h.b i hi; omega⟩
theorem perm1 {α : Type} (X Y S : List α) : (Y ++ (X ++ S)).Perm (X ++ (Y ++ S)) := by
  rw [← List.append_assoc, ← List.append_assoc]
  exact List.perm_append_comm.append_right S
theorem perm2 {α : Type} (X Y Z S : List α) : (Z ++ (X ++ (Y ++ S))).Perm (X ++ (Y ++ (Z ++ S))) := (perm1 X Z (Y ++ S)).trans ((perm1 Y Z S).append_left X)
def tw (K : PySem.W.Frag) (W : Wd) : List (Addr × HO) := bk K W 0 ++ (bk K W 1 ++ [(W.cl, .lst (r3 W.c)), (W.tl, .lst (r3 W.t)), (W.bl, .lst (r2' W.B)), (W.pl, .lst (r2' W.p)), (W.kl, .lst (b3 W.s))])
/-- a cache and its table come to the front, and go back -/
theorem putC {H0 H : Hp} {A : List Addr} {T : List (V × PyData)} {R : List (Addr × HO)} {W : Wd} {j : Nat} (hj : j < 3) {Pv : Prop} (st : Sv K H0 A H (ws K W ++ R) T)
    (k : ∀ Z, (∀ {R' H' T' kv kt}, Sv K H0 A H' ([(W.c j, .ins (CA K) (W.x j) (caF (W.s j) (W.D j))), (W.D j, .dK kv), (W.t j, .dK kt)] ++ (Z ++ R')) T' → Sv K H0 A H' (ws K (setC W j kv kt) ++ R') T') →
      Sv K H0 A H ([(W.c j, .ins (CA K) (W.x j) (caF (W.s j) (W.D j))), (W.D j, .dK (W.kv j)), (W.t j, .dK (W.kt j))] ++ (Z ++ R)) T → Pv) : Pv := by
  have : j = 0 ∨ j = 1 ∨ j = 2 := by omega
  rcases this with rfl | rfl | rfl
  · exact k (ck K W 1 ++ (ck K W 2 ++ tw K W)) (fun st => st) st
  · refine k (ck K W 0 ++ (ck K W 2 ++ tw K W)) (fun {R' H' T' kv kt} st => ?_) ?_
    · have st : Sv K H0 A H' ((ck K (setC W 1 kv kt) 1 ++ (ck K W 0 ++ (ck K W 2 ++ tw K W))) ++ R') T' := st
      exact st.perm (L' := (ck K W 0 ++ (ck K (setC W 1 kv kt) 1 ++ (ck K W 2 ++ tw K W))) ++ R') ((perm1 _ _ _).symm.append_right R')
    · have st : Sv K H0 A H ((ck K W 0 ++ (ck K W 1 ++ (ck K W 2 ++ tw K W))) ++ R) T := st
      exact st.perm (L' := (ck K W 1 ++ (ck K W 0 ++ (ck K W 2 ++ tw K W))) ++ R) ((perm1 _ _ _).append_right R)
  · refine k (ck K W 0 ++ (ck K W 1 ++ tw K W)) (fun {R' H' T' kv kt} st => ?_) ?_
    · have st : Sv K H0 A H' ((ck K (setC W 2 kv kt) 2 ++ (ck K W 0 ++ (ck K W 1 ++ tw K W))) ++ R') T' := st
      exact st.perm (L' := (ck K W 0 ++ (ck K W 1 ++ (ck K (setC W 2 kv kt) 2 ++ tw K W))) ++ R') ((perm2 _ _ _ _).symm.append_right R')
    · have st : Sv K H0 A H ((ck K W 0 ++ (ck K W 1 ++ (ck K W 2 ++ tw K W))) ++ R) T := st
      exact st.perm (L' := (ck K W 2 ++ (ck K W 0 ++ (ck K W 1 ++ tw K W))) ++ R) ((perm2 _ _ _ _).append_right R)
def tb (W : Wd) : List (Addr × HO) := [(W.cl, .lst (r3 W.c)), (W.tl, .lst (r3 W.t)), (W.bl, .lst (r2' W.B)), (W.pl, .lst (r2' W.p)), (W.kl, .lst (b3 W.s))]
theorem perm3 {α : Type} (X Y Z U S : List α) : (U ++ (X ++ (Y ++ (Z ++ S)))).Perm (X ++ (Y ++ (Z ++ (U ++ S)))) := (perm1 X U _).trans ((perm2 Y Z U S).append_left X)
theorem perm4 {α : Type} (X Y Z V U S : List α) : (U ++ (X ++ (Y ++ (Z ++ (V ++ S))))).Perm (X ++ (Y ++ (Z ++ (V ++ (U ++ S))))) := (perm1 X U _).trans ((perm3 Y Z V U S).append_left X)
/-- .. a book and its page -/
theorem putB {H0 H : Hp} {A : List Addr} {T : List (V × PyData)} {R : List (Addr × HO)} {W : Wd} {j : Nat} (hj : j < 2) {Pv : Prop} (st : Sv K H0 A H (ws K W ++ R) T)
    (k : ∀ Z, (∀ {H' T' kr kp}, Sv K H0 A H' ([(W.B j, .ins (RE K) (W.y j) (reF (W.E j))), (W.E j, .dK kr), (W.p j, .dK kp)] ++ (Z ++ R)) T' → Sv K H0 A H' (ws K (setB W j kr kp) ++ R) T') →
      Sv K H0 A H ([(W.B j, .ins (RE K) (W.y j) (reF (W.E j))), (W.E j, .dK (W.kr j)), (W.p j, .dK (W.kp j))] ++ (Z ++ R)) T → Pv) : Pv := by
  have : j = 0 ∨ j = 1 := by omega
  rcases this with rfl | rfl
  · refine k (ck K W 0 ++ (ck K W 1 ++ (ck K W 2 ++ (bk K W 1 ++ tb W)))) (fun {H' T' kr kp} st => ?_) ?_
    · have st : Sv K H0 A H' ((bk K (setB W 0 kr kp) 0 ++ (ck K W 0 ++ (ck K W 1 ++ (ck K W 2 ++ (bk K W 1 ++ tb W))))) ++ R) T' := st
      exact st.perm (L' := (ck K W 0 ++ (ck K W 1 ++ (ck K W 2 ++ (bk K (setB W 0 kr kp) 0 ++ (bk K W 1 ++ tb W))))) ++ R) ((perm3 _ _ _ _ _).symm.append_right R)
    · have st : Sv K H0 A H ((ck K W 0 ++ (ck K W 1 ++ (ck K W 2 ++ (bk K W 0 ++ (bk K W 1 ++ tb W))))) ++ R) T := st
      exact st.perm (L' := (bk K W 0 ++ (ck K W 0 ++ (ck K W 1 ++ (ck K W 2 ++ (bk K W 1 ++ tb W))))) ++ R) ((perm3 _ _ _ _ _).append_right R)
  · refine k (ck K W 0 ++ (ck K W 1 ++ (ck K W 2 ++ (bk K W 0 ++ tb W)))) (fun {H' T' kr kp} st => ?_) ?_
    · have st : Sv K H0 A H' ((bk K (setB W 1 kr kp) 1 ++ (ck K W 0 ++ (ck K W 1 ++ (ck K W 2 ++ (bk K W 0 ++ tb W))))) ++ R) T' := st
      exact st.perm (L' := (ck K W 0 ++ (ck K W 1 ++ (ck K W 2 ++ (bk K W 0 ++ (bk K (setB W 1 kr kp) 1 ++ tb W))))) ++ R) ((perm4 _ _ _ _ _ _).symm.append_right R)
    · have st : Sv K H0 A H ((ck K W 0 ++ (ck K W 1 ++ (ck K W 2 ++ (bk K W 0 ++ (bk K W 1 ++ tb W))))) ++ R) T := st
      exact st.perm (L' := (bk K W 1 ++ (ck K W 0 ++ (ck K W 1 ++ (ck K W 2 ++ (bk K W 0 ++ tb W))))) ++ R) ((perm4 _ _ _ _ _ _).append_right R)
end
end Wk

namespace Wk
open PySem PySem.Spec PyProof.Rows L2
local macro_rules | `(tactic| walk_at "lk") => `(tactic| repeat (first | exact lk_nil | exact lk_here | refine lk_past ?_))
local macro_rules | `(tactic| walk_at "pf") => `(tactic| repeat (first | exact put_nil | exact put_here | refine put_past ?_))
local macro_rules | `(tactic| walk_at "nm") => `(tactic| try dsimp only [gNm, setK, uAdd, uSub, tNext, Option.getD, tC, uNe, uEq, uLe, uLt, uGe, uGt, uIs, uIsnt])
local macro_rules | `(tactic| walk_at "sub") => `(tactic| repeat first | exact List.nil_sublist _ | exact .slnil | apply List.Sublist.cons₂ | apply List.Sublist.cons)
local macro_rules | `(tactic| walk_at "ar") => `(tactic| first
  | decide
  | exact Nat.le_of_lt (sl_lt (by first | decide | omega))
  | exact .inl (.inr ⟨by first | decide | omega, by first | decide | omega⟩)
  | exact .inl (.inl ⟨by first | decide | omega, by first | decide | omega⟩)
  | exact .inl ⟨by first | decide | omega, by first | decide | omega⟩
  | exact ⟨by first | decide | omega, by first | decide | omega⟩
  | exact ⟨by first | decide | omega, by first | decide | omega, by first | decide | omega⟩
  | exact ⟨by first | decide | omega, by first | decide | omega, by first | decide | omega, by first | decide | omega⟩
  | exact ⟨by first | decide | omega, by first | decide | omega, by first | decide | omega, by first | decide | omega, by first | decide | omega⟩
  | omega
  | exact sl_lt (by omega))
local macro_rules | `(tactic| walk_at "g1") => `(tactic| refine And.intro (by walk_at "ar") ?_)
local macro_rules | `(tactic| walk_at "go") => `(tactic| repeat (refine And.intro (by walk_at "ar") ?_))
section
variable {P : Program} {w : World} {K : PySem.W.Frag} {mg : Str → Option Value} {base : Heap}

theorem Ln.setC2 {W : Wd} {n j : Nat} {kv kt : List (Key × V)} (h : Ln W n) (h1 : kv.length ≤ n) (h2 : kt.length ≤ n) : Ln (Wk.setC W j kv kt) n := ⟨fun i hi => by
  show (up1 W.kv j kv i).length ≤ _ ∧ (up1 W.kt j kt i).length ≤ _
  by_cases c : i = j
  · subst c
    rw [up1_self, up1_self]
    exact ⟨h1, h2⟩
  · rw [up1_ne c, up1_ne c]
    exact h.a i hi, h.b⟩
structure Same (W W' : Wd) : Prop where
  cl : W'.cl = W.cl
  tl : W'.tl = W.tl
  bl : W'.bl = W.bl
  pl : W'.pl = W.pl
  kl : W'.kl = W.kl
  s : W'.s = W.s
theorem Same.rfl {W : Wd} : Same W W := ⟨by rfl, by rfl, by rfl, by rfl, by rfl, by rfl⟩
theorem Same.trans {W W' W'' : Wd} (h : Same W W') (h' : Same W' W'') : Same W W'' := ⟨h'.cl.trans h.cl, h'.tl.trans h.tl, h'.bl.trans h.bl, h'.pl.trans h.pl, h'.kl.trans h.kl, h'.s.trans h.s⟩
structure SameB (W W' : Wd) : Prop extends Same W W' where
  B : W'.B = W.B
  p : W'.p = W.p
def FreeZ (W : Wd) (zs : List Str) : Prop := ∀ z ∈ zs, ∀ i, i < 2 → valV (W.kv i) (.inr z) = none
@[irreducible] def sp_crowded (K : PySem.W.Frag) : Sp7 := fun x0 x1 x2 x3 x4 x5 x6 H Q _ => ∃ (W : Wd) (cw : Addr) (zs : List Str) (m sh : Int) (n : Nat), x0 = .ref W.cl ∧ x1 = .ref W.tl ∧ x2 = .ref (W.B 0) ∧ x3 = .ref (W.p 0) ∧ x4 = .ref cw ∧ x5 = .int m ∧ x6 = .int sh ∧
  zs.Nodup ∧ zs.length ≤ 100 ∧ n ≤ 100 ∧ FreeZ W zs ∧ Ag K H W ∧ Ln W n ∧ Cells H (ws K W ++ [(cw, .lst (zs.map V.str))]) ∧
  ∀ H' W', Same W W' → Sv K H ((ws K W ++ [(cw, HO.lst (zs.map V.str))]).map Prod.fst) H' (ws K W' ++ [(cw, .lst (zs.map V.str))]) [] → Ag K H' W' → Ln W' (n + zs.length) → Q (.bl true) H'
theorem drop_at {zs : List Str} {k : Nat} (hk : k < zs.length) (hn : zs.Nodup) : ∀ z ∈ zs.drop (k + 1), z ∈ zs.drop k ∧ z ≠ zs[k] := fun z hz => by
  have e := List.drop_eq_getElem_cons hk
  have nd : (zs.drop k).Nodup := (List.drop_sublist k zs).nodup hn
  rw [e] at nd ⊢
  refine ⟨List.mem_cons_of_mem _ hz, fun q => ?_⟩
  rw [q] at hz
  exact (List.nodup_cons.mp nd).1 hz
theorem ok_crowded (e : Txt K mg) : Fok P w K mg base 2 (He.ga K "_law_crowded") ["caches", "tables", "book", "page", "crowd", "moment", "shift"] (mk7 (sp_crowded K)) := by
  refine der__law_crowded e (ok_Records_publish e) (ok_Cache_store e) (ok_is_truth e) fun a0 a1 a2 a3 a4 a5 a6 H Q E h => ?_
  unfold sp_crowded at h
  obtain ⟨W, cw, zs, m, sh, n, rfl, rfl, rfl, rfl, rfl, rfl, rfl, hnd, hzl, hn, hfr, hag, hln, hc, q⟩ := h
  generalize hA : (ws K W ++ [(cw, HO.lst (zs.map V.str))]).map Prod.fst = A at q
  have st : Sv K H A H (ws K W ++ [(cw, .lst (zs.map V.str))]) [] := hA ▸ hc.sv
  have crowdL : ∀ {H' W' T}, Sv K H A H' (ws K W' ++ [(cw, .lst (zs.map V.str))]) T → SqL K H' cw (zs.map V.str) := fun st => .inl (.inl (st.own (cw, _) (List.mem_append_right _ (by simp))).1)
  refine len_L (crowdL st) ?_
  simp only [List.length_map]
  refine ⟨by omega, ?_⟩
  refine forR0 (fun k σ H' => ∃ (W' : Wd) (T : List (V × PyData)) (x7 x8 x9 x10 x11 x12 x13 : Option V), σ = [some (.ref W.cl), some (.ref W.tl), some (.ref (W.B 0)), some (.ref (W.p 0)), some (.ref cw), some (.int m), some (.int sh), x7, x8, x9, x10, x11, x12, x13] ∧
    SameB W W' ∧ Ag K H' W' ∧ Ln W' (n + k) ∧ FreeZ W' (zs.drop k) ∧ Sv K H A H' (ws K W' ++ [(cw, .lst (zs.map V.str))]) T) ⟨W, [], none, none, none, none, none, none, none, rfl, ⟨Same.rfl, rfl, rfl⟩, hag, hln, hfr, st⟩ ?_ ?_
  · rintro k σ H1 hk ⟨W1, T, x7, x8, x9, x10, x11, x12, x13, rfl, same, ag, ln, fr, st⟩
    have hk : k < zs.length := by omega
    have hz := drop_at hk hnd
    have hzk : zs[k] ∈ zs.drop k := by
      rw [List.drop_eq_getElem_cons hk]
      exact List.mem_cons_self ..
    refine ix_L (crowdL st) ?_ (hv := at_pos (i := k) (by rw [List.getElem?_map, List.getElem?_eq_getElem hk]; rfl))
    generalize hzz : zs[k] = z at hz hzk
    walk_at "g1"
    walk_at "g1"
    walk_at "g1"
    generalize had : ((k : Int) + sh) % 16 = ad
    have hsp0 := Int.emod_nonneg ((k : Int) * 7 + sh) (show (60 : Int) ≠ 0 by decide)
    walk_at "nm"
    generalize hsp : (1 : Int) + ((k : Int) * 7 + sh) % 60 = sp
    have hsp1 : 1 ≤ sp := by omega
    have sto := st
    have st := st.root
    rw [← same.B, ← same.p]
    refine putB (j := 0) (by decide) st fun Z back st => ?_
    refine st.ins 0 ?_
    refine use_Records_publish (ad := some ad) st (.int ad) (by have := ln.b 0 (by decide); omega) fun H2 v st => ?_
    walk_at "nm"
    refine st.tup (.cons (.int ad) (.cons (.int sp) .nil)) fun v2 H3 st => ?_
    refine st.setK 2 (.inr z) ([(W1.B 0, .ins (RE K) (W1.y 0) (reF (W1.E 0))), (W1.E 0, .dK (putK (W1.kr 0) (.inr z) v)), (W1.p 0, .dK (putK (W1.kp 0) (.inr z) (.ref v2)))] ++ (Z ++ [(cw, .lst (zs.map V.str))])) (fun H4 st => ?_) (hn := by have := ln.b 0 (by decide); omega)
    have ag4 : Ag K H4 (setB W1 0 (putK (W1.kr 0) (.inr z) v) (putK (W1.kp 0) (.inr z) (.ref v2))) := (ag.mono st.tps).setB (((ag.mono st.tps).b 0 (by decide)).put (e := (some ad, sp)) (st.d 1 rfl) (st.d 0 rfl))
    have st := sto.back (back st)
    rw [same.B, same.p]
    have ln4 : Ln (setB W1 0 (putK (W1.kr 0) (.inr z) v) (putK (W1.kp 0) (.inr z) (.ref v2))) (n + k + 1) := ln.setB (by have := ln.b 0 (by decide); have := length_putK (W1.kr 0) (.inr z) v; omega) (by have := ln.b 0 (by decide); have := length_putK (W1.kp 0) (.inr z) (.ref v2); omega)
    refine ⟨by walk_at "ar", ?_⟩
    refine forR0 (fun j σ H' => ∃ (W' : Wd) (T : List (V × PyData)) (x11 x12 x13 : Option V), σ = [some (.ref W.cl), some (.ref W.tl), some (.ref (W.B 0)), some (.ref (W.p 0)), some (.ref cw), some (.int m), some (.int sh), some (.int k), some (.str z), some (.int ad), some (.int sp), x11, x12, x13] ∧
      SameB W W' ∧ Ag K H' W' ∧ Ln W' (n + k + 1) ∧ (∀ i, i < 2 → j ≤ i → valV (W'.kv i) (.inr z) = none ∧ (W'.kv i).length ≤ n + k ∧ (W'.kt i).length ≤ n + k) ∧ FreeZ W' (zs.drop (k + 1)) ∧ Sv K H A H' (ws K W' ++ [(cw, .lst (zs.map V.str))]) T)
      ⟨setB W1 0 (putK (W1.kr 0) (.inr z) v) (putK (W1.kp 0) (.inr z) (.ref v2)), _, _, _, _, rfl, ⟨⟨same.cl, same.tl, same.bl, same.pl, same.kl, same.s⟩, same.B, same.p⟩, ag4, ln4, fun i hi _ => ⟨fr z hzk i hi, (ln.a i (by omega)).1, (ln.a i (by omega)).2⟩, fun z' hz' i hi => fr z' (hz z' hz').1 i hi, st⟩ ?_ ?_
    · rintro j σ H5 hj ⟨W2, T2, x11, x12, x13, rfl, same, ag, ln, fj, fr, st⟩
      have hj : j < 2 := hj
      have sto := st
      have st := st.root
      have cl : SqL K H5 W.cl (r3 W2.c) := by
        rw [← same.cl]
        exact HC.cl fun q hq => (st.own q (List.mem_append_left _ hq)).1
      refine ix_L cl ?_ (hv := at3 (by omega))
      obtain ⟨f1, f2, f3⟩ := fj j hj (Nat.le_refl _)
      refine putC (j := j) (by omega) st fun Z back st => ?_
      refine st.ins 0 ?_
      refine st.tup (.cons (.int m) (.cons (.int sp) .nil)) fun v H6 st => ?_
      refine use_Cache_store (s := W2.s j) (ad := some ad) (og := some (m, sp)) (lk := none) st f1 (.int ad) (st.d 0 rfl) (by omega) fun H7 kv' st tp up => ?_
      have eb : began (W2.s j) m m = m := by
        unfold began
        cases W2.s j <;> rfl
      rw [eb] at up ⊢
      have eg : goes none m (m + sp) = true := by
        unfold goes
        rw [decide_eq_true (by omega)]
        rfl
      rw [eg] at up
      obtain ⟨v1, e1, d1⟩ := up
      have e1 : kv' = putK (W2.kv j) (.inr z) v1 := e1
      have d1 : Dt K H7 v1 (Ent.D ⟨some ad, m + sp, some (m, sp)⟩) := d1
      have st := st.addT d1
      rw [decide_eq_true (show m < m + sp by omega)]
      refine use_is_truth ?_
      walk_at "nm"
      have tl : SqL K H7 W.tl (r3 W2.t) := by
        rw [← same.tl]
        have hm : (W2.tl, HO.lst (r3 W2.t)) ∈ ws K (setC W2 j kv' (W2.kt j)) ++ [(cw, HO.lst (zs.map V.str))] := List.mem_append_left _ (ls_mem (W := setC W2 j kv' (W2.kt j)) (W2.tl, _) (by show _ ∈ [_, (W2.tl, HO.lst (r3 W2.t)), _, _, _]; simp))
        exact .inl (.inl ((back (kv := kv') (kt := W2.kt j) st).own _ hm).1)
      refine ix_L tl ?_ (hv := at3 (by omega))
      refine st.tup (.cons (.int m) (.cons (.int sp) .nil)) fun v3 H8 st => ?_
      refine st.tup (.cons (.int ad) (.cons (.int (m + sp)) (.cons (st.d 0 rfl) .nil))) fun v4 H9 st => ?_
      refine st.setK 2 (.inr z) ([(W2.c j, .ins (CA K) (W2.x j) (caF (W2.s j) (W2.D j))), (W2.D j, .dK kv')] ++ ((W2.t j, .dK (putK (W2.kt j) (.inr z) (.ref v4))) :: (Z ++ [(cw, .lst (zs.map V.str))]))) (fun H10 st => ?_) (hn := by omega)
      have ag5 : Agr K H10 kv' (putK (W2.kt j) (.inr z) (.ref v4)) := by
        rw [e1]
        exact ((ag.mono st.tps).a j (by omega)).put (e := ⟨some ad, m + sp, some (m, sp)⟩) (st.d 2 rfl) (st.d 0 rfl)
      have agW := (ag.mono st.tps).setC (j := j) ag5
      have st := sto.back (back st)
      refine ⟨setC W2 j kv' (putK (W2.kt j) (.inr z) (.ref v4)), _, _, _, _, rfl, ⟨⟨same.cl, same.tl, same.bl, same.pl, same.kl, same.s⟩, same.B, same.p⟩, agW, ?_, ?_, ?_, st⟩
      · refine ln.setC2 ?_ ?_
        · rw [e1]
          have := length_putK (W2.kv j) (.inr z) v1
          omega
        · have := length_putK (W2.kt j) (.inr z) (.ref v4)
          omega
      · intro i hi hji
        have hne : i ≠ j := by omega
        show valV (up1 W2.kv j kv' i) _ = none ∧ (up1 W2.kv j kv' i).length ≤ _ ∧ (up1 W2.kt j _ i).length ≤ _
        rw [up1_ne hne, up1_ne hne]
        exact fj i hi (by omega)
      · intro z' hz' i hi
        show valV (up1 W2.kv j kv' i) _ = none
        by_cases hne : i = j
        · subst hne
          rw [up1_self, e1, valV_put, if_neg (fun x => (hz z' hz').2 (Sum.inr.inj x))]
          exact fr z' hz' i hi
        · rw [up1_ne hne]
          exact fr z' hz' i hi
    · rintro σ H5 ⟨W2, T2, x11, x12, x13, rfl, same, ag, ln, _, fr, st⟩
      exact ⟨W2, T2, _, _, _, _, _, _, _, rfl, same, ag, ln, fr, st⟩
  · rintro σ H1 ⟨W1, T, x7, x8, x9, x10, x11, x12, x13, rfl, same, ag, ln, fr, st⟩
    have e : ((zs.length : Int)).toNat = zs.length := by omega
    rw [e] at ln
    exact q _ W1 same.toSame st.noT ag ln
theorem use_crowded {H0 H : Hp} {A : List Addr} {L : List (Addr × HO)} {T : List (V × PyData)} {x0 x1 x2 x3 x4 x5 x6 : V} {W : Wd} {cw : Addr} {zs : List Str} {m sh : Int} {n : Nat} {Q : VK} {E : XK}
    (st : Sv K H0 A H ((ws K W ++ [(cw, .lst (zs.map V.str))]) ++ L) T) (hnd : zs.Nodup) (hzl : zs.length ≤ 100) (hn : n ≤ 100) (fr : FreeZ W zs) (ag : Ag K H W) (ln : Ln W n)
    (q : ∀ H' W', Same W W' → Sv K H0 A H' ((ws K W' ++ [(cw, .lst (zs.map V.str))]) ++ L) T → Ag K H' W' → Ln W' (n + zs.length) → Q (.bl true) H')
    (e0 : x0 = .ref W.cl := by rfl) (e1 : x1 = .ref W.tl := by rfl) (e2 : x2 = .ref (W.B 0) := by rfl) (e3 : x3 = .ref (W.p 0) := by rfl) (e4 : x4 = .ref cw := by rfl) (e5 : x5 = .int m := by rfl) (e6 : x6 = .int sh := by rfl) : sp_crowded K x0 x1 x2 x3 x4 x5 x6 H Q E := by
  subst e0 e1 e2 e3 e4 e5 e6
  unfold sp_crowded
  exact ⟨W, cw, zs, m, sh, n, rfl, rfl, rfl, rfl, rfl, rfl, rfl, hnd, hzl, hn, fr, ag, ln, st.cellsF, fun H' W' a u g l => q H' W' a (st.call (T' := []) u) g l⟩
end
end Wk

namespace Wk
open PySem PySem.Spec PyProof.Rows L2
local macro_rules | `(tactic| walk_at "lk") => `(tactic| repeat (first | exact lk_nil | exact lk_here | refine lk_past ?_))
local macro_rules | `(tactic| walk_at "pf") => `(tactic| repeat (first | exact put_nil | exact put_here | refine put_past ?_))
local macro_rules | `(tactic| walk_at "nm") => `(tactic| try dsimp only [gNm, setK, uAdd, uSub, tNext, Option.getD, tC, uNe, uEq, uLe, uLt, uGe, uGt, uIs, uIsnt])
local macro_rules | `(tactic| walk_at "sub") => `(tactic| repeat first | exact List.nil_sublist _ | exact .slnil | apply List.Sublist.cons₂ | apply List.Sublist.cons)
local macro_rules | `(tactic| walk_at "ar") => `(tactic| first
  | decide
  | exact Nat.le_of_lt (sl_lt (by first | decide | omega))
  | exact .inl (.inr ⟨by first | decide | omega, by first | decide | omega⟩)
  | exact .inl (.inl ⟨by first | decide | omega, by first | decide | omega⟩)
  | exact .inl ⟨by first | decide | omega, by first | decide | omega⟩
  | exact ⟨by first | decide | omega, by first | decide | omega⟩
  | exact ⟨by first | decide | omega, by first | decide | omega, by first | decide | omega⟩
  | exact ⟨by first | decide | omega, by first | decide | omega, by first | decide | omega, by first | decide | omega⟩
  | exact ⟨by first | decide | omega, by first | decide | omega, by first | decide | omega, by first | decide | omega, by first | decide | omega⟩
  | omega
  | exact sl_lt (by omega))
local macro_rules | `(tactic| walk_at "g1") => `(tactic| refine And.intro (by walk_at "ar") ?_)
local macro_rules | `(tactic| walk_at "go") => `(tactic| repeat (refine And.intro (by walk_at "ar") ?_))
section
variable {P : Program} {w : World} {K : PySem.W.Frag} {mg : Str → Option Value} {base : Heap}

def setD (W : Wd) (j : Nat) (D t : Addr) : Wd := { W with D := up1 W.D j D, t := up1 W.t j t, kv := up1 W.kv j [], kt := up1 W.kt j [] }
theorem Ag.setD {H : Hp} {W : Wd} {j : Nat} {D t : Addr} (h : Ag K H W) : Ag K H (setD W j D t) := ⟨fun i hi => by
  show Agr K H (up1 W.kv j [] i) (up1 W.kt j [] i)
  by_cases c : i = j
  · subst c
    rw [up1_self, up1_self]
    exact fun z => ⟨none, by rfl, by rfl⟩
  · rw [up1_ne c, up1_ne c]
    exact h.a i hi, h.b⟩
theorem Ln.setD {W : Wd} {n j : Nat} {D t : Addr} (h : Ln W n) : Ln (setD W j D t) (n + 1) := ⟨fun i hi => by
  show (up1 W.kv j [] i).length ≤ _ ∧ (up1 W.kt j [] i).length ≤ _
  by_cases c : i = j
  · subst c
    rw [up1_self, up1_self]
    exact ⟨Nat.zero_le _, Nat.zero_le _⟩
  · rw [up1_ne c, up1_ne c]
    have := h.a i hi
    omega, fun i hi => by
  have : (W.kr i).length ≤ n ∧ (W.kp i).length ≤ n := h.b i hi
  exact ⟨by show (W.kr i).length ≤ _; omega, by show (W.kp i).length ≤ _; omega⟩⟩
def tcl (W : Wd) : List (Addr × HO) := [(W.cl, .lst (r3 W.c))]
def tu (W : Wd) : List (Addr × HO) := [(W.bl, .lst (r2' W.B)), (W.pl, .lst (r2' W.p)), (W.kl, .lst (b3 W.s))]
/-- a cache, its table and the list of the tables come to the front; a new dict and a new table go back -/
theorem putDl {H0 H : Hp} {A : List Addr} {T : List (V × PyData)} {R : List (Addr × HO)} {W : Wd} {j : Nat} (hj : j < 3) {Pv : Prop} (st : Sv K H0 A H (ws K W ++ R) T)
    (k : ∀ Z, (∀ {H' T' D t}, Sv K H0 A H' ([(W.c j, .ins (CA K) (W.x j) (caF (W.s j) D)), (D, .dK []), (t, .dK []), (W.tl, .lst (r3 (up1 W.t j t)))] ++ (Z ++ R)) T' → Sv K H0 A H' (ws K (setD W j D t) ++ R) T') →
      Sv K H0 A H ([(W.c j, .ins (CA K) (W.x j) (caF (W.s j) (W.D j))), (W.D j, .dK (W.kv j)), (W.t j, .dK (W.kt j)), (W.tl, .lst (r3 W.t))] ++ (Z ++ R)) T → Pv) : Pv := by
  have mid : ∀ (X Y U : List (Addr × HO)) (a : Addr × HO), (X ++ (a :: (Y ++ U))).Perm (X ++ (Y ++ a :: U)) := fun X Y U a => List.perm_middle.symm.append_left X
  have : j = 0 ∨ j = 1 ∨ j = 2 := by omega
  rcases this with rfl | rfl | rfl
  · refine k ((ck K W 1 ++ (ck K W 2 ++ (bk K W 0 ++ (bk K W 1 ++ tcl W)))) ++ tu W) (fun {H' T' D t} st => ?_) ?_
    · exact st.perm ((mid (ck K (setD W 0 D t) 0) (ck K W 1 ++ (ck K W 2 ++ (bk K W 0 ++ (bk K W 1 ++ tcl W)))) (tu W) (W.tl, .lst (r3 (up1 W.t 0 t)))).symm.append_right R)
    · exact st.perm ((mid (ck K W 0) (ck K W 1 ++ (ck K W 2 ++ (bk K W 0 ++ (bk K W 1 ++ tcl W)))) (tu W) (W.tl, .lst (r3 W.t))).append_right R)
  · refine k ((ck K W 0 ++ (ck K W 2 ++ (bk K W 0 ++ (bk K W 1 ++ tcl W)))) ++ tu W) (fun {H' T' D t} st => ?_) ?_
    · have st := st.perm ((mid (ck K (setD W 1 D t) 1) (ck K W 0 ++ (ck K W 2 ++ (bk K W 0 ++ (bk K W 1 ++ tcl W)))) (tu W) (W.tl, .lst (r3 (up1 W.t 1 t)))).symm.append_right R)
      exact st.perm (L' := (ck K W 0 ++ (ck K (setD W 1 D t) 1 ++ (ck K W 2 ++ tw K (setD W 1 D t)))) ++ R) ((perm1 _ _ _).symm.append_right R)
    · have st := st.perm (L' := (ck K W 1 ++ (ck K W 0 ++ (ck K W 2 ++ tw K W))) ++ R) ((perm1 (ck K W 0) (ck K W 1) (ck K W 2 ++ tw K W)).append_right R)
      exact st.perm ((mid (ck K W 1) (ck K W 0 ++ (ck K W 2 ++ (bk K W 0 ++ (bk K W 1 ++ tcl W)))) (tu W) (W.tl, .lst (r3 W.t))).append_right R)
  · refine k ((ck K W 0 ++ (ck K W 1 ++ (bk K W 0 ++ (bk K W 1 ++ tcl W)))) ++ tu W) (fun {H' T' D t} st => ?_) ?_
    · have st := st.perm ((mid (ck K (setD W 2 D t) 2) (ck K W 0 ++ (ck K W 1 ++ (bk K W 0 ++ (bk K W 1 ++ tcl W)))) (tu W) (W.tl, .lst (r3 (up1 W.t 2 t)))).symm.append_right R)
      exact st.perm (L' := (ck K W 0 ++ (ck K W 1 ++ (ck K (setD W 2 D t) 2 ++ tw K (setD W 2 D t)))) ++ R) ((perm2 _ _ _ _).symm.append_right R)
    · have st := st.perm (L' := (ck K W 2 ++ (ck K W 0 ++ (ck K W 1 ++ tw K W))) ++ R) ((perm2 (ck K W 0) (ck K W 1) (ck K W 2) (tw K W)).append_right R)
      exact st.perm ((mid (ck K W 2) (ck K W 0 ++ (ck K W 1 ++ (bk K W 0 ++ (bk K W 1 ++ tcl W)))) (tu W) (W.tl, .lst (r3 W.t))).append_right R)
@[irreducible] def sp_deed (K : PySem.W.Frag) : Sp9 := fun x0 x1 x2 x3 x4 x5 x6 x7 x8 H Q _ => ∃ (b : Addr) (c d : Int) (W : Wd) (i : Nat) (z : Str) (m : Int) (n : Nat), x0 = .ref b ∧ x1 = .ref W.cl ∧ x2 = .ref W.kl ∧ x3 = .ref W.tl ∧ x4 = .ref W.bl ∧ x5 = .ref W.pl ∧ x6 = .int i ∧ x7 = .str z ∧ x8 = .int m ∧
  i < 3 ∧ 0 ≤ m ∧ m ≤ 1000 ∧ n < 900 ∧ Ag K H W ∧ Ln W n ∧ Cells H (ws K W ++ bx b c d) ∧
  ∀ H' W' c' d', Same W W' → Sv K H ((ws K W ++ bx b c d).map Prod.fst) H' (ws K W' ++ bx b c' d') [] → Ag K H' W' → Ln W' (n + 1) → Q (.bl true) H'
theorem ok_deed (e : Txt K mg) : Fok P w K mg base 4 (He.ga K "_law_deed") ["box", "caches", "kinds", "tables", "books", "pages", "which", "word", "moment"] (mk9 (sp_deed K)) := by
  refine der__law_deed e (ok_draw e) (ok_given e) (ok_address e) (ok_Records_publish e) (ok_Cache_clear_all e) fun a0 a1 a2 a3 a4 a5 a6 a7 a8 H Q E h => ?_
  unfold sp_deed at h
  obtain ⟨b, c, d, W, i, z, m, n, rfl, rfl, rfl, rfl, rfl, rfl, rfl, rfl, rfl, hi, hm0, hm1, hn, ag, ln, hc, q⟩ := h
  generalize hA : (ws K W ++ bx b c d).map Prod.fst = A at q
  have st : Sv K H A H (ws K W ++ bx b c d) [] := hA ▸ hc.sv
  have st : Sv K H A H (bx b c d ++ (ws K W ++ [])) [] := st.perm (by rw [List.append_nil]; exact List.perm_append_comm)
  refine use_draw st fun H1 c d f f0 f1 st => ?_
  walk_at "nm"
  refine iteD (fun hr => ?_) (fun hr => ?_)
  · refine use_address st fun H2 c d ad st => ?_
    refine use_draw st fun H2 c d sp s0 s1 st => ?_
    walk_at "nm"
    walk_at "g1"
    have e2 : ((i : Int) % 2) = ((i % 2 : Nat) : Int) := by omega
    rw [e2]
    have hi2 : i % 2 < 2 := Nat.mod_lt _ (by decide)
    generalize i % 2 = g at hi2
    refine ix_L st.hc.bl ?_ (hv := at2 hi2)
    have st := st.perm (L' := ws K W ++ (bx b c d ++ [])) (perm1 _ _ _)
    refine putB hi2 st fun Z back st => ?_
    refine st.ins 0 ?_
    refine use_Records_publish st (dt_ad _ ad) (by have := ln.b g hi2; omega) fun H3 v st => ?_
    walk_at "nm"
    have hc3 : HC K H3 (setB W g (putK (W.kr g) (.inr z) v) (W.kp g)) := fun q hq => ((back (kr := putK (W.kr g) (.inr z) v) (kp := W.kp g) st).own q (List.mem_append_left _ hq)).1
    have hpl : SqL K H3 W.pl (r2' W.p) := hc3.pl
    refine ix_L hpl ?_ (hv := at2 hi2)
    refine st.tup (.cons (dt_ad _ ad) (.cons (.int (1 + sp)) .nil)) fun v2 H4 st => ?_
    refine st.setK 2 (.inr z) ([(W.B g, .ins (RE K) (W.y g) (reF (W.E g))), (W.E g, .dK (putK (W.kr g) (.inr z) v)), (W.p g, .dK (putK (W.kp g) (.inr z) (.ref v2)))] ++ (Z ++ (bx b c d ++ []))) (fun H5 st => ?_) (hn := by have := ln.b g hi2; omega)
    have agb : AgR K H5 (putK (W.kr g) (.inr z) v) (putK (W.kp g) (.inr z) (.ref v2)) := ((ag.mono st.tps).b g hi2).put (e := (ad, 1 + sp)) (st.d 1 rfl) (st.d 0 rfl)
    refine q _ _ c d ?_ (back st).noT ((ag.mono st.tps).setB agb) (ln.setB ?_ ?_)
    · exact ⟨by rfl, by rfl, by rfl, by rfl, by rfl, by rfl⟩
    · have := ln.b g hi2
      have := length_putK (W.kr g) (.inr z) v
      omega
    · have := ln.b g hi2
      have := length_putK (W.kp g) (.inr z) (.ref v2)
      omega
  · refine iteD (fun hr => ?_) (fun hr => ?_)
    · have st := st.perm (L' := ws K W ++ (bx b c d ++ [])) (perm1 _ _ _)
      have hc1 : HC K H1 W := fun q hq => (st.own q (List.mem_append_left _ hq)).1
      refine ix_L hc1.cl ?_ (hv := at3 hi)
      refine putDl hi st fun Z back st => ?_
      refine st.ins 0 ?_
      refine use_Cache_clear_all (s := W.s i) (D := W.D i) (dx := W.x i) st fun H2 D st => ?_
      walk_at "nm"
      refine st.nwK fun t H3 st => ?_
      have hii : (r3 W.t).set i (.ref t) = r3 (up1 W.t i t) := by
        have : i = 0 ∨ i = 1 ∨ i = 2 := by omega
        rcases this with rfl | rfl | rfl <;> rfl
      have hij : ixN (r3 W.t).length (i : Int) = some i := by
        have : i = 0 ∨ i = 1 ∨ i = 2 := by omega
        rcases this with rfl | rfl | rfl <;> rfl
      refine st.setI 5 ((t, .dK []) :: (W.c i, .ins (CA K) (W.x i) (caF (W.s i) D)) :: (D, .dK []) :: (W.D i, .dK (W.kv i)) :: (W.t i, .dK (W.kt i)) :: (W.tl, .lst ((r3 W.t).set i (.ref t))) :: (Z ++ (bx b c d ++ []))) (fun H4 st => ?_) (hj := hij)
      rw [hii] at st
      have st := st.sub (L' := (t, .dK []) :: (W.c i, .ins (CA K) (W.x i) (caF (W.s i) D)) :: (D, .dK []) :: (W.tl, .lst (r3 (up1 W.t i t))) :: (Z ++ (bx b c d ++ []))) (.cons₂ _ (.cons₂ _ (.cons₂ _ (.cons _ (.cons _ (.cons₂ _ (List.Sublist.refl _)))))))
      have st := st.perm (L' := (W.c i, .ins (CA K) (W.x i) (caF (W.s i) D)) :: (D, .dK []) :: (t, .dK []) :: (W.tl, .lst (r3 (up1 W.t i t))) :: (Z ++ (bx b c d ++ []))) (((List.Perm.swap _ _ _).cons _).trans (List.Perm.swap _ _ _))
      exact q _ (setD W i D t) c d ⟨by rfl, by rfl, by rfl, by rfl, by rfl, by rfl⟩ (back st).noT ((ag.mono st.tps).setD) ln.setD
    · refine ix_L st.hc.cl ?_ (hv := at3 hi)
      refine ix_L st.hc.tl ?_ (hv := at3 hi)
      refine ix_L st.hc.kl ?_ (hv := atb hi)
      have st := st.perm (L' := ws K W ++ (bx b c d ++ [])) (perm1 _ _ _)
      refine putC hi st fun Z back st => ?_
      have l1 := ln.a i hi
      have st := st.perm (L' := bx b c d ++ ([(W.c i, .ins (CA K) (W.x i) (caF (W.s i) (W.D i))), (W.D i, .dK (W.kv i)), (W.t i, .dK (W.kt i))] ++ (Z ++ []))) (perm2 _ _ _ _)
      refine use_given (s := W.s i) st ((ag.mono st.tps).a i hi) hm0 hm1 (by omega) (by omega) fun H2 c d kv kt st tp ag2 k1 k2 => ?_
      have st := st.perm (L' := [(W.c i, .ins (CA K) (W.x i) (caF (W.s i) (W.D i))), (W.D i, .dK kv), (W.t i, .dK kt)] ++ (Z ++ (bx b c d ++ []))) (perm2 (α := Addr × HO) [(W.c i, .ins (CA K) (W.x i) (caF (W.s i) (W.D i))), (W.D i, .dK kv), (W.t i, .dK kt)] Z (bx b c d) []).symm
      exact q _ (setC W i kv kt) c d ⟨by rfl, by rfl, by rfl, by rfl, by rfl, by rfl⟩ (back st).noT ((ag.mono st.tps).setC ag2) (ln.setC (by omega) (by omega))
theorem use_deed {H0 H : Hp} {A : List Addr} {L : List (Addr × HO)} {T : List (V × PyData)} {x0 x1 x2 x3 x4 x5 x6 x7 x8 : V} {b : Addr} {c d : Int} {W : Wd} {i : Nat} {z : Str} {m : Int} {n : Nat} {Q : VK} {E : XK}
    (st : Sv K H0 A H ((ws K W ++ bx b c d) ++ L) T) (hi : i < 3) (h0 : 0 ≤ m) (h1 : m ≤ 1000) (hn : n < 900) (ag : Ag K H W) (ln : Ln W n)
    (q : ∀ H' W' c' d', Same W W' → Sv K H0 A H' ((ws K W' ++ bx b c' d') ++ L) T → Ag K H' W' → Ln W' (n + 1) → Q (.bl true) H')
    (e0 : x0 = .ref b := by rfl) (e1 : x1 = .ref W.cl := by rfl) (e2 : x2 = .ref W.kl := by rfl) (e3 : x3 = .ref W.tl := by rfl) (e4 : x4 = .ref W.bl := by rfl) (e5 : x5 = .ref W.pl := by rfl) (e6 : x6 = .int i := by rfl) (e7 : x7 = .str z := by rfl) (e8 : x8 = .int m := by rfl) : sp_deed K x0 x1 x2 x3 x4 x5 x6 x7 x8 H Q E := by
  subst e0 e1 e2 e3 e4 e5 e6 e7 e8
  unfold sp_deed
  exact ⟨b, c, d, W, i, z, m, n, rfl, rfl, rfl, rfl, rfl, rfl, rfl, rfl, rfl, hi, h0, h1, hn, ag, ln, st.cellsF, fun H' W' c' d' a u g l => q H' W' c' d' a (st.call (T' := []) u) g l⟩
end
end Wk

namespace Wk
open PySem PySem.Spec PyProof.Rows L2
local macro_rules | `(tactic| walk_at "lk") => `(tactic| repeat (first | exact lk_nil | exact lk_here | refine lk_past ?_))
local macro_rules | `(tactic| walk_at "pf") => `(tactic| repeat (first | exact put_nil | exact put_here | refine put_past ?_))
local macro_rules | `(tactic| walk_at "nm") => `(tactic| try dsimp only [gNm, setK, uAdd, uSub, tNext, Option.getD, tC, uNe, uEq, uLe, uLt, uGe, uGt, uIs, uIsnt])
local macro_rules | `(tactic| walk_at "sub") => `(tactic| repeat first | exact List.nil_sublist _ | exact .slnil | apply List.Sublist.cons₂ | apply List.Sublist.cons)
local macro_rules | `(tactic| walk_at "ar") => `(tactic| first
  | decide
  | exact Nat.le_of_lt (sl_lt (by first | decide | omega))
  | exact .inl (.inr ⟨by first | decide | omega, by first | decide | omega⟩)
  | exact .inl (.inl ⟨by first | decide | omega, by first | decide | omega⟩)
  | exact .inl ⟨by first | decide | omega, by first | decide | omega⟩
  | exact ⟨by first | decide | omega, by first | decide | omega⟩
  | exact ⟨by first | decide | omega, by first | decide | omega, by first | decide | omega⟩
  | exact ⟨by first | decide | omega, by first | decide | omega, by first | decide | omega, by first | decide | omega⟩
  | exact ⟨by first | decide | omega, by first | decide | omega, by first | decide | omega, by first | decide | omega, by first | decide | omega⟩
  | omega
  | exact sl_lt (by omega))
local macro_rules | `(tactic| walk_at "g1") => `(tactic| refine And.intro (by walk_at "ar") ?_)
local macro_rules | `(tactic| walk_at "go") => `(tactic| repeat (refine And.intro (by walk_at "ar") ?_))
section
variable {P : Program} {w : World} {K : PySem.W.Frag} {mg : Str → Option Value} {base : Heap}

def f3 {α : Type} (a b c : α) : Nat → α := fun i => if i = 0 then a else if i = 1 then b else c
def f2 {α : Type} (a b : α) : Nat → α := fun i => if i = 0 then a else b
theorem at_str {zs : List Str} {i : Int} (h0 : 0 ≤ i) (h1 : i < zs.length) : ∃ z, zs[i.toNat]? = some z ∧ atI (zs.map V.str) i = some (.str z) := by
  obtain ⟨k, rfl⟩ : ∃ k : Nat, i = k := ⟨i.toNat, by omega⟩
  have hk : k < zs.length := by omega
  refine ⟨zs[k], by simp [hk], at_pos ?_⟩
  rw [List.getElem?_map, List.getElem?_eq_getElem hk]
  rfl
theorem map_str {zs : List Str} {i : Nat} {x : V} (h : (zs.map V.str)[i]? = some x) : ∃ z, x = .str z := by
  rw [List.getElem?_map] at h
  cases e : zs[i]? with
  | none => rw [e] at h; cases h
  | some z => rw [e] at h; exact ⟨z, (Option.some.inj h).symm⟩
def az (i : Nat) : Nat := (("abcdefghijklmnopqrstuvwxyz" : Str).cps.toList[i]?).getD 0
def cw2 (k : Nat) : Str := (⟨#[az (k % 26)]⟩ : Str) ++ (⟨#[az (k / 26)]⟩ : Str)
def crowdL : List Str := (List.range 70).map cw2
theorem crowd_nodup : crowdL.Nodup := by decide +kernel
theorem az_of {i c : Nat} (h : ("abcdefghijklmnopqrstuvwxyz" : Str).cps.toList[i]? = some c) : c = az i := by
  unfold az
  rw [h]
  rfl
theorem use_lboxT {H0 H : Hp} {A : List Addr} {L : List (Addr × HO)} {T : List (V × PyData)} {x y : V} {a : Addr} {ns : List Int} {k : Nat} {Q : VK} {E : XK} (st : Sv K H0 A H L T) (h1 : SqL K H a (ns.map V.int)) (hl : ns.length ≤ 63)
    (q : ∀ H' b c d, Sv K H0 A H' (bx b c d ++ L) T → Tp H H' → Q (.ref b) H') (ex : x = .ref a := by rfl) (ey : y = .int k := by rfl) (hk : k < 1000 := by omega) : sp_lbox K x y H Q E := by
  subst ex ey
  unfold sp_lbox
  exact ⟨a, ns, k, rfl, rfl, h1, hl, hk, fun H' b c d u => q H' b c d (st.call0 u) u.tps⟩
def Lc (K : PySem.W.Frag) (W : Wd) (cw wl : Addr) (zs ys : List Str) : List (Addr × HO) := (ws K W ++ [(cw, .lst (zs.map V.str))]) ++ [(wl, .lst (ys.map V.str))]
theorem Lc_hc {H0 H : Hp} {A : List Addr} {W : Wd} {cw wl : Addr} {zs ys : List Str} {L R : List (Addr × HO)} {T : List (V × PyData)} (st : Sv K H0 A H (L ++ (Lc K W cw wl zs ys ++ R)) T) : HC K H W := fun q hq => (st.own q (List.mem_append_right _ (List.mem_append_left _ (List.mem_append_left _ (List.mem_append_left _ hq))))).1
theorem Lc_wl {H0 H : Hp} {A : List Addr} {W : Wd} {cw wl : Addr} {zs ys : List Str} {L R : List (Addr × HO)} {T : List (V × PyData)} (st : Sv K H0 A H (L ++ (Lc K W cw wl zs ys ++ R)) T) : H wl = some (.lst (ys.map V.str)) := (st.own (wl, _) (List.mem_append_right _ (List.mem_append_left _ (List.mem_append_right _ (by simp))))).1
theorem Lc_cw {H0 H : Hp} {A : List Addr} {W : Wd} {cw wl : Addr} {zs ys : List Str} {L R : List (Addr × HO)} {T : List (V × PyData)} (st : Sv K H0 A H (L ++ (Lc K W cw wl zs ys ++ R)) T) : H cw = some (.lst (zs.map V.str)) := (st.own (cw, _) (List.mem_append_right _ (List.mem_append_left _ (List.mem_append_left _ (List.mem_append_right _ (by simp)))))).1
@[irreducible] def sp_law (K : PySem.W.Frag) : Sp1 := fun x0 H Q _ => ∃ (a : Addr) (ns : List Int), x0 = .ref a ∧ SqL K H a (ns.map V.int) ∧ ns.length ≤ 63 ∧ ∀ H', Q (.bl true) H'
theorem ok_law (e : Txt K mg) : Fok P w K mg base 5 (He.ga K "law") ["script"] (mk1 (sp_law K)) := by
  refine der_law e (ok_lbox e) (ok_draw e) (ok_all e) (ok_Cache_init e) (ok_Records_init e) (ok_word e) (ok_crowded e) (ok_moved e) (ok_near e) (ok_deed e) (ok_found e) fun a0 H Q E h => ?_
  unfold sp_law at h
  obtain ⟨a, ns, rfl, hS, hl, q⟩ := h
  have st : Sv K H [] H [] [] := Sv.start0
  refine use_lbox (k := 0) st hS hl fun H1 b c d st => ?_
  refine use_draw st fun H1 c d m m0 m1 st => ?_
  refine use_draw st fun H1 c d y _ _ st => ?_
  walk_at "nm"
  generalize decide (y = 1) = s0
  refine st.lst fun kl H2 st => ?_
  refine use_draw (st.perm (L' := bx b c d ++ [(kl, .lst [.bl s0, .bl (!s0), .bl s0])]) List.perm_middle) fun H1 c d n n0 n1 st => ?_
  walk_at "nm"
  -- the caches
  refine lcS (xs := [.bl s0, .bl (!s0), .bl s0]) (fun l k H' => match k with
      | 0 => Sv K H [] H' ((l, .lst []) :: (bx b c d ++ [(kl, .lst [.bl s0, .bl (!s0), .bl s0])])) []
      | 1 => ∃ c0 D0 x0, Sv K H [] H' ((l, .lst [.ref c0]) :: (c0, .ins (CA K) x0 (caF s0 D0)) :: (D0, .dK []) :: (bx b c d ++ [(kl, .lst [.bl s0, .bl (!s0), .bl s0])])) []
      | 2 => ∃ c0 D0 x0 c1 D1 x1, Sv K H [] H' ((l, .lst [.ref c0, .ref c1]) :: (c1, .ins (CA K) x1 (caF (!s0) D1)) :: (D1, .dK []) :: (c0, .ins (CA K) x0 (caF s0 D0)) :: (D0, .dK []) :: (bx b c d ++ [(kl, .lst [.bl s0, .bl (!s0), .bl s0])])) []
      | _ => ∃ c0 D0 x0 c1 D1 x1 c2 D2 x2, Sv K H [] H' ((l, .lst [.ref c0, .ref c1, .ref c2]) :: (c2, .ins (CA K) x2 (caF s0 D2)) :: (D2, .dK []) :: (c1, .ins (CA K) x1 (caF (!s0) D1)) :: (D1, .dK []) :: (c0, .ins (CA K) x0 (caF s0 D0)) :: (D0, .dK []) :: (bx b c d ++ [(kl, .lst [.bl s0, .bl (!s0), .bl s0])])) [])
    (st.sq 1 rfl) (fun l hl => st.new hl _) ?_ ?_ ?_
  · rintro l k H3 hk h
    match k, hk, h with
    | 0, _, st => exact st.sq 2 rfl
    | 1, _, ⟨_, _, _, st⟩ => exact st.sq 4 rfl
    | 2, _, ⟨_, _, _, _, _, _, st⟩ => exact st.sq 6 rfl
    | 3, _, ⟨_, _, _, _, _, _, _, _, _, st⟩ => exact st.sq 8 rfl
  · rintro l k x H3 hx h
    have hk : k < 3 := (List.getElem?_eq_some_iff.mp hx).1
    match k, hx, h, hk with
    | 0, hx, st, _ =>
      have := Option.some.inj hx
      subst this
      refine st.make fun x dx H4 st => ?_
      refine use_Cache_init (s := s0) st fun H5 D st => ?_
      refine ⟨rfl, ?_⟩
      refine st.lcEnd (R := fun H' => ∃ c0 D0 x0, Sv K H [] H' ((l, .lst [.ref c0]) :: (c0, .ins (CA K) x0 (caF s0 D0)) :: (D0, .dK []) :: (bx b c d ++ [(kl, .lst [.bl s0, .bl (!s0), .bl s0])])) []) 3 rfl (by simp) ((x, .ins (CA K) dx (caF s0 D)) :: (D, .dK []) :: (dx, .own x) :: (l, .lst [.ref x]) :: (bx b c d ++ [(kl, .lst [.bl s0, .bl (!s0), .bl s0])])) fun H6 st => ?_
      exact ⟨x, D, dx, (st.sub (.cons₂ _ (.cons₂ _ (.cons _ (.refl _))))).pull 2 rfl⟩
    | 1, hx, ⟨c0, D0, x0, st⟩, _ =>
      have := Option.some.inj hx
      subst this
      refine st.make fun x dx H4 st => ?_
      refine use_Cache_init (s := !s0) st fun H5 D st => ?_
      refine ⟨rfl, ?_⟩
      refine st.lcEnd (R := fun H' => ∃ c0 D0 x0 c1 D1 x1, Sv K H [] H' ((l, .lst [.ref c0, .ref c1]) :: (c1, .ins (CA K) x1 (caF (!s0) D1)) :: (D1, .dK []) :: (c0, .ins (CA K) x0 (caF s0 D0)) :: (D0, .dK []) :: (bx b c d ++ [(kl, .lst [.bl s0, .bl (!s0), .bl s0])])) []) 3 rfl (by simp) ((x, .ins (CA K) dx (caF (!s0) D)) :: (D, .dK []) :: (dx, .own x) :: (l, .lst [.ref c0, .ref x]) :: (c0, .ins (CA K) x0 (caF s0 D0)) :: (D0, .dK []) :: (bx b c d ++ [(kl, .lst [.bl s0, .bl (!s0), .bl s0])])) fun H6 st => ?_
      exact ⟨c0, D0, x0, x, D, dx, (st.sub (.cons₂ _ (.cons₂ _ (.cons _ (.refl _))))).pull 2 rfl⟩
    | 2, hx, ⟨c0, D0, x0, c1, D1, x1, st⟩, _ =>
      have := Option.some.inj hx
      subst this
      refine st.make fun x dx H4 st => ?_
      refine use_Cache_init (s := s0) st fun H5 D st => ?_
      refine ⟨rfl, ?_⟩
      refine st.lcEnd (R := fun H' => ∃ c0 D0 x0 c1 D1 x1 c2 D2 x2, Sv K H [] H' ((l, .lst [.ref c0, .ref c1, .ref c2]) :: (c2, .ins (CA K) x2 (caF s0 D2)) :: (D2, .dK []) :: (c1, .ins (CA K) x1 (caF (!s0) D1)) :: (D1, .dK []) :: (c0, .ins (CA K) x0 (caF s0 D0)) :: (D0, .dK []) :: (bx b c d ++ [(kl, .lst [.bl s0, .bl (!s0), .bl s0])])) []) 3 rfl (by simp) ((x, .ins (CA K) dx (caF s0 D)) :: (D, .dK []) :: (dx, .own x) :: (l, .lst [.ref c0, .ref c1, .ref x]) :: (c1, .ins (CA K) x1 (caF (!s0) D1)) :: (D1, .dK []) :: (c0, .ins (CA K) x0 (caF s0 D0)) :: (D0, .dK []) :: (bx b c d ++ [(kl, .lst [.bl s0, .bl (!s0), .bl s0])])) fun H6 st => ?_
      exact ⟨c0, D0, x0, c1, D1, x1, x, D, dx, (st.sub (.cons₂ _ (.cons₂ _ (.cons _ (.refl _))))).pull 2 rfl⟩
  · rintro cl H3 ⟨c0, D0, x0, c1, D1, x1, c2, D2, x2, st⟩
    walk_at "nm"
    refine st.nwK fun t0 H4 st => ?_
    refine st.nwK fun t1 H4 st => ?_
    refine st.nwK fun t2 H4 st => ?_
    refine st.lst fun tl H4 st => ?_
    walk_at "nm"
    refine st.make fun B0 y0 H5 st => ?_
    refine use_Records_init st fun H5 E0 st => ?_
    refine ⟨rfl, ?_⟩
    refine st.make fun B1 y1 H5 st => ?_
    refine use_Records_init st fun H5 E1 st => ?_
    refine ⟨rfl, ?_⟩
    refine st.lst fun bl H4 st => ?_
    walk_at "nm"
    refine st.nwK fun p0 H4 st => ?_
    refine st.nwK fun p1 H4 st => ?_
    refine st.lst fun pl H6 st => ?_
    walk_at "nm"
    have st : Sv K H [] H6 [(pl, .lst [.ref p0, .ref p1]), (p1, .dK []), (p0, .dK []), (bl, .lst [.ref B0, .ref B1]), (B1, .ins (RE K) y1 (reF E1)), (E1, .dK []), (y1, .own B1), (B0, .ins (RE K) y0 (reF E0)), (E0, .dK []), (y0, .own B0), (tl, .lst [.ref t0, .ref t1, .ref t2]), (t2, .dK []), (t1, .dK []), (t0, .dK []),
      (cl, .lst [.ref c0, .ref c1, .ref c2]), (c2, .ins (CA K) x2 (caF s0 D2)), (D2, .dK []), (c1, .ins (CA K) x1 (caF (!s0) D1)), (D1, .dK []), (c0, .ins (CA K) x0 (caF s0 D0)), (D0, .dK []), (b, .lst [.int c, .int d]), (kl, .lst [.bl s0, .bl (!s0), .bl s0])] [] := st
    have st := st.ord [21, 19, 20, 13, 17, 18, 12, 15, 16, 11, 7, 8, 2, 4, 5, 1, 14, 10, 3, 0, 22, 6, 9] (L' := bx b c d ++ (ws K ⟨f3 c0 c1 c2, f3 D0 D1 D2, f3 t0 t1 t2, f3 x0 x1 x2, f3 s0 (!s0) s0, fun _ => [], fun _ => [], f2 B0 B1, f2 E0 E1, f2 p0 p1, f2 y0 y1, fun _ => [], fun _ => [], cl, tl, bl, pl, kl⟩ ++ [(y1, .own B1), (y0, .own B0)]))
    have stW := st.sub (L' := bx b c d ++ (ws K ⟨f3 c0 c1 c2, f3 D0 D1 D2, f3 t0 t1 t2, f3 x0 x1 x2, f3 s0 (!s0) s0, fun _ => [], fun _ => [], f2 B0 B1, f2 E0 E1, f2 p0 p1, f2 y0 y1, fun _ => [], fun _ => [], cl, tl, bl, pl, kl⟩ ++ [])) ((List.Sublist.append_left (List.nil_sublist _) _).append_left _)
    generalize hW : (⟨f3 c0 c1 c2, f3 D0 D1 D2, f3 t0 t1 t2, f3 x0 x1 x2, f3 s0 (!s0) s0, fun _ => [], fun _ => [], f2 B0 B1, f2 E0 E1, f2 p0 p1, f2 y0 y1, fun _ => [], fun _ => [], cl, tl, bl, pl, kl⟩ : Wd) = W at stW
    have sW : W.cl = cl ∧ W.tl = tl ∧ W.bl = bl ∧ W.pl = pl ∧ W.kl = kl ∧ W.B 0 = B0 ∧ W.p 0 = p0 := by
      subst hW
      exact ⟨rfl, rfl, rfl, rfl, rfl, rfl, rfl⟩
    have ag : ∀ H, Ag K H W := fun H => by
      subst hW
      exact ⟨fun i hi z => ⟨none, rfl, rfl⟩, fun i hi z => ⟨none, rfl, rfl⟩⟩
    have ln : Ln W 0 := by
      subst hW
      exact ⟨fun i hi => ⟨Nat.le_refl _, Nat.le_refl _⟩, fun i hi => ⟨Nat.le_refl _, Nat.le_refl _⟩⟩
    have fr : ∀ zs, FreeZ W zs := fun zs => by
      subst hW
      exact fun z hz i hi => rfl
    clear hW
    obtain ⟨rfl, rfl, rfl, rfl, rfl, hB0, hp0⟩ := sW
    refine cut3 (fun σ H' => ∃ (cw : Addr) (zs : List Str) (c d : Int), σ = [some (.ref a), some (.ref b), some (.int m), some (.bl s0), some (.ref W.kl), some (.int (1 + n)), some (.ref W.cl), some (.ref W.tl), some (.ref W.bl), some (.ref W.pl), some (.str "abcdefghijklmnopqrstuvwxyz"), some (.ref cw), none, none, none, none, none, none, none, none, none, none] ∧ zs.Nodup ∧ zs.length ≤ 70 ∧ Sv K H [] H' (bx b c d ++ (ws K W ++ [(cw, .lst (zs.map V.str))])) []) ?rest0 (fun fin => ?stm0)
    case stm0 =>
      refine stW.lst fun cw H7 st => ?_
      walk_at "nm"
      have st := st.perm (L' := bx b c d ++ (ws K W ++ [(cw, .lst (([] : List Str).map V.str))])) (List.perm_middle (l₁ := bx b c d ++ ws K W) (l₂ := []))
      refine use_draw st fun H8 c d f _ _ st => ?_
      refine iteD (fun hr => ?_) (fun hr => ?_)
      · have st := st.sub (L' := bx b c d ++ (ws K W ++ [])) ((List.Sublist.append_left (List.nil_sublist _) _).append_left _)
        refine ⟨by walk_at "ar", ?_⟩
        refine lcR10 (fun l k H' => Sv K H [] H' ((l, .lst ((List.range k).map fun i => V.str (cw2 i))) :: (bx b c d ++ (ws K W ++ []))) []) (fun l hl => st.new hl _) ?_ ?_
        · rintro l k H9 hk st
          have hk : k < 70 := hk
          have hA := az_len
          walk_at "nm"
          refine And.intro (by decide) ?_
          refine ixS (fun c1 h1 => ?_)
          walk_at "g1"
          refine ixS (fun c2 h2 => ?_)
          refine And.intro (by rw [one_len, one_len]; exact sl_le (by decide)) ?_
          have e1 : c1 = az (k % 26) := az_of (by rw [← h1]; congr 1)
          have e2 : c2 = az (k / 26) := az_of (by rw [← h2]; congr 1)
          rw [e1, e2]
          refine st.lcEnd 0 rfl (by simp; omega) ((l, .lst ((List.range (k + 1)).map fun i => V.str (cw2 i))) :: (bx b c d ++ (ws K W ++ []))) (fun H10 st => st) ?_
          show (l, HO.lst (((List.range k).map fun i => V.str (cw2 i)) ++ [V.str (cw2 k)])) :: _ = _
          rw [List.range_succ, List.map_append]
          rfl
        · rintro l H9 st
          have st := st.perm (L' := bx b c d ++ (ws K W ++ [(l, .lst (crowdL.map V.str))])) (by
            have e : crowdL.map V.str = (List.range 70).map fun i => V.str (cw2 i) := by
              unfold crowdL
              rw [List.map_map]
              rfl
            rw [e]
            exact List.perm_middle (l₁ := bx b c d ++ ws K W) (l₂ := []))
          exact fin _ _ ⟨l, crowdL, c, d, rfl, crowd_nodup, by decide, st⟩
      · exact fin _ _ ⟨cw, [], c, d, rfl, List.nodup_nil, by simp, st⟩
    case rest0 =>
      rintro σ H7 ⟨cw, zs, c, d, rfl, hnd, hzl, st⟩
      refine use_draw st fun H8 c d sh _ _ st => ?_
      refine use_draw st fun H8 c d fw fw0 fw1 st => ?_
      refine use_lbox (k := 1) st (st.oldL hS (by simp)) hl fun H8 nb c2 d2 st => ?_
      refine use_word st fun H8 c2 d2 z1 z1a z1b st => ?_
      refine use_word st fun H8 c2 d2 z2 z2a z2b st => ?_
      refine st.lst fun wl0 H8 st => ?_
      walk_at "nm"
      have st := st.perm (L' := bx nb c2 d2 ++ ((wl0, .lst [.str z1, .str z2]) :: (bx b c d ++ (ws K W ++ [(cw, .lst (zs.map V.str))])))) List.perm_middle
      refine st.ixL 1 ?_
      refine use_near st z1a z1b fun H8 c2 d2 y1 st => ?_
      refine st.ixL 1 ?_
      refine use_near st z1a z1b fun H8 c2 d2 y2 st => ?_
      refine st.ixL 1 ?_
      refine use_near st z2a z2b fun H8 c2 d2 y3 st => ?_
      refine st.lst fun wl1 H8 st => ?_
      refine st.cat (st.at 2 rfl) (st.at 0 rfl) (by simp) fun wl H9 st => ?_
      walk_at "nm"
      obtain ⟨ys, hys, eys⟩ : ∃ ys : List Str, ys.length = 5 ∧ [V.str z1, V.str z2] ++ [V.str y1, V.str y2, V.str y3] = ys.map V.str := ⟨[z1, z2, y1, y2, y3], rfl, rfl⟩
      rw [eys] at st
      have st := st.sub (L' := (wl, .lst (ys.map V.str)) :: (ws K W ++ [(cw, .lst (zs.map V.str))])) (.cons₂ _ (.cons _ (.cons _ (.cons _ (.cons _ (.refl _))))))
      have st : Sv K H [] H9 ([] ++ (Lc K W cw wl zs ys ++ [])) [] := st.perm (by rw [List.append_nil]; exact List.perm_append_singleton _ _)
      refine use_all st (Lc_hc st) (ag _) (.inl (.inl (Lc_wl st))) fun H10 st _ => ?_
      refine ix_L (Lc_hc st).bl (v := .ref B0) ?_ (hv := by rw [← hB0]; rfl)
      refine ix_L (Lc_hc st).pl (v := .ref p0) ?_ (hv := by rw [← hp0]; rfl)
      have st : Sv K H [] H10 ((ws K W ++ [(cw, .lst (zs.map V.str))]) ++ [(wl, .lst (ys.map V.str))]) [] := by
        have := st
        rw [List.append_nil] at this
        exact this
      refine use_crowded (W := W) st hnd (by omega) (Nat.zero_le 100) (fr zs) (ag _) ln (fun H11 W1 same st ag1 ln1 => ?_) rfl rfl (by rw [hB0]) (by rw [hp0]) rfl rfl rfl
      have st : Sv K H [] H11 ([] ++ (Lc K W1 cw wl zs ys ++ [])) [] := by
        rw [List.append_nil]
        exact st
      refine use_all st (Lc_hc st) ag1 (.inl (.inl (Lc_cw st))) (fun H12 st tp => ?_) (by rw [same.cl]) (by rw [same.tl]) (by rw [same.bl]) (by rw [same.pl])
      refine ⟨by omega, ?_⟩
      refine forR0 (fun k σ H' => ∃ (W2 : Wd) (m : Int) (T : List (V × PyData)) (x1 x12 x15 x17 x18 : Option V), σ = [some (.ref a), x1, some (.int m), some (.bl s0), some (.ref W.kl), some (.int (1 + n)), some (.ref W.cl), some (.ref W.tl), some (.ref W.bl), some (.ref W.pl), some (.str "abcdefghijklmnopqrstuvwxyz"), some (.ref cw), x12, some (.int sh), some (.int (1 + fw)), x15, some (.ref wl), x17, x18, none, none, none] ∧ 0 ≤ m ∧ m ≤ 239 ∧ Same W W2 ∧ Ag K H' W2 ∧ Ln W2 (zs.length + k) ∧ Sv K H [] H' (Lc K W2 cw wl zs ys ++ []) T)
        ⟨W1, m, [], _, _, _, _, _, rfl, m0, by omega, same, ag1.mono tp, ln1.le (by omega), st⟩ ?_ ?_
      · rintro k σ H13 hk ⟨W2, m, T, x1, x12, x15o, x17, x18, rfl, m0, m1, same, ag, ln, st⟩
        have hk : k < 61 := by omega
        walk_at "nm"
        refine use_lboxT (k := 2 + k) st (st.oldL hS (by simp)) hl (fun H14 b c d st tp => ?_) rfl (by simp)
        have ag := ag.mono tp
        have sto := st
        have st := st.root
        refine use_draw st fun H15 c d i i0 i1 st => ?_
        refine use_draw st (fun H15 c d f f0 f1 st => ?_) rfl rfl (by omega) (by omega)
        obtain ⟨z, _, hz⟩ := at_str (zs := ys) (i := f) f0 (by omega)
        refine ix_L (.inl (.inl (Lc_wl st))) ?_ (hv := hz)
        walk_at "nm"
        obtain ⟨i, rfl⟩ : ∃ i' : Nat, i = i' := ⟨i.toNat, by omega⟩
        have hi : i < 3 := by omega
        have htl : SqL K H15 W.tl (r3 W2.t) := by
          rw [← same.tl]
          exact (Lc_hc st).tl
        refine ix_L htl ?_ (hv := at3 hi)
        refine ⟨isK_H ((Lc_hc st).t hi), ?_⟩
        refine st.tup (.cons .non (.cons (.int m) (.cons .non .nil))) fun v0 H16 st => ?_
        refine getK_H (.inr z) ((Lc_hc st).t hi) ?_
        obtain ⟨lk, _, h2⟩ := (ag.mono st.tps).a i hi z
        obtain ⟨best, d0, d2, bu, hb1, hb2⟩ : ∃ best d0 d2 bu, (valV (W2.kt i) (.inr z)).getD (.ref v0) = best ∧ Dt K H16 best (.tuple [d0, .int bu, d2]) := by
          cases lk with
          | none =>
            have h2 : valV (W2.kt i) (.inr z) = none := h2
            rw [h2]
            exact ⟨_, _, _, _, rfl, st.d 0 rfl⟩
          | some e =>
            obtain ⟨v, hv, hd⟩ := h2
            rw [hv]
            exact ⟨_, _, _, _, rfl, hd⟩
        rw [hb1]
        refine hb2.ixI ?_
        refine use_moved st fun H17 c d m2 hm2 hm3 st => ?_
        walk_at "nm"
        have st : Sv K H14 _ H17 ((ws K W2 ++ bx b c d) ++ [(cw, .lst (zs.map V.str)), (wl, .lst (ys.map V.str))]) _ := st.perm (perm1 (bx b c d) (ws K W2) [(cw, .lst (zs.map V.str)), (wl, .lst (ys.map V.str))])
        refine use_deed (m := m2) (z := z) st hi (by omega) (by omega) (by omega) (ag.mono st.tps) ln (fun H18 W3 c d same2 st ag3 ln3 => ?_) rfl (by rw [same.cl]) (by rw [same.kl]) (by rw [same.tl]) (by rw [same.bl]) (by rw [same.pl])
        have st : Sv K H14 _ H18 (bx b c d ++ (Lc K W3 cw wl zs ys ++ [])) _ := st.perm (perm1 (bx b c d) (ws K W3) [(cw, .lst (zs.map V.str)), (wl, .lst (ys.map V.str))]).symm
        have sto := sto.back st
        have st := sto.root
        have same := same.trans same2
        refine use_draw st fun H19 c d f2 _ _ st => ?_
        have done : ∀ {H' : Hp} {T : List (V × PyData)} {c d : Int}, Sv K H18 _ H' (bx b c d ++ (Lc K W3 cw wl zs ys ++ [])) T → ∃ (W2 : Wd) (m : Int) (T : List (V × PyData)) (x1 x12 x15 x17 x18 : Option V), [some (.ref a), some (.ref b), some (.int m2), some (.bl s0), some (.ref W.kl), some (.int (1 + n)), some (.ref W.cl), some (.ref W.tl), some (.ref W.bl), some (.ref W.pl), some (.str "abcdefghijklmnopqrstuvwxyz"), some (.ref cw), some (.int k), some (.int sh), some (.int (1 + fw)), x15o, some (.ref wl), some (.int i), some (.str z), none, none, none] = [some (.ref a), x1, some (.int m), some (.bl s0), some (.ref W.kl), some (.int (1 + n)), some (.ref W.cl), some (.ref W.tl), some (.ref W.bl), some (.ref W.pl), some (.str "abcdefghijklmnopqrstuvwxyz"), some (.ref cw), x12, some (.int sh), some (.int (1 + fw)), x15, some (.ref wl), x17, x18, none, none, none] ∧ 0 ≤ m ∧ m ≤ 239 ∧ Same W W2 ∧ Ag K H' W2 ∧ Ln W2 (zs.length + (k + 1)) ∧ Sv K H [] H' (Lc K W2 cw wl zs ys ++ []) T := fun st =>
            ⟨W3, m2, _, _, _, _, _, _, rfl, by omega, hm2, same, ag3.mono st.tps, ln3, (sto.back st).sub (List.sublist_append_right _ _)⟩
        refine iteD (fun hr => ?_) (fun hr => ?_)
        · refine use_all st (Lc_hc st) (ag3.mono st.tps) (.inl (.inl (Lc_wl st))) (fun H20 st tp => ?_) (by rw [same.cl]) (by rw [same.tl]) (by rw [same.bl]) (by rw [same.pl])
          exact done st
        · exact done st
      · rintro σ H13 ⟨W2, m, T, x1, x12, x15, x17, x18, rfl, m0, m1, same, ag, ln, st⟩
        have hcl : ∀ {H' : Hp}, HC K H' W2 → SqL K H' W.cl (r3 W2.c) := fun h => by
          rw [← same.cl]
          exact h.cl
        have htl : ∀ {H' : Hp}, HC K H' W2 → SqL K H' W.tl (r3 W2.t) := fun h => by
          rw [← same.tl]
          exact h.tl
        have st : Sv K H [] H13 ([] ++ (Lc K W2 cw wl zs ys ++ [])) T := st
        have st := st.root
        refine st.cat (Lc_wl st) (Lc_cw st) (by simp; omega) fun wc H14 st => ?_
        rw [← List.map_append] at st
        have st : Sv K H13 _ H14 ([(wc, .lst ((ys ++ zs).map V.str))] ++ (Lc K W2 cw wl zs ys ++ [])) T := st
        refine use_all st (Lc_hc st) (ag.mono st.tps) (st.sq 0 rfl) (fun H15 st _ => ?_) (by rw [same.cl]) (by rw [same.tl]) (by rw [same.bl]) (by rw [same.pl])
        have hm2 : 0 ≤ min (239 : Int) (m + 61) ∧ min (239 : Int) (m + 61) ≤ 239 := by omega
        generalize hen : min (239 : Int) (m + 61) = en at hm2
        refine And.intro (by rw [hen]; omega) ?_
        rw [hen]
        · skip
          refine forR (fun k σ H' => ∃ (x17 x18 x20 : Option V), σ = [some (.ref a), x1, some (.int m), some (.bl s0), some (.ref W.kl), some (.int (1 + n)), some (.ref W.cl), some (.ref W.tl), some (.ref W.bl), some (.ref W.pl), some (.str "abcdefghijklmnopqrstuvwxyz"), some (.ref cw), x12, some (.int sh), some (.int (1 + fw)), x15, some (.ref wl), x17, x18, some (.int en), x20, none] ∧ Sv K H13 _ H' ([(wc, .lst ((ys ++ zs).map V.str))] ++ (Lc K W2 cw wl zs ys ++ [])) T) ⟨_, _, _, rfl, st⟩ ?_ ?_
          · rintro k σ H17 hk ⟨x17, x18, x20, rfl, st⟩
            refine forL (fun j σ H' => ∃ (x17 x18 : Option V), σ = [some (.ref a), x1, some (.int m), some (.bl s0), some (.ref W.kl), some (.int (1 + n)), some (.ref W.cl), some (.ref W.tl), some (.ref W.bl), some (.ref W.pl), some (.str "abcdefghijklmnopqrstuvwxyz"), some (.ref cw), x12, some (.int sh), some (.int (1 + fw)), x15, some (.ref wl), x17, x18, some (.int en), some (.int (m + k)), none] ∧ Sv K H13 _ H' ([(wc, .lst ((ys ++ zs).map V.str))] ++ (Lc K W2 cw wl zs ys ++ [])) T) (.inl (.inl (Lc_wl st))) ⟨_, _, rfl, st⟩ (fun j σ H' _ h => by obtain ⟨_, _, _, st⟩ := h; exact .inl (.inl (Lc_wl st))) ?_ ?_
            · rintro j x σ H18 hx ⟨x17, x18, rfl, st⟩
              obtain ⟨z, rfl⟩ := map_str hx
              refine ⟨by walk_at "ar", ?_⟩
              refine forR0 (fun i σ H' => ∃ (x17 : Option V), σ = [some (.ref a), x1, some (.int m), some (.bl s0), some (.ref W.kl), some (.int (1 + n)), some (.ref W.cl), some (.ref W.tl), some (.ref W.bl), some (.ref W.pl), some (.str "abcdefghijklmnopqrstuvwxyz"), some (.ref cw), x12, some (.int sh), some (.int (1 + fw)), x15, some (.ref wl), x17, some (.str z), some (.int en), some (.int (m + k)), none] ∧ Sv K H13 _ H' ([(wc, .lst ((ys ++ zs).map V.str))] ++ (Lc K W2 cw wl zs ys ++ [])) T) ⟨_, rfl, st⟩ ?_ ?_
              · rintro i σ H19 hi ⟨x17, rfl, st⟩
                have hi : i < 3 := hi
                have hc := Lc_hc st
                refine ix_L (hcl hc) ?_ (hv := at3 hi)
                refine ix_L (htl hc) ?_ (hv := at3 hi)
                obtain ⟨lk, h1, h2⟩ := (ag.mono st.tps).a i hi z
                refine use_found st (hc.c hi) (hc.D hi) (hc.t hi) h1 h2 fun H20 st => ?_
                exact ⟨_, rfl, st⟩
              · rintro σ H19 ⟨x17, rfl, st⟩
                exact ⟨_, _, rfl, st⟩
            · rintro σ H18 ⟨x17, x18, rfl, st⟩
              exact ⟨_, _, _, rfl, st⟩
          · rintro σ H17 ⟨x17, x18, x20, rfl, st⟩
            refine st.cat (Lc_wl st) (Lc_cw st) (by simp; omega) fun wd H18 st => ?_
            rw [← List.map_append] at st
            have st : Sv K H13 _ H18 ([(wd, .lst ((ys ++ zs).map V.str)), (wc, .lst ((ys ++ zs).map V.str))] ++ (Lc K W2 cw wl zs ys ++ [])) T := st
            refine use_all st (Lc_hc st) (ag.mono st.tps) (st.sq 0 rfl) (fun H19 st _ => ?_) (by rw [same.cl]) (by rw [same.tl]) (by rw [same.bl]) (by rw [same.pl])
            exact q _
end
end Wk

namespace Wk
open PySem PySem.Spec PyProof.Rows L2
def d_Records___init__ : DefX := ⟨fun K => (He.ma K (He.ga K "Records") "__init__"), "__init__", "Records.__init__", defArgs s_Records___init__, defBody s_Records___init__, defScope s_Records___init__, [], []⟩
def d_Records_publish : DefX := ⟨fun K => (He.ma K (He.ga K "Records") "publish"), "publish", "Records.publish", defArgs s_Records_publish, defBody s_Records_publish, defScope s_Records_publish, [], []⟩
def d_Records_find : DefX := ⟨fun K => (He.ma K (He.ga K "Records") "find"), "find", "Records.find", defArgs s_Records_find, defBody s_Records_find, defScope s_Records_find, [], []⟩
def d_Cache___init__ : DefX := ⟨fun K => (He.ma K (He.ga K "Cache") "__init__"), "__init__", "Cache.__init__", defArgs s_Cache___init__, defBody s_Cache___init__, defScope s_Cache___init__, [], []⟩
def d_Cache_store : DefX := ⟨fun K => (He.ma K (He.ga K "Cache") "store"), "store", "Cache.store", defArgs s_Cache_store, defBody s_Cache_store, defScope s_Cache_store, [], []⟩
def d_Cache_find : DefX := ⟨fun K => (He.ma K (He.ga K "Cache") "find"), "find", "Cache.find", defArgs s_Cache_find, defBody s_Cache_find, defScope s_Cache_find, [], []⟩
def d_Cache_clear_all : DefX := ⟨fun K => (He.ma K (He.ga K "Cache") "clear_all"), "clear_all", "Cache.clear_all", defArgs s_Cache_clear_all, defBody s_Cache_clear_all, defScope s_Cache_clear_all, [], []⟩
def d__law_box : DefX := ⟨fun K => (He.ga K "_law_box"), "_law_box", "_law_box", defArgs s__law_box, defBody s__law_box, defScope s__law_box, [], []⟩
def d__law_draw : DefX := ⟨fun K => (He.ga K "_law_draw"), "_law_draw", "_law_draw", defArgs s__law_draw, defBody s__law_draw, defScope s__law_draw, [], []⟩
def d__law_word : DefX := ⟨fun K => (He.ga K "_law_word"), "_law_word", "_law_word", defArgs s__law_word, defBody s__law_word, defScope s__law_word, [], []⟩
def d__law_near : DefX := ⟨fun K => (He.ga K "_law_near"), "_law_near", "_law_near", defArgs s__law_near, defBody s__law_near, defScope s__law_near, [], []⟩
def d__law_moved : DefX := ⟨fun K => (He.ga K "_law_moved"), "_law_moved", "_law_moved", defArgs s__law_moved, defBody s__law_moved, defScope s__law_moved, [], []⟩
def d__law_is_whole : DefX := ⟨fun K => (He.ga K "_law_is_whole"), "_law_is_whole", "_law_is_whole", defArgs s__law_is_whole, defBody s__law_is_whole, defScope s__law_is_whole, [], []⟩
def d__law_is_truth : DefX := ⟨fun K => (He.ga K "_law_is_truth"), "_law_is_truth", "_law_is_truth", defArgs s__law_is_truth, defBody s__law_is_truth, defScope s__law_is_truth, [], []⟩
def d__law_found : DefX := ⟨fun K => (He.ga K "_law_found"), "_law_found", "_law_found", defArgs s__law_found, defBody s__law_found, defScope s__law_found, [], []⟩
def d__law_written : DefX := ⟨fun K => (He.ga K "_law_written"), "_law_written", "_law_written", defArgs s__law_written, defBody s__law_written, defScope s__law_written, [], []⟩
def d__law_all : DefX := ⟨fun K => (He.ga K "_law_all"), "_law_all", "_law_all", defArgs s__law_all, defBody s__law_all, defScope s__law_all, [], []⟩
def d__law_address : DefX := ⟨fun K => (He.ga K "_law_address"), "_law_address", "_law_address", defArgs s__law_address, defBody s__law_address, defScope s__law_address, [], []⟩
def d__law_stamp : DefX := ⟨fun K => (He.ga K "_law_stamp"), "_law_stamp", "_law_stamp", defArgs s__law_stamp, defBody s__law_stamp, defScope s__law_stamp, [], []⟩
def d__law_span : DefX := ⟨fun K => (He.ga K "_law_span"), "_law_span", "_law_span", defArgs s__law_span, defBody s__law_span, defScope s__law_span, [], []⟩
def d__law_origin : DefX := ⟨fun K => (He.ga K "_law_origin"), "_law_origin", "_law_origin", defArgs s__law_origin, defBody s__law_origin, defScope s__law_origin, [], []⟩
def d__law_given : DefX := ⟨fun K => (He.ga K "_law_given"), "_law_given", "_law_given", defArgs s__law_given, defBody s__law_given, defScope s__law_given, [], []⟩
def d__law_crowded : DefX := ⟨fun K => (He.ga K "_law_crowded"), "_law_crowded", "_law_crowded", defArgs s__law_crowded, defBody s__law_crowded, defScope s__law_crowded, [], []⟩
def d__law_deed : DefX := ⟨fun K => (He.ga K "_law_deed"), "_law_deed", "_law_deed", defArgs s__law_deed, defBody s__law_deed, defScope s__law_deed, [], []⟩
def d_law : DefX := ⟨fun K => (He.ga K "law"), "law", "law", defArgs s_law, defBody s_law, defScope s_law, [], []⟩
def fnL : List DefX := [d_Records___init__, d_Records_publish, d_Records_find, d_Cache___init__, d_Cache_store, d_Cache_find, d_Cache_clear_all, d__law_box, d__law_draw, d__law_word, d__law_near, d__law_moved, d__law_is_whole, d__law_is_truth, d__law_found, d__law_written, d__law_all, d__law_address, d__law_stamp, d__law_span, d__law_origin, d__law_given, d__law_crowded, d__law_deed, d_law]
def faL : List Fx := [(fun K => (He.Fa.int "ABSENT_SPAN" 3).ok K), (fun K => (He.Fa.glo "Cache").ok K), (fun K => (He.Fa.glo "Records").ok K), (fun K => (He.Fa.glo "_law_address").ok K), (fun K => (He.Fa.glo "_law_all").ok K), (fun K => (He.Fa.glo "_law_box").ok K), (fun K => (He.Fa.glo "_law_crowded").ok K), (fun K => (He.Fa.glo "_law_deed").ok K), (fun K => (He.Fa.glo "_law_draw").ok K), (fun K => (He.Fa.glo "_law_found").ok K), (fun K => (He.Fa.glo "_law_given").ok K), (fun K => (He.Fa.glo "_law_is_truth").ok K), (fun K => (He.Fa.glo "_law_is_whole").ok K), (fun K => (He.Fa.glo "_law_moved").ok K), (fun K => (He.Fa.glo "_law_near").ok K), (fun K => (He.Fa.glo "_law_origin").ok K), (fun K => (He.Fa.glo "_law_span").ok K), (fun K => (He.Fa.glo "_law_stamp").ok K), (fun K => (He.Fa.glo "_law_word").ok K), (fun K => (He.Fa.glo "_law_written").ok K), (fun K => (He.Fa.free "bool").ok K), (fun K => (He.Fa.free "int").ok K), (fun K => (He.Fa.free "isinstance").ok K), (fun K => (He.Fa.glo "law").ok K), (fun K => (He.Fa.free "len").ok K), (fun K => (He.Fa.free "max").ok K), (fun K => (He.Fa.free "min").ok K), (fun K => (He.Fa.free "range").ok K), (fun K => (He.Fa.free "sum").ok K), (fun K => (He.Fa.free "tuple").ok K), (fun K => (He.Fa.mkr "Cache").ok K), (fun K => (He.Fa.mkr "Records").ok K), (fun K => (He.Fa.cls "Cache").ok K), (fun K => (He.Fa.cls "Records").ok K), (fun K => (He.Fa.meth "Cache" "clear_all").ok K), (fun K => (He.Fa.meth "Cache" "find").ok K), (fun K => (He.Fa.meth "Cache" "store").ok K), (fun K => (He.Fa.meth "Records" "find").ok K), (fun K => (He.Fa.meth "Records" "publish").ok K), (fun K => (He.Fa.noat "Cache" "_answers").ok K), (fun K => (He.Fa.noat "Cache" "_stamped").ok K), (fun K => (He.Fa.noat "Records" "_entries").ok K)]
def loose : List Str := (["ABSENT_SPAN", "Records", "Cache", "_law_box", "_law_draw", "_law_word", "_law_near", "_law_moved", "_law_is_whole", "_law_is_truth", "_law_found", "_law_written", "_law_all", "_law_address", "_law_stamp", "_law_span", "_law_origin", "_law_given", "_law_crowded", "_law_deed"] : List Str)
abbrev R : PySem.W.OpenRow := PySem.W.OpenLaw.row PySem.Challenge.rw_wirespan_k28_records_and_cache
abbrev hk : PySem.W.Hook := hookX 6 faL fnL
def ob (s : PySem.W.SharedT) : He.AlD := obsXG 6 faL fnL (HandSHeadRun.getT s)
theorem ob_eq (s : PySem.W.SharedT) : ob s = hk.obs s.abs := obsXG_eq (HandSHeadRun.getT_eq s)
theorem run (w : World) : HandSHeadRun.RunEq R (PySem.W.view R.prog [22]) hk ob 20000 loose w := by
  intro os
  kernel_rfl
theorem txt_ok {K : PySem.W.Frag} {h : Heap} {mg : Str → Option Value} (X : K.In h) (G : h.Ns mainGlobals mg) (c : SaysX faL fnL K) : Txt K mg where
  c_ABSENT_SPAN := He.int_ok X G (c.fact 0 (f := (fun K => (He.Fa.int "ABSENT_SPAN" 3).ok K)) rfl)
  g_Cache := He.glo_ok X G (c.fact 1 (f := (fun K => (He.Fa.glo "Cache").ok K)) rfl)
  g_Records := He.glo_ok X G (c.fact 2 (f := (fun K => (He.Fa.glo "Records").ok K)) rfl)
  g__law_address := He.glo_ok X G (c.fact 3 (f := (fun K => (He.Fa.glo "_law_address").ok K)) rfl)
  g__law_all := He.glo_ok X G (c.fact 4 (f := (fun K => (He.Fa.glo "_law_all").ok K)) rfl)
  g__law_box := He.glo_ok X G (c.fact 5 (f := (fun K => (He.Fa.glo "_law_box").ok K)) rfl)
  g__law_crowded := He.glo_ok X G (c.fact 6 (f := (fun K => (He.Fa.glo "_law_crowded").ok K)) rfl)
  g__law_deed := He.glo_ok X G (c.fact 7 (f := (fun K => (He.Fa.glo "_law_deed").ok K)) rfl)
  g__law_draw := He.glo_ok X G (c.fact 8 (f := (fun K => (He.Fa.glo "_law_draw").ok K)) rfl)
  g__law_found := He.glo_ok X G (c.fact 9 (f := (fun K => (He.Fa.glo "_law_found").ok K)) rfl)
  g__law_given := He.glo_ok X G (c.fact 10 (f := (fun K => (He.Fa.glo "_law_given").ok K)) rfl)
  g__law_is_truth := He.glo_ok X G (c.fact 11 (f := (fun K => (He.Fa.glo "_law_is_truth").ok K)) rfl)
  g__law_is_whole := He.glo_ok X G (c.fact 12 (f := (fun K => (He.Fa.glo "_law_is_whole").ok K)) rfl)
  g__law_moved := He.glo_ok X G (c.fact 13 (f := (fun K => (He.Fa.glo "_law_moved").ok K)) rfl)
  g__law_near := He.glo_ok X G (c.fact 14 (f := (fun K => (He.Fa.glo "_law_near").ok K)) rfl)
  g__law_origin := He.glo_ok X G (c.fact 15 (f := (fun K => (He.Fa.glo "_law_origin").ok K)) rfl)
  g__law_span := He.glo_ok X G (c.fact 16 (f := (fun K => (He.Fa.glo "_law_span").ok K)) rfl)
  g__law_stamp := He.glo_ok X G (c.fact 17 (f := (fun K => (He.Fa.glo "_law_stamp").ok K)) rfl)
  g__law_word := He.glo_ok X G (c.fact 18 (f := (fun K => (He.Fa.glo "_law_word").ok K)) rfl)
  g__law_written := He.glo_ok X G (c.fact 19 (f := (fun K => (He.Fa.glo "_law_written").ok K)) rfl)
  b_bool := He.free_ok X G (c.fact 20 (f := (fun K => (He.Fa.free "bool").ok K)) rfl)
  b_int := He.free_ok X G (c.fact 21 (f := (fun K => (He.Fa.free "int").ok K)) rfl)
  b_isinstance := He.free_ok X G (c.fact 22 (f := (fun K => (He.Fa.free "isinstance").ok K)) rfl)
  g_law := He.glo_ok X G (c.fact 23 (f := (fun K => (He.Fa.glo "law").ok K)) rfl)
  b_len := He.free_ok X G (c.fact 24 (f := (fun K => (He.Fa.free "len").ok K)) rfl)
  b_max := He.free_ok X G (c.fact 25 (f := (fun K => (He.Fa.free "max").ok K)) rfl)
  b_min := He.free_ok X G (c.fact 26 (f := (fun K => (He.Fa.free "min").ok K)) rfl)
  b_range := He.free_ok X G (c.fact 27 (f := (fun K => (He.Fa.free "range").ok K)) rfl)
  b_sum := He.free_ok X G (c.fact 28 (f := (fun K => (He.Fa.free "sum").ok K)) rfl)
  b_tuple := He.free_ok X G (c.fact 29 (f := (fun K => (He.Fa.free "tuple").ok K)) rfl)
  M_Cache := He.mkr_ok (c.fact 30 (f := (fun K => (He.Fa.mkr "Cache").ok K)) rfl)
  M_Records := He.mkr_ok (c.fact 31 (f := (fun K => (He.Fa.mkr "Records").ok K)) rfl)
  k_Cache := He.cls_ok (c.fact 32 (f := (fun K => (He.Fa.cls "Cache").ok K)) rfl)
  k_Records := He.cls_ok (c.fact 33 (f := (fun K => (He.Fa.cls "Records").ok K)) rfl)
  m_Cache_clear_all := He.meth_ok (c.fact 34 (f := (fun K => (He.Fa.meth "Cache" "clear_all").ok K)) rfl)
  m_Cache_find := He.meth_ok (c.fact 35 (f := (fun K => (He.Fa.meth "Cache" "find").ok K)) rfl)
  m_Cache_store := He.meth_ok (c.fact 36 (f := (fun K => (He.Fa.meth "Cache" "store").ok K)) rfl)
  m_Records_find := He.meth_ok (c.fact 37 (f := (fun K => (He.Fa.meth "Records" "find").ok K)) rfl)
  m_Records_publish := He.meth_ok (c.fact 38 (f := (fun K => (He.Fa.meth "Records" "publish").ok K)) rfl)
  n_Cache__answers := He.noat_ok (c.fact 39 (f := (fun K => (He.Fa.noat "Cache" "_answers").ok K)) rfl)
  n_Cache__stamped := He.noat_ok (c.fact 40 (f := (fun K => (He.Fa.noat "Cache" "_stamped").ok K)) rfl)
  n_Records__entries := He.noat_ok (c.fact 41 (f := (fun K => (He.Fa.noat "Records" "_entries").ok K)) rfl)
  F_Records___init__ := c.def_ 0 (d := d_Records___init__) rfl
  F_Records_publish := c.def_ 1 (d := d_Records_publish) rfl
  F_Records_find := c.def_ 2 (d := d_Records_find) rfl
  F_Cache___init__ := c.def_ 3 (d := d_Cache___init__) rfl
  F_Cache_store := c.def_ 4 (d := d_Cache_store) rfl
  F_Cache_find := c.def_ 5 (d := d_Cache_find) rfl
  F_Cache_clear_all := c.def_ 6 (d := d_Cache_clear_all) rfl
  F__law_box := c.def_ 7 (d := d__law_box) rfl
  F__law_draw := c.def_ 8 (d := d__law_draw) rfl
  F__law_word := c.def_ 9 (d := d__law_word) rfl
  F__law_near := c.def_ 10 (d := d__law_near) rfl
  F__law_moved := c.def_ 11 (d := d__law_moved) rfl
  F__law_is_whole := c.def_ 12 (d := d__law_is_whole) rfl
  F__law_is_truth := c.def_ 13 (d := d__law_is_truth) rfl
  F__law_found := c.def_ 14 (d := d__law_found) rfl
  F__law_written := c.def_ 15 (d := d__law_written) rfl
  F__law_all := c.def_ 16 (d := d__law_all) rfl
  F__law_address := c.def_ 17 (d := d__law_address) rfl
  F__law_stamp := c.def_ 18 (d := d__law_stamp) rfl
  F__law_span := c.def_ 19 (d := d__law_span) rfl
  F__law_origin := c.def_ 20 (d := d__law_origin) rfl
  F__law_given := c.def_ 21 (d := d__law_given) rfl
  F__law_crowded := c.def_ 22 (d := d__law_crowded) rfl
  F__law_deed := c.def_ 23 (d := d__law_deed) rfl
  F_law := c.def_ 24 (d := d_law) rfl
end Wk
open PySem PySem.W PySem.Calls PyProof.Rows
theorem PySem.Challenge.cw_wirespan_k28_records_and_cache_holds : PySem.Challenge.rw_wirespan_k28_records_and_cache.Holds := by
  w_on; o_law
  refine HandSHeadRun.head_any (r := OpenLaw.row PySem.Challenge.rw_wirespan_k28_records_and_cache) (q := view (OpenLaw.row PySem.Challenge.rw_wirespan_k28_records_and_cache).prog [22]) (H := Wk.hk) (ob := Wk.ob) (M := 20000) (loose := Wk.loose) (d := HandSHeadRun.topDef (OpenLaw.row PySem.Challenge.rw_wirespan_k28_records_and_cache).prog 22) (kwd := []) Wk.ob_eq
    (by kernel_rfl) (fun s => by kernel_rfl) Wk.run (by kernel_rfl) (by kernel_rfl) (by kernel_rfl) (by rfl) (by first | assumption | decide +kernel) (by decide +kernel) ⟨rfl, rfl, rfl, rfl, rfl, by decide +kernel⟩ ?hw ?hc
  case hw => w_witness2
  case hc =>
    refine Wk.walk_ofE2 (l := PySem.Challenge.rw_wirespan_k28_records_and_cache) (n := 63) (k := 5) (x := "script") rfl (by decide) (by kernel_rfl) ⟨rfl, by decide, by decide⟩ ?F
    intro w mg fa h Y G hmg0
    obtain ⟨K, KX, c⟩ := Y
    have e := Wk.txt_ok KX G c
    have hmg : mg ("law" : PySem.Str) = some (.ref fa) := by
      have e : (HandSHeadRun.topDef (OpenLaw.row PySem.Challenge.rw_wirespan_k28_records_and_cache).prog 22).name = ("law" : PySem.Str) := by kernel_rfl
      rw [← e]
      exact hmg0
    have ea : fa = He.ga K "law" := by
      have q := hmg.symm.trans e.g_law
      cases q
      rfl
    subst ea
    obtain ⟨fd, F⟩ := e.F_law
    refine ⟨K, fd, Wk.mk1 (Wk.sp_law K), KX, fun s v => L2.FunD.bindsA (ps := ["script"]) F (fun _ _ _ _ _ _ us hl => match us, hl with | [_], _ => rfl) s [v] rfl, fun H a ns hl _ hS => ?_, fun base _ _ => Wk.fok_same F (Wk.ok_law (P := (PySem.Challenge.rw_wirespan_k28_records_and_cache).prog) (w := w) (base := base) e)⟩
    show Wk.sp_law K _ _ _ _
    unfold Wk.sp_law
    exact ⟨a, ns, rfl, hS, hl, fun _ => rfl⟩


import PyProof.Rows.All
import Wide.All
import OpenK.AllK
import Wide.FinOn
import KE.KStateDown
import Lean
import HandS.ForMost
import HandS.Flow
import HandS.Style
import HandS.IsInst
import HandS.Star
import HandS.Conv
import HandS.Wide
import HandS.WideBits
import HandS.TupAny
import HandS.Exc
import HandS.ExcOwn
import HandS.WordsExc
import HandS.NoneIn
import HandS.RevRange
import HandS.Defaults
import HandS.Head0
import HandS.Head1
import HandS.Head2
import HandS.HeadEnd
import HandS.HeadHook1
import HandS.HeadHook2
import PySem.Challenge.RW_wirespan_k13_piece_frames
set_option Elab.async false
set_option linter.all false
set_option maxRecDepth 100000
set_option maxHeartbeats 4000000
namespace Wk
open PySem PySem.Spec PyProof.Rows L2
section
variable {X : Cx}

/-! ### weaker readings -/
theorem peI {e : Expr} {t t' : TE} (h : PE X e t) (w : ∀ σ H Q, t' σ H Q → t σ H Q) : PE X e t' :=
  ⟨fun pins s σ H Q I q => h.run pins s σ H Q I (w σ H Q q)⟩
theorem ptI {e : Expr} {t t' : TT} (h : PT X e t) (w : ∀ σ H Q, t' σ H Q → t σ H Q) : PT X e t' :=
  ⟨fun pins s σ H Q I q => h.run pins s σ H Q I (w σ H Q q)⟩
theorem psI {e : Stmt} {t t' : TS} (h : PS X e t) (w : ∀ D σ H, t' D σ H → t D σ H) : PS X e t' :=
  ⟨fun pins s σ H D I q => h.run pins s σ H D I (w D σ H q)⟩

/-! ### names -/
def cVar (i : Nat) : TE := fun σ H Q => match σ[i]? with
  | some (some v) => Q v H
  | _ => False
theorem cVar_to {i : Nat} {σ : L2.St} {H : Hp} {Q : VK} (q : cVar i σ H Q) : tVar i σ H Q := by
  unfold cVar at q
  split at q
  · exact ⟨_, by assumption, q⟩
  · exact q.elim
theorem pn (i : Nat) {x : Str} {pos : Pos} (hN : X.N[i]? = some x := by rfl) (hv : Vis X.env.scope x := by first | exact Or.inl rfl | exact Or.inr (Or.inl rfl) | exact Or.inr (Or.inr rfl)) (hd : (x == ("__debug__" : Str)) = false := by decide)
    (hcd : (x == ("__classdict__" : Str)) = false := by decide) : PE X (.Name x pos) (cVar i) := peI (pe_var hN hv hd hcd) fun _ _ _ q => cVar_to q

/-! ### operators on values -/
def b2 : Bool → Int
  | true => 1
  | false => 0
@[irreducible] def aAdd (K : PySem.W.Frag) (a b : Addr) (H : Hp) (Q : VK) : Prop := rCat (.ref a) (.ref b) H Q ∨ rCatA K (.ref a) (.ref b) H Q
def uAdd (K : PySem.W.Frag) : R2 := fun x y H Q => match x, y with
  | .int i, .int j => Q (.int (i + j)) H
  | .str a, .str b => a.length + b.length ≤ sizeLine ∧ Q (.str (a ++ b)) H
  | .ref a, .ref b => aAdd K a b H Q
  | _, _ => False
theorem oAdd : OpR X (binaryOp .Add) (uAdd X.K) := by
  intro pins s σ H x y v u Q I rx ry q
  cases x <;> cases y <;> first
    | exact (show False from q).elim
    | exact op_add pins s σ H _ _ v u Q I rx ry ⟨_, _, rfl, rfl, q⟩
    | exact op_add_str pins s σ H _ _ v u Q I rx ry ⟨_, _, rfl, rfl, q.1, q.2⟩
    | (have q2 : aAdd X.K _ _ H Q := q
       unfold aAdd at q2
       rcases q2 with q | q
       · exact op_cat pins s σ H _ _ v u Q I rx ry q
       · exact op_catA pins s σ H _ _ v u Q I rx ry q)
def uSub : R2 := fun x y H Q => match x, y with
  | .int i, .int j => Q (.int (i - j)) H
  | _, _ => False
theorem oSub : OpR X (binaryOp .Sub) uSub := by
  intro pins s σ H x y v u Q I rx ry q
  cases x <;> cases y <;> first
    | exact (show False from q).elim
    | exact op_sub pins s σ H _ _ v u Q I rx ry ⟨_, _, rfl, rfl, q⟩
@[irreducible] def aRep (a : Addr) (k : Int) (H : Hp) (Q : VK) : Prop := rRep (.ref a) (.int k) H Q
def uMul : R2 := fun x y H Q => match x, y with
  | .int i, .int j => (CMul i j ∨ CMulX i j) ∧ Q (.int (i * j)) H
  | .ref a, .int k => aRep a k H Q
  | _, _ => False
theorem oMul : OpR X (binaryOp .Mult) uMul := by
  intro pins s σ H x y v u Q I rx ry q
  cases x <;> cases y <;> first
    | exact (show False from q).elim
    | (obtain ⟨c, q⟩ := q
       rcases c with c | c
       · exact op_mul pins s σ H _ _ v u Q I rx ry ⟨_, _, rfl, rfl, c, q⟩
       · exact op_mulX pins s σ H _ _ v u Q I rx ry ⟨_, _, rfl, rfl, c, q⟩)
    | (have q2 : aRep _ _ H Q := q
       unfold aRep at q2
       exact op_rep pins s σ H _ _ v u Q I rx ry q2)
/-- i // j for 0 < j -/
def DivOk (i j : Int) : Prop := CDiv i j ∨ CDivW i j
def uDiv : R2 := fun x y H Q => match x, y with
  | .int i, .int j => DivOk i j ∧ Q (.int (i / j)) H
  | _, _ => False
theorem oDiv : OpR X (binaryOp .FloorDiv) uDiv := by
  intro pins s σ H x y v u Q I rx ry q
  cases x <;> cases y <;> first
    | exact (show False from q).elim
    | (obtain ⟨c, q⟩ := q
       rcases c with c | c
       · exact op_fdiv pins s σ H _ _ v u Q I rx ry ⟨_, _, rfl, rfl, c, q⟩
       · exact op_fdivW pins s σ H _ _ v u Q I rx ry ⟨_, _, rfl, rfl, c, q⟩)
def uMod : R2 := fun x y H Q => match x, y with
  | .int i, .int j => 0 < j ∧ Q (.int (i % j)) H
  | _, _ => False
theorem oMod : OpR X (binaryOp .Mod) uMod := by
  intro pins s σ H x y v u Q I rx ry q
  cases x <;> cases y <;> first
    | exact (show False from q).elim
    | exact op_mod pins s σ H _ _ v u Q I rx ry ⟨_, _, rfl, rfl, q.1, q.2⟩
def uPow : R2 := fun x y H Q => match x, y with
  | .int i, .int j => CPow i j ∧ Q (.int (i ^ j.toNat)) H
  | _, _ => False
theorem oPow : OpR X (binaryOp .Pow) uPow := by
  intro pins s σ H x y v u Q I rx ry q
  cases x <;> cases y <;> first
    | exact (show False from q).elim
    | exact op_pow pins s σ H _ _ v u Q I rx ry ⟨_, _, rfl, rfl, q.1, q.2⟩
def uShl : R2 := fun x y H Q => match x, y with
  | .int i, .int j => (CPow i j ∨ CShl i j) ∧ Q (.int (i * 2 ^ j.toNat)) H
  | _, _ => False
theorem oShl : OpR X (binaryOp .LShift) uShl := by
  intro pins s σ H x y v u Q I rx ry q
  cases x <;> cases y <;> first
    | exact (show False from q).elim
    | (obtain ⟨c, q⟩ := q
       rcases c with c | c
       · exact op_shl pins s σ H _ _ v u Q I rx ry ⟨_, _, rfl, rfl, c, q⟩
       · exact op_shlW pins s σ H _ _ v u Q I rx ry ⟨_, _, rfl, rfl, c, q⟩)
def uShr : R2 := fun x y H Q => match x, y with
  | .int i, .int j => 0 ≤ j ∧ Q (.int (i / 2 ^ j.toNat)) H
  | _, _ => False
theorem oShr : OpR X (binaryOp .RShift) uShr := by
  intro pins s σ H x y v u Q I rx ry q
  cases x <;> cases y <;> first
    | exact (show False from q).elim
    | exact op_shr pins s σ H _ _ v u Q I rx ry ⟨_, _, rfl, rfl, q.1, q.2⟩
def uI2 (f : Int → Int → Int) : R2 := fun x y H Q => match x, y with
  | .int i, .int j => Q (.int (f i j)) H
  | _, _ => False
theorem oAnd : OpR X (binaryOp .BitAnd) (uI2 Builtin.bitAnd) := by
  intro pins s σ H x y v u Q I rx ry q
  cases x <;> cases y <;> first
    | exact (show False from q).elim
    | exact op_and pins s σ H _ _ v u Q I rx ry ⟨_, _, rfl, rfl, q⟩
theorem oOr : OpR X (binaryOp .BitOr) (uI2 Builtin.bitOr) := by
  intro pins s σ H x y v u Q I rx ry q
  cases x <;> cases y <;> first
    | exact (show False from q).elim
    | exact op_or pins s σ H _ _ v u Q I rx ry ⟨_, _, rfl, rfl, q⟩
theorem oXor : OpR X (binaryOp .BitXor) (uI2 Builtin.bitXor) := by
  intro pins s σ H x y v u Q I rx ry q
  cases x <;> cases y <;> first
    | exact (show False from q).elim
    | exact op_xor pins s σ H _ _ v u Q I rx ry ⟨_, _, rfl, rfl, q⟩
def uNeg : V → Hp → VK → Prop := fun x H Q => match x with
  | .int i => Q (.int (-i)) H
  | _ => False
theorem nNeg : UnR X (unaryOp .USub) uNeg := by
  intro pins s σ H x v Q I rx q
  cases x <;> first
    | exact (show False from q).elim
    | exact un_neg pins s σ H _ v Q I rx ⟨_, rfl, q⟩

/-! ### comparisons -/
@[irreducible] def aLt (K : PySem.W.Frag) (a b : Addr) (H : Hp) (Q : VK) : Prop := rLtT K (.ref a) (.ref b) H Q
def uLt (K : PySem.W.Frag) : R2 := fun x y H Q => match x, y with
  | .int i, .int j => Q (.bl (decide (i < j))) H
  | .ref a, .ref b => aLt K a b H Q
  | _, _ => False
theorem oLt (hu : X.A.units < cLine) : OpR X (compareOp .Lt) (uLt X.K) := by
  intro pins s σ H x y v u Q I rx ry q
  cases x <;> cases y <;> first
    | exact (show False from q).elim
    | exact op_lt pins s σ H _ _ v u Q I rx ry ⟨_, _, rfl, rfl, q⟩
    | (have q2 : aLt X.K _ _ H Q := q
       unfold aLt at q2
       exact op_ltT hu pins s σ H _ _ v u Q I rx ry q2)
def uLe : R2 := fun x y H Q => match x, y with
  | .int i, .int j => Q (.bl (decide (i ≤ j))) H
  | _, _ => False
theorem oLe : OpR X (compareOp .LtE) uLe := by
  intro pins s σ H x y v u Q I rx ry q
  cases x <;> cases y <;> first
    | exact (show False from q).elim
    | exact op_le pins s σ H _ _ v u Q I rx ry ⟨_, _, rfl, rfl, q⟩
def uGt : R2 := fun x y H Q => match x, y with
  | .int i, .int j => Q (.bl (decide (j < i))) H
  | _, _ => False
theorem oGt : OpR X (compareOp .Gt) uGt := by
  intro pins s σ H x y v u Q I rx ry q
  cases x <;> cases y <;> first
    | exact (show False from q).elim
    | exact op_gt pins s σ H _ _ v u Q I rx ry ⟨_, _, rfl, rfl, q⟩
def uGe : R2 := fun x y H Q => match x, y with
  | .int i, .int j => Q (.bl (decide (j ≤ i))) H
  | _, _ => False
theorem oGe : OpR X (compareOp .GtE) uGe := by
  intro pins s σ H x y v u Q I rx ry q
  cases x <;> cases y <;> first
    | exact (show False from q).elim
    | exact op_ge pins s σ H _ _ v u Q I rx ry ⟨_, _, rfl, rfl, q⟩
theorem dI {i j : Int} : decide (V.int i = V.int j) = decide (i = j) := by
  by_cases h : i = j <;> simp [h]
theorem dS {i j : Str} : decide (V.str i = V.str j) = decide (i = j) := by
  by_cases h : i = j <;> simp [h]
theorem dB {i j : Bool} : decide (V.bl i = V.bl j) = decide (i = j) := by
  by_cases h : i = j <;> simp [h]
@[irreducible] def aEq (K : PySem.W.Frag) (x y : V) (H : Hp) (Q : VK) : Prop := rEqD K x y H Q
@[irreducible] def aNe (K : PySem.W.Frag) (x y : V) (H : Hp) (Q : VK) : Prop := rNeD K x y H Q
/-- == of scalars by their values, of anything else as data -/
def uEq (K : PySem.W.Frag) : R2 := fun x y H Q => match x, y with
  | .int i, .int j => Q (.bl (decide (i = j))) H
  | .str i, .str j => Q (.bl (decide (i = j))) H
  | .bl i, .bl j => Q (.bl (decide (i = j))) H
  | .non, .non => Q (.bl true) H
  | .non, .int _ => Q (.bl false) H
  | .int _, .non => Q (.bl false) H
  | .str _, .int _ => Q (.bl false) H
  | .int _, .str _ => Q (.bl false) H
  | .str _, .non => Q (.bl false) H
  | .non, .str _ => Q (.bl false) H
  | x, y => aEq K x y H Q
theorem oEq (hu : X.A.units + 64 < cLine) : OpR X (compareOp .Eq) (uEq X.K) := by
  intro pins s σ H x y v u Q I rx ry q
  cases x <;> cases y <;> first
    | exact op_eq pins s σ H _ _ v u Q I rx ry ⟨rfl, by first | (rw [dI]; exact q) | (rw [dS]; exact q) | (rw [dB]; exact q) | (rw [decide_eq_true rfl]; exact q) | (rw [decide_eq_false (fun z => nomatch z)]; exact q)⟩
    | (have q2 : aEq X.K _ _ H Q := q
       unfold aEq at q2
       exact op_eqD hu pins s σ H _ _ v u Q I rx ry q2)
def uNe (K : PySem.W.Frag) : R2 := fun x y H Q => match x, y with
  | .int i, .int j => Q (.bl (!decide (i = j))) H
  | .str i, .str j => Q (.bl (!decide (i = j))) H
  | .bl i, .bl j => Q (.bl (!decide (i = j))) H
  | .non, .non => Q (.bl false) H
  | .non, .int _ => Q (.bl true) H
  | .int _, .non => Q (.bl true) H
  | .str _, .int _ => Q (.bl true) H
  | .int _, .str _ => Q (.bl true) H
  | .str _, .non => Q (.bl true) H
  | .non, .str _ => Q (.bl true) H
  | x, y => aNe K x y H Q
theorem oNe (hu : X.A.units + 64 < cLine) : OpR X (compareOp .NotEq) (uNe X.K) := by
  intro pins s σ H x y v u Q I rx ry q
  cases x <;> cases y <;> first
    | exact op_ne pins s σ H _ _ v u Q I rx ry ⟨rfl, by first | (rw [dI]; exact q) | (rw [dS]; exact q) | (rw [dB]; exact q) | (rw [decide_eq_true rfl]; exact q) | (rw [decide_eq_false (fun z => nomatch z)]; exact q)⟩
    | (have q2 : aNe X.K _ _ H Q := q
       unfold aNe at q2
       exact op_neD hu pins s σ H _ _ v u Q I rx ry q2)
def isN : V → Bool
  | .non => true
  | _ => false
/-- x is None, and of bools, and of objects -/
def uIs : R2 := fun x y H Q => match y with
  | .non => Q (.bl (isN x)) H
  | .bl b => (match x with
    | .bl a => Q (.bl (decide (a = b))) H
    | _ => False)
  | _ => False
theorem isN_eq {x : V} : decide (x = .non) = isN x := by
  cases x <;> first | rfl | exact decide_eq_false (fun z => nomatch z) | exact decide_eq_true rfl
theorem oIs : OpR X (compareOp .Is) uIs := by
  intro pins s σ H x y v u Q I rx ry q
  cases y <;> first
    | exact (show False from q).elim
    | exact op_isN pins s σ H _ _ v u Q I rx ry ⟨rfl, by rw [isN_eq]; exact q⟩
    | (cases x <;> first
        | exact (show False from q).elim
        | exact op_isBl pins s σ H _ _ v u Q I rx ry ⟨_, _, rfl, rfl, q⟩)
def uIsnt : R2 := fun x y H Q => match y with
  | .non => Q (.bl (!isN x)) H
  | .bl b => (match x with
    | .bl a => Q (.bl (!decide (a = b))) H
    | _ => False)
  | _ => False
theorem oIsnt : OpR X (compareOp .IsNot) uIsnt := by
  intro pins s σ H x y v u Q I rx ry q
  cases y <;> first
    | exact (show False from q).elim
    | exact op_notN pins s σ H _ _ v u Q I rx ry ⟨rfl, by rw [isN_eq]; exact q⟩
    | (cases x <;> first
        | exact (show False from q).elim
        | exact op_notBl pins s σ H _ _ v u Q I rx ry ⟨_, _, rfl, rfl, q⟩)
/-- x in y: a flat list or tuple; a dict; a sign in a text -/
@[irreducible] def uIn (K : PySem.W.Frag) : R2 := fun x y H Q => rIn K false x y H Q ∨ (∃ a o, y = .ref a ∧ DGet H a x o ∧ Q (.bl o.isSome) H) ∨ (∃ (c : Nat) (z : Str), x = .str ⟨#[c]⟩ ∧ y = .str z ∧ Q (.bl (decide (c ∈ z.cps.toList))) H)
theorem oIn (hu : X.A.units + 64 < cLine) : OpR X (compareOp .In) (uIn X.K) := by
  intro pins s σ H x y v u Q I rx ry q
  unfold uIn at q
  rcases q with q | ⟨a, o, e, g, q⟩ | q
  · exact op_in_seq pins s σ H _ _ v u Q I rx ry q
  · subst e
    obtain rfl : u = Value.ref a := ry
    exact d_in (by omega) I g rx fun s' I' => ⟨.bl o.isSome, H, I', rfl, q⟩
  · exact op_in_sign pins s σ H _ _ v u Q I rx ry q
@[irreducible] def uNotIn (K : PySem.W.Frag) : R2 := fun x y H Q => rIn K true x y H Q ∨ (∃ a o, y = .ref a ∧ DGet H a x o ∧ Q (.bl (!o.isSome)) H) ∨ (∃ (c : Nat) (z : Str), x = .str ⟨#[c]⟩ ∧ y = .str z ∧ Q (.bl (!decide (c ∈ z.cps.toList))) H)
theorem oNotIn (hu : X.A.units + 64 < cLine) : OpR X (compareOp .NotIn) (uNotIn X.K) := by
  intro pins s σ H x y v u Q I rx ry q
  unfold uNotIn at q
  rcases q with q | ⟨a, o, e, g, q⟩ | q
  · exact op_notIn_seq pins s σ H _ _ v u Q I rx ry q
  · subst e
    obtain rfl : u = Value.ref a := ry
    exact d_notIn (by omega) I g rx fun s' I' => ⟨.bl (!o.isSome), H, I', rfl, q⟩
  · exact op_notIn_sign pins s σ H _ _ v u Q I rx ry q
end
end Wk

namespace Wk
open PySem PySem.Spec PyProof.Rows L2
section
variable {X : Cx} {a b c e : Expr} {ta tb tc te : TE} {t u : TT} {rest : List Expr} {pos : Pos}

/-! ### tests -/
def cTest (t : TE) : TT := fun σ H Q => t σ H fun x H' => match x with
  | .bl k => Q k H'
  | _ => False
theorem tMono {t : TE} (m : Prop) : True := trivial
theorem test_at {x : V} {H : Hp} {Q : Bool → Hp → Prop} (q : match x with | .bl k => Q k H | _ => False) : ∃ k, x = .bl k ∧ Q k H := by
  cases x <;> first | exact ⟨_, rfl, q⟩ | exact (show False from q).elim
/-- a comparison as a test -/
theorem ct {op : CmpOp} {r : R2} (ho : OpR X (compareOp op) r) (ha : PE X a ta) (hb : PE X b tb) (hm : behindInMarks op b = false := by first | exact nomark _ | rfl) : PT X (.Compare a [op] [b] pos) (cTest (tOp r ta tb)) := by
  refine ⟨fun pins s σ H Q I h => ?_⟩
  refine wpAny_isTrue_Compare1 (thn (ha.run pins s σ H _ I h) fun v s1 ⟨x, H1, I1, r1, q1⟩ => thn (hb.run pins s1 σ H1 _ I1 q1) fun u s2 ⟨y, H2, I2, r2, q2⟩ =>
    thn (ho pins s2 σ H2 x y v u _ I2 r1 r2 q2) fun c s3 ⟨z, H3, I3, r3, q3⟩ => ?_) hm
  obtain ⟨k, e, q3⟩ := test_at q3
  subst e
  cases r3
  exact wpAny_truthy_bool ⟨H3, I3, q3⟩
theorem ce {op : CmpOp} {r : R2} (ho : OpR X (compareOp op) r) (ha : PE X a ta) (hb : PE X b tb) (hm : behindInMarks op b = false := by first | exact nomark _ | rfl) : PE X (.Compare a [op] [b] pos) (tOp r ta tb) := pe_cmpR ho ha hb hm
def cChain (r r' : R2) (ta tb tc : TE) : TE := fun σ H Q => ta σ H fun x H1 => tb σ H1 fun y H2 => r x y H2 fun z H3 => match z with
  | .bl k => if k = true then tc σ H3 fun w' H4 => r' y w' H4 Q else Q (.bl false) H3
  | _ => False
def uMonoR (r : R2) : Prop := ∀ x y H (Q Q' : VK), (∀ v H', Q v H' → Q' v H') → r x y H Q → r x y H Q'
theorem chain_at {z : V} {A : Prop} {B : Prop} (q : match z with | .bl k => if k = true then A else B | _ => False) : ∃ k, z = .bl k ∧ (if k = true then A else B) := by
  cases z <;> first | exact ⟨_, rfl, q⟩ | exact (show False from q).elim
theorem cec {op op' : CmpOp} {r r' : R2} (ho : OpR X (compareOp op) r) (ho' : OpR X (compareOp op') r') (ha : PE X a ta) (hb : PE X b tb) (hc : PE X c tc)
    (hm : lastMarks [op, op'] [b, c] = false := by with_unfolding_all rfl) : PE X (.Compare a [op, op'] [b, c] pos) (cChain r r' ta tb tc) := by
  refine ⟨fun pins s σ H Q I h => ?_⟩
  refine Compare_chain (thn (ha.run pins s σ H _ I h) fun v s1 ⟨x, H1, I1, r1, q1⟩ => chain_link (thn (hb.run pins s1 σ H1 _ I1 q1) fun u s2 ⟨y, H2, I2, r2, q2⟩ =>
    thn (ho pins s2 σ H2 x y v u _ I2 r1 r2 q2) fun d s3 ⟨z, H3, I3, r3, q3⟩ => ?_)) hm
  obtain ⟨k, e, q3⟩ := chain_at q3
  subst e
  cases r3
  refine wpAny_truthy_bool ?_
  cases k with
  | false => exact ite_ff ⟨.bl false, H3, I3, rfl, q3⟩
  | true => exact ite_tt (chain_last (thn (hc.run pins s3 σ H3 _ I3 q3) fun w' s4 ⟨z', H4, I4, r4, q4⟩ => ho' pins s4 σ H4 y z' u w' Q I4 r2 r4 q4))
theorem ctc {op op' : CmpOp} {r r' : R2} (ho : OpR X (compareOp op) r) (ho' : OpR X (compareOp op') r') (ha : PE X a ta) (hb : PE X b tb) (hc : PE X c tc)
    (hm : lastMarks [op, op'] [b, c] = false := by with_unfolding_all rfl) : PT X (.Compare a [op, op'] [b, c] pos) (cTest (cChain r r' ta tb tc)) := by
  refine ⟨fun pins s σ H Q I h => ?_⟩
  refine isTrue_chain (thn (ha.run pins s σ H _ I h) fun v s1 ⟨x, H1, I1, r1, q1⟩ => test_link (thn (hb.run pins s1 σ H1 _ I1 q1) fun u s2 ⟨y, H2, I2, r2, q2⟩ =>
    thn (ho pins s2 σ H2 x y v u _ I2 r1 r2 q2) fun d s3 ⟨z, H3, I3, r3, q3⟩ => ?_)) hm
  obtain ⟨k, e, q3⟩ := chain_at q3
  subst e
  cases r3
  refine wpAny_truthy_bool ?_
  cases k with
  | false =>
    have q' : Q false H3 := q3
    exact ite_ff ⟨H3, I3, q'⟩
  | true =>
    refine ite_tt (test_last (thn (hc.run pins s3 σ H3 _ I3 q3) fun w' s4 ⟨z', H4, I4, r4, q4⟩ => thn (ho' pins s4 σ H4 y z' u w' _ I4 r2 r4 q4) fun d' s5 ⟨z2, H5, I5, r5, q5⟩ => ?_))
    obtain ⟨k2, e2, q5⟩ := test_at q5
    subst e2
    cases r5
    exact wpAny_truthy_bool ⟨H5, I5, q5⟩
@[irreducible] def aTru (K : PySem.W.Frag) (x : V) (H : Hp) (Q : Bool → Prop) : Prop := ∃ k, TruV K x H k ∧ Q k
/-- a value's truth -/
def kTru (K : PySem.W.Frag) (x : V) (H : Hp) (Q : Bool → Prop) : Prop := match x with
  | .bl b => Q b
  | .non => Q false
  | .int i => Q (i != 0)
  | x => aTru K x H Q
theorem kTru_to {K : PySem.W.Frag} {x : V} {H : Hp} {Q : Bool → Prop} (q : kTru K x H Q) : ∃ k, TruV K x H k ∧ Q k := by
  cases x <;> first
    | exact ⟨_, rfl, q⟩
    | (have q2 : aTru K _ H Q := q
       unfold aTru at q2
       exact q2)
/-- any expression as a test, by its truth -/
def cTru (K : PySem.W.Frag) (te : TE) : TT := fun σ H Q => te σ H fun x H1 => kTru K x H1 fun k => Q k H1
theorem tt_ (ha : PE X a ta) (he : ∀ whole, isTrue a X.env whole = (do let v ← whole; standAt a.pos; holding [v] (truthy v)) := by intro _; rfl) : PT X a (cTru X.K ta) := by
  refine ⟨fun pins s σ H Q I h => ?_⟩
  exact isTrue_plain (thn (ha.run pins s σ H _ I h) fun v s1 ⟨x, H1, I1, r1, q1⟩ => tru_ok pins s1 σ H1 x v Q I1 r1 (kTru_to q1)) (he _)

/-! ### and, or, not as values -/
def cAnd (K : PySem.W.Frag) (ta tb : TE) : TE := fun σ H Q => ta σ H fun x H1 => match x with
  | .bl c => if c = true then tb σ H1 Q else Q (.bl false) H1
  | x => ∃ k, TruV K x H1 k ∧ if k = true then tb σ H1 Q else Q x H1
theorem eAnd (ha : PE X a ta) (hb : PE X (.BoolOp .And (b :: rest) pos) tb) : PE X (.BoolOp .And (a :: b :: rest) pos) (cAnd X.K ta tb) := by
  refine ⟨fun pins s σ H Q I h => ?_⟩
  refine BoolOp_and (thn (ha.run pins s σ H _ I h) fun v s1 ⟨x, H1, I1, r1, q1⟩ => ?_)
  have q2 : ∃ k, TruV X.K x H1 k ∧ if k = true then tb σ H1 Q else Q x H1 := by
    cases x <;> first
      | exact q1
      | (rename_i c; refine ⟨c, rfl, ?_⟩; cases c <;> exact q1)
  obtain ⟨k, e, q1⟩ := q2
  refine thn (tru_ok pins s1 σ H1 x v (fun c H2 => c = k ∧ H2 = H1) I1 r1 ⟨k, e, rfl, rfl⟩) fun c s2 hc => ?_
  obtain ⟨H2, I2, e1, e2⟩ := hc
  rw [e2] at I2
  rw [← e1] at q1
  cases c with
  | true => exact hb.run pins s2 σ H1 Q I2 q1
  | false => exact ⟨x, H1, I2, r1, q1⟩
def cOr (K : PySem.W.Frag) (ta tb : TE) : TE := fun σ H Q => ta σ H fun x H1 => match x with
  | .bl c => if c = true then Q (.bl true) H1 else tb σ H1 Q
  | x => ∃ k, TruV K x H1 k ∧ if k = true then Q x H1 else tb σ H1 Q
theorem eOr (ha : PE X a ta) (hb : PE X (.BoolOp .Or (b :: rest) pos) tb) : PE X (.BoolOp .Or (a :: b :: rest) pos) (cOr X.K ta tb) := by
  refine ⟨fun pins s σ H Q I h => ?_⟩
  refine BoolOp_or (thn (ha.run pins s σ H _ I h) fun v s1 ⟨x, H1, I1, r1, q1⟩ => ?_)
  have q2 : ∃ k, TruV X.K x H1 k ∧ if k = true then Q x H1 else tb σ H1 Q := by
    cases x <;> first
      | exact q1
      | (rename_i c; refine ⟨c, rfl, ?_⟩; cases c <;> exact q1)
  obtain ⟨k, e, q1⟩ := q2
  refine thn (tru_ok pins s1 σ H1 x v (fun c H2 => c = k ∧ H2 = H1) I1 r1 ⟨k, e, rfl, rfl⟩) fun c s2 hc => ?_
  obtain ⟨H2, I2, e1, e2⟩ := hc
  rw [e2] at I2
  rw [← e1] at q1
  cases c with
  | true => exact ⟨x, H1, I2, r1, q1⟩
  | false => exact hb.run pins s2 σ H1 Q I2 q1
def cNot (K : PySem.W.Frag) (ta : TE) : TE := fun σ H Q => ta σ H fun x H1 => kTru K x H1 fun k => Q (.bl (!k)) H1
theorem eNot (ha : PE X a ta) : PE X (.UnaryOp .Not a pos) (cNot X.K ta) := by
  refine ⟨fun pins s σ H Q I h => ?_⟩
  refine UnaryOp_ (thn (ha.run pins s σ H _ I h) fun v s1 ⟨x, H1, I1, r1, q1⟩ => ?_)
  obtain ⟨k, e, q1⟩ := kTru_to q1
  exact not_of (thn (tru_ok pins s1 σ H1 x v (fun c H2 => Q (.bl (!c)) H2) I1 r1 ⟨k, e, q1⟩) fun c s2 ⟨H2, I2, q2⟩ => ⟨.bl (!c), H2, I2, rfl, q2⟩)

/-! ### subscripts -/
theorem ix_dict (hu : X.A.units + 1 < cLine) : IxR X (fun x y H Q => ∃ a v, x = .ref a ∧ DGet H a y (some v) ∧ Q v H) := by
  intro value slice pins s σ H x y v u Q I rx ry h hs
  obtain ⟨a, z, rfl, g, q⟩ := h
  obtain rfl : v = Value.ref a := rx
  exact tail_any (dict_typeIs I g) PySem.F.slot_dict_getitem.lookup (d_getItem hu I g ry fun w' s3 I3 rw' => ⟨z, H, I3, rw', q⟩) hs
/-- a[i]: a list's, a tuple's, a text's item; a dict's value -/
@[irreducible] def uIx (K : PySem.W.Frag) : R2 := fun x y H Q => match x, y with
  | .ref p, .int i => (∃ xs v, SqL K H p xs ∧ atI xs i = some v ∧ Q v H) ∨ (∃ xs v, SqT K H p xs ∧ atI xs i = some v ∧ Q v H) ∨ (∃ v, DGet H p (.int i) (some v) ∧ Q v H)
  | .ref p, y => ∃ v, DGet H p y (some v) ∧ Q v H
  | .str z, .int i => ∃ c, z.length ≤ sizeLine ∧ atI z.cps.toList i = some c ∧ Q (.str ⟨#[c]⟩) H
  | _, _ => False
theorem ixU (hu : X.A.units + 64 < cLine) : IxR X (uIx X.K) := by
  intro value slice pins s σ H x y v u Q I rx ry h hs
  unfold uIx at h
  have hu1 : X.A.units + 1 < cLine := by omega
  cases x <;> cases y <;> first
    | exact (show False from h).elim
    | (obtain ⟨c, h1, h2, q⟩ := h
       exact ix_str value slice pins s σ H _ _ v u Q I rx ry ⟨_, _, c, rfl, rfl, h1, h2, q⟩ hs)
    | (obtain ⟨z, g, q⟩ := h
       exact ix_dict hu1 value slice pins s σ H _ _ v u Q I rx ry ⟨_, z, rfl, g, q⟩ hs)
    | (rcases h with ⟨xs, z, h1, h2, q⟩ | ⟨xs, z, h1, h2, q⟩ | ⟨z, g, q⟩
       · exact ix_list value slice pins s σ H _ _ v u Q I rx ry ⟨_, xs, _, z, rfl, rfl, h1, h2, q⟩ hs
       · exact ix_tup value slice pins s σ H _ _ v u Q I rx ry ⟨_, xs, _, z, rfl, rfl, h1, h2, q⟩ hs
       · exact ix_dict hu1 value slice pins s σ H _ _ v u Q I rx ry ⟨_, z, rfl, g, q⟩ hs)
theorem eIx (hu : X.A.units + 64 < cLine) (ha : PE X a ta) (hb : PE X b tb) (hs : PlainIx b := by intro _ _; rfl) : PE X (.Subscript a b pos) (tOp (uIx X.K) ta tb) := pe_ix (ixU hu) ha hb hs
/-- x[lo:hi] -/
@[irreducible] def uSl (K : PySem.W.Frag) : V → Option Int → Option Int → Hp → VK → Prop := fun x lo hi H Q => match x with
  | .ref _ => rSlL K x lo hi H Q ∨ rSlA K x lo hi H Q
  | .str _ => rSlS x lo hi H Q
  | _ => False
theorem slU : SlR X (uSl X.K) := by
  intro pins s σ H x v vl vu lo hi sl Q I rx hs pl pu h
  unfold uSl at h
  cases x <;> first
    | exact (show False from h).elim
    | exact sl_str pins s σ H _ v vl vu lo hi sl Q I rx hs pl pu h
    | (rcases h with h | h
       · exact sl_list pins s σ H _ v vl vu lo hi sl Q I rx hs pl pu h
       · exact sl_tupA pins s σ H _ v vl vu lo hi sl Q I rx hs pl pu h)
/-- the bounds of a slice -/
def cPart (t : TE) : TO := fun σ H Q => t σ H fun x H1 => match x with
  | .int i => Q (some i) H1
  | _ => False
theorem part_at {x : V} {H : Hp} {Q : Option Int → Hp → Prop} (q : match x with | .int i => Q (some i) H | _ => False) : ∃ i, x = .int i ∧ Q (some i) H := by
  cases x <;> first | exact ⟨_, rfl, q⟩ | exact (show False from q).elim
theorem eSome (h : PE X e te) : PO X (some e) (cPart te) := by
  refine ⟨fun pins s σ H Q I hw => ?_⟩
  rw [evalPart_some]
  refine thn (h.run pins s σ H _ I hw) fun u s1 ⟨x, H1, I1, r1, q1⟩ => ?_
  obtain ⟨i, rfl, q⟩ := part_at q1
  obtain ⟨t, rfl⟩ := r1
  exact ⟨some i, H1, I1, .int i t, q⟩
theorem eSl {lo hi : Option Expr} {tl th : TO} {p2 : Pos} (he : PE X e te) (hl : PO X lo tl) (hu : PO X hi th) : PE X (.Subscript e (.Slice lo hi none p2) pos) (tSl (uSl X.K) te tl th) := pe_slice slU he hl hu

/-! ### built-ins by values -/
@[irreducible] def aLen (K : PySem.W.Frag) (p : Addr) (H : Hp) (Q : VK) : Prop := (∃ xs, SqL K H p xs ∧ Q (.int xs.length) H) ∨ (∃ xs, SqT K H p xs ∧ Q (.int xs.length) H) ∨ ∃ kvs, H p = some (.dK kvs) ∧ Q (.int kvs.length) H
@[irreducible] def uLen (K : PySem.W.Frag) : List V → Hp → VK → Prop := fun vs H Q => match vs with
  | [.str y] => y.length ≤ sizeLine ∧ Q (.int y.length) H
  | [.ref p] => aLen K p H Q
  | _ => False
theorem bLen : CallR X (.builtin "len") (uLen X.K) := by
  intro pins s σ H xs us Q I r h
  unfold uLen at h
  split at h
  · exact call_len pins s σ H _ us Q I r ⟨_, _, rfl, ⟨h.1, rfl⟩, h.2⟩
  · unfold aLen at h
    rcases h with ⟨xs, h1, q⟩ | ⟨xs, h1, q⟩ | ⟨kvs, h1, q⟩
    · exact call_len_seq pins s σ H _ us Q I r ⟨_, _, rfl, .inl h1, q⟩
    · exact call_len_seq pins s σ H _ us Q I r ⟨_, _, rfl, .inr h1, q⟩
    · exact call_lenD pins s σ H _ us Q I r ⟨_, _, rfl, h1, q⟩
  · exact h.elim
def uInt : List V → Hp → VK → Prop := fun vs H Q => match vs with
  | [.int i] => Q (.int i) H
  | [.bl k] => Q (.int (b2 k)) H
  | _ => False
theorem bInt : CallR X (.type "int") uInt := by
  intro pins s σ H xs us Q I r h
  unfold uInt at h
  split at h
  · exact call_int1 pins s σ H _ us Q I r (.inl ⟨_, rfl, h⟩)
  · rename_i k
    refine call_int1 pins s σ H _ us Q I r (.inr ⟨k, rfl, ?_⟩)
    cases k <;> exact h
  · exact h.elim
def uAbs : List V → Hp → VK → Prop := fun vs H Q => match vs with
  | [.int i] => Q (.int (i.natAbs : Int)) H
  | _ => False
theorem bAbs : CallR X (.builtin "abs") uAbs := by
  intro pins s σ H xs us Q I r h
  unfold uAbs at h
  split at h
  · rename_i i
    refine call_abs pins s σ H _ us Q I r ⟨i, rfl, ?_⟩
    have e : (if i < 0 then -i else i) = (i.natAbs : Int) := by split <;> omega
    rw [e]
    exact h
  · exact h.elim
def uBool : List V → Hp → VK → Prop := fun vs H Q => match vs with
  | [.int i] => Q (.bl (i != 0)) H
  | [.bl k] => Q (.bl k) H
  | _ => False
theorem bBool : CallR X (.type "bool") uBool := by
  intro pins s σ H xs us Q I r h
  unfold uBool at h
  split at h
  · exact call_bool1 pins s σ H _ us Q I r (.inl ⟨_, rfl, h⟩)
  · exact call_bool1 pins s σ H _ us Q I r (.inr ⟨_, rfl, h⟩)
  · exact h.elim
@[irreducible] def uList (K : PySem.W.Frag) : List V → Hp → VK → Prop := fun vs H Q => match vs with
  | [.ref p] => (∃ ys, (SqL K H p ys ∨ SqT K H p ys) ∧ ∀ l, H l = none → Q (.ref l) (upd H l (.lst ys))) ∨ (∃ kvs, H p = some (.dK kvs) ∧ ∀ q, H q = none → Q (.ref q) (upd H q (.lst (kvs.map fun kv => kV kv.1)))) ∨
      ∃ kvs, Rd H p (.dT kvs) ∧ ∀ q bs, H q = none → IsKeys H kvs bs → Q (.ref q) (upd H q (.lst (bs.map V.ref)))
  | _ => False
theorem bList (hc : X.calm = true) : CallR X (.type "list") (uList X.K) := by
  intro pins s σ H xs us Q I r h
  unfold uList at h
  split at h
  · rcases h with ⟨ys, h1, q⟩ | ⟨kvs, h1, q⟩ | ⟨kvs, h1, q⟩
    · exact call_list_of pins s σ H _ us Q I r ⟨_, ys, rfl, h1, q⟩
    · exact call_list_dK hc pins s σ H _ us Q I r ⟨_, kvs, rfl, h1, q⟩
    · exact call_list_dT hc pins s σ H _ us Q I r ⟨_, kvs, rfl, h1, q⟩
  · exact h.elim
@[irreducible] def uTuple (K : PySem.W.Frag) : List V → Hp → VK → Prop := fun vs H Q => match vs with
  | [.ref p] => (∃ ys, SqL K H p ys ∧ ∀ l, H l = none → Q (.ref l) (upd H l (.tup ys))) ∨ (∃ ys, SqT K H p ys ∧ Q (.ref p) H)
  | _ => False
theorem bTuple : CallR X (.type "tuple") (uTuple X.K) := by
  intro pins s σ H xs us Q I r h
  unfold uTuple at h
  split at h
  · rcases h with ⟨ys, h1, q⟩ | ⟨ys, h1, q⟩
    · exact call_tuple_of pins s σ H _ us Q I r ⟨_, ys, rfl, .inl ⟨h1, q⟩⟩
    · exact call_tuple_of pins s σ H _ us Q I r ⟨_, ys, rfl, .inr ⟨h1, q⟩⟩
  · exact h.elim
def uMin2 : List V → Hp → VK → Prop := fun vs H Q => match vs with
  | [.int i, .int j] => Q (.int (min i j)) H
  | _ => False
theorem bMin2 (hc : X.calm = true) : CallR X (.builtin "min") uMin2 := by
  intro pins s σ H xs us Q I r h
  unfold uMin2 at h
  split at h
  · rename_i i j
    refine call_min2 hc pins s σ H _ us Q I r ⟨i, j, rfl, ?_⟩
    have e : (if j < i then j else i) = min i j := by split <;> omega
    rw [e]
    exact h
  · exact h.elim
def uMax2 : List V → Hp → VK → Prop := fun vs H Q => match vs with
  | [.int i, .int j] => Q (.int (max i j)) H
  | _ => False
theorem bMax2 (hc : X.calm = true) : CallR X (.builtin "max") uMax2 := by
  intro pins s σ H xs us Q I r h
  unfold uMax2 at h
  split at h
  · rename_i i j
    refine call_max2 hc pins s σ H _ us Q I r ⟨i, j, rfl, ?_⟩
    have e : (if j > i then j else i) = max i j := by split <;> omega
    rw [e]
    exact h
  · exact h.elim

/-! ### isinstance(x, T), T a built-in type -/
/-- the kinds of an address -/
inductive Knd where
  | lst | tup | dict | ins (C : Addr)
def Kd (K : PySem.W.Frag) (H : Hp) (a : Addr) : Knd → Prop
  | .lst => ∃ xs, SqL K H a xs
  | .tup => ∃ xs, SqT K H a xs
  | .dict => (∃ kvs, Rd H a (.dK kvs)) ∨ ∃ kvs, H a = some (.dT kvs)
  | .ins _ => False
def Knd.ty : Knd → Value
  | .lst => .type "list"
  | .tup => .type "tuple"
  | .dict => .type "dict"
  | .ins C => .ref C
theorem Kd.tyx {K : PySem.W.Frag} {H : Hp} {a : Addr} : ∀ {k : Knd}, Kd K H a k → TyX K H (.ref a) k.ty
  | .lst, h => by
    obtain ⟨xs, (h | ⟨o, h⟩) | ⟨o, its, n, h1, h2, _⟩⟩ := h
    · exact .base (.lst h)
    · exact .base (.frz h)
    · exact .kList h1 h2
  | .tup, h => by
    obtain ⟨xs, (h | ⟨o, h⟩) | ⟨o, its, n, h1, h2, _⟩⟩ := h
    · exact .base (.tup h)
    · exact .fTuple h
    · exact .kTuple h1 h2
  | .dict, h => by
    rcases h with ⟨kvs, h | ⟨o, h⟩⟩ | ⟨kvs, h⟩
    · exact .base (.dK h)
    · exact .fDict h
    · exact .base (.dT h)
  | .ins _, h => h.elim
/-- what isinstance says of a kind: of int, bool, str, None, list, tuple, dict -/
structure IsiT where
  T : String
  int : Bool
  bl : Bool
  str : Bool
  non : Bool
  lst : Bool
  tup : Bool
  dict : Bool
def IsiT.of (t : IsiT) : Knd → Bool
  | .lst => t.lst
  | .tup => t.tup
  | .dict => t.dict
  | .ins _ => false
def IsiT.good (t : IsiT) : Bool := kitB "int" t.T == some t.int && kitB "bool" t.T == some t.bl && kitB "str" t.T == some t.str && kitB "NoneType" t.T == some t.non && kitB "list" t.T == some t.lst && kitB "tuple" t.T == some t.tup && kitB "dict" t.T == some t.dict
@[irreducible] def aIsi (K : PySem.W.Frag) (t : IsiT) (a : Addr) (H : Hp) (Q : VK) : Prop := (∃ k, Kd K H a k ∧ Q (.bl (t.of k)) H) ∨ ∃ ty b, TyX K H (.ref a) ty ∧ PySem.W.kitOne K ty (.type t.T) = some b ∧ Q (.bl b) H
def uIsi (K : PySem.W.Frag) (t : IsiT) (x : V) (H : Hp) (Q : VK) : Prop := match x with
  | .int _ => Q (.bl t.int) H
  | .bl _ => Q (.bl t.bl) H
  | .str _ => Q (.bl t.str) H
  | .non => Q (.bl t.non) H
  | .ref a => aIsi K t a H Q
  | _ => False
theorem isi_to {K : PySem.W.Frag} {t : IsiT} {x : V} {H : Hp} {Q : VK} (g : t.good = true) (h : uIsi K t x H Q) : rIsi K [x, .ty t.T] H Q := by
  unfold IsiT.good at g
  simp only [Bool.and_eq_true, beq_iff_eq] at g
  obtain ⟨⟨⟨⟨⟨⟨g1, g2⟩, g3⟩, g4⟩, g5⟩, g6⟩, g7⟩ := g
  cases x with
  | int i => exact ⟨_, _, _, _, _, rfl, .ty _, .base (.int i), kit_ty g1, h⟩
  | bl i => exact ⟨_, _, _, _, _, rfl, .ty _, .base (.bl i), kit_ty g2, h⟩
  | str i => exact ⟨_, _, _, _, _, rfl, .ty _, .base (.str i), kit_ty g3, h⟩
  | non => exact ⟨_, _, _, _, _, rfl, .ty _, .base .non, kit_ty g4, h⟩
  | ref a =>
    have h : aIsi K t a H Q := h
    unfold aIsi at h
    rcases h with ⟨k, hk, q⟩ | ⟨ty, b, h1, h2, q⟩
    · cases k with
      | lst => exact ⟨_, _, _, _, _, rfl, .ty _, hk.tyx, kit_ty g5, q⟩
      | tup => exact ⟨_, _, _, _, _, rfl, .ty _, hk.tyx, kit_ty g6, q⟩
      | dict => exact ⟨_, _, _, _, _, rfl, .ty _, hk.tyx, kit_ty g7, q⟩
      | ins C => exact hk.elim
    · exact ⟨_, _, _, _, _, rfl, .ty _, h1, h2, q⟩
  | _ => exact (show False from h).elim
abbrev isiInt : IsiT := ⟨"int", true, true, false, false, false, false, false⟩
abbrev isiBool : IsiT := ⟨"bool", false, true, false, false, false, false, false⟩
abbrev isiStr : IsiT := ⟨"str", false, false, true, false, false, false, false⟩
abbrev isiList : IsiT := ⟨"list", false, false, false, false, true, false, false⟩
abbrev isiTuple : IsiT := ⟨"tuple", false, false, false, false, false, true, false⟩
abbrev isiDict : IsiT := ⟨"dict", false, false, false, false, false, false, true⟩
theorem isiInt_ok : isiInt.good = true := by decide +kernel
theorem isiBool_ok : isiBool.good = true := by decide +kernel
theorem isiStr_ok : isiStr.good = true := by decide +kernel
theorem isiList_ok : isiList.good = true := by decide +kernel
theorem isiTuple_ok : isiTuple.good = true := by decide +kernel
theorem isiDict_ok : isiDict.good = true := by decide +kernel
def cIsi (K : PySem.W.Frag) (t : IsiT) (ta : TE) : TE := fun σ H Q => ta σ H fun x H1 => uIsi K t x H1 Q
theorem peC {e : Expr} {t t' : TE} (h : PE X e t) (w : ∀ σ H Q, t' σ H Q → t σ H Q) : PE X e t' := peI h w
theorem eIsi {t : IsiT} {x : Str} {p p2 pos : Pos} (g : t.good = true) (hg : Gl X "isinstance") (hm : X.mg "isinstance" = none) (ha : PE X a ta) (hg2 : Gl X x) (hm2 : X.mg x = none) (hv : bootBuiltins x = some (.type t.T)) (hn : x ≠ "__name__" := by decide) (hd : (x == ("__debug__" : Str)) = false := by decide)
    (hs : starEach [a, .Name x p2] X.env = (false, eval a X.env) :: starEach [.Name x p2] X.env := by rfl) (hpl : (backTo pos (starEach [.Name x p2] X.env)).any (·.1) = false := by rfl) (hs2 : starEach [.Name x p2] X.env = (false, eval (.Name x p2) X.env) :: starEach [] X.env := by rfl) :
    PE X (.Call (.Name "isinstance" p) [a, .Name x p2] [] pos) (cIsi X.K t ta) := by
  refine ⟨fun pins s σ H Q I h => ?_⟩
  have hb : PE X (.Name x p2) (tC (.ty t.T)) := pe_bltn hg2 hm2 hv rfl hn hd
  have hr : CallR X (.builtin "isinstance") (rIsi X.K) := call_isi
  have ha2 : PA X [a, .Name x p2] (fun σ H Q => ta σ H fun x H1 => Q [x, .ty t.T] H1) := ⟨fun ps pins s σ H Q I h => (pa_cons ha (pa_cons hb pa_nil hs2) hs).run ps pins s σ H Q I h⟩
  have hv0 : bootBuiltins "isinstance" = some (.builtin "isinstance") := by decide +kernel
  refine (pe_callB (id := "isinstance") (r := fun vs H Q => match vs with | [x, .ty T] => T = t.T ∧ uIsi X.K t x H Q | _ => False) ?_ hg hm hv0 ha2 (by decide) (by decide) hs hpl).run pins s σ H Q I ?_
  · intro pins s σ H xs us Q I r h
    split at h
    · obtain ⟨rfl, h⟩ := h
      exact hr pins s σ H _ us Q I r (isi_to g h)
    · exact h.elim
  · have mono : ∀ σ H, ta σ H (fun x H1 => uIsi X.K t x H1 Q) → tCB (fun vs H Q => match vs with | [x, .ty T] => T = t.T ∧ uIsi X.K t x H Q | _ => False) (fun σ H Q => ta σ H fun x H1 => Q [x, .ty t.T] H1) σ H Q := fun σ H h => by
      unfold tCB
      have e : (fun (x : V) (H1 : Hp) => uIsi X.K t x H1 Q) = fun x H1 => (t.T = t.T ∧ uIsi X.K t x H1 Q) := by
        funext x H1
        exact propext ⟨fun h => ⟨rfl, h⟩, fun h => h.2⟩
      rw [e] at h
      exact h
    exact mono σ H h
end
end Wk

namespace Wk
open PySem PySem.Spec PyProof.Rows L2
section
variable {X : Cx} {tg : Expr}
/-! ### what a for walks -/
@[irreducible] def aSeq (K : PySem.W.Frag) (a : Addr) (H : Hp) (R : It → Hp → Prop) : Prop := (∃ xs, SqL K H a xs ∧ R (Itl K a) H) ∨ (∃ xs, SqT K H a xs ∧ R (Itt K a) H)
def iSeq (K : PySem.W.Frag) (tl : TE) : TI := fun σ H R => tl σ H fun x H1 => match x with
  | .ref a => aSeq K a H1 R
  | .str z => R (Its z) H1
  | _ => False
theorem fSeq {l : Expr} {tl : TE} (hl : PE X l tl) : PI X tg l (iSeq X.K tl) := by
  refine ⟨fun pins s σ H R I h => ?_⟩
  refine thn (hl.run pins s σ H _ I h) fun v s1 ⟨x, H1, I1, r1, q1⟩ => ?_
  cases x with
  | ref a =>
    have q1 : aSeq X.K a H1 R := q1
    unfold aSeq at q1
    rcases q1 with ⟨xs, hq, q⟩ | ⟨xs, hq, q⟩
    · cases r1
      obtain ⟨its, rv, p, hz⟩ := I1.list hq
      refine wpAny_pyIter_list p.isList ?_
      refine ⟨s1.heap.objs.size, [s1.heap.objs.size], _, _, H1, rfl, I1.kept (t' := s1.toks) fun b o e => Heap.get?_push_of_some _ e, turn_list a _, ⟨_, Heap.get?_push_size _ rfl, rfl, rfl⟩, fun b hb => ?_, q⟩
      have e : b = s1.heap.objs.size := by simpa using hb
      subst e
      exact I1.fpOk (Nat.le_refl _) (I1.hok.fresh (Nat.le_refl _))
    · cases r1
      obtain ⟨its, rv, p, hz⟩ := I1.tuple hq
      refine wpAny_pyIter_tuple (show s1.heap.IsTuple a its.toArray from p) ?_
      refine ⟨s1.heap.objs.size, [s1.heap.objs.size], _, _, H1, rfl, I1.kept (t' := s1.toks) fun b o e => Heap.get?_push_of_some _ e, turn_tuple a _, ⟨_, Heap.get?_push_size _ rfl, rfl, rfl⟩, fun b hb => ?_, q⟩
      have e : b = s1.heap.objs.size := by simpa using hb
      subst e
      exact I1.fpOk (Nat.le_refl _) (I1.hok.fresh (Nat.le_refl _))
  | str z =>
    obtain ⟨t, rfl⟩ := r1
    cases ha : z.cps.all (· < 128)
    · exact wpAny_pyIter_wide ha (pi_one (tk := s1.toks) I1 _ (turn_str _ z t "str_iterator" (.inr rfl)) ⟨_, Heap.get?_push_size _ rfl, rfl, rfl⟩ q1)
    · exact wpAny_pyIter_ascii ha (pi_one (tk := s1.toks) I1 _ (turn_str _ z t "str_ascii_iterator" (.inl rfl)) ⟨_, Heap.get?_push_size _ rfl, rfl, rfl⟩ q1)
  | _ => exact (show False from q1).elim
def iR1 (ta : TA) : TI := fun σ H R => ta σ H fun vs H1 => match vs with
  | [.int j] => (-(2 ^ 62) ≤ j ∧ j < 2 ^ 62) ∧ R (Itr 0 j.toNat) H1
  | _ => False
def iR2 (ta : TA) : TI := fun σ H R => ta σ H fun vs H1 => match vs with
  | [.int i, .int j] => (-(2 ^ 62) ≤ i ∧ i < 2 ^ 62 ∧ -(2 ^ 62) ≤ j ∧ j < 2 ^ 62) ∧ R (Itr i (j - i).toNat) H1
  | _ => False
def iR3 (ta : TA) : TI := fun σ H R => ta σ H fun vs H1 => match vs with
  | [.int i, .int j, .int c] => ∃ n, RgC i j c n ∧ R (Itc i c n) H1
  | _ => False
variable {a b c : Expr} {ta : TA} {p pos : Pos}
theorem fR1 (hg : Gl X "range") (hm : X.mg "range" = none) (ha : PA X [a] ta) (hs : starEach [a] X.env = [(false, eval a X.env)] := by rfl) : PI X tg (.Call (.Name "range" p) [a] [] pos) (iR1 ta) := by
  refine ⟨fun pins s σ H R I h => ?_⟩
  refine Call_ (ld_blt I hg hm boot_range (PyProof.Rows.callWith_type1 (thn (ha.run pos pins s σ H _ I h) fun us s1 ⟨vs, H1, I1, r1, q1⟩ => ?_) hs rfl))
  dsimp only at q1
  split at q1
  · obtain ⟨⟨q1, q2⟩, q⟩ := q1
    cases r1 with
    | cons r rr =>
      cases rr
      obtain ⟨t, rfl⟩ := r
      exact call_range_1 (range_it I1 (by omega) (by omega) q1 q2 (by simpa using q))
  · exact q1.elim
theorem fR2 (hg : Gl X "range") (hm : X.mg "range" = none) (ha : PA X [a, b] ta) (hs : starEach [a, b] X.env = [(false, eval a X.env), (false, eval b X.env)] := by rfl) (hs2 : starEach [b] X.env = [(false, eval b X.env)] := by rfl) :
    PI X tg (.Call (.Name "range" p) [a, b] [] pos) (iR2 ta) := by
  refine ⟨fun pins s σ H R I h => ?_⟩
  refine Call_ (ld_blt I hg hm boot_range (PyProof.Rows.callWith_type1 (thn (ha.run pos pins s σ H _ I h) fun us s1 ⟨vs, H1, I1, r1, q1⟩ => ?_) (by rw [hs, hs2]) (by rw [hs2]; rfl)))
  dsimp only at q1
  split at q1
  · obtain ⟨⟨q1, q2, q3, q4⟩, q⟩ := q1
    cases r1 with
    | cons r rr =>
      cases rr with
      | cons r' rr =>
        cases rr
        obtain ⟨t, rfl⟩ := r
        obtain ⟨t', rfl⟩ := r'
        exact call_range_2 (range_it I1 q1 q2 q3 q4 q)
  · exact q1.elim
theorem fR3 (hg : Gl X "range") (hm : X.mg "range" = none) (ha : PA X [a, b, c] ta)
    (hs : starEach [a, b, c] X.env = (false, eval a X.env) :: starEach [b, c] X.env := by rfl) (hpl : (backTo pos (starEach [b, c] X.env)).any (·.1) = false := by rfl) :
    PI X tg (.Call (.Name "range" p) [a, b, c] [] pos) (iR3 ta) := by
  have h0 := pi_range3 (X := X) (tg := tg) (p := p) hg hm ha hs hpl
  have g : PA X [a, b, c] (fun σ H Q => ta σ H fun vs H1 => match vs with | [.int i, .int j, .int k] => Q [.int i, .int j, .int k] H1 | _ => False) := ⟨fun ps pins s σ H Q I h => thn (ha.run ps pins s σ H _ I h) fun us s1 ⟨vs, H1, I1, r1, q1⟩ => by
    dsimp only at q1
    split at q1
    · exact ⟨_, H1, I1, r1, q1⟩
    · exact q1.elim⟩
  have h1 := pi_range3 (X := X) (tg := tg) (p := p) hg hm g hs hpl
  refine ⟨fun pins s σ H R I h => h1.run pins s σ H R I ?_⟩
  have e : (fun (vs : List V) (H1 : Hp) => match vs with
    | [.int i, .int j, .int c] => ∃ n, RgC i j c n ∧ R (Itc i c n) H1
    | _ => False) = fun vs H1 => (match vs with | [.int i, .int j, .int k] => (∃ (i' j' c' : Int) (n : Nat), [V.int i, .int j, .int k] = [.int i', .int j', .int c'] ∧ RgC i' j' c' n ∧ R (Itc i' c' n) H1) | _ => False) := by
    funext vs H1
    split
    · refine propext ⟨fun ⟨n, h1, h2⟩ => ⟨_, _, _, n, rfl, h1, h2⟩, fun ⟨i', j', c', n, e, h1, h2⟩ => ?_⟩
      injection e with e1 e
      injection e with e2 e
      injection e with e3 e
      injection e1 with e1
      injection e2 with e2
      injection e3 with e3
      subst e1 e2 e3
      exact ⟨n, h1, h2⟩
    · rfl
  show ta σ H (fun vs H1 => (match vs with | [.int i, .int j, .int k] => (∃ (i' j' c' : Int) (n : Nat), [V.int i, .int j, .int k] = [.int i', .int j', .int c'] ∧ RgC i' j' c' n ∧ R (Itc i' c' n) H1) | _ => False))
  rw [← e]
  exact h

/-! ### targets -/
/-- a slot stored; the row of slots stays written out -/
def setK : List (Option V) → Nat → Option V → (List (Option V) → Prop) → Prop
  | [], _, _, k => k []
  | _ :: l, 0, v, k => k (v :: l)
  | a :: l, i + 1, v, k => setK l i v fun l' => k (a :: l')
theorem setK_eq : ∀ (l : List (Option V)) (i : Nat) (v : Option V) (k : List (Option V) → Prop), setK l i v k = k (l.set i v)
  | [], _, _, _ => rfl
  | _ :: _, 0, _, _ => rfl
  | a :: l, i + 1, v, k => by
    show setK l i v (fun l' => k (a :: l')) = _
    rw [setK_eq l i v]
    rfl
def gNm (i : Nat) : TG := fun v σ H Q => setK σ i (some v) fun σ' => Q σ' H
theorem gNm_eq (i : Nat) : gNm i = gName i := by
  funext v σ H Q
  unfold gNm gName
  rw [setK_eq]
theorem tNm {X : Cx} {i : Nat} {x : Str} {pos : Pos} (hN : X.N.Nodup) (hi : X.N[i]? = some x) (hx : Loc X.env.scope x) (hf : X.fn x = true ∨ X.env.scope.names.lookup x = some .local := by first | exact .inl rfl | exact .inr rfl | assumption) : PG X (.Name x pos) (gNm i) := by
  rw [gNm_eq]
  exact pg_name hN hi hx hf
theorem sSet {X : Cx} {i : Nat} {x : Str} {e : Expr} {te : TE} {pos pos' : Pos} (hN : X.N.Nodup) (hi : X.N[i]? = some x) (hx : Loc X.env.scope x) (he : PE X e te) (hs : swapsWith e (some (.Name x pos')) pos.line X.env = pure false := by rfl) (hf : X.fn x = true ∨ X.env.scope.names.lookup x = some .local := by first | exact .inl rfl | exact .inr rfl | assumption) :
    PS X (.Assign [.Name x pos'] e pos) (tAsg te (gNm i)) := by
  rw [gNm_eq]
  exact ps_set hN hi hx he hs hf
theorem wipe1 (σ : L2.St) (i : Nat) : wipe σ [i] = σ.set i none := rfl
/-- the run of a comprehension, of a loop: opaque, their rules are below -/
@[irreducible] def lcI (J : It) (g : TG) (tt : TT) (te : TE) (vs : List Nat) (σ : L2.St) (Q : VK) (H1 : Hp) : Prop := ∀ D, H1 D = none → ∃ W : Nat → Nat → Hp → Prop, (∃ m, W 0 m (upd H1 D (.lst []))) ∧ ∀ k m H, W k m H →
  (J.stop k H ∧ Q (.ref D) H) ∨ (J.go k H ∧ ∃ Nx : Hp → Prop, (∀ H', Nx H' → ∃ m', m' < m ∧ W (k + 1) m' H') ∧ ∀ x H', J.yld k H x H' → g x (wipe σ vs) H' fun σ2 H2 => wipe σ2 vs = wipe σ vs ∧ tt σ2 H2 fun b H3 =>
    if b = true then te σ2 H3 fun y H4 => ∃ acc, H4 D = some (.lst acc) ∧ acc.length < sizeLine ∧ Nx (upd H4 D (.lst (acc ++ [y]))) else Nx H3)
def cLc (wi : TI) (g : TG) (tt : TT) (te : TE) (vs : List Nat) : TE := fun σ H Q => wi σ H fun J H1 => lcI J g tt te vs σ Q H1
theorem cLc_eq (wi : TI) (g : TG) (tt : TT) (te : TE) (vs : List Nat) : cLc wi g tt te vs = tLc wi g tt te vs := by
  unfold cLc tLc lcI
  rfl
@[irreducible] def forI (J : It) (g : TG) (tb : TS) (D : Ends) (σ : L2.St) (H1 : Hp) : Prop := ∃ W : Nat → Nat → L2.St → Hp → Prop, (∃ m, W 0 m σ H1) ∧ ∀ i m σ H, W i m σ H →
  (J.stop i H ∧ D.nx σ H) ∨ (J.go i H ∧ ∃ N : L2.St → Hp → Prop, (∀ σ' H', N σ' H' → ∃ m', m' < m ∧ W (i + 1) m' σ' H') ∧ ∀ x H', J.yld i H x H' → g x σ H' fun σ2 H2 => tb { D with nx := N, ct := N, bk := D.nx } σ2 H2)
def cFor (wi : TI) (g : TG) (tb : TS) : TS := fun D σ H => wi σ H fun J H1 => forI J g tb D σ H1
theorem cFor_eq (wi : TI) (g : TG) (tb : TS) : cFor wi g tb = tFor wi g tb := by
  unfold cFor tFor forI
  rfl
theorem sFor {X : Cx} {tg : Expr} {iter : Expr} {body : List Stmt} {wi : TI} {g : TG} {tb : TS} {pos : Pos} (hp : PassesOwn (model X.prog X.w) X.A X.env X.xe) (hc : X.calm = true) (hi : PI X tg iter wi) (hg : PG X tg g) (hb : PSs X body tb)
    (hs : ∀ x, foldedSetIterable iter X.env x = pure x := by intro _; rfl) : PS X (.For tg iter body [] pos) (cFor wi g tb) := by
  rw [cFor_eq]
  exact ps_for hp hc hi hg hb hs
theorem eLc {X : Cx} {elt tg iter : Expr} {ifs : List Expr} {scope : Scope} {own : List (Str × Nat)} {pos : Pos} {wi : TI} {g : TG} {tt : TT} {te : TE} (hc : X.calm = true) (hN : X.N.Nodup) (hi : PI X tg iter wi) (ok : BlkOk X.N X.env.scope scope own)
    (hg : ∀ (s : Shared) (H : Hp) (C : Addr) (cl : List (Str × Addr)) (fp : List Addr), PG (X.blk s H scope (compEnvC scope cl C X.env) fp) tg g) (ht : ∀ (s : Shared) (H : Hp) (C : Addr) (cl : List (Str × Addr)) (fp : List Addr), PTs (X.blk s H scope (compEnvC scope cl C X.env) fp) ifs tt)
    (he : ∀ (s : Shared) (H : Hp) (C : Addr) (cl : List (Str × Addr)) (fp : List Addr), PE (X.blk s H scope (compEnvC scope cl C X.env) fp) elt te) (hs : ∀ x, foldedSetIterable iter X.env x = pure x := by intro _; rfl) :
    PE X (.ListComp elt [⟨tg, iter, ifs, 0⟩] scope pos) (cLc wi g tt te (own.map (·.2))) := by
  rw [cLc_eq]
  exact pe_lc hc hN hi ok hg ht he hs
theorem sSetLc {X : Cx} {i : Nat} {y : Str} {py : Pos} {elt tg iter : Expr} {ifs : List Expr} {scope : Scope} {own : List (Str × Nat)} {pos spos : Pos} {wi : TI} {g : TG} {tt : TT} {te : TE} (hc : X.calm = true) (hN : X.N.Nodup) (hy : X.N[i]? = some y) (hyl : X.env.scope.names.lookup y = some .local)
    (hsw : swapsWith (.ListComp elt [⟨tg, iter, ifs, 0⟩] scope pos) (some (.Name y py)) spos.line X.env = pure true) (hi : PI X tg iter wi) (ok : BlkOk X.N X.env.scope scope own)
    (hg : ∀ (s : Shared) (H : Hp) (C : Addr) (cl : List (Str × Addr)) (fp : List Addr), PG (X.blk s H scope (compEnvC scope cl C X.env) fp) tg g) (ht : ∀ (s : Shared) (H : Hp) (C : Addr) (cl : List (Str × Addr)) (fp : List Addr), PTs (X.blk s H scope (compEnvC scope cl C X.env) fp) ifs tt)
    (he : ∀ (s : Shared) (H : Hp) (C : Addr) (cl : List (Str × Addr)) (fp : List Addr), PE (X.blk s H scope (compEnvC scope cl C X.env) fp) elt te) (hs : ∀ x, foldedSetIterable iter X.env x = pure x := by intro _; rfl) :
    PS X (.Assign [.Name y py] (.ListComp elt [⟨tg, iter, ifs, 0⟩] scope pos) spos) (tAsg (cLc wi g tt te (own.map (·.2))) (gNm i)) := by
  rw [gNm_eq, cLc_eq]
  exact ps_setLc hc hN hy hyl hsw hi ok hg ht he hs
theorem forR {lo : Int} {n : Nat} {g : TG} {tb : TS} {D : Ends} {σ : L2.St} {H : Hp} (Pv : Nat → L2.St → Hp → Prop) (h0 : Pv 0 σ H)
    (hs : ∀ i σ H, i < n → Pv i σ H → g (.int (lo + (i : Nat))) σ H fun σ2 H2 => tb { D with nx := Pv (i + 1), ct := Pv (i + 1), bk := D.nx } σ2 H2) (hd : ∀ σ H, Pv n σ H → D.nx σ H) : forI (Itr lo n) g tb D σ H := by
  unfold forI
  exact for_range Pv h0 hs hd
theorem forR0 {n : Nat} {g : TG} {tb : TS} {D : Ends} {σ : L2.St} {H : Hp} (Pv : Nat → L2.St → Hp → Prop) (h0 : Pv 0 σ H)
    (hs : ∀ i σ H, i < n → Pv i σ H → g (.int (i : Nat)) σ H fun σ2 H2 => tb { D with nx := Pv (i + 1), ct := Pv (i + 1), bk := D.nx } σ2 H2) (hd : ∀ σ H, Pv n σ H → D.nx σ H) : forI (Itr 0 n) g tb D σ H :=
  forR Pv h0 (fun i σ H h p => by rw [Int.zero_add]; exact hs i σ H h p) hd
theorem forRC {lo c : Int} {n : Nat} {g : TG} {tb : TS} {D : Ends} {σ : L2.St} {H : Hp} (Pv : Nat → L2.St → Hp → Prop) (h0 : Pv 0 σ H)
    (hs : ∀ i σ H, i < n → Pv i σ H → g (.int (lo + (i : Nat) * c)) σ H fun σ2 H2 => tb { D with nx := Pv (i + 1), ct := Pv (i + 1), bk := D.nx } σ2 H2) (hd : ∀ σ H, Pv n σ H → D.nx σ H) : forI (Itc lo c n) g tb D σ H := by
  unfold forI
  exact for_rangeC Pv h0 hs hd
/-- a comprehension over a range, its target a name -/
theorem lcR {lo c : Int} {n : Nat} {tt : TT} {te : TE} {i : Nat} {σ : L2.St} {H1 : Hp} {Q : VK} (Pv : Addr → Nat → Hp → Prop) (h0 : ∀ D, H1 D = none → Pv D 0 (upd H1 D (.lst [])))
    (hs : ∀ D k H, k < n → Pv D k H → setK σ i (some (.int (lo + (k : Nat) * c))) fun σ2 => tt σ2 H fun b H3 =>
      if b = true then te σ2 H3 fun y H4 => ∃ acc, H4 D = some (.lst acc) ∧ acc.length < sizeLine ∧ Pv D (k + 1) (upd H4 D (.lst (acc ++ [y]))) else Pv D (k + 1) H3) (hd : ∀ D H, Pv D n H → Q (.ref D) H) :
    lcI (Itc lo c n) (gNm i) tt te [i] σ Q H1 := by
  unfold lcI
  intro D hD
  refine ⟨fun k m H => m = n - k ∧ k ≤ n ∧ Pv D k H, ⟨n, by simp, Nat.zero_le _, h0 D hD⟩, ?_⟩
  rintro k m H ⟨rfl, hi, p⟩
  by_cases hlt : k < n
  · refine .inr ⟨hlt, Pv D (k + 1), fun H' p' => ⟨n - (k + 1), by omega, rfl, hlt, p'⟩, fun x H' y => ?_⟩
    obtain ⟨e, y⟩ := y
    subst e y
    have z := hs D k _ hlt p
    rw [setK_eq] at z
    show setK _ i _ _
    rw [setK_eq, wipe1, List.set_set]
    exact ⟨by rw [wipe1, List.set_set], z⟩
  · have e : k = n := by omega
    subst e
    exact .inl ⟨Nat.le_refl _, hd D H p⟩
theorem lcR1 {lo : Int} {n : Nat} {tt : TT} {te : TE} {i : Nat} {σ : L2.St} {H1 : Hp} {Q : VK} (Pv : Addr → Nat → Hp → Prop) (h0 : ∀ D, H1 D = none → Pv D 0 (upd H1 D (.lst [])))
    (hs : ∀ D k H, k < n → Pv D k H → setK σ i (some (.int (lo + (k : Nat)))) fun σ2 => tt σ2 H fun b H3 =>
      if b = true then te σ2 H3 fun y H4 => ∃ acc, H4 D = some (.lst acc) ∧ acc.length < sizeLine ∧ Pv D (k + 1) (upd H4 D (.lst (acc ++ [y]))) else Pv D (k + 1) H3) (hd : ∀ D H, Pv D n H → Q (.ref D) H) :
    lcI (Itr lo n) (gNm i) tt te [i] σ Q H1 := by
  unfold lcI
  intro D hD
  refine ⟨fun k m H => m = n - k ∧ k ≤ n ∧ Pv D k H, ⟨n, by simp, Nat.zero_le _, h0 D hD⟩, ?_⟩
  rintro k m H ⟨rfl, hi, p⟩
  by_cases hlt : k < n
  · refine .inr ⟨hlt, Pv D (k + 1), fun H' p' => ⟨n - (k + 1), by omega, rfl, hlt, p'⟩, fun x H' y => ?_⟩
    obtain ⟨e, y⟩ := y
    subst e y
    have z := hs D k _ hlt p
    rw [setK_eq] at z
    show setK _ i _ _
    rw [setK_eq, wipe1, List.set_set]
    exact ⟨by rw [wipe1, List.set_set], z⟩
  · have e : k = n := by omega
    subst e
    exact .inl ⟨Nat.le_refl _, hd D H p⟩
/-- a comprehension over a list or a tuple that stays, its target a name -/
theorem lcS {K : PySem.W.Frag} {a : Addr} {xs : List V} {tt : TT} {te : TE} {i : Nat} {σ : L2.St} {H1 : Hp} {Q : VK} (Pv : Addr → Nat → Hp → Prop) (h : SqL K H1 a xs) (h0 : ∀ D, H1 D = none → Pv D 0 (upd H1 D (.lst []))) (hl : ∀ D k H, k ≤ xs.length → Pv D k H → SqL K H a xs)
    (hs : ∀ D k x H, xs[k]? = some x → Pv D k H → setK σ i (some x) fun σ2 => tt σ2 H fun b H3 =>
      if b = true then te σ2 H3 fun y H4 => ∃ acc, H4 D = some (.lst acc) ∧ acc.length < sizeLine ∧ Pv D (k + 1) (upd H4 D (.lst (acc ++ [y]))) else Pv D (k + 1) H3) (hd : ∀ D H, Pv D xs.length H → Q (.ref D) H) :
    aSeq K a H1 (fun J H1 => lcI J (gNm i) tt te [i] σ Q H1) := by
  unfold aSeq lcI
  refine .inl ⟨xs, h, fun D hD => ?_⟩
  refine lc_list (Qd := fun H => Q (.ref D) H) (Pv D) (h0 D hD) (hl D) (fun k x H hx p => ?_) (hd D)
  have z := hs D k x H hx p
  rw [setK_eq] at z
  show setK _ i _ _
  rw [setK_eq, wipe1, List.set_set]
  exact ⟨by rw [wipe1, List.set_set], z⟩
theorem lcT {K : PySem.W.Frag} {a : Addr} {xs : List V} {tt : TT} {te : TE} {i : Nat} {σ : L2.St} {H1 : Hp} {Q : VK} (Pv : Addr → Nat → Hp → Prop) (h : SqT K H1 a xs) (h0 : ∀ D, H1 D = none → Pv D 0 (upd H1 D (.lst []))) (hl : ∀ D k H, k ≤ xs.length → Pv D k H → SqT K H a xs)
    (hs : ∀ D k x H, xs[k]? = some x → Pv D k H → setK σ i (some x) fun σ2 => tt σ2 H fun b H3 =>
      if b = true then te σ2 H3 fun y H4 => ∃ acc, H4 D = some (.lst acc) ∧ acc.length < sizeLine ∧ Pv D (k + 1) (upd H4 D (.lst (acc ++ [y]))) else Pv D (k + 1) H3) (hd : ∀ D H, Pv D xs.length H → Q (.ref D) H) :
    aSeq K a H1 (fun J H1 => lcI J (gNm i) tt te [i] σ Q H1) := by
  unfold aSeq lcI
  refine .inr ⟨xs, h, fun D hD => ?_⟩
  refine lc_tup (Qd := fun H => Q (.ref D) H) (Pv D) (h0 D hD) (hl D) (fun k x H hx p => ?_) (hd D)
  have z := hs D k x H hx p
  rw [setK_eq] at z
  show setK _ i _ _
  rw [setK_eq, wipe1, List.set_set]
  exact ⟨by rw [wipe1, List.set_set], z⟩
def gNl : TGs := fun vs σ H Q => match vs with
  | [] => Q σ H
  | _ => False
def gCn (t : TG) (u : TGs) : TGs := fun vs σ H Q => match vs with
  | v :: r => t v σ H fun σ' H' => u r σ' H' Q
  | [] => False
theorem gsNil : PGs X [] gNl := by
  refine ⟨fun pins s σ H vs us Q I r h => ?_⟩
  cases vs with
  | nil =>
    cases r
    exact assignInOrder_nil ⟨σ, H, I, h⟩
  | cons v r => exact (show False from h).elim
theorem gsCons {e : Expr} {es : List Expr} {t : TG} {u : TGs} (h1 : PG X e t) (h2 : PGs X es u)
    (hs : (assignEach (e :: es) X.env).map (·.2) = assign e X.env :: (assignEach es X.env).map (·.2) := by rfl) : PGs X (e :: es) (gCn t u) := by
  refine ⟨fun pins s σ H vs us Q I r h => ?_⟩
  cases vs with
  | nil => exact (show False from h).elim
  | cons v vr =>
    cases r with
    | cons r rr =>
      rw [hs]
      refine assignInOrder_cons (thn (h1.run pins s σ H _ _ _ I r h) fun _ s1 ⟨σ1, H1, I1, q1⟩ => ?_)
      exact h2.run pins s1 σ1 H1 _ _ Q I1 rr q1
/-- (a, b, ..) = a tuple or a list of that length -/
@[irreducible] def gUn (K : PySem.W.Frag) (n : Nat) (t : TGs) : TG := fun v σ H Q => match v with
  | .ref a => ∃ xs, (SqT K H a xs ∨ SqL K H a xs) ∧ xs.length = n ∧ t xs σ H Q
  | _ => False
theorem gUnp {es : List Expr} {k : Nat} {t : TGs} {n : Nat} (hc : X.calm = true) (h : PGs X es t)
    (hn : (assignEach es X.env).length = n := by rfl) (hst : (assignEach es X.env).findIdx? (·.1) = none := by rfl) : PG X (.Tuple es k pos) (gUn X.K n t) := by
  refine ⟨fun pins s σ H v u Q I r hw => ?_⟩
  unfold gUn at hw
  cases v with
  | ref a =>
    obtain ⟨xs, hq | hq, hl, hw⟩ := hw
    · exact (pg_tup (t := t) hc h hn hst).run pins s σ H _ _ Q I r ⟨a, xs, rfl, hq, hl, hw⟩
    · exact (pg_unl (t := t) hc h hn hst).run pins s σ H _ _ Q I r ⟨a, xs, rfl, hq, hl, hw⟩
  | _ => exact (show False from hw).elim
@[irreducible] def uSet : TSet := fun o i v H Q => match o with
  | .ref p => (∃ xs k j, i = .int k ∧ H p = some (.lst xs) ∧ ixN xs.length k = some j ∧ Q (upd H p (.lst (xs.set j v)))) ∨ ∃ H4, DPut H p i v H4 ∧ Q H4
  | _ => False
theorem setU (hu : X.A.units + 64 < cLine) : PSet X uSet := by
  intro pins s σ H o i v ov iv u Q I ro ri rv h
  unfold uSet at h
  cases o with
  | ref p =>
    rcases h with ⟨xs, k, j, e, h1, h2, q⟩ | ⟨H4, g, q⟩
    · exact set_list pins s σ H _ _ _ ov iv u Q I ro ri rv ⟨p, xs, k, j, rfl, e, h1, h2, q⟩
    · obtain rfl : ov = Value.ref p := ro
      exact d_setItem (by omega) I g ri rv fun s' I' => ⟨H4, I', q⟩
  | _ => exact (show False from h).elim
end

/-! ### immutable data -/
/-- a tuple that never changes: tracked, or of the written part -/
def Tt (K : PySem.W.Frag) (H : Hp) (a : Addr) (xs : List V) : Prop := H a = some (.tup xs) ∨ ∀ H', SqT K H' a xs
theorem Tt.sq {K : PySem.W.Frag} {H : Hp} {a : Addr} {xs : List V} (h : Tt K H a xs) : SqT K H a xs := by
  rcases h with h | h
  · exact .inl (.inl h)
  · exact h H
mutual
inductive Dt (K : PySem.W.Frag) (H : Hp) : V → PyData → Prop
  | non : Dt K H .non .none
  | bl (b : Bool) : Dt K H (.bl b) (.bool b)
  | int (i : Int) : Dt K H (.int i) (.int i)
  | str (x : Str) : Dt K H (.str x) (.str x)
  | tup {a : Addr} {xs : List V} {ds : List PyData} : Tt K H a xs → DtAll K H xs ds → Dt K H (.ref a) (.tuple ds)
inductive DtAll (K : PySem.W.Frag) (H : Hp) : List V → List PyData → Prop
  | nil : DtAll K H [] []
  | cons {v : V} {vs : List V} {d : PyData} {ds : List PyData} : Dt K H v d → DtAll K H vs ds → DtAll K H (v :: vs) (d :: ds)
end
section
variable {K : PySem.W.Frag} {H H' : Hp}
/-- tuples stay -/
def Tp (H H' : Hp) : Prop := ∀ b xs, H b = some (.tup xs) → H' b = some (.tup xs)
mutual
theorem Dt.mono (t : Tp H H') : ∀ {v : V} {d : PyData}, Dt K H v d → Dt K H' v d
  | _, _, .non => .non
  | _, _, .bl b => .bl b
  | _, _, .int i => .int i
  | _, _, .str x => .str x
  | _, _, .tup h ha => .tup (h.imp (fun h => t _ _ h) id) (DtAll.mono t ha)
theorem DtAll.mono (t : Tp H H') : ∀ {vs : List V} {ds : List PyData}, DtAll K H vs ds → DtAll K H' vs ds
  | _, _, .nil => .nil
  | _, _, .cons h hs => .cons (Dt.mono t h) (DtAll.mono t hs)
end
mutual
theorem Dt.dp : ∀ {v : V} {d : PyData}, Dt K H v d → Dp K H v d
  | _, _, .non => .non
  | _, _, .bl b => .bl b
  | _, _, .int i => .int i
  | _, _, .str x => .str x
  | _, _, .tup h ha => .tup h.sq (DtAll.dp ha)
theorem DtAll.dp : ∀ {vs : List V} {ds : List PyData}, DtAll K H vs ds → DpAll K H vs ds
  | _, _, .nil => .nil
  | _, _, .cons h hs => .cons (Dt.dp h) (DtAll.dp hs)
end
theorem Dt.eqI {v : V} {i : Int} (h : Dt K H v (.int i)) : v = .int i := by cases h; rfl
theorem Dt.eqB {v : V} {b : Bool} (h : Dt K H v (.bool b)) : v = .bl b := by cases h; rfl
theorem Dt.eqN {v : V} (h : Dt K H v .none) : v = .non := by cases h; rfl
theorem Dt.eqS {v : V} {x : Str} (h : Dt K H v (.str x)) : v = .str x := by cases h; rfl
theorem Dt.eqT {v : V} {ds : List PyData} (h : Dt K H v (.tuple ds)) : ∃ a xs, v = .ref a ∧ Tt K H a xs ∧ DtAll K H xs ds := by
  cases h with
  | tup h1 h2 => exact ⟨_, _, rfl, h1, h2⟩
theorem DtAll.len : ∀ {vs : List V} {ds : List PyData}, DtAll K H vs ds → vs.length = ds.length
  | _, _, .nil => rfl
  | _, _, .cons _ hs => congrArg Nat.succ (DtAll.len hs)
theorem DtAll.get : ∀ {vs : List V} {ds : List PyData} {i : Nat} {v : V}, DtAll K H vs ds → vs[i]? = some v → ∃ d, ds[i]? = some d ∧ Dt K H v d
  | _, _, i, v, .nil, e => by simp at e
  | _, _, 0, v, .cons h _, e => by
    simp at e
    subst e
    exact ⟨_, rfl, h⟩
  | _, _, i + 1, v, .cons _ hs, e => by
    obtain ⟨d, h1, h2⟩ := DtAll.get (i := i) hs (by simpa using e)
    exact ⟨d, by simpa using h1, h2⟩
theorem DtAll.at_ : ∀ {vs : List V} {ds : List PyData} {i : Nat} {d : PyData}, DtAll K H vs ds → ds[i]? = some d → ∃ v, vs[i]? = some v ∧ Dt K H v d
  | _, _, i, v, .nil, e => by simp at e
  | _, _, 0, v, .cons h _, e => by
    simp at e
    subst e
    exact ⟨_, rfl, h⟩
  | _, _, i + 1, v, .cons _ hs, e => by
    obtain ⟨d, h1, h2⟩ := DtAll.at_ (i := i) hs (by simpa using e)
    exact ⟨d, by simpa using h1, h2⟩
theorem DtAll.ints : ∀ {ns : List Int}, DtAll K H (ns.map V.int) (ns.map PyData.int)
  | [] => .nil
  | n :: ns => .cons (.int n) (DtAll.ints (ns := ns))
theorem DtAll.eqInts : ∀ {ns : List Int} {vs : List V}, DtAll K H vs (ns.map PyData.int) → vs = ns.map V.int
  | [], _, .nil => rfl
  | n :: ns, _, .cons h hs => by rw [h.eqI, DtAll.eqInts hs]; rfl
theorem DtAll.append : ∀ {vs ws : List V} {ds es : List PyData}, DtAll K H vs ds → DtAll K H ws es → DtAll K H (vs ++ ws) (ds ++ es)
  | _, _, _, _, .nil, h => h
  | _, _, _, _, .cons h hs, h2 => .cons h (DtAll.append hs h2)
theorem DtAll.take : ∀ {vs : List V} {ds : List PyData} (n : Nat), DtAll K H vs ds → DtAll K H (vs.take n) (ds.take n)
  | _, _, 0, _ => .nil
  | _, _, _ + 1, .nil => .nil
  | _, _, n + 1, .cons h hs => .cons h (DtAll.take n hs)
theorem DtAll.drop : ∀ {vs : List V} {ds : List PyData} (n : Nat), DtAll K H vs ds → DtAll K H (vs.drop n) (ds.drop n)
  | _, _, 0, h => h
  | _, _, _ + 1, .nil => .nil
  | _, _, n + 1, .cons h hs => DtAll.drop n hs
end

/-! ### the state: H0 the entry's heap, A what may be changed of it, L the cells at hand, T data -/
def NotTup : HO → Prop
  | .tup _ => False
  | _ => True
structure Sv (K : PySem.W.Frag) (H0 : Hp) (A : List Addr) (H : Hp) (L : List (Addr × HO)) (T : List (V × PyData)) : Prop where
  keep : ∀ b o, H0 b = some o → b ∉ A → H b = some o
  tps : Tp H0 H
  nd : (L.map Prod.fst).Nodup
  own : ∀ c ∈ L, H c.1 = some c.2 ∧ (c.1 ∈ A ∨ H0 c.1 = none)
  dat : ∀ p ∈ T, Dt K H p.1 p.2
section
variable {K : PySem.W.Frag} {H0 H H' : Hp} {A : List Addr} {L F F' R : List (Addr × HO)} {T T' : List (V × PyData)} {a p : Addr} {o o' : HO} {xs : List V} {ds : List PyData} {Q : VK}
theorem perm_erase : ∀ (L : List (Addr × HO)) (k : Nat) (hk : k < L.length), List.Perm (L[k] :: L.eraseIdx k) L
  | c :: L, 0, _ => List.Perm.refl _
  | c :: L, k + 1, hk => (List.Perm.swap c _ _).trans ((perm_erase L k (by simpa using hk)).cons c)
theorem Sv.start (hn : (L.map Prod.fst).Nodup) (h : ∀ c ∈ L, H c.1 = some c.2) (hd : ∀ p ∈ T, Dt K H p.1 p.2) : Sv K H (L.map Prod.fst) H L T :=
  ⟨fun _ _ h _ => h, fun _ _ h => h, hn, fun c hc => ⟨h c hc, .inl (List.mem_map_of_mem hc)⟩, fun p hp => hd p hp⟩
theorem Sv.start0 : Sv K H [] H [] [] where
  keep := fun _ _ h _ => h
  tps := fun _ _ h => h
  nd := List.nodup_nil
  own := fun c hc => nomatch hc
  dat := fun c hc => nomatch hc
theorem Sv.at (st : Sv K H0 A H L T) (k : Nat) (h : L[k]? = some (a, o)) : H a = some o := (st.own _ (List.mem_of_getElem? h)).1
theorem Sv.d (st : Sv K H0 A H L T) (k : Nat) {v : V} {d : PyData} (h : T[k]? = some (v, d)) : Dt K H v d := st.dat _ (List.mem_of_getElem? h)
theorem Sv.old (st : Sv K H0 A H L T) (h : H0 a = some o) (ha : a ∉ A) : H a = some o := st.keep _ _ h ha
theorem Sv.oldL (st : Sv K H0 A H L T) (h : SqL K H0 a xs) (ha : a ∉ A) : SqL K H a xs := by
  rcases h with (h | ⟨o, h⟩) | h
  · exact .inl (.inl (st.keep _ _ h ha))
  · exact .inl (.inr ⟨o, st.keep _ _ h ha⟩)
  · exact .inr h
theorem Sv.oldD (st : Sv K H0 A H L T) {v : V} {d : PyData} (h : Dt K H0 v d) : Dt K H v d := h.mono st.tps
theorem Sv.sq (st : Sv K H0 A H L T) (k : Nat) (h : L[k]? = some (a, .lst xs)) : SqL K H a xs := .inl (.inl (st.at k h))
theorem Sv.perm (st : Sv K H0 A H L T) {L' : List (Addr × HO)} (h : List.Perm L' L) : Sv K H0 A H L' T :=
  ⟨st.keep, st.tps, (h.map _).nodup_iff.mpr st.nd, fun c hc => st.own c (h.mem_iff.mp hc), st.dat⟩
theorem Sv.sub (st : Sv K H0 A H L T) {L' : List (Addr × HO)} (h : List.Sublist L' L) : Sv K H0 A H L' T :=
  ⟨st.keep, st.tps, st.nd.sublist (h.map _), fun c hc => st.own c (h.mem hc), st.dat⟩
theorem Sv.addT (st : Sv K H0 A H L T) {v : V} {d : PyData} (h : Dt K H v d) : Sv K H0 A H L ((v, d) :: T) :=
  ⟨st.keep, st.tps, st.nd, st.own, fun c hc => by
    rcases List.mem_cons.mp hc with e | hc
    · rw [e]; exact h
    · exact st.dat c hc⟩
theorem Sv.setT (st : Sv K H0 A H L T) (T' : List (V × PyData)) (h : ∀ p ∈ T', Dt K H p.1 p.2) : Sv K H0 A H L T' := ⟨st.keep, st.tps, st.nd, st.own, h⟩
theorem Sv.noT (st : Sv K H0 A H L T) : Sv K H0 A H L [] := st.setT [] fun _ h => nomatch h
theorem tp_put (h : H a = some o) (n : NotTup o) : Tp H (upd H a o') := fun b xs hb => by
  rw [upd_ne (fun e => by subst e; rw [h] at hb; cases hb; exact n)]
  exact hb
theorem tp_new (h : H a = none) : Tp H (upd H a o') := fun b xs hb => by
  rw [upd_ne (fun e => by subst e; rw [h] at hb; cases hb)]
  exact hb
theorem Sv.put (st : Sv K H0 A H L T) (k : Nat) (h : L[k]? = some (a, o)) (n : NotTup o := by trivial) (o' : HO) : Sv K H0 A (upd H a o') (L.set k (a, o')) T := by
  obtain ⟨hk, e⟩ := List.getElem?_eq_some_iff.mp h
  have hm : (a, o) ∈ L := List.mem_of_getElem? h
  have own := st.own _ hm
  have ne : ∀ j c, L[j]? = some c → j ≠ k → c.1 ≠ a := fun j c hj hjk q => by
    obtain ⟨hj2, ej⟩ := List.getElem?_eq_some_iff.mp hj
    have h1 : (L.map Prod.fst)[j]? = some a := by rw [List.getElem?_map, hj, ← q]; rfl
    have h2 : (L.map Prod.fst)[k]? = some a := by rw [List.getElem?_map, h]; rfl
    obtain ⟨l1, e1⟩ := List.getElem?_eq_some_iff.mp h1
    obtain ⟨l2, e2⟩ := List.getElem?_eq_some_iff.mp h2
    exact hjk ((List.getElem_inj st.nd).mp (e1.trans e2.symm))
  refine ⟨fun b u hb hA => ?_, fun b xs hb => tp_put own.1 n b xs (st.tps b xs hb), ?_, fun c hc => ?_, fun q hq => (st.dat q hq).mono (tp_put own.1 n)⟩
  · rw [upd_ne]
    · exact st.keep b u hb hA
    · rintro rfl
      rcases own.2 with z | z
      · exact hA z
      · rw [hb] at z; cases z
  · have : (L.set k (a, o')).map Prod.fst = L.map Prod.fst := by
      rw [List.map_set]
      refine List.ext_getElem? fun j => ?_
      by_cases hj : j = k
      · subst hj
        rw [List.getElem?_set_self (by simpa using hk), List.getElem?_map, h]
        rfl
      · rw [List.getElem?_set_ne (Ne.symm hj)]
    rw [this]
    exact st.nd
  · obtain ⟨j, hj⟩ := List.mem_iff_getElem?.mp hc
    by_cases hjk : j = k
    · subst hjk
      rw [List.getElem?_set_self hk] at hj
      cases hj
      exact ⟨upd_same, own.2⟩
    · rw [List.getElem?_set_ne (Ne.symm hjk)] at hj
      have := st.own c (List.mem_of_getElem? hj)
      exact ⟨by rw [upd_ne (ne j c hj hjk)]; exact this.1, this.2⟩
theorem Sv.new (st : Sv K H0 A H L T) (hp : H p = none) (o : HO) : Sv K H0 A (upd H p o) ((p, o) :: L) T := by
  have ne : ∀ b u, H b = some u → b ≠ p := fun b u h e => by subst e; rw [hp] at h; cases h
  refine ⟨fun b u hb hA => ?_, fun b xs hb => tp_new hp b xs (st.tps b xs hb), ?_, fun c hc => ?_, fun q hq => (st.dat q hq).mono (tp_new hp)⟩
  · have := st.keep b u hb hA
    rw [upd_ne (ne b u this)]
    exact this
  · refine List.nodup_cons.mpr ⟨fun hm => ?_, st.nd⟩
    obtain ⟨c, hc, e⟩ := List.mem_map.mp hm
    exact ne _ _ (st.own c hc).1 e
  · rcases List.mem_cons.mp hc with rfl | hc
    · refine ⟨upd_same, ?_⟩
      cases e : H0 p with
      | none => exact .inr rfl
      | some u =>
        refine .inl ?_
        by_cases hA : p ∈ A
        · exact hA
        · exact absurd rfl (ne _ _ (st.keep p u e hA))
    · have := st.own c hc
      exact ⟨by rw [upd_ne (ne _ _ this.1)]; exact this.1, this.2⟩
theorem Sv.newT (st : Sv K H0 A H L T) (hp : H p = none) (hd : DtAll K H xs ds) : Sv K H0 A (upd H p (.tup xs)) L ((.ref p, .tuple ds) :: T) := by
  have ne : ∀ b u, H b = some u → b ≠ p := fun b u h e => by subst e; rw [hp] at h; cases h
  refine ⟨fun b u hb hA => ?_, fun b xs hb => tp_new hp b xs (st.tps b xs hb), st.nd, fun c hc => ?_, fun q hq => ?_⟩
  · have := st.keep b u hb hA
    rw [upd_ne (ne b u this)]
    exact this
  · have := st.own c hc
    exact ⟨by rw [upd_ne (ne _ _ this.1)]; exact this.1, this.2⟩
  · rcases List.mem_cons.mp hq with rfl | hq
    · exact .tup (.inl upd_same) (hd.mono (tp_new hp))
    · exact (st.dat q hq).mono (tp_new hp)
/-- behind a call that was given the cells F -/
theorem Sv.call (st : Sv K H0 A H (F ++ R) T) (h : Sv K H (F.map Prod.fst) H' F' T') : Sv K H0 A H' (F' ++ R) (T' ++ T) := by
  have hF : ∀ b, b ∈ F.map Prod.fst → b ∈ A ∨ H0 b = none := fun b hb => by
    obtain ⟨c, hc, e⟩ := List.mem_map.mp hb
    have := (st.own c (List.mem_append_left _ hc)).2
    rw [e] at this
    exact this
  have hR : ∀ c ∈ R, c.1 ∉ F.map Prod.fst := fun c hc hm => by
    have nd := st.nd
    rw [List.map_append, List.nodup_append] at nd
    exact nd.2.2 _ hm _ (List.mem_map_of_mem hc) rfl
  refine ⟨fun b u hb hA => ?_, fun b xs hb => h.tps b xs (st.tps b xs hb), ?_, fun c hc => ?_, fun q hq => ?_⟩
  · refine h.keep b u (st.keep b u hb hA) fun hm => ?_
    rcases hF b hm with z | z
    · exact hA z
    · rw [hb] at z; cases z
  · rw [List.map_append, List.nodup_append]
    have nd := st.nd
    rw [List.map_append, List.nodup_append] at nd
    refine ⟨h.nd, nd.2.1, fun x hx y hy e => ?_⟩
    subst e
    obtain ⟨c, hc, e⟩ := List.mem_map.mp hx
    obtain ⟨c2, hc2, e2⟩ := List.mem_map.mp hy
    have h1 := (st.own c2 (List.mem_append_right _ hc2)).1
    rcases (h.own c hc).2 with z | z
    · rw [e] at z
      exact hR c2 hc2 (by rw [e2]; exact z)
    · rw [e, ← e2, h1] at z
      cases z
  · rcases List.mem_append.mp hc with hc | hc
    · have := h.own c hc
      refine ⟨this.1, ?_⟩
      rcases this.2 with z | z
      · exact hF _ z
      · cases e : H0 c.1 with
        | none => exact .inr rfl
        | some u =>
          refine .inl ?_
          by_cases hA : c.1 ∈ A
          · exact hA
          · rw [st.keep _ u e hA] at z; cases z
    · have := st.own c (List.mem_append_right _ hc)
      exact ⟨h.keep _ _ this.1 (hR c hc), this.2⟩
  · rcases List.mem_append.mp hq with hq | hq
    · exact h.dat q hq
    · exact (st.dat q hq).mono h.tps
theorem Sv.call0 (st : Sv K H0 A H L T) (h : Sv K H [] H' F' T') : Sv K H0 A H' (F' ++ L) (T' ++ T) := Sv.call (F := []) (R := L) st h
/-- to the front -/
theorem Sv.pull (st : Sv K H0 A H L T) (k : Nat) {c : Addr × HO} (h : L[k]? = some c) : Sv K H0 A H (c :: L.eraseIdx k) T := by
  obtain ⟨hk, e⟩ := List.getElem?_eq_some_iff.mp h
  refine st.perm ?_
  rw [← e]
  exact (perm_erase L k hk)
/-- a display -/
theorem Sv.mkL (st : Sv K H0 A H L T) (hl : xs.length ≤ sizeLine) (k : ∀ p H', Sv K H0 A H' ((p, .lst xs) :: L) T → Q (.ref p) H') : xs.length ≤ sizeLine ∧ ∀ p, H p = none → Q (.ref p) (upd H p (.lst xs)) :=
  ⟨hl, fun p hp => k p _ (st.new hp _)⟩
theorem Sv.mkL0 (st : Sv K H0 A H L T) (k : ∀ p H', Sv K H0 A H' ((p, .lst xs) :: L) T → Q (.ref p) H') : ∀ p, H p = none → Q (.ref p) (upd H p (.lst xs)) :=
  fun p hp => k p _ (st.new hp _)
theorem Sv.mkT (st : Sv K H0 A H L T) (hd : DtAll K H xs ds) (hl : xs.length ≤ sizeLine) (k : ∀ p H', Sv K H0 A H' L ((.ref p, .tuple ds) :: T) → Q (.ref p) H') : xs.length ≤ sizeLine ∧ ∀ p, H p = none → Q (.ref p) (upd H p (.tup xs)) :=
  ⟨hl, fun p hp => k p _ (st.newT hp hd)⟩
theorem Sv.mkT0 (st : Sv K H0 A H L T) (hd : DtAll K H xs ds) (k : ∀ p H', Sv K H0 A H' L ((.ref p, .tuple ds) :: T) → Q (.ref p) H') : ∀ p, H p = none → Q (.ref p) (upd H p (.tup xs)) :=
  fun p hp => k p _ (st.newT hp hd)
end

/-! ### tests whose answer is open -/
theorem iteB {c : Bool} {A B : Prop} (h1 : c = true → A) (h2 : c = false → B) : if c = true then A else B := by
  cases c with
  | true => exact h1 rfl
  | false => exact h2 rfl
theorem iteD {p : Prop} [Decidable p] {A B : Prop} (h1 : p → A) (h2 : ¬ p → B) : if decide p = true then A else B :=
  iteB (fun h => h1 (of_decide_eq_true h)) (fun h => h2 (of_decide_eq_false h))
theorem iteND {p : Prop} [Decidable p] {A B : Prop} (h1 : ¬ p → A) (h2 : p → B) : if (!decide p) = true then A else B :=
  iteB (fun h => h1 (by simpa using h)) (fun h => h2 (by simpa using h))
end Wk

namespace Wk
open PySem PySem.Spec PyProof.Rows L2
/-- the def at f keeps the promise sp -/
def Fok (P : Program) (w : World) (K : PySem.W.Frag) (mg : Str → Option Value) (base : Heap) (k : Nat) (f : Addr) (ps : List Str) (sp : Sp) : Prop :=
  ∃ fd, FnOk P w K mg base (L2.CX P w) k f fd ps sp ∧ Binds K fd ps [] ∧ ∃ oc od osl, K.lookup f = some ⟨oc, od, .func fd, osl⟩
theorem fun_lk {K : PySem.W.Frag} {x qual : Str} {params : Arguments} {body : List Stmt} {scope : Scope} {dvs : List V} {kws : List (Str × V)} {f : Addr} {fd : FuncData} (F : FunD K x qual params body scope dvs kws f fd) : ∃ oc od osl, K.lookup f = some ⟨oc, od, .func fd, osl⟩ := by
  obtain ⟨oc, od, dV, kV, doc, pm, an, cdv, ct, osl, _, lk, _⟩ := F.ex
  exact ⟨oc, od, osl, lk⟩
theorem fok_same {P : Program} {w : World} {K : PySem.W.Frag} {mg : Str → Option Value} {base : Heap} {k : Nat} {ps : List Str} {sp : Sp} {x qual : Str} {params : Arguments} {body : List Stmt} {scope : Scope} {dvs : List V} {kws : List (Str × V)} {f : Addr} {fd : FuncData} (F : FunD K x qual params body scope dvs kws f fd) (O : Fok P w K mg base k f ps sp) : FnOk P w K mg base (L2.CX P w) k f fd ps sp := by
  obtain ⟨fd2, G, _, oc, od, osl, l2⟩ := O
  obtain ⟨oc', od', osl', l1⟩ := fun_lk F
  rw [l1] at l2
  cases l2
  exact G
/-- .. the law -/
def FokA (P : Program) (w : World) (K : PySem.W.Frag) (mg : Str → Option Value) (base : Heap) (k : Nat) (f : Addr) (ps : List Str) (sp : Sp) : Prop :=
  ∀ fd, (∃ st qual x, FunD K x qual (defArgs st) (defBody st) (defScope st) [] [] f fd) → FnOk P w K mg base (L2.CX P w) k f fd ps sp
@[irreducible] def mkLst (xs : List V) (H : Hp) (Q : VK) : Prop := xs.length ≤ sizeLine ∧ ∀ p, H p = none → Q (.ref p) (upd H p (.lst xs))
@[irreducible] def mkTup (xs : List V) (H : Hp) (Q : VK) : Prop := xs.length ≤ sizeLine ∧ ∀ p, H p = none → Q (.ref p) (upd H p (.tup xs))
def cLst (t : TA) : TE := fun σ H Q => t σ H fun xs H1 => mkLst xs H1 Q
def cTup (t : TA) : TE := fun σ H Q => t σ H fun xs H1 => mkTup xs H1 Q
theorem cLst_eq (t : TA) : cLst t = tLst t := by
  funext σ H Q
  unfold cLst tLst
  congr 1
  funext xs H1
  unfold mkLst
  rfl
theorem cTup_eq (t : TA) : cTup t = tTup t := by
  funext σ H Q
  unfold cTup tTup
  congr 1
  funext xs H1
  unfold mkTup
  rfl
theorem eLst {X : Cx} {es : List Expr} {t : TA} {pos : Pos} (h : PA X es t) : PE X (.List es pos) (cLst t) := by
  rw [cLst_eq]
  exact pe_lst h
theorem eTup {X : Cx} {es : List Expr} {t : TA} {pos : Pos} {x1} (h : PA X es t) : PE X (.Tuple es x1 pos) (cTup t) := by
  rw [cTup_eq]
  exact pe_tup h
/-! ### promises by their arguments -/
abbrev Sp0 := Hp → VK → XK → Prop
def mk0 (f : Sp0) : Sp := fun vs H Q E => match vs with
  | [] => f  H Q E
  | _ => False
theorem mk0_len {f : Sp0} {vs : List V} {H : Hp} {Q : VK} {E : XK} (h : mk0 f vs H Q E) : vs.length = 0 := by
  unfold mk0 at h
  split at h
  · rfl
  · exact h.elim
theorem mk0_at {f : Sp0} {vs : List V} {H : Hp} {Q : VK} {E : XK} (h : mk0 f vs H Q E) : vs = [] ∧ f H Q E := by
  unfold mk0 at h
  split at h
  · exact ⟨rfl, h⟩
  · exact h.elim
abbrev Sp1 := V → Hp → VK → XK → Prop
def mk1 (f : Sp1) : Sp := fun vs H Q E => match vs with
  | [a0] => f a0 H Q E
  | _ => False
theorem mk1_len {f : Sp1} {vs : List V} {H : Hp} {Q : VK} {E : XK} (h : mk1 f vs H Q E) : vs.length = 1 := by
  unfold mk1 at h
  split at h
  · rfl
  · exact h.elim
theorem mk1_at {f : Sp1} {vs : List V} {H : Hp} {Q : VK} {E : XK} (h : mk1 f vs H Q E) : ∃ a0, vs = [a0] ∧ f a0 H Q E := by
  unfold mk1 at h
  split at h
  · exact ⟨_, rfl, h⟩
  · exact h.elim
abbrev Sp2 := V → V → Hp → VK → XK → Prop
def mk2 (f : Sp2) : Sp := fun vs H Q E => match vs with
  | [a0, a1] => f a0 a1 H Q E
  | _ => False
theorem mk2_len {f : Sp2} {vs : List V} {H : Hp} {Q : VK} {E : XK} (h : mk2 f vs H Q E) : vs.length = 2 := by
  unfold mk2 at h
  split at h
  · rfl
  · exact h.elim
theorem mk2_at {f : Sp2} {vs : List V} {H : Hp} {Q : VK} {E : XK} (h : mk2 f vs H Q E) : ∃ a0 a1, vs = [a0, a1] ∧ f a0 a1 H Q E := by
  unfold mk2 at h
  split at h
  · exact ⟨_, _, rfl, h⟩
  · exact h.elim
abbrev Sp3 := V → V → V → Hp → VK → XK → Prop
def mk3 (f : Sp3) : Sp := fun vs H Q E => match vs with
  | [a0, a1, a2] => f a0 a1 a2 H Q E
  | _ => False
theorem mk3_len {f : Sp3} {vs : List V} {H : Hp} {Q : VK} {E : XK} (h : mk3 f vs H Q E) : vs.length = 3 := by
  unfold mk3 at h
  split at h
  · rfl
  · exact h.elim
theorem mk3_at {f : Sp3} {vs : List V} {H : Hp} {Q : VK} {E : XK} (h : mk3 f vs H Q E) : ∃ a0 a1 a2, vs = [a0, a1, a2] ∧ f a0 a1 a2 H Q E := by
  unfold mk3 at h
  split at h
  · exact ⟨_, _, _, rfl, h⟩
  · exact h.elim
abbrev Sp4 := V → V → V → V → Hp → VK → XK → Prop
def mk4 (f : Sp4) : Sp := fun vs H Q E => match vs with
  | [a0, a1, a2, a3] => f a0 a1 a2 a3 H Q E
  | _ => False
theorem mk4_len {f : Sp4} {vs : List V} {H : Hp} {Q : VK} {E : XK} (h : mk4 f vs H Q E) : vs.length = 4 := by
  unfold mk4 at h
  split at h
  · rfl
  · exact h.elim
theorem mk4_at {f : Sp4} {vs : List V} {H : Hp} {Q : VK} {E : XK} (h : mk4 f vs H Q E) : ∃ a0 a1 a2 a3, vs = [a0, a1, a2, a3] ∧ f a0 a1 a2 a3 H Q E := by
  unfold mk4 at h
  split at h
  · exact ⟨_, _, _, _, rfl, h⟩
  · exact h.elim
abbrev Sp5 := V → V → V → V → V → Hp → VK → XK → Prop
def mk5 (f : Sp5) : Sp := fun vs H Q E => match vs with
  | [a0, a1, a2, a3, a4] => f a0 a1 a2 a3 a4 H Q E
  | _ => False
theorem mk5_len {f : Sp5} {vs : List V} {H : Hp} {Q : VK} {E : XK} (h : mk5 f vs H Q E) : vs.length = 5 := by
  unfold mk5 at h
  split at h
  · rfl
  · exact h.elim
theorem mk5_at {f : Sp5} {vs : List V} {H : Hp} {Q : VK} {E : XK} (h : mk5 f vs H Q E) : ∃ a0 a1 a2 a3 a4, vs = [a0, a1, a2, a3, a4] ∧ f a0 a1 a2 a3 a4 H Q E := by
  unfold mk5 at h
  split at h
  · exact ⟨_, _, _, _, _, rfl, h⟩
  · exact h.elim
abbrev Sp6 := V → V → V → V → V → V → Hp → VK → XK → Prop
def mk6 (f : Sp6) : Sp := fun vs H Q E => match vs with
  | [a0, a1, a2, a3, a4, a5] => f a0 a1 a2 a3 a4 a5 H Q E
  | _ => False
theorem mk6_len {f : Sp6} {vs : List V} {H : Hp} {Q : VK} {E : XK} (h : mk6 f vs H Q E) : vs.length = 6 := by
  unfold mk6 at h
  split at h
  · rfl
  · exact h.elim
theorem mk6_at {f : Sp6} {vs : List V} {H : Hp} {Q : VK} {E : XK} (h : mk6 f vs H Q E) : ∃ a0 a1 a2 a3 a4 a5, vs = [a0, a1, a2, a3, a4, a5] ∧ f a0 a1 a2 a3 a4 a5 H Q E := by
  unfold mk6 at h
  split at h
  · exact ⟨_, _, _, _, _, _, rfl, h⟩
  · exact h.elim
abbrev Sp7 := V → V → V → V → V → V → V → Hp → VK → XK → Prop
def mk7 (f : Sp7) : Sp := fun vs H Q E => match vs with
  | [a0, a1, a2, a3, a4, a5, a6] => f a0 a1 a2 a3 a4 a5 a6 H Q E
  | _ => False
theorem mk7_len {f : Sp7} {vs : List V} {H : Hp} {Q : VK} {E : XK} (h : mk7 f vs H Q E) : vs.length = 7 := by
  unfold mk7 at h
  split at h
  · rfl
  · exact h.elim
theorem mk7_at {f : Sp7} {vs : List V} {H : Hp} {Q : VK} {E : XK} (h : mk7 f vs H Q E) : ∃ a0 a1 a2 a3 a4 a5 a6, vs = [a0, a1, a2, a3, a4, a5, a6] ∧ f a0 a1 a2 a3 a4 a5 a6 H Q E := by
  unfold mk7 at h
  split at h
  · exact ⟨_, _, _, _, _, _, _, rfl, h⟩
  · exact h.elim
abbrev Sp8 := V → V → V → V → V → V → V → V → Hp → VK → XK → Prop
def mk8 (f : Sp8) : Sp := fun vs H Q E => match vs with
  | [a0, a1, a2, a3, a4, a5, a6, a7] => f a0 a1 a2 a3 a4 a5 a6 a7 H Q E
  | _ => False
theorem mk8_len {f : Sp8} {vs : List V} {H : Hp} {Q : VK} {E : XK} (h : mk8 f vs H Q E) : vs.length = 8 := by
  unfold mk8 at h
  split at h
  · rfl
  · exact h.elim
theorem mk8_at {f : Sp8} {vs : List V} {H : Hp} {Q : VK} {E : XK} (h : mk8 f vs H Q E) : ∃ a0 a1 a2 a3 a4 a5 a6 a7, vs = [a0, a1, a2, a3, a4, a5, a6, a7] ∧ f a0 a1 a2 a3 a4 a5 a6 a7 H Q E := by
  unfold mk8 at h
  split at h
  · exact ⟨_, _, _, _, _, _, _, _, rfl, h⟩
  · exact h.elim
abbrev Sp9 := V → V → V → V → V → V → V → V → V → Hp → VK → XK → Prop
def mk9 (f : Sp9) : Sp := fun vs H Q E => match vs with
  | [a0, a1, a2, a3, a4, a5, a6, a7, a8] => f a0 a1 a2 a3 a4 a5 a6 a7 a8 H Q E
  | _ => False
theorem mk9_len {f : Sp9} {vs : List V} {H : Hp} {Q : VK} {E : XK} (h : mk9 f vs H Q E) : vs.length = 9 := by
  unfold mk9 at h
  split at h
  · rfl
  · exact h.elim
theorem mk9_at {f : Sp9} {vs : List V} {H : Hp} {Q : VK} {E : XK} (h : mk9 f vs H Q E) : ∃ a0 a1 a2 a3 a4 a5 a6 a7 a8, vs = [a0, a1, a2, a3, a4, a5, a6, a7, a8] ∧ f a0 a1 a2 a3 a4 a5 a6 a7 a8 H Q E := by
  unfold mk9 at h
  split at h
  · exact ⟨_, _, _, _, _, _, _, _, _, rfl, h⟩
  · exact h.elim
/-! ### methods of lists -/
@[irreducible] def aAppend : V → List V → Hp → VK → Prop := rAppend
theorem mAppend {X : Cx} : MtR X "list.append" aAppend := by
  unfold aAppend
  exact mt_append
@[irreducible] def aPop : V → List V → Hp → VK → Prop := rPop
theorem mPop {X : Cx} : MtR X "list.pop" aPop := by
  unfold aPop
  exact mt_pop
@[irreducible] def aPopAt : V → List V → Hp → VK → Prop := rPopAt
theorem mPopAt {X : Cx} : MtR X "list.pop" aPopAt := by
  unfold aPopAt
  exact mt_popAt
@[irreducible] def aExtend : V → List V → Hp → VK → Prop := rExtend
theorem mExtend {X : Cx} : MtR X "list.extend" aExtend := by
  unfold aExtend
  exact mt_extend
@[irreducible] def aClear : V → List V → Hp → VK → Prop := rClear
theorem mClear {X : Cx} : MtR X "list.clear" aClear := by
  unfold aClear
  exact mt_clear
@[irreducible] def aReverse : V → List V → Hp → VK → Prop := rReverse
theorem mReverse {X : Cx} : MtR X "list.reverse" aReverse := by
  unfold aReverse
  exact mt_reverse
section
variable {X : Cx}
def cBits (to : TE) : TE := fun σ H Q => to σ H fun x H1 => match x with
  | .int i => Q (.int (Builtin.Int.intBits i : Nat)) H1
  | _ => False
theorem eBits {o : Expr} {to : TE} {apos pos : Pos} (ho : PE X o to) (hbase : attributeBase o "bit_length" X.env (eval o X.env) = eval o X.env := by rfl) (hline : (apos.endLine == pos.line) = true := by rfl) : PE X (.Call (.Attribute o "bit_length" apos) [] [] pos) (cBits to) := by
  refine ⟨fun pins s σ H Q I h => ?_⟩
  have h2 : PE X o (fun σ H Q' => to σ H fun x H1 => match x with | .int i => Q' (.int i) H1 | _ => False) := ⟨fun pins s σ H Q' I q' => thn (ho.run pins s σ H _ I q') fun v s1 ⟨x, H1, I1, r1, q1⟩ => by
    cases x <;> first
      | exact (show False from q1).elim
      | exact ⟨_, H1, I1, r1, q1⟩⟩
  refine (pe_bits h2 hbase hline).run pins s σ H Q I ?_
  have e : (fun (x : V) (H1 : Hp) => match x with | .int i => Q (.int (Builtin.Int.intBits i : Nat)) H1 | _ => False) = fun x H1 => (match x with | .int i => (∃ j, V.int i = .int j ∧ Q (.int (Builtin.Int.intBits j : Nat)) H1) | _ => False) := by
    funext x H1
    cases x <;> first
      | rfl
      | (refine propext ⟨fun h => ⟨_, rfl, h⟩, fun ⟨j, e, h⟩ => ?_⟩
         injection e with e
         subst e
         exact h)
  show to σ H (fun x H1 => (match x with | .int i => (∃ j, V.int i = .int j ∧ Q (.int (Builtin.Int.intBits j : Nat)) H1) | _ => False))
  rw [← e]
  exact h
def cPar (i j : Nat) (ta : TA) : TS := fun D σ H => ta σ H fun vs H1 => match vs with
  | [v, w] => setK σ i (some v) fun σ1 => setK σ1 j (some w) fun σ2 => D.nx σ2 H1
  | _ => False
theorem par_at {vs : List V} {f : V → V → Prop} (q : match vs with | [v, w] => f v w | _ => False) : ∃ v w, vs = [v, w] ∧ f v w := by
  split at q
  · exact ⟨_, _, rfl, q⟩
  · exact q.elim
theorem sPar {i j : Nat} {x y : Str} {a b : Expr} {ta : TA} {px py pt : Pos} {kt k2 pt2 pos} (hN : X.N.Nodup) (ha : PA X [a, b] ta) (hc : X.calm = true := by rfl) (hi : X.N[i]? = some x := by rfl) (hj : X.N[j]? = some y := by rfl) (hij : i ≠ j := by decide)
    (hx : X.env.scope.names.lookup x = some .local := by rfl) (hy : X.env.scope.names.lookup y = some .local := by rfl)
    (hs : swappedStores [.Tuple [.Name x px, .Name y py] kt pt] (.Tuple [a, b] k2 pt2) X.env = pure (some [x, y]) := by rfl) (hs2 : swapsWithSole [.Tuple [.Name x px, .Name y py] kt pt] (.Tuple [a, b] k2 pt2) pos.line X.env = pure false := by rfl) : PS X (.Assign [.Tuple [.Name x px, .Name y py] kt pt] (.Tuple [a, b] k2 pt2) pos) (cPar i j ta) := by
  have g : PA X [a, b] (fun σ H Q => ta σ H fun vs H1 => match vs with | [v, w] => Q [v, w] H1 | _ => False) := ⟨fun ps pins s σ H Q I h => thn (ha.run ps pins s σ H _ I h) fun us s1 ⟨vs, H1, I1, r1, q1⟩ => by
    dsimp only at q1
    split at q1
    · exact ⟨_, H1, I1, r1, q1⟩
    · exact q1.elim⟩
  refine ⟨fun pins s σ H D I h => (ps_par hc hN hi hj hij hx hy g hs hs2).run pins s σ H D I ?_⟩
  have e : (fun (vs : List V) (H1 : Hp) => match vs with | [v, w] => setK σ i (some v) fun σ1 => setK σ1 j (some w) fun σ2 => D.nx σ2 H1 | _ => False) = fun vs H1 => (match vs with | [v, w] => (∃ v' w', [v, w] = [v', w'] ∧ D.nx ((σ.set i (some v')).set j (some w')) H1) | _ => False) := by
    funext vs H1
    split
    · rw [setK_eq, setK_eq]
      refine propext ⟨fun h => ⟨_, _, rfl, h⟩, fun ⟨v', w', e, h⟩ => ?_⟩
      injection e with e1 e
      injection e with e2 e
      subst e1 e2
      exact h
    · rfl
  show ta σ H (fun vs H1 => (match vs with | [v, w] => (∃ v' w', [v, w] = [v', w'] ∧ D.nx ((σ.set i (some v')).set j (some w')) H1) | _ => False))
  rw [← e]
  exact h
def rgC (i c : Int) (n : Nat) : List V := (List.range n).map fun k => V.int (i + (k : Nat) * c)
theorem vals_rgC {a c : Int} {n : Nat} {acc : Array Value} (h : ItemsOf (fun i v => ∃ t, v = .int (a + i * c) t) acc n) : Vals (rgC a c n) acc.toList := by
  have e : acc.toList.length = n := by rw [Array.length_toList]; exact h.1
  unfold rgC
  rw [← e]
  refine vals_of_get acc.toList _ fun j u hj => ?_
  obtain ⟨t, rfl⟩ := h.2 j u (by rw [← hj, Array.getElem?_toList])
  exact ⟨t, rfl⟩
/-- a new list, however long -/
@[irreducible] def nwLst (xs : List V) (H : Hp) (Q : VK) : Prop := ∀ q, H q = none → Q (.ref q) (upd H q (.lst xs))
theorem nw_at {xs : List V} {H : Hp} {Q : VK} (h : nwLst xs H Q) : ∀ q, H q = none → Q (.ref q) (upd H q (.lst xs)) := by
  unfold nwLst at h
  exact h
/-- list(range(..)) -/
def cLRg (ta : TA) : TE := fun σ H Q => ta σ H fun vs H1 => match vs with
  | [.int j] => RgOk 0 j ∧ nwLst (rgC 0 1 j.toNat) H1 Q
  | [.int i, .int j] => RgOk i j ∧ nwLst (rgC i 1 (j - i).toNat) H1 Q
  | [.int i, .int j, .int c] => ∃ n, RgC i j c n ∧ n ≤ 2 ^ 24 ∧ nwLst (rgC i c n) H1 Q
  | _ => False
theorem lrg_fin {pins : List (Addr × Obj)} {σ : L2.St} {H1 : Hp} {s1 : Shared} {Q : VK} {r : Addr} {a b c : Int} {t u v : Tok} {n : Nat} (hc : X.calm = true) (I1 : Inv X pins σ H1 s1) (hr : IsRange s1.heap r a b c t u v) (h1 : Builtin.Range.small a b c = true) (h2 : Builtin.Range.rangeSize a b c = n) (h3 : n ≤ 2 ^ 24)
    (q : ∀ q, H1 q = none → Q (.ref q) (upd H1 q (.lst (rgC a c n)))) : wpAny (model X.prog X.w) X.A (call (.type "list") [.ref r]) (EP X pins σ Q) X.xe s1 := by
  refine call_list_range (n := n) (I1.ok.hd hc) hr h1 h2 h3 fun h' tk acc c' hk e' hi => ?_
  refine ⟨.ref s1.heap.objs.size, upd H1 s1.heap.objs.size (.lst (rgC a c n)), I1.laid hk (Nat.le_refl _) (show ObjOk X.prog X.w _ _ _ (.lst (rgC a c n)) from ⟨?_, acc.toList, c', vals_rgC hi, ?_⟩), rfl, q _ (I1.hok.fresh (Nat.le_refl _))⟩
  · unfold rgC
    rw [List.length_map, List.length_range, sizeLine_eq]; omega
  · rw [Array.toArray_toList]; exact e'
theorem eLRg {es : List Expr} {e1 : Expr} {ta : TA} {p p2 pos pos2 : Pos} (hc : X.calm = true) (hg : Gl X "list") (hm : X.mg "list" = none) (hg2 : Gl X "range") (hm2 : X.mg "range" = none) (ha : PA X (e1 :: es) ta)
    (na : starEach [.Call (.Name "range" p2) (e1 :: es) [] pos2] X.env = (false, eval (.Call (.Name "range" p2) (e1 :: es) [] pos2) X.env) :: starEach [] X.env := by rfl)
    (he : starEach (e1 :: es) X.env = (false, eval e1 X.env) :: starEach es X.env := by rfl) (hpl : (backTo pos2 (starEach es X.env)).any (·.1) = false := by rfl) :
    PE X (.Call (.Name "list" p) [.Call (.Name "range" p2) (e1 :: es) [] pos2] [] pos) (cLRg ta) := by
  refine ⟨fun pins s σ H Q I h => ?_⟩
  refine Call_ (ld_blt I hg hm boot_list (PyProof.Rows.callWith_type1 (args_cons ?_ na) na))
  refine Call_ (ld_blt I hg2 hm2 boot_range (PyProof.Rows.callWith_type1 (thn (ha.run pos2 pins s σ H _ I h) fun us s1 ⟨vs, H1, I1, r1, q1⟩ => ?_) he hpl))
  dsimp only at q1
  split at q1
  · obtain ⟨⟨b1, b2, b3, b4, b5⟩, q⟩ := q1
    cases r1 with
    | cons r rr =>
      cases rr
      obtain ⟨t, rfl⟩ := r
      refine call_range_1 (args_nil ?_)
      refine lrg_fin hc (I1.kept fun b u e => Heap.get?_push_of_some _ e) (IsRange.new _ _ _ _ _ _ _) (small_one b1 b2 b3 b4) ?_ ?_ (nw_at q)
      · rw [rangeSize_nat, Int.sub_zero]
      · rw [Int.sub_zero] at b5
        exact b5
  · obtain ⟨⟨b1, b2, b3, b4, b5⟩, q⟩ := q1
    cases r1 with
    | cons r rr =>
      cases rr with
      | cons r' rr =>
        cases rr
        obtain ⟨t, rfl⟩ := r
        obtain ⟨t', rfl⟩ := r'
        refine call_range_2 (args_nil ?_)
        exact lrg_fin hc (I1.kept fun b u e => Heap.get?_push_of_some _ e) (IsRange.new _ _ _ _ _ _ _) (small_one b1 b2 b3 b4) (rangeSize_nat _ _) b5 (nw_at q)
  · obtain ⟨n, ⟨c0, c1, c2, c3⟩, b5, q⟩ := q1
    cases r1 with
    | cons r rr =>
      cases rr with
      | cons r' rr =>
        cases rr with
        | cons r'' rr =>
          cases rr
          obtain ⟨t, rfl⟩ := r
          obtain ⟨t', rfl⟩ := r'
          obtain ⟨t'', rfl⟩ := r''
          refine call_range_3 c0 (args_nil ?_) (.inl (PyProof.noPylong_small c1))
          exact lrg_fin hc (I1.kept (t' := s1.toks) fun b u e => Heap.get?_push_of_some _ e) (IsRange.new _ _ _ _ _ _ _) c2 c3 b5 (nw_at q)
  · exact q1.elim
end
section
variable {P : Program} {w : World} {K : PySem.W.Frag} {mg : Str → Option Value}
theorem cx_none (H : Hp) (s : Shared) (e : Value) (s' : Shared) : L2.CX P w [] H s (fun _ _ _ => False) e s' → False := fun h => by
  obtain ⟨_, _, _, _, _, _, _, _, _, _, _, _, z⟩ := h
  exact z.elim
theorem walk_ofE2 {l : PySem.W.OpenLaw} {n k : Nat} {q : Program} {loose : List Str} {XP : (Str → Option Value) → Heap → Prop} {YP : World → Heap → Prop} {d : DefRec} {x : Str}
    (hn : l.most = some n) (hn2 : n ≤ sizeLine) (hdf : d.params.defaults = []) (hr : Room k callerA)
    (F : ∀ (w : World) (mg : Str → Option Value) (fa : Addr) (h : Heap), YP w h → h.Ns mainGlobals mg → mg d.name = some (.ref fa) →
      ∃ (K : PySem.W.Frag) (fd : FuncData) (sp : Sp), K.In h ∧ (∀ (s : Shared) (u : Value), BindsTo s fd ⟨[u], []⟩ [(x, u)]) ∧
        (∀ (H : Hp) (a : Addr) (ns : List Int), ns.length ≤ n → Only H → SqL K H a (ns.map V.int) → sp [.ref a] H (fun v _ => v = .bl true) fun _ _ _ => False) ∧
        ∀ base : Heap, K.In base → base.Ns mainGlobals mg → FnOk l.prog w K mg base (L2.CX l.prog w) k fa fd [x] sp) :
    PySem.W.WalkO q loose XP YP l.row.toRowW d [] (fun f vs => PySem.call f vs) := by
  refine Att.attach_call hn hdf fun w s₀ s₁ mg mb fa o pm cd doc a vs ns G Y ho hd hcd hmg hobj hints hlen hg => ?_
  obtain ⟨K, fd, sp, KX, hb, hsp, hF⟩ := F w mg fa _ Y G.T.g hmg
  exact law_call KX G.T.g G.T.b G.T.builtins G.T.nolimit hg hobj hints (Nat.le_trans hlen hn2) hr hF hb (fun H hO hS => hsp H a ns hlen hO hS) fun H e s' => cx_none H s₁ e s'
end
end Wk

namespace Wk
open PySem PySem.Spec PyProof.Rows L2
def Cells (H : Hp) (L : List (Addr × HO)) : Prop := (L.map Prod.fst).Nodup ∧ ∀ c ∈ L, H c.1 = some c.2
section
variable {K : PySem.W.Frag} {H0 H H' : Hp} {A : List Addr} {L F R : List (Addr × HO)} {T : List (V × PyData)} {a : Addr} {xs : List V}
theorem Sv.cells (st : Sv K H0 A H L T) : Cells H L := ⟨st.nd, fun c hc => (st.own c hc).1⟩
theorem Sv.cellsF (st : Sv K H0 A H (F ++ R) T) : Cells H F := (st.sub (List.sublist_append_left F R)).cells
theorem Cells.sv (c : Cells H L) : Sv K H (L.map Prod.fst) H L [] := Sv.start c.1 c.2 fun _ h => nomatch h
theorem map_at {ns : List Int} {i : Nat} {x : V} (h : (ns.map V.int)[i]? = some x) : ∃ n, x = .int n ∧ ns[i]? = some n := by
  rw [List.getElem?_map] at h
  cases e : ns[i]? with
  | none => rw [e] at h; cases h
  | some n => rw [e] at h; exact ⟨n, (Option.some.inj h).symm, rfl⟩
theorem at_pos {α : Type} {xs : List α} {i : Nat} {x : α} (h : xs[i]? = some x) : atI xs (i : Int) = some x := by
  have hi : i < xs.length := (List.getElem?_eq_some_iff.mp h).1
  unfold atI ixN
  rw [if_pos (by omega), if_pos (by omega)]
  simpa using h
theorem at_int {ns : List Int} {i : Int} (h0 : 0 ≤ i) (h1 : i < ns.length) : ∃ n, ns[i.toNat]? = some n ∧ atI (ns.map V.int) i = some (.int n) := by
  obtain ⟨k, rfl⟩ : ∃ k : Nat, i = k := ⟨i.toNat, by omega⟩
  have hk : k < ns.length := by omega
  refine ⟨ns[k], by simp [hk], at_pos ?_⟩
  rw [List.getElem?_map, List.getElem?_eq_getElem hk]
  rfl
theorem ixN_pos {n : Nat} {i : Int} (h0 : 0 ≤ i) (h1 : i < n) : ixN n i = some i.toNat := by
  unfold ixN
  rw [if_pos h0, if_pos h1]
theorem six_nat (n d k : Nat) : HT.sIx n d (some (k : Int)) = min k n := HT.sIx_nat n d k
theorem six_int (n d : Nat) {i : Int} (h : 0 ≤ i) : HT.sIx n d (some i) = min i.toNat n := by
  obtain ⟨k, rfl⟩ : ∃ k : Nat, i = k := ⟨i.toNat, by omega⟩
  rw [six_nat, Int.toNat_natCast]
theorem cut_hi {xs : List V} {i : Int} (h : 0 ≤ i) : cutV xs none (some i) = xs.take i.toNat := by
  unfold cutV
  rw [six_int _ _ h, HT.sIx_none, List.drop_zero, Nat.sub_zero, Nat.min_def]
  split
  · rfl
  · rw [List.take_of_length_le (Nat.le_refl _), List.take_of_length_le (by omega)]
theorem cut_lo {xs : List V} {i : Int} (h : 0 ≤ i) : cutV xs (some i) none = xs.drop i.toNat := by
  unfold cutV
  rw [six_int _ _ h, HT.sIx_none]
  by_cases hl : i.toNat ≤ xs.length
  · rw [Nat.min_eq_left hl, List.take_of_length_le (by rw [List.length_drop]; omega)]
  · rw [Nat.min_eq_right (show _ ≤ i.toNat by omega), List.drop_eq_nil_of_le (Nat.le_refl _), List.take_nil, List.drop_eq_nil_of_le (by omega)]
theorem cut_mid {xs : List V} {i j : Int} (h : 0 ≤ i) (h2 : 0 ≤ j) : cutV xs (some i) (some j) = (xs.drop i.toNat).take (j.toNat - i.toNat) := by
  unfold cutV
  rw [six_int _ _ h, six_int _ _ h2]
  by_cases hl : i.toNat ≤ xs.length
  · rw [Nat.min_eq_left hl]
    by_cases hj : j.toNat ≤ xs.length
    · rw [Nat.min_eq_left hj]
    · rw [Nat.min_eq_right (by omega), List.take_of_length_le (by rw [List.length_drop]; omega), List.take_of_length_le (by rw [List.length_drop]; omega)]
  · rw [Nat.min_eq_right (show _ ≤ i.toNat by omega), List.drop_eq_nil_of_le (Nat.le_refl _), List.drop_eq_nil_of_le (by omega), List.take_nil, List.take_nil]
theorem cut_all {xs : List V} : cutV xs none none = xs := by
  unfold cutV
  rw [HT.sIx_none, HT.sIx_none, List.drop_zero, Nat.sub_zero, List.take_length]
/-- the same for data -/
theorem dcut_hi {ds : List PyData} {i : Int} (h : 0 ≤ i) : (ds.drop (HT.sIx ds.length 0 none)).take (HT.sIx ds.length ds.length (some i) - HT.sIx ds.length 0 none) = ds.take i.toNat := by
  rw [six_int _ _ h, HT.sIx_none, List.drop_zero, Nat.sub_zero, Nat.min_def]
  split
  · rfl
  · rw [List.take_of_length_le (Nat.le_refl _), List.take_of_length_le (by omega)]
theorem dcut_lo {ds : List PyData} {i : Int} (h : 0 ≤ i) : (ds.drop (HT.sIx ds.length 0 (some i))).take (HT.sIx ds.length ds.length none - HT.sIx ds.length 0 (some i)) = ds.drop i.toNat := by
  rw [six_int _ _ h, HT.sIx_none]
  by_cases hl : i.toNat ≤ ds.length
  · rw [Nat.min_eq_left hl, List.take_of_length_le (by rw [List.length_drop]; omega)]
  · rw [Nat.min_eq_right (show _ ≤ i.toNat by omega), List.drop_eq_nil_of_le (Nat.le_refl _), List.take_nil, List.drop_eq_nil_of_le (by omega)]
theorem dcut_mid {ds : List PyData} {i j : Int} (h : 0 ≤ i) (h2 : 0 ≤ j) : (ds.drop (HT.sIx ds.length 0 (some i))).take (HT.sIx ds.length ds.length (some j) - HT.sIx ds.length 0 (some i)) = (ds.drop i.toNat).take (j.toNat - i.toNat) := by
  rw [six_int _ _ h, six_int _ _ h2]
  by_cases hl : i.toNat ≤ ds.length
  · rw [Nat.min_eq_left hl]
    by_cases hj : j.toNat ≤ ds.length
    · rw [Nat.min_eq_left hj]
    · rw [Nat.min_eq_right (by omega), List.take_of_length_le (by rw [List.length_drop]; omega), List.take_of_length_le (by rw [List.length_drop]; omega)]
  · rw [Nat.min_eq_right (show _ ≤ i.toNat by omega), List.drop_eq_nil_of_le (Nat.le_refl _), List.drop_eq_nil_of_le (by omega), List.take_nil, List.take_nil]
/-- what follows a statement, said once -/
theorem cut {t u : TS} {D : Ends} {σ : L2.St} {H : Hp} (R : L2.St → Hp → Prop) (h2 : ∀ σ' H', R σ' H' → u D σ' H') (h1 : (∀ σ' H', R σ' H' → u D σ' H') → t { D with nx := u D } σ H) : tSeq t u D σ H := h1 h2
theorem cut2 {t1 t2 u : TS} {D : Ends} {σ : L2.St} {H : Hp} (R : L2.St → Hp → Prop) (h2 : ∀ σ' H', R σ' H' → u D σ' H') (h1 : (∀ σ' H', R σ' H' → u D σ' H') → (tSeq t1 (tSeq t2 u)) D σ H) : (tSeq t1 (tSeq t2 u)) D σ H := h1 h2
theorem cut3 {t1 t2 t3 u : TS} {D : Ends} {σ : L2.St} {H : Hp} (R : L2.St → Hp → Prop) (h2 : ∀ σ' H', R σ' H' → u D σ' H') (h1 : (∀ σ' H', R σ' H' → u D σ' H') → (tSeq t1 (tSeq t2 (tSeq t3 u))) D σ H) : (tSeq t1 (tSeq t2 (tSeq t3 u))) D σ H := h1 h2
theorem cut4 {t1 t2 t3 t4 u : TS} {D : Ends} {σ : L2.St} {H : Hp} (R : L2.St → Hp → Prop) (h2 : ∀ σ' H', R σ' H' → u D σ' H') (h1 : (∀ σ' H', R σ' H' → u D σ' H') → (tSeq t1 (tSeq t2 (tSeq t3 (tSeq t4 u)))) D σ H) : (tSeq t1 (tSeq t2 (tSeq t3 (tSeq t4 u)))) D σ H := h1 h2
theorem cut5 {t1 t2 t3 t4 t5 u : TS} {D : Ends} {σ : L2.St} {H : Hp} (R : L2.St → Hp → Prop) (h2 : ∀ σ' H', R σ' H' → u D σ' H') (h1 : (∀ σ' H', R σ' H' → u D σ' H') → (tSeq t1 (tSeq t2 (tSeq t3 (tSeq t4 (tSeq t5 u))))) D σ H) : (tSeq t1 (tSeq t2 (tSeq t3 (tSeq t4 (tSeq t5 u))))) D σ H := h1 h2
theorem cut6 {t1 t2 t3 t4 t5 t6 u : TS} {D : Ends} {σ : L2.St} {H : Hp} (R : L2.St → Hp → Prop) (h2 : ∀ σ' H', R σ' H' → u D σ' H') (h1 : (∀ σ' H', R σ' H' → u D σ' H') → (tSeq t1 (tSeq t2 (tSeq t3 (tSeq t4 (tSeq t5 (tSeq t6 u)))))) D σ H) : (tSeq t1 (tSeq t2 (tSeq t3 (tSeq t4 (tSeq t5 (tSeq t6 u)))))) D σ H := h1 h2
theorem cut7 {t1 t2 t3 t4 t5 t6 t7 u : TS} {D : Ends} {σ : L2.St} {H : Hp} (R : L2.St → Hp → Prop) (h2 : ∀ σ' H', R σ' H' → u D σ' H') (h1 : (∀ σ' H', R σ' H' → u D σ' H') → (tSeq t1 (tSeq t2 (tSeq t3 (tSeq t4 (tSeq t5 (tSeq t6 (tSeq t7 u))))))) D σ H) : (tSeq t1 (tSeq t2 (tSeq t3 (tSeq t4 (tSeq t5 (tSeq t6 (tSeq t7 u))))))) D σ H := h1 h2
theorem cut8 {t1 t2 t3 t4 t5 t6 t7 t8 u : TS} {D : Ends} {σ : L2.St} {H : Hp} (R : L2.St → Hp → Prop) (h2 : ∀ σ' H', R σ' H' → u D σ' H') (h1 : (∀ σ' H', R σ' H' → u D σ' H') → (tSeq t1 (tSeq t2 (tSeq t3 (tSeq t4 (tSeq t5 (tSeq t6 (tSeq t7 (tSeq t8 u)))))))) D σ H) : (tSeq t1 (tSeq t2 (tSeq t3 (tSeq t4 (tSeq t5 (tSeq t6 (tSeq t7 (tSeq t8 u)))))))) D σ H := h1 h2
theorem Sv.lst (st : Sv K H0 A H L T) {Q : VK} (k : ∀ p H', Sv K H0 A H' ((p, .lst xs) :: L) T → Q (.ref p) H') (hl : xs.length < 1000000 := by first | decide | (simp; done) | (simp; omega)) : mkLst xs H Q := by
  unfold mkLst
  exact ⟨Nat.le_of_lt (Nat.lt_of_lt_of_le hl (by decide)), fun p hp => k p _ (st.new hp _)⟩
theorem Sv.tup (st : Sv K H0 A H L T) {Q : VK} {ds : List PyData} (hd : DtAll K H xs ds) (k : ∀ p H', Sv K H0 A H' L ((.ref p, .tuple ds) :: T) → Q (.ref p) H') (hl : xs.length < 1000000 := by first | decide | (simp; done) | (simp; omega)) : mkTup xs H Q := by
  unfold mkTup
  exact ⟨Nat.le_of_lt (Nat.lt_of_lt_of_le hl (by decide)), fun p hp => k p _ (st.newT hp hd)⟩
theorem Sv.nw (st : Sv K H0 A H L T) {Q : VK} (k : ∀ p H', Sv K H0 A H' ((p, .lst xs) :: L) T → Q (.ref p) H') : nwLst xs H Q := by
  unfold nwLst
  exact fun q hq => k q _ (st.new hq _)
theorem rgC_len {i c : Int} {n : Nat} : (rgC i c n).length = n := by unfold rgC; simp
theorem rgC_at {i c : Int} {n k : Nat} (h : k < n) : atI (rgC i c n) (k : Int) = some (.int (i + (k : Nat) * c)) := by
  refine at_pos ?_
  unfold rgC
  simp [h]
theorem sl_lt {n : Nat} (h : n < 1000000) : n < sizeLine := Nat.lt_of_lt_of_le h (by decide)
theorem sl_le {n : Nat} (h : n < 1000000) : n ≤ sizeLine := Nat.le_of_lt (sl_lt h)
variable {Q : VK} {p : Addr} {i : Int} {v : V} {L' : List (Addr × HO)} {ds : List PyData} {d : PyData}
/-! ### cells: reading, writing -/
theorem Sv.ixL {x y : V} (st : Sv K H0 A H L T) (k : Nat) (q : Q v H) (h : L[k]? = some (p, .lst xs) := by rfl) (ex : x = .ref p := by rfl) (ey : y = .int i := by rfl) (hv : atI xs i = some v := by first | rfl | exact at_pos rfl) : uIx K x y H Q := by
  subst ex ey
  unfold uIx
  exact .inl ⟨xs, v, st.sq k h, hv, q⟩
theorem Sv.setI {x y : V} (st : Sv K H0 A H L T) (k : Nat) {j : Nat} (L' : List (Addr × HO)) {Q : Hp → Prop} (q : ∀ H', Sv K H0 A H' L' T → Q H') (h : L[k]? = some (p, .lst xs) := by rfl) (ex : x = .ref p := by rfl) (ey : y = .int i := by rfl) (hj : ixN xs.length i = some j := by rfl) (hL : L.set k (p, .lst (xs.set j v)) = L' := by rfl) : uSet x y v H Q := by
  subst ex ey
  unfold uSet
  exact .inl ⟨xs, i, j, rfl, st.at k h, hj, q _ (hL ▸ st.put k h trivial _)⟩
theorem Sv.tyL {x : V} (st : Sv K H0 A H L T) (k : Nat) (h : L[k]? = some (p, .lst xs) := by rfl) (ex : x = .ref p := by rfl) : tyV K "list" x H := by
  subst ex
  exact .inl ⟨rfl, _, st.sq k h⟩
theorem Sv.popAt {x : V} {vs : List V} (st : Sv K H0 A H L T) (k : Nat) {j : Nat} (L' : List (Addr × HO)) (q : ∀ H', Sv K H0 A H' L' T → Q v H') (h : L[k]? = some (p, .lst xs) := by rfl) (ex : x = .ref p := by rfl) (ey : vs = [.int i] := by rfl) (hj : i.toNat = j := by rfl) (hv : xs[j]? = some v := by rfl) (hL : L.set k (p, .lst (xs.eraseIdx j)) = L' := by rfl) (h0 : 0 ≤ i := by first | decide | omega) (hi : i < xs.length := by first | decide | (simp; done) | (simp; omega)) (hx : xs.length < 1000000 := by first | decide | (simp; done) | (simp; omega)) : aPopAt x vs H Q := by
  subst hj ex ey
  unfold aPopAt
  refine ⟨p, xs, i, i.toNat, v, rfl, rfl, st.at k h, by omega, by omega, ?_, hv, q _ (hL ▸ st.put k h trivial _)⟩
  have e1 : ¬ (i < 0) := by omega
  have e2 : ¬ (i < 0 ∨ (xs.length : Int) ≤ i) := by omega
  unfold seqIndex?
  simp only [if_neg e1]
  first
    | (rw [if_neg (by simpa using e2)])
    | (rw [if_pos (by simp; omega)])
    | simp [h0, hi]
theorem Sv.app {x : V} {vs : List V} (st : Sv K H0 A H L T) (k : Nat) (L' : List (Addr × HO)) (q : ∀ H', Sv K H0 A H' L' T → Q .non H') (h : L[k]? = some (p, .lst xs) := by rfl) (ex : x = .ref p := by rfl) (ey : vs = [v] := by rfl) (hL : L.set k (p, .lst (xs ++ [v])) = L' := by rfl) (hx : xs.length < 1000000 := by first | decide | (simp; done) | (simp; omega)) : aAppend x vs H Q := by
  subst ex ey
  unfold aAppend
  exact ⟨p, xs, v, rfl, rfl, st.at k h, sl_lt hx, q _ (hL ▸ st.put k h trivial _)⟩
theorem len_L {vs : List V} (h : SqL K H p xs) (q : Q (.int xs.length) H) (ex : vs = [.ref p] := by rfl) : uLen K vs H Q := by
  subst ex
  unfold uLen
  show aLen K p H Q
  unfold aLen
  exact .inl ⟨xs, h, q⟩
theorem ix_L {x y : V} (h : SqL K H p xs) (q : Q v H) (ex : x = .ref p := by rfl) (ey : y = .int i := by rfl) (hv : atI xs i = some v := by first | rfl | exact at_pos rfl) : uIx K x y H Q := by
  subst ex ey
  unfold uIx
  exact .inl ⟨xs, v, h, hv, q⟩
theorem ix_T {x y : V} (h : SqT K H p xs) (q : Q v H) (ex : x = .ref p := by rfl) (ey : y = .int i := by rfl) (hv : atI xs i = some v := by first | rfl | exact at_pos rfl) : uIx K x y H Q := by
  subst ex ey
  unfold uIx
  exact .inr (.inl ⟨xs, v, h, hv, q⟩)
/-! ### data: reading -/
theorem DtAll.c {d : PyData} (h : DtAll K H xs (d :: ds)) : ∃ x xs', xs = x :: xs' ∧ Dt K H x d ∧ DtAll K H xs' ds := by
  cases h with
  | cons h1 h2 => exact ⟨_, _, rfl, h1, h2⟩
theorem DtAll.cI {n : Int} (h : DtAll K H xs (.int n :: ds)) : ∃ xs', xs = .int n :: xs' ∧ DtAll K H xs' ds := by
  obtain ⟨x, xs', e, h1, h2⟩ := h.c
  exact ⟨xs', by rw [e, h1.eqI], h2⟩
theorem DtAll.n (h : DtAll K H xs []) : xs = [] := by cases h; rfl
theorem Dt.ix {y : V} (h : Dt K H v (.tuple ds)) (q : ∀ x, Dt K H x d → Q x H) (ey : y = .int i := by rfl) (hd : atI ds i = some d := by first | rfl | exact at_pos rfl) : uIx K v y H Q := by
  subst ey
  obtain ⟨a, xs, rfl, ht, ha⟩ := h.eqT
  have hl := ha.len
  unfold atI at hd
  cases e : ixN ds.length i with
  | none => rw [e] at hd; cases hd
  | some j =>
    rw [e] at hd
    obtain ⟨x, hx, hxd⟩ := ha.at_ (i := j) (d := d) hd
    refine ix_T ht.sq (q x hxd) (hv := ?_)
    unfold atI
    rw [hl, e]
    exact hx
theorem Dt.ixI {y : V} {n : Int} (h : Dt K H v (.tuple ds)) (q : Q (.int n) H) (ey : y = .int i := by rfl) (hd : atI ds i = some (.int n) := by first | rfl | exact at_pos rfl) : uIx K v y H Q := by
  subst ey
  exact h.ix (d := .int n) (fun x hx => by rw [hx.eqI]; exact q) rfl hd
theorem Dt.len {vs : List V} (h : Dt K H v (.tuple ds)) (q : Q (.int ds.length) H) (ex : vs = [v] := by rfl) : uLen K vs H Q := by
  subst ex
  obtain ⟨a, xs, rfl, ht, ha⟩ := h.eqT
  unfold uLen
  show aLen K a H Q
  unfold aLen
  exact .inr (.inl ⟨xs, ht.sq, by rw [ha.len]; exact q⟩)
theorem Dt.unp {n : Nat} {t : TGs} {σ : L2.St} {Q : L2.St → Hp → Prop} (h : Dt K H v (.tuple ds)) (q : ∀ xs, DtAll K H xs ds → t xs σ H Q) (hl : ds.length = n := by rfl) : gUn K n t v σ H Q := by
  obtain ⟨a, xs, rfl, ht, ha⟩ := h.eqT
  unfold gUn
  exact ⟨xs, .inl ht.sq, by rw [ha.len]; exact hl, q xs ha⟩
theorem unpL {n : Nat} {t : TGs} {σ : L2.St} {x : V} {Q : L2.St → Hp → Prop} (h : SqL K H p xs) (q : t xs σ H Q) (ex : x = .ref p := by rfl) (hl : xs.length = n := by rfl) : gUn K n t x σ H Q := by
  subst ex
  unfold gUn
  exact ⟨xs, .inr h, hl, q⟩
/-- a slice of a tuple -/
theorem Dt.sl {lo hi : Option Int} (st : Sv K H0 A H L T) (h : Dt K H v (.tuple ds)) {es : List PyData} (he : (ds.drop (HT.sIx ds.length 0 lo)).take (HT.sIx ds.length ds.length hi - HT.sIx ds.length 0 lo) = es)
    (q : ∀ x H', Sv K H0 A H' L ((x, .tuple es) :: T) → Q x H') : uSl K v lo hi H Q := by
  obtain ⟨a, xs, rfl, ht, ha⟩ := h.eqT
  have hl := ha.len
  subst he
  unfold uSl
  refine .inr ⟨a, xs, rfl, ht.sq, fun hw => ?_, fun hw p hp => ?_⟩
  · refine q _ _ (st.addT ?_)
    rw [hl] at hw
    rw [hw.1, hw.2, List.drop_zero, Nat.sub_zero, List.take_length]
    exact h
  · refine q _ _ (st.newT hp ?_)
    unfold cutV
    rw [hl]
    exact (ha.drop _).take _
/-- a slice of a list: a new list -/
theorem Sv.sl {x : V} {lo hi : Option Int} (st : Sv K H0 A H L T) (h : SqL K H p xs) {es : List V} (he : cutV xs lo hi = es) (q : ∀ x H', Sv K H0 A H' ((x, .lst es) :: L) T → Q (.ref x) H') (ex : x = .ref p := by rfl) : uSl K x lo hi H Q := by
  subst ex
  unfold uSl
  exact .inl ⟨p, xs, rfl, h, fun x hx => he ▸ q x _ (st.new hx _)⟩
/-- t + u -/
theorem Dt.cat (st : Sv K H0 A H L T) {u : V} {es : List PyData} (h : Dt K H v (.tuple ds)) (h2 : Dt K H u (.tuple es)) (hl : ds.length + es.length < 1000000) (q : ∀ x H', Sv K H0 A H' L ((x, .tuple (ds ++ es)) :: T) → Q x H') : uAdd K v u H Q := by
  obtain ⟨a, xs, rfl, ht, ha⟩ := h.eqT
  obtain ⟨b, ys, rfl, hu, hb⟩ := h2.eqT
  have l1 := ha.len
  have l2 := hb.len
  show aAdd K a b H Q
  unfold aAdd
  refine .inr ⟨a, b, xs, ys, rfl, rfl, ht.sq, hu.sq, sl_le (by omega), fun e => ?_, fun e1 e2 => ?_, fun _ _ p hp => q _ _ (st.newT hp (ha.append hb))⟩
  · refine q _ _ (st.addT ?_)
    have : ds = [] := List.eq_nil_of_length_eq_zero (by rw [← l1, e]; rfl)
    rw [this]
    exact h2
  · refine q _ _ (st.addT ?_)
    have : es = [] := List.eq_nil_of_length_eq_zero (by rw [← l2, e2]; rfl)
    rw [this, List.append_nil]
    exact h
/-- xs + ys: a new list -/
theorem Sv.cat {x y : V} (st : Sv K H0 A H L T) {a b : Addr} {xs ys : List V} (h1 : H a = some (.lst xs)) (h2 : H b = some (.lst ys)) (hl : xs.length + ys.length < 1000000) (q : ∀ p H', Sv K H0 A H' ((p, .lst (xs ++ ys)) :: L) T → Q (.ref p) H') (ex : x = .ref a := by rfl) (ey : y = .ref b := by rfl) : uAdd K x y H Q := by
  subst ex ey
  show aAdd K a b H Q
  unfold aAdd
  exact .inl ⟨a, b, xs, ys, rfl, rfl, h1, h2, sl_le hl, fun p hp => q p _ (st.new hp _)⟩
/-- list(x), tuple(x) -/
theorem Sv.listL {vs : List V} (st : Sv K H0 A H L T) (h : SqL K H p xs) (q : ∀ l H', Sv K H0 A H' ((l, .lst xs) :: L) T → Q (.ref l) H') (ex : vs = [.ref p] := by rfl) : uList K vs H Q := by
  subst ex
  unfold uList
  exact .inl ⟨xs, .inl h, fun l hl => q l _ (st.new hl _)⟩
theorem Sv.listT {vs : List V} (st : Sv K H0 A H L T) (h : Dt K H v (.tuple ds)) (q : ∀ l H' xs, DtAll K H' xs ds → Sv K H0 A H' ((l, .lst xs) :: L) T → Q (.ref l) H') (ex : vs = [v] := by rfl) : uList K vs H Q := by
  subst ex
  obtain ⟨a, xs, rfl, ht, ha⟩ := h.eqT
  unfold uList
  exact .inl ⟨xs, .inr ht.sq, fun l hl => q l _ xs (ha.mono (tp_new hl)) (st.new hl _)⟩
theorem Sv.tupL {vs : List V} (st : Sv K H0 A H L T) (h : SqL K H p xs) (hd : DtAll K H xs ds) (q : ∀ x H', Sv K H0 A H' L ((x, .tuple ds) :: T) → Q x H') (ex : vs = [.ref p] := by rfl) : uTuple K vs H Q := by
  subst ex
  unfold uTuple
  exact .inl ⟨xs, h, fun l hl => q _ _ (st.newT hl hd)⟩
theorem Sv.tupT {vs : List V} (h : Dt K H v (.tuple ds)) (q : Q v H) (ex : vs = [v] := by rfl) : uTuple K vs H Q := by
  subst ex
  obtain ⟨a, xs, rfl, ht, ha⟩ := h.eqT
  unfold uTuple
  exact .inr ⟨xs, ht.sq, q⟩
/-! ### loops -/
/-- for x in a list that stays -/
theorem forL {a : Addr} {g : TG} {tb : TS} {D : Ends} {σ : L2.St} (Pv : Nat → L2.St → Hp → Prop) (h : SqL K H a xs) (h0 : Pv 0 σ H) (hl : ∀ i σ H, i ≤ xs.length → Pv i σ H → SqL K H a xs)
    (hs : ∀ i x σ H, xs[i]? = some x → Pv i σ H → g x σ H fun σ2 H2 => tb { D with nx := Pv (i + 1), ct := Pv (i + 1), bk := D.nx } σ2 H2) (hd : ∀ σ H, Pv xs.length σ H → D.nx σ H) :
    aSeq K a H (fun J H1 => forI J g tb D σ H1) := by
  unfold aSeq forI
  exact .inl ⟨xs, h, for_list Pv h0 hl hs hd⟩
theorem forT {a : Addr} {g : TG} {tb : TS} {D : Ends} {σ : L2.St} (Pv : Nat → L2.St → Hp → Prop) (h : SqT K H a xs) (h0 : Pv 0 σ H) (hl : ∀ i σ H, i ≤ xs.length → Pv i σ H → SqT K H a xs)
    (hs : ∀ i x σ H, xs[i]? = some x → Pv i σ H → g x σ H fun σ2 H2 => tb { D with nx := Pv (i + 1), ct := Pv (i + 1), bk := D.nx } σ2 H2) (hd : ∀ σ H, Pv xs.length σ H → D.nx σ H) :
    aSeq K a H (fun J H1 => forI J g tb D σ H1) := by
  unfold aSeq forI
  exact .inr ⟨xs, h, for_tup Pv h0 hl hs hd⟩
/-- the element of a comprehension is made: it goes to the end of the new list -/
theorem Sv.lcEnd {D : Addr} {R : Hp → Prop} (st : Sv K H0 A H L T) (k : Nat) (h : L[k]? = some (D, .lst xs)) (hx : xs.length < 1000000) (L' : List (Addr × HO)) (q : ∀ H', Sv K H0 A H' L' T → R H') (hL : L.set k (D, .lst (xs ++ [v])) = L' := by rfl) :
    ∃ acc, H D = some (.lst acc) ∧ acc.length < sizeLine ∧ R (upd H D (.lst (acc ++ [v]))) := ⟨xs, st.at k h, sl_lt hx, q _ (hL ▸ st.put k h trivial _)⟩
theorem zip_all {ys : List V} {es : List PyData} (h : ∀ p ∈ ys.zip es, Dt K H p.1 p.2) (hl : ys.length = es.length) : DtAll K H ys es := by
  induction ys generalizing es with
  | nil =>
    cases es with
    | nil => exact .nil
    | cons e es => simp at hl
  | cons y ys ih =>
    cases es with
    | nil => simp at hl
    | cons e es => exact .cons (h (y, e) (by simp)) (ih (fun p hp => h p (by simp [hp])) (by simpa using hl))
theorem Sv.zipEnd {z : V} {ys : List V} {es : List PyData} (st : Sv K H0 A H L ((z, d) :: T)) (hT : ∀ p ∈ ys.zip es, p ∈ T) (hl : ys.length = es.length) : Sv K H0 A H L ((ys ++ [z]).zip (es ++ [d])) := by
  refine st.setT _ fun p hp => ?_
  rw [List.zip_append hl] at hp
  rcases List.mem_append.mp hp with hp | hp
  · exact st.dat p (List.mem_cons_of_mem _ (hT p hp))
  · have e : p = (z, d) := by simpa using hp
    rw [e]
    exact st.dat _ (by simp)
theorem Sv.all {ys : List V} {es : List PyData} (st : Sv K H0 A H L T) (hT : ∀ p ∈ ys.zip es, p ∈ T) (hl : ys.length = es.length) : DtAll K H ys es := zip_all (fun p hp => st.dat p (hT p hp)) hl
/-! ### isinstance -/
theorem isiL {t : IsiT} {a : Addr} (h : SqL K H a xs) (q : Q (.bl t.lst) H) : aIsi K t a H Q := by
  unfold aIsi
  exact .inl ⟨.lst, ⟨xs, h⟩, q⟩
theorem isiT {t : IsiT} {a : Addr} (h : SqT K H a xs) (q : Q (.bl t.tup) H) : aIsi K t a H Q := by
  unfold aIsi
  exact .inl ⟨.tup, ⟨xs, h⟩, q⟩
/-! ### == of data -/
theorem eqv_ints : ∀ ns ms : List Int, PyData.eqvAll (ns.map PyData.int) (ms.map PyData.int) = decide (ns = ms)
  | [], [] => rfl
  | [], _ :: _ => rfl
  | _ :: _, [] => rfl
  | n :: ns, m :: ms => by
    show (PyData.eqv (.int n) (.int m) && PyData.eqvAll (ns.map PyData.int) (ms.map PyData.int)) = _
    rw [eqv_ints ns ms]
    show ((n == m) && decide (ns = ms)) = _
    rw [Bool.eq_iff_iff]
    simp
theorem lay_ints : ∀ ns : List Int, PyData.canLayAll0 (ns.map PyData.int) = true
  | [] => rfl
  | n :: ns => by
    show (true && PyData.canLayAll0 (ns.map PyData.int)) = true
    rw [lay_ints ns]
    rfl
theorem dep_ints : ∀ ns : List Int, PyData.depthAll (ns.map PyData.int) = 0
  | [] => rfl
  | n :: ns => by
    show max 0 (PyData.depthAll (ns.map PyData.int)) = 0
    rw [dep_ints ns]
    rfl
theorem shaped_ints (ns : List Int) : SeqAt.shaped (.list (ns.map PyData.int)) = true := by
  show (PyData.canLayAll0 (ns.map PyData.int) && decide (PyData.depthAll (ns.map PyData.int) + 1 ≤ 64)) = true
  rw [lay_ints, dep_ints]
  rfl
theorem dp_ints (ns : List Int) : DpAll K H (ns.map V.int) (ns.map PyData.int) := (DtAll.ints (ns := ns)).dp
theorem eqL {x y : V} {a b : Addr} {ns ms : List Int} (h1 : SqL K H a (ns.map V.int)) (h2 : SqL K H b (ms.map V.int)) (q : Q (.bl (decide (ns = ms))) H) (ex : x = .ref a := by rfl) (ey : y = .ref b := by rfl) : uEq K x y H Q := by
  subst ex ey
  show aEq K _ _ H Q
  unfold aEq
  exact ⟨_, _, .lst h1 (dp_ints ns), .lst h2 (dp_ints ms), shaped_ints ns, shaped_ints ms, by
    show Q (.bl (PyData.eqvAll (ns.map PyData.int) (ms.map PyData.int))) H
    rw [eqv_ints]
    exact q⟩
theorem neL {x y : V} {a b : Addr} {ns ms : List Int} (h1 : SqL K H a (ns.map V.int)) (h2 : SqL K H b (ms.map V.int)) (q : Q (.bl (!decide (ns = ms))) H) (ex : x = .ref a := by rfl) (ey : y = .ref b := by rfl) : uNe K x y H Q := by
  subst ex ey
  show aNe K _ _ H Q
  unfold aNe
  exact ⟨_, _, .lst h1 (dp_ints ns), .lst h2 (dp_ints ms), shaped_ints ns, shaped_ints ms, by
    show Q (.bl (!PyData.eqvAll (ns.map PyData.int) (ms.map PyData.int))) H
    rw [eqv_ints]
    exact q⟩
/-- the same data twice -/
theorem eqSame {x u : V} {a : Addr} (h1 : Dt K H (.ref a) d) (h2 : Dt K H u d) (hs : SeqAt.shaped d = true) (q : Q (.bl true) H) (ex : x = .ref a := by rfl) : uEq K x u H Q := by
  subst ex
  have e : PyData.eqv d d = true := SeqAt.eqv_refl d (SeqAt.canLay_of_shaped hs)
  obtain ⟨ds, rfl⟩ : ∃ ds, d = .tuple ds := by cases h1; exact ⟨_, rfl⟩
  obtain ⟨b, ys, rfl, _⟩ := h2.eqT
  show aEq K _ _ H Q
  unfold aEq
  exact ⟨_, _, h1.dp, h2.dp, hs, hs, by rw [e]; exact q⟩
end
end Wk

namespace Wk
open PySem PySem.Spec PyProof.Rows L2
def topS (i : Nat) : Stmt := PySem.Challenge.pw_wirespan_k13_piece_frames.main.body.getD i (.Pass ⟨0, 0, 0, 0⟩)
abbrev s_whole_piece : Stmt := topS 6
abbrev s_cut : Stmt := topS 7
abbrev s_passed_on : Stmt := topS 8
abbrev s_frame_of_piece : Stmt := topS 9
abbrev s_piece_of_frame : Stmt := topS 10
abbrev s__law_box : Stmt := topS 12
abbrev s__law_mixed : Stmt := topS 13
abbrev s__law_draw : Stmt := topS 14
abbrev s__law_is_integer : Stmt := topS 15
abbrev s__law_integers : Stmt := topS 16
abbrev s__law_same_piece : Stmt := topS 17
abbrev s__law_same_frame : Stmt := topS 18
abbrev s__law_piece : Stmt := topS 19
abbrev s__law_frame : Stmt := topS 20
abbrev s__law_content : Stmt := topS 21
abbrev s__law_any_cell : Stmt := topS 22
abbrev s__law_bent : Stmt := topS 23
abbrev s__law_read : Stmt := topS 24
abbrev s__law_framed : Stmt := topS 25
abbrev s__law_whole : Stmt := topS 26
abbrev s__law_cut : Stmt := topS 27
abbrev s__law_way : Stmt := topS 28
abbrev s_law : Stmt := topS 29
structure Txt (K : PySem.W.Frag) (mg : Str → Option Value) : Prop where
  c_ADDRESSES : ∃ t, mg "ADDRESSES" = some (.int 16 t)
  c_HEAD_CELLS : ∃ t, mg "HEAD_CELLS" = some (.int 7 t)
  c_MOST_CELLS : ∃ t, mg "MOST_CELLS" = some (.int 64 t)
  c_MOST_HOPS : ∃ t, mg "MOST_HOPS" = some (.int 3 t)
  c_PIECE_MARK : ∃ t, mg "PIECE_MARK" = some (.int 0 t)
  g__law_any_cell : mg "_law_any_cell" = some (.ref (He.ga K "_law_any_cell"))
  g__law_bent : mg "_law_bent" = some (.ref (He.ga K "_law_bent"))
  g__law_box : mg "_law_box" = some (.ref (He.ga K "_law_box"))
  g__law_content : mg "_law_content" = some (.ref (He.ga K "_law_content"))
  g__law_cut : mg "_law_cut" = some (.ref (He.ga K "_law_cut"))
  g__law_draw : mg "_law_draw" = some (.ref (He.ga K "_law_draw"))
  g__law_frame : mg "_law_frame" = some (.ref (He.ga K "_law_frame"))
  g__law_framed : mg "_law_framed" = some (.ref (He.ga K "_law_framed"))
  g__law_integers : mg "_law_integers" = some (.ref (He.ga K "_law_integers"))
  g__law_is_integer : mg "_law_is_integer" = some (.ref (He.ga K "_law_is_integer"))
  g__law_mixed : mg "_law_mixed" = some (.ref (He.ga K "_law_mixed"))
  g__law_piece : mg "_law_piece" = some (.ref (He.ga K "_law_piece"))
  g__law_read : mg "_law_read" = some (.ref (He.ga K "_law_read"))
  g__law_same_frame : mg "_law_same_frame" = some (.ref (He.ga K "_law_same_frame"))
  g__law_same_piece : mg "_law_same_piece" = some (.ref (He.ga K "_law_same_piece"))
  g__law_way : mg "_law_way" = some (.ref (He.ga K "_law_way"))
  g__law_whole : mg "_law_whole" = some (.ref (He.ga K "_law_whole"))
  b_abs : mg "abs" = none
  b_bool : mg "bool" = none
  g_cut : mg "cut" = some (.ref (He.ga K "cut"))
  g_frame_of_piece : mg "frame_of_piece" = some (.ref (He.ga K "frame_of_piece"))
  b_int : mg "int" = none
  b_isinstance : mg "isinstance" = none
  g_law : mg "law" = some (.ref (He.ga K "law"))
  b_len : mg "len" = none
  b_list : mg "list" = none
  g_passed_on : mg "passed_on" = some (.ref (He.ga K "passed_on"))
  g_piece_of_frame : mg "piece_of_frame" = some (.ref (He.ga K "piece_of_frame"))
  b_range : mg "range" = none
  b_tuple : mg "tuple" = none
  g_whole_piece : mg "whole_piece" = some (.ref (He.ga K "whole_piece"))
  F_whole_piece : ∃ fd, FunD K "whole_piece" "whole_piece" (defArgs s_whole_piece) (defBody s_whole_piece) (defScope s_whole_piece) [] [] (He.fAd K ("whole_piece", none)) fd
  F_cut : ∃ fd, FunD K "cut" "cut" (defArgs s_cut) (defBody s_cut) (defScope s_cut) [] [] (He.fAd K ("cut", none)) fd
  F_passed_on : ∃ fd, FunD K "passed_on" "passed_on" (defArgs s_passed_on) (defBody s_passed_on) (defScope s_passed_on) [] [] (He.fAd K ("passed_on", none)) fd
  F_frame_of_piece : ∃ fd, FunD K "frame_of_piece" "frame_of_piece" (defArgs s_frame_of_piece) (defBody s_frame_of_piece) (defScope s_frame_of_piece) [] [] (He.fAd K ("frame_of_piece", none)) fd
  F_piece_of_frame : ∃ fd, FunD K "piece_of_frame" "piece_of_frame" (defArgs s_piece_of_frame) (defBody s_piece_of_frame) (defScope s_piece_of_frame) [] [] (He.fAd K ("piece_of_frame", none)) fd
  F__law_box : ∃ fd, FunD K "_law_box" "_law_box" (defArgs s__law_box) (defBody s__law_box) (defScope s__law_box) [] [] (He.fAd K ("_law_box", none)) fd
  F__law_mixed : ∃ fd, FunD K "_law_mixed" "_law_mixed" (defArgs s__law_mixed) (defBody s__law_mixed) (defScope s__law_mixed) [] [] (He.fAd K ("_law_mixed", none)) fd
  F__law_draw : ∃ fd, FunD K "_law_draw" "_law_draw" (defArgs s__law_draw) (defBody s__law_draw) (defScope s__law_draw) [] [] (He.fAd K ("_law_draw", none)) fd
  F__law_is_integer : ∃ fd, FunD K "_law_is_integer" "_law_is_integer" (defArgs s__law_is_integer) (defBody s__law_is_integer) (defScope s__law_is_integer) [] [] (He.fAd K ("_law_is_integer", none)) fd
  F__law_integers : ∃ fd, FunD K "_law_integers" "_law_integers" (defArgs s__law_integers) (defBody s__law_integers) (defScope s__law_integers) [] [] (He.fAd K ("_law_integers", none)) fd
  F__law_same_piece : ∃ fd, FunD K "_law_same_piece" "_law_same_piece" (defArgs s__law_same_piece) (defBody s__law_same_piece) (defScope s__law_same_piece) [] [] (He.fAd K ("_law_same_piece", none)) fd
  F__law_same_frame : ∃ fd, FunD K "_law_same_frame" "_law_same_frame" (defArgs s__law_same_frame) (defBody s__law_same_frame) (defScope s__law_same_frame) [] [] (He.fAd K ("_law_same_frame", none)) fd
  F__law_piece : ∃ fd, FunD K "_law_piece" "_law_piece" (defArgs s__law_piece) (defBody s__law_piece) (defScope s__law_piece) [] [] (He.fAd K ("_law_piece", none)) fd
  F__law_frame : ∃ fd, FunD K "_law_frame" "_law_frame" (defArgs s__law_frame) (defBody s__law_frame) (defScope s__law_frame) [] [] (He.fAd K ("_law_frame", none)) fd
  F__law_content : ∃ fd, FunD K "_law_content" "_law_content" (defArgs s__law_content) (defBody s__law_content) (defScope s__law_content) [] [] (He.fAd K ("_law_content", none)) fd
  F__law_any_cell : ∃ fd, FunD K "_law_any_cell" "_law_any_cell" (defArgs s__law_any_cell) (defBody s__law_any_cell) (defScope s__law_any_cell) [] [] (He.fAd K ("_law_any_cell", none)) fd
  F__law_bent : ∃ fd, FunD K "_law_bent" "_law_bent" (defArgs s__law_bent) (defBody s__law_bent) (defScope s__law_bent) [] [] (He.fAd K ("_law_bent", none)) fd
  F__law_read : ∃ fd, FunD K "_law_read" "_law_read" (defArgs s__law_read) (defBody s__law_read) (defScope s__law_read) [] [] (He.fAd K ("_law_read", none)) fd
  F__law_framed : ∃ fd, FunD K "_law_framed" "_law_framed" (defArgs s__law_framed) (defBody s__law_framed) (defScope s__law_framed) [] [] (He.fAd K ("_law_framed", none)) fd
  F__law_whole : ∃ fd, FunD K "_law_whole" "_law_whole" (defArgs s__law_whole) (defBody s__law_whole) (defScope s__law_whole) [] [] (He.fAd K ("_law_whole", none)) fd
  F__law_cut : ∃ fd, FunD K "_law_cut" "_law_cut" (defArgs s__law_cut) (defBody s__law_cut) (defScope s__law_cut) [] [] (He.fAd K ("_law_cut", none)) fd
  F__law_way : ∃ fd, FunD K "_law_way" "_law_way" (defArgs s__law_way) (defBody s__law_way) (defScope s__law_way) [] [] (He.fAd K ("_law_way", none)) fd
  F_law : ∃ fd, FunD K "law" "law" (defArgs s_law) (defBody s_law) (defScope s_law) [] [] (He.fAd K ("law", none)) fd
abbrev N_whole_piece : List Str := ["source", "target", "hops", "id", "cells"]
theorem sc_whole_piece : FnScope N_whole_piece ["source", "target", "hops", "id", "cells"] (defScope s_whole_piece) := ⟨rfl, rfl, rfl, by decide +kernel, rfl, by decide +kernel, by decide +kernel⟩
def rd_whole_piece (K : PySem.W.Frag)  (E : XK) : TS := (tRet (cTup (tCons (cVar 0) (tCons (cVar 1) (tCons (cVar 2) (tCons (cVar 3) (tCons (tC (.int 0)) (tCons (tCB (uLen K) (tCons (cVar 4) tNil)) (tCons (tCB (uTuple K) (tCons (cVar 4) tNil)) tNil)))))))))
theorem der_whole_piece {P : Program} {w : World} {K : PySem.W.Frag} {mg : Str → Option Value} {base : Heap} {sp : Sp5}  (e : Txt K mg) 
    (h : ∀ a0 a1 a2 a3 a4 H Q E, sp a0 a1 a2 a3 a4 H Q E → rd_whole_piece K  E { nx := fun _ H' => Q .non H', rt := Q } [some a0, some a1, some a2, some a3, some a4] H) : Fok P w K mg base 1 (He.ga K "whole_piece") ["source", "target", "hops", "id", "cells"] (mk5 sp) := by
  obtain ⟨fd, F⟩ := e.F_whole_piece
  refine ⟨fd, F.ok sc_whole_piece (fun _ _ _ _ z => mk5_len z) (fun cdv A outer s H vs Q E hr hsp => ?_), FunD.bindsN F fun _ _ _ _ _ _ us hl => match us, hl with | [_, _, _, _, _], _ => rfl, fun_lk F⟩
  have hu := hr.units
  obtain ⟨a0, a1, a2, a3, a4, rfl, hs⟩ := mk5_at hsp
  refine ⟨rd_whole_piece K  E, ?_, h a0 a1 a2 a3 a4 H Q E hs⟩
  exact (pss_one (ps_ret (eTup (pa_cons (pn 0) (pa_cons (pn 1) (pa_cons (pn 2) (pa_cons (pn 3) (pa_cons pe_int (pa_cons (pe_callB bLen rfl e.b_len (by decide +kernel) (pa_cons (pn 4) pa_nil)) (pa_cons (pe_callTy bTuple rfl e.b_tuple (by decide +kernel) (pa_cons (pn 4) pa_nil)) pa_nil))))))))))
abbrev N_cut : List Str := ["piece", "width", "source", "target", "hops", "id", "offset", "total", "cells", "start"]
theorem sc_cut : FnScope N_cut ["piece", "width"] (defScope s_cut) := ⟨rfl, rfl, rfl, by decide +kernel, rfl, by decide +kernel, by decide +kernel⟩
def rd_cut (K : PySem.W.Frag)  (E : XK) : TS := (tSeq (tAsg (cVar 0) (gUn K 7 (gCn (gNm 2) (gCn (gNm 3) (gCn (gNm 4) (gCn (gNm 5) (gCn (gNm 6) (gCn (gNm 7) (gCn (gNm 8) gNl)))))))))
  (tSeq (tIfS (cTest (tOp uLe (tCB (uLen K) (tCons (cVar 8) tNil)) (cVar 1)))
  (tRet (cLst (tCons (cVar 0) tNil)))
  tNext)
  (tRet (cLc (iR3 (tCons (tC (.int 0)) (tCons (tCB (uLen K) (tCons (cVar 8) tNil)) (tCons (cVar 1) tNil)))) (gNm 9) tYes (cTup (tCons (cVar 2) (tCons (cVar 3) (tCons (cVar 4) (tCons (cVar 5) (tCons (tOp (uAdd K) (cVar 6) (cVar 9)) (tCons (cVar 7) (tCons (tSl (uSl K) (cVar 8) (cPart (cVar 9)) (cPart (tOp (uAdd K) (cVar 9) (cVar 1)))) tNil)))))))) [9]))))
theorem der_cut {P : Program} {w : World} {K : PySem.W.Frag} {mg : Str → Option Value} {base : Heap} {sp : Sp2}  (e : Txt K mg) 
    (h : ∀ a0 a1 H Q E, sp a0 a1 H Q E → rd_cut K  E { nx := fun _ H' => Q .non H', rt := Q } [some a0, some a1, none, none, none, none, none, none, none, none] H) : Fok P w K mg base 1 (He.ga K "cut") ["piece", "width"] (mk2 sp) := by
  obtain ⟨fd, F⟩ := e.F_cut
  refine ⟨fd, F.ok sc_cut (fun _ _ _ _ z => mk2_len z) (fun cdv A outer s H vs Q E hr hsp => ?_), FunD.bindsN F fun _ _ _ _ _ _ us hl => match us, hl with | [_, _], _ => rfl, fun_lk F⟩
  have hu := hr.units
  obtain ⟨a0, a1, rfl, hs⟩ := mk2_at hsp
  refine ⟨rd_cut K  E, ?_, h a0 a1 H Q E hs⟩
  exact (pss_cons (ps_asg (pn 0) (gUnp rfl (gsCons (tNm (i := 2) sc_cut.nd rfl (by first | exact .inl rfl | exact .inr rfl)) (gsCons (tNm (i := 3) sc_cut.nd rfl (by first | exact .inl rfl | exact .inr rfl)) (gsCons (tNm (i := 4) sc_cut.nd rfl (by first | exact .inl rfl | exact .inr rfl)) (gsCons (tNm (i := 5) sc_cut.nd rfl (by first | exact .inl rfl | exact .inr rfl)) (gsCons (tNm (i := 6) sc_cut.nd rfl (by first | exact .inl rfl | exact .inr rfl)) (gsCons (tNm (i := 7) sc_cut.nd rfl (by first | exact .inl rfl | exact .inr rfl)) (gsCons (tNm (i := 8) sc_cut.nd rfl (by first | exact .inl rfl | exact .inr rfl)) gsNil)))))))))
  (pss_cons (ps_if (ct oLe (pe_callB bLen rfl e.b_len (by decide +kernel) (pa_cons (pn 8) pa_nil)) (pn 1))
  (pss_one (ps_ret (eLst (pa_cons (pn 0) pa_nil))))
  pss_nil)
  (pss_one (ps_ret (eLc (own := [("start", 9)]) rfl sc_cut.nd (fR3 rfl e.b_range (pa_cons pe_int (pa_cons (pe_callB bLen rfl e.b_len (by decide +kernel) (pa_cons (pn 8) pa_nil)) (pa_cons (pn 1) pa_nil)))) (blkOk_by (N := N_cut) (sc := defScope s_cut) (own := [("start", 9)]) (by decide +kernel)) (fun _ _ _ _ _ => (tNm (i := 9) sc_cut.nd rfl (by first | exact .inl rfl | exact .inr rfl))) (fun _ _ _ _ _ => pts_nil) (fun _ _ _ _ _ => (eTup (pa_cons (pn 2) (pa_cons (pn 3) (pa_cons (pn 4) (pa_cons (pn 5) (pa_cons (pe_op oAdd (pn 6) (pn 9)) (pa_cons (pn 7) (pa_cons (eSl (pn 8) (eSome (pn 9)) (eSome (pe_op oAdd (pn 9) (pn 1)))) pa_nil))))))))))))))
abbrev N_passed_on : List Str := ["piece", "source", "target", "hops", "id", "offset", "total", "cells"]
theorem sc_passed_on : FnScope N_passed_on ["piece"] (defScope s_passed_on) := ⟨rfl, rfl, rfl, by decide +kernel, rfl, by decide +kernel, by decide +kernel⟩
def rd_passed_on (K : PySem.W.Frag)  (E : XK) : TS := (tSeq (tAsg (cVar 0) (gUn K 7 (gCn (gNm 1) (gCn (gNm 2) (gCn (gNm 3) (gCn (gNm 4) (gCn (gNm 5) (gCn (gNm 6) (gCn (gNm 7) gNl)))))))))
  (tSeq (tIfS (cTest (tOp uLe (cVar 3) (tC (.int 1))))
  (tRet (tC .non))
  tNext)
  (tRet (cTup (tCons (cVar 1) (tCons (cVar 2) (tCons (tOp uSub (cVar 3) (tC (.int 1))) (tCons (cVar 4) (tCons (cVar 5) (tCons (cVar 6) (tCons (cVar 7) tNil)))))))))))
theorem der_passed_on {P : Program} {w : World} {K : PySem.W.Frag} {mg : Str → Option Value} {base : Heap} {sp : Sp1}  (e : Txt K mg) 
    (h : ∀ a0 H Q E, sp a0 H Q E → rd_passed_on K  E { nx := fun _ H' => Q .non H', rt := Q } [some a0, none, none, none, none, none, none, none] H) : Fok P w K mg base 1 (He.ga K "passed_on") ["piece"] (mk1 sp) := by
  obtain ⟨fd, F⟩ := e.F_passed_on
  refine ⟨fd, F.ok sc_passed_on (fun _ _ _ _ z => mk1_len z) (fun cdv A outer s H vs Q E hr hsp => ?_), FunD.bindsN F fun _ _ _ _ _ _ us hl => match us, hl with | [_], _ => rfl, fun_lk F⟩
  have hu := hr.units
  obtain ⟨a0, rfl, hs⟩ := mk1_at hsp
  refine ⟨rd_passed_on K  E, ?_, h a0 H Q E hs⟩
  exact (pss_cons (ps_asg (pn 0) (gUnp rfl (gsCons (tNm (i := 1) sc_passed_on.nd rfl (by first | exact .inl rfl | exact .inr rfl)) (gsCons (tNm (i := 2) sc_passed_on.nd rfl (by first | exact .inl rfl | exact .inr rfl)) (gsCons (tNm (i := 3) sc_passed_on.nd rfl (by first | exact .inl rfl | exact .inr rfl)) (gsCons (tNm (i := 4) sc_passed_on.nd rfl (by first | exact .inl rfl | exact .inr rfl)) (gsCons (tNm (i := 5) sc_passed_on.nd rfl (by first | exact .inl rfl | exact .inr rfl)) (gsCons (tNm (i := 6) sc_passed_on.nd rfl (by first | exact .inl rfl | exact .inr rfl)) (gsCons (tNm (i := 7) sc_passed_on.nd rfl (by first | exact .inl rfl | exact .inr rfl)) gsNil)))))))))
  (pss_cons (ps_if (ct oLe (pn 3) pe_int)
  (pss_one (ps_ret pe_non))
  pss_nil)
  (pss_one (ps_ret (eTup (pa_cons (pn 1) (pa_cons (pn 2) (pa_cons (pe_op oSub (pn 3) pe_int) (pa_cons (pn 4) (pa_cons (pn 5) (pa_cons (pn 6) (pa_cons (pn 7) pa_nil))))))))))))
abbrev N_frame_of_piece : List Str := ["piece", "source", "target", "hops", "id", "offset", "total", "cells"]
theorem sc_frame_of_piece : FnScope N_frame_of_piece ["piece"] (defScope s_frame_of_piece) := ⟨rfl, rfl, rfl, by decide +kernel, rfl, by decide +kernel, by decide +kernel⟩
def rd_frame_of_piece (K : PySem.W.Frag)  (E : XK) : TS := (tSeq (tAsg (cVar 0) (gUn K 7 (gCn (gNm 1) (gCn (gNm 2) (gCn (gNm 3) (gCn (gNm 4) (gCn (gNm 5) (gCn (gNm 6) (gCn (gNm 7) gNl)))))))))
  (tRet (cLst (tCons (tC (.int 0)) (tCons (cVar 1) (tCons (cVar 2) (tCons (cVar 3) (tCons (cVar 4) (tCons (cVar 5) (tCons (cVar 6) (StX.tStar K (cVar 7) tNil)))))))))))
theorem der_frame_of_piece {P : Program} {w : World} {K : PySem.W.Frag} {mg : Str → Option Value} {base : Heap} {sp : Sp1}  (e : Txt K mg) 
    (h : ∀ a0 H Q E, sp a0 H Q E → rd_frame_of_piece K  E { nx := fun _ H' => Q .non H', rt := Q } [some a0, none, none, none, none, none, none, none] H) : Fok P w K mg base 1 (He.ga K "frame_of_piece") ["piece"] (mk1 sp) := by
  obtain ⟨_, h_PIECE_MARK⟩ := e.c_PIECE_MARK
  obtain ⟨fd, F⟩ := e.F_frame_of_piece
  refine ⟨fd, F.ok sc_frame_of_piece (fun _ _ _ _ z => mk1_len z) (fun cdv A outer s H vs Q E hr hsp => ?_), FunD.bindsN F fun _ _ _ _ _ _ us hl => match us, hl with | [_], _ => rfl, fun_lk F⟩
  have hu := hr.units
  obtain ⟨a0, rfl, hs⟩ := mk1_at hsp
  refine ⟨rd_frame_of_piece K  E, ?_, h a0 H Q E hs⟩
  exact (pss_cons (ps_asg (pn 0) (gUnp rfl (gsCons (tNm (i := 1) sc_frame_of_piece.nd rfl (by first | exact .inl rfl | exact .inr rfl)) (gsCons (tNm (i := 2) sc_frame_of_piece.nd rfl (by first | exact .inl rfl | exact .inr rfl)) (gsCons (tNm (i := 3) sc_frame_of_piece.nd rfl (by first | exact .inl rfl | exact .inr rfl)) (gsCons (tNm (i := 4) sc_frame_of_piece.nd rfl (by first | exact .inl rfl | exact .inr rfl)) (gsCons (tNm (i := 5) sc_frame_of_piece.nd rfl (by first | exact .inl rfl | exact .inr rfl)) (gsCons (tNm (i := 6) sc_frame_of_piece.nd rfl (by first | exact .inl rfl | exact .inr rfl)) (gsCons (tNm (i := 7) sc_frame_of_piece.nd rfl (by first | exact .inl rfl | exact .inr rfl)) gsNil)))))))))
  (pss_one (ps_ret (eLst (pa_cons (pe_glob rfl h_PIECE_MARK ⟨_, rfl⟩) (pa_cons (pn 1) (pa_cons (pn 2) (pa_cons (pn 3) (pa_cons (pn 4) (pa_cons (pn 5) (pa_cons (pn 6) (StX.pa_star (pn 7) pa_nil))))))))))))
abbrev N_piece_of_frame : List Str := ["content", "source", "target", "hops", "id", "offset", "total", "cells"]
theorem sc_piece_of_frame : FnScope N_piece_of_frame ["content"] (defScope s_piece_of_frame) := ⟨rfl, rfl, rfl, by decide +kernel, rfl, by decide +kernel, by decide +kernel⟩
def rd_piece_of_frame (K : PySem.W.Frag)  (E : XK) : TS := (tSeq (tIfS (tOr (cTest (tOp uLe (tCB (uLen K) (tCons (cVar 0) tNil)) (tC (.int 7)))) (cTest (tOp (uNe K) (tOp (uIx K) (cVar 0) (tC (.int 0))) (tC (.int 0)))))
  (tRet (tC .non))
  tNext)
  (tSeq (tAsg (tSl (uSl K) (cVar 0) (cPart (tC (.int 1))) (cPart (tC (.int 7)))) (gUn K 6 (gCn (gNm 1) (gCn (gNm 2) (gCn (gNm 3) (gCn (gNm 4) (gCn (gNm 5) (gCn (gNm 6) gNl))))))))
  (tSeq (tAsg (tCB (uTuple K) (tCons (tSl (uSl K) (cVar 0) (cPart (tC (.int 7))) tNoPart) tNil)) (gNm 7))
  (tSeq (tIfS (tOr (cTest (tOp uGe (cVar 1) (tC (.int 16)))) (cTest (tOp uGe (cVar 2) (tC (.int 16)))))
  (tRet (tC .non))
  tNext)
  (tSeq (tIfS (tOr (cTest (tOp (uLt K) (cVar 3) (tC (.int 1)))) (tOr (cTest (tOp uGt (cVar 3) (tC (.int 3)))) (tOr (cTest (tOp (uLt K) (cVar 6) (tC (.int 1)))) (cTest (tOp uGt (cVar 6) (tC (.int 64)))))))
  (tRet (tC .non))
  tNext)
  (tSeq (tIfS (cTest (tOp uGt (tCB (uLen K) (tCons (cVar 7) tNil)) (tOp uSub (cVar 6) (cVar 5))))
  (tRet (tC .non))
  tNext)
  (tRet (cTup (tCons (cVar 1) (tCons (cVar 2) (tCons (cVar 3) (tCons (cVar 4) (tCons (cVar 5) (tCons (cVar 6) (tCons (cVar 7) tNil)))))))))))))))
theorem der_piece_of_frame {P : Program} {w : World} {K : PySem.W.Frag} {mg : Str → Option Value} {base : Heap} {sp : Sp1}  (e : Txt K mg) 
    (h : ∀ a0 H Q E, sp a0 H Q E → rd_piece_of_frame K  E { nx := fun _ H' => Q .non H', rt := Q } [some a0, none, none, none, none, none, none, none] H) : Fok P w K mg base 1 (He.ga K "piece_of_frame") ["content"] (mk1 sp) := by
  obtain ⟨_, h_HEAD_CELLS⟩ := e.c_HEAD_CELLS
  obtain ⟨_, h_PIECE_MARK⟩ := e.c_PIECE_MARK
  obtain ⟨_, h_ADDRESSES⟩ := e.c_ADDRESSES
  obtain ⟨_, h_MOST_HOPS⟩ := e.c_MOST_HOPS
  obtain ⟨_, h_MOST_CELLS⟩ := e.c_MOST_CELLS
  obtain ⟨fd, F⟩ := e.F_piece_of_frame
  refine ⟨fd, F.ok sc_piece_of_frame (fun _ _ _ _ z => mk1_len z) (fun cdv A outer s H vs Q E hr hsp => ?_), FunD.bindsN F fun _ _ _ _ _ _ us hl => match us, hl with | [_], _ => rfl, fun_lk F⟩
  have hu := hr.units
  obtain ⟨a0, rfl, hs⟩ := mk1_at hsp
  refine ⟨rd_piece_of_frame K  E, ?_, h a0 H Q E hs⟩
  exact (pss_cons (ps_if (PW.pt (pw_or (ct oLe (pe_callB bLen rfl e.b_len (by decide +kernel) (pa_cons (pn 0) pa_nil)) (pe_glob rfl h_HEAD_CELLS ⟨_, rfl⟩)) (pw_or1 (ct (oNe hu) (eIx hu (pn 0) pe_int) (pe_glob rfl h_PIECE_MARK ⟨_, rfl⟩)))))
  (pss_one (ps_ret pe_non))
  pss_nil)
  (pss_cons (ps_asg (eSl (pn 0) (eSome pe_int) (eSome (pe_glob rfl h_HEAD_CELLS ⟨_, rfl⟩))) (gUnp rfl (gsCons (tNm (i := 1) sc_piece_of_frame.nd rfl (by first | exact .inl rfl | exact .inr rfl)) (gsCons (tNm (i := 2) sc_piece_of_frame.nd rfl (by first | exact .inl rfl | exact .inr rfl)) (gsCons (tNm (i := 3) sc_piece_of_frame.nd rfl (by first | exact .inl rfl | exact .inr rfl)) (gsCons (tNm (i := 4) sc_piece_of_frame.nd rfl (by first | exact .inl rfl | exact .inr rfl)) (gsCons (tNm (i := 5) sc_piece_of_frame.nd rfl (by first | exact .inl rfl | exact .inr rfl)) (gsCons (tNm (i := 6) sc_piece_of_frame.nd rfl (by first | exact .inl rfl | exact .inr rfl)) gsNil))))))))
  (pss_cons (sSet (i := 7) sc_piece_of_frame.nd rfl (by first | exact .inl rfl | exact .inr rfl) (pe_callTy bTuple rfl e.b_tuple (by decide +kernel) (pa_cons (eSl (pn 0) (eSome (pe_glob rfl h_HEAD_CELLS ⟨_, rfl⟩)) po_none) pa_nil)))
  (pss_cons (ps_if (PW.pt (pw_or (ct oGe (pn 1) (pe_glob rfl h_ADDRESSES ⟨_, rfl⟩)) (pw_or1 (ct oGe (pn 2) (pe_glob rfl h_ADDRESSES ⟨_, rfl⟩)))))
  (pss_one (ps_ret pe_non))
  pss_nil)
  (pss_cons (ps_if (PW.pt (pw_or (ct (oLt (Nat.lt_of_le_of_lt (Nat.le_add_right _ 64) hu)) (pn 3) pe_int) (pw_or (ct oGt (pn 3) (pe_glob rfl h_MOST_HOPS ⟨_, rfl⟩)) (pw_or (ct (oLt (Nat.lt_of_le_of_lt (Nat.le_add_right _ 64) hu)) (pn 6) pe_int) (pw_or1 (ct oGt (pn 6) (pe_glob rfl h_MOST_CELLS ⟨_, rfl⟩)))))))
  (pss_one (ps_ret pe_non))
  pss_nil)
  (pss_cons (ps_if (ct oGt (pe_callB bLen rfl e.b_len (by decide +kernel) (pa_cons (pn 7) pa_nil)) (pe_op oSub (pn 6) (pn 5)))
  (pss_one (ps_ret pe_non))
  pss_nil)
  (pss_one (ps_ret (eTup (pa_cons (pn 1) (pa_cons (pn 2) (pa_cons (pn 3) (pa_cons (pn 4) (pa_cons (pn 5) (pa_cons (pn 6) (pa_cons (pn 7) pa_nil))))))))))))))))
abbrev N__law_box : List Str := ["script", "great", "small", "fold", "cell", "number"]
theorem sc__law_box : FnScope N__law_box ["script"] (defScope s__law_box) := ⟨rfl, rfl, rfl, by decide +kernel, rfl, by decide +kernel, by decide +kernel⟩
def rd__law_box (K : PySem.W.Frag)  (E : XK) : TS := (tSeq (tAsg (cLst tNil) (gNm 1))
  (tSeq (tAsg (cLst tNil) (gNm 2))
  (tSeq (tAsg (tC (.int 0)) (gNm 3))
  (tSeq (cFor (iSeq K (tSl (uSl K) (cVar 0) tNoPart (cPart (tC (.int 63))))) (gNm 4)
  (tSeq (tAsg (tCB uAbs (tCons (tCB uInt (tCons (cVar 4) tNil)) tNil)) (gNm 5))
  (tSeq (tIfS (cTest (tOp uGe (cVar 5) (tOp uPow (tC (.int 10)) (tC (.int 18)))))
  (tDrop (tBM K "list" aAppend (cVar 1) (tCons (cVar 5) tNil)))
  (tDrop (tBM K "list" aAppend (cVar 2) (tCons (cVar 5) tNil))))
  (tAsg (tOp uMod (tCB uInt (tCons (tOp (uAdd K) (tOp uMul (cVar 3) (tC (.int 31))) (tOp uMod (tCB uInt (tCons (cVar 4) tNil)) (tC (.int 1000003)))) tNil)) (tC (.int 2147483647))) (gNm 3)))))
  (tRet (cLst (tCons (cVar 1) (tCons (cVar 2) (tCons (tC (.int 0)) (tCons (tC (.int 0)) (tCons (cVar 3) tNil)))))))))))
theorem der__law_box {P : Program} {w : World} {K : PySem.W.Frag} {mg : Str → Option Value} {base : Heap} {sp : Sp1}  (e : Txt K mg) 
    (h : ∀ a0 H Q E, sp a0 H Q E → rd__law_box K  E { nx := fun _ H' => Q .non H', rt := Q } [some a0, none, none, none, none, none] H) : Fok P w K mg base 1 (He.ga K "_law_box") ["script"] (mk1 sp) := by
  obtain ⟨fd, F⟩ := e.F__law_box
  refine ⟨fd, F.ok sc__law_box (fun _ _ _ _ z => mk1_len z) (fun cdv A outer s H vs Q E hr hsp => ?_), FunD.bindsN F fun _ _ _ _ _ _ us hl => match us, hl with | [_], _ => rfl, fun_lk F⟩
  have hu := hr.units
  obtain ⟨a0, rfl, hs⟩ := mk1_at hsp
  refine ⟨rd__law_box K  E, ?_, h a0 H Q E hs⟩
  exact (pss_cons (sSet (i := 1) sc__law_box.nd rfl (by first | exact .inl rfl | exact .inr rfl) (eLst pa_nil))
  (pss_cons (sSet (i := 2) sc__law_box.nd rfl (by first | exact .inl rfl | exact .inr rfl) (eLst pa_nil))
  (pss_cons (sSet (i := 3) sc__law_box.nd rfl (by first | exact .inl rfl | exact .inr rfl) pe_int)
  (pss_cons (sFor (passes_of rfl) rfl (fSeq (eSl (pn 0) po_none (eSome pe_int))) (tNm (i := 4) sc__law_box.nd rfl (by first | exact .inl rfl | exact .inr rfl))
  (pss_cons (sSet (i := 5) sc__law_box.nd rfl (by first | exact .inl rfl | exact .inr rfl) (pe_callB bAbs rfl e.b_abs (by decide +kernel) (pa_cons (pe_callTy bInt rfl e.b_int (by decide +kernel) (pa_cons (pn 4) pa_nil)) pa_nil)))
  (pss_cons (ps_if (ct oGe (pn 5) (pe_op oPow pe_int pe_int))
  (pss_one (ps_expr (pe_bm PySem.F.plainAttrs_list PySem.F.slot_list_append PySem.F.type_list_append mAppend (pn 1) (pa_cons (pn 5) pa_nil))))
  (pss_one (ps_expr (pe_bm PySem.F.plainAttrs_list PySem.F.slot_list_append PySem.F.type_list_append mAppend (pn 2) (pa_cons (pn 5) pa_nil)))))
  (pss_one (sSet (i := 3) sc__law_box.nd rfl (by first | exact .inl rfl | exact .inr rfl) (pe_op oMod (pe_callTy bInt rfl e.b_int (by decide +kernel) (pa_cons (pe_op oAdd (pe_op oMul (pn 3) pe_int) (pe_op oMod (pe_callTy bInt rfl e.b_int (by decide +kernel) (pa_cons (pn 4) pa_nil)) pe_int)) pa_nil)) pe_int))))))
  (pss_one (ps_ret (eLst (pa_cons (pn 1) (pa_cons (pn 2) (pa_cons pe_int (pa_cons pe_int (pa_cons (pn 3) pa_nil))))))))))))
abbrev N__law_mixed : List Str := ["number", "count", "one", "two"]
theorem sc__law_mixed : FnScope N__law_mixed ["number", "count"] (defScope s__law_mixed) := ⟨rfl, rfl, rfl, by decide +kernel, rfl, by decide +kernel, by decide +kernel⟩
def rd__law_mixed (K : PySem.W.Frag)  (E : XK) : TS := (tSeq (tAsg (tOp uMod (tCB uInt (tCons (tOp (uAdd K) (tOp (uAdd K) (tOp uMul (tOp uMod (tCB uInt (tCons (cVar 0) tNil)) (tC (.int 2147483647))) (tC (.int 48271))) (tOp uMul (cVar 1) (tC (.int 69621)))) (tC (.int 9177))) tNil)) (tC (.int 2147483647))) (gNm 2))
  (tSeq (tAsg (tOp uMod (tCB uInt (tCons (tOp (uAdd K) (tOp (uAdd K) (tOp uMul (cVar 2) (cVar 2)) (tOp uMul (cVar 1) (tC (.int 40692)))) (tC (.int 13))) tNil)) (tC (.int 2147483399))) (gNm 3))
  (tRet (tOp uDiv (tOp uMod (tCB uInt (tCons (tOp (uAdd K) (tOp uMul (cVar 3) (tC (.int 16807))) (tOp uMul (cVar 2) (tC (.int 271)))) tNil)) (tC (.int 2147483563))) (tC (.int 8))))))
theorem der__law_mixed {P : Program} {w : World} {K : PySem.W.Frag} {mg : Str → Option Value} {base : Heap} {sp : Sp2}  (e : Txt K mg) 
    (h : ∀ a0 a1 H Q E, sp a0 a1 H Q E → rd__law_mixed K  E { nx := fun _ H' => Q .non H', rt := Q } [some a0, some a1, none, none] H) : Fok P w K mg base 1 (He.ga K "_law_mixed") ["number", "count"] (mk2 sp) := by
  obtain ⟨fd, F⟩ := e.F__law_mixed
  refine ⟨fd, F.ok sc__law_mixed (fun _ _ _ _ z => mk2_len z) (fun cdv A outer s H vs Q E hr hsp => ?_), FunD.bindsN F fun _ _ _ _ _ _ us hl => match us, hl with | [_, _], _ => rfl, fun_lk F⟩
  have hu := hr.units
  obtain ⟨a0, a1, rfl, hs⟩ := mk2_at hsp
  refine ⟨rd__law_mixed K  E, ?_, h a0 a1 H Q E hs⟩
  exact (pss_cons (sSet (i := 2) sc__law_mixed.nd rfl (by first | exact .inl rfl | exact .inr rfl) (pe_op oMod (pe_callTy bInt rfl e.b_int (by decide +kernel) (pa_cons (pe_op oAdd (pe_op oAdd (pe_op oMul (pe_op oMod (pe_callTy bInt rfl e.b_int (by decide +kernel) (pa_cons (pn 0) pa_nil)) pe_int) pe_int) (pe_op oMul (pn 1) pe_int)) pe_int) pa_nil)) pe_int))
  (pss_cons (sSet (i := 3) sc__law_mixed.nd rfl (by first | exact .inl rfl | exact .inr rfl) (pe_op oMod (pe_callTy bInt rfl e.b_int (by decide +kernel) (pa_cons (pe_op oAdd (pe_op oAdd (pe_op oMul (pn 2) (pn 2)) (pe_op oMul (pn 1) pe_int)) pe_int) pa_nil)) pe_int))
  (pss_one (ps_ret (pe_op oDiv (pe_op oMod (pe_callTy bInt rfl e.b_int (by decide +kernel) (pa_cons (pe_op oAdd (pe_op oMul (pn 3) pe_int) (pe_op oMul (pn 2) pe_int)) pa_nil)) pe_int) pe_int)))))
abbrev N__law_draw : List Str := ["box", "size", "digit", "number"]
theorem sc__law_draw : FnScope N__law_draw ["box", "size"] (defScope s__law_draw) := ⟨rfl, rfl, rfl, by decide +kernel, rfl, by decide +kernel, by decide +kernel⟩
def rd__law_draw (K : PySem.W.Frag) (S__law_mixed : Sp2) (E : XK) : TS := (tSeq (tAsg (tOp (uAdd K) (tOp (uIx K) (cVar 0) (tC (.int 3))) (tC (.int 1))) (gSub (cVar 0) (tC (.int 3)) uSet))
  (tSeq (tIfS (tAnd (cTest (tOp (uEq K) (tOp (uIx K) (cVar 0) (tC (.int 2))) (tC (.int 0)))) (cTest (tOp (uNe K) (tOp (uIx K) (cVar 0) (tC (.int 0))) (cLst tNil))))
  (tAsg (tBM K "list" aPopAt (tOp (uIx K) (cVar 0) (tC (.int 0))) (tCons (tC (.int 0)) tNil)) (gSub (cVar 0) (tC (.int 2)) uSet))
  tNext)
  (tSeq (tIfS (cTest (tOp uGt (tOp (uIx K) (cVar 0) (tC (.int 2))) (tC (.int 0))))
  (tSeq (tAsg (tOp uMod (tCB uInt (tCons (tOp (uIx K) (cVar 0) (tC (.int 2))) tNil)) (cVar 1)) (gNm 2))
  (tSeq (tAsg (tOp uDiv (tCB uInt (tCons (tOp (uIx K) (cVar 0) (tC (.int 2))) tNil)) (cVar 1)) (gSub (cVar 0) (tC (.int 2)) uSet))
  (tRet (cVar 2))))
  tNext)
  (tSeq (tAsg (tOp (uIx K) (cVar 0) (tC (.int 4))) (gNm 3))
  (tSeq (tIfS (cTest (tOp (uNe K) (tOp (uIx K) (cVar 0) (tC (.int 1))) (cLst tNil)))
  (tAsg (tOp (uAdd K) (cVar 3) (tOp (uIx K) (tOp (uIx K) (cVar 0) (tC (.int 1))) (tOp uMod (tCB uInt (tCons (tOp (uIx K) (cVar 0) (tC (.int 3))) tNil)) (tCB (uLen K) (tCons (tOp (uIx K) (cVar 0) (tC (.int 1))) tNil))))) (gNm 3))
  tNext)
  (tRet (tOp uMod (tCB uInt (tCons (tCall (mk2 S__law_mixed) [] E (tCons (cVar 3) (tCons (tOp (uIx K) (cVar 0) (tC (.int 3))) tNil))) tNil)) (cVar 1))))))))
theorem der__law_draw {P : Program} {w : World} {K : PySem.W.Frag} {mg : Str → Option Value} {base : Heap} {sp : Sp2} {S__law_mixed : Sp2} (e : Txt K mg) (O__law_mixed : Fok P w K mg base 1 (He.ga K "_law_mixed") ["number", "count"] (mk2 S__law_mixed))
    (h : ∀ a0 a1 H Q E, sp a0 a1 H Q E → rd__law_draw K S__law_mixed E { nx := fun _ H' => Q .non H', rt := Q } [some a0, some a1, none, none] H) : Fok P w K mg base 2 (He.ga K "_law_draw") ["box", "size"] (mk2 sp) := by
  obtain ⟨fd__law_mixed, G__law_mixed, b__law_mixed, _⟩ := O__law_mixed
  obtain ⟨_, F__law_mixed⟩ := e.F__law_mixed
  have k__law_mixed := F__law_mixed.kp
  obtain ⟨fd, F⟩ := e.F__law_draw
  refine ⟨fd, F.ok sc__law_draw (fun _ _ _ _ z => mk2_len z) (fun cdv A outer s H vs Q E hr hsp => ?_), FunD.bindsN F fun _ _ _ _ _ _ us hl => match us, hl with | [_, _], _ => rfl, fun_lk F⟩
  have hu := hr.units
  obtain ⟨a0, a1, rfl, hs⟩ := mk2_at hsp
  refine ⟨rd__law_draw K S__law_mixed E, ?_, h a0 a1 H Q E hs⟩
  exact (pss_cons (ps_asg (pe_op oAdd (eIx hu (pn 0) pe_int) pe_int) (pg_sub (pn 0) pe_int (setU hu)))
  (pss_cons (ps_if (PW.pt (pw_and (ct (oEq hu) (eIx hu (pn 0) pe_int) pe_int) (pw_and1 (ct (oNe hu) (eIx hu (pn 0) pe_int) (eLst pa_nil)))))
  (pss_one (ps_asg (pe_bm PySem.F.plainAttrs_list PySem.F.slot_list_pop PySem.F.type_list_pop mPopAt (eIx hu (pn 0) pe_int) (pa_cons pe_int pa_nil)) (pg_sub (pn 0) pe_int (setU hu))))
  pss_nil)
  (pss_cons (ps_if (ct oGt (eIx hu (pn 0) pe_int) pe_int)
  (pss_cons (sSet (i := 2) sc__law_draw.nd rfl (by first | exact .inl rfl | exact .inr rfl) (pe_op oMod (pe_callTy bInt rfl e.b_int (by decide +kernel) (pa_cons (eIx hu (pn 0) pe_int) pa_nil)) (pn 1)))
  (pss_cons (ps_asg (pe_op oDiv (pe_callTy bInt rfl e.b_int (by decide +kernel) (pa_cons (eIx hu (pn 0) pe_int) pa_nil)) (pn 1)) (pg_sub (pn 0) pe_int (setU hu)))
  (pss_one (ps_ret (pn 2)))))
  pss_nil)
  (pss_cons (sSet (i := 3) sc__law_draw.nd rfl (by first | exact .inl rfl | exact .inr rfl) (eIx hu (pn 0) pe_int))
  (pss_cons (ps_if (ct (oNe hu) (eIx hu (pn 0) pe_int) (eLst pa_nil))
  (pss_one (sSet (i := 3) sc__law_draw.nd rfl (by first | exact .inl rfl | exact .inr rfl) (pe_op oAdd (pn 3) (eIx hu (eIx hu (pn 0) pe_int) (pe_op oMod (pe_callTy bInt rfl e.b_int (by decide +kernel) (pa_cons (eIx hu (pn 0) pe_int) pa_nil)) (pe_callB bLen rfl e.b_len (by decide +kernel) (pa_cons (eIx hu (pn 0) pe_int) pa_nil)))))))
  pss_nil)
  (pss_one (ps_ret (pe_op oMod (pe_callTy bInt rfl e.b_int (by decide +kernel) (pa_cons (pe_call G__law_mixed (hr.mono (by decide)) rfl e.g__law_mixed k__law_mixed b__law_mixed .nil (passes_call (takes_of rfl rfl rfl rfl) fun _ _ _ _ h => h) (pa_cons (pn 3) (pa_cons (eIx hu (pn 0) pe_int) pa_nil))) pa_nil)) (pn 1)))))))))
abbrev N__law_is_integer : List Str := ["actual"]
theorem sc__law_is_integer : FnScope N__law_is_integer ["actual"] (defScope s__law_is_integer) := ⟨rfl, rfl, rfl, by decide +kernel, rfl, by decide +kernel, by decide +kernel⟩
def rd__law_is_integer (K : PySem.W.Frag)  (E : XK) : TS := (tRet (cAnd K (cIsi K isiInt (cVar 0)) (cNot K (cIsi K isiBool (cVar 0)))))
theorem der__law_is_integer {P : Program} {w : World} {K : PySem.W.Frag} {mg : Str → Option Value} {base : Heap} {sp : Sp1}  (e : Txt K mg) 
    (h : ∀ a0 H Q E, sp a0 H Q E → rd__law_is_integer K  E { nx := fun _ H' => Q .non H', rt := Q } [some a0] H) : Fok P w K mg base 1 (He.ga K "_law_is_integer") ["actual"] (mk1 sp) := by
  obtain ⟨fd, F⟩ := e.F__law_is_integer
  refine ⟨fd, F.ok sc__law_is_integer (fun _ _ _ _ z => mk1_len z) (fun cdv A outer s H vs Q E hr hsp => ?_), FunD.bindsN F fun _ _ _ _ _ _ us hl => match us, hl with | [_], _ => rfl, fun_lk F⟩
  have hu := hr.units
  obtain ⟨a0, rfl, hs⟩ := mk1_at hsp
  refine ⟨rd__law_is_integer K  E, ?_, h a0 H Q E hs⟩
  exact (pss_one (ps_ret (eAnd (eIsi (t := isiInt) isiInt_ok rfl e.b_isinstance (pn 0) rfl e.b_int (by decide +kernel)) (pe_one (eNot (eIsi (t := isiBool) isiBool_ok rfl e.b_isinstance (pn 0) rfl e.b_bool (by decide +kernel)))))))
abbrev N__law_integers : List Str := ["actual", "one"]
theorem sc__law_integers : FnScope N__law_integers ["actual"] (defScope s__law_integers) := ⟨rfl, rfl, rfl, by decide +kernel, rfl, by decide +kernel, by decide +kernel⟩
def rd__law_integers (K : PySem.W.Frag) (S__law_is_integer : Sp1) (E : XK) : TS := (tSeq (cFor (iSeq K (cVar 0)) (gNm 1)
  (tIfS (tNot (cTru K (tCall (mk1 S__law_is_integer) [] E (tCons (cVar 1) tNil))))
  (tRet (tC (.bl false)))
  tNext))
  (tRet (tC (.bl true))))
theorem der__law_integers {P : Program} {w : World} {K : PySem.W.Frag} {mg : Str → Option Value} {base : Heap} {sp : Sp1} {S__law_is_integer : Sp1} (e : Txt K mg) (O__law_is_integer : Fok P w K mg base 1 (He.ga K "_law_is_integer") ["actual"] (mk1 S__law_is_integer))
    (h : ∀ a0 H Q E, sp a0 H Q E → rd__law_integers K S__law_is_integer E { nx := fun _ H' => Q .non H', rt := Q } [some a0, none] H) : Fok P w K mg base 2 (He.ga K "_law_integers") ["actual"] (mk1 sp) := by
  obtain ⟨fd__law_is_integer, G__law_is_integer, b__law_is_integer, _⟩ := O__law_is_integer
  obtain ⟨_, F__law_is_integer⟩ := e.F__law_is_integer
  have k__law_is_integer := F__law_is_integer.kp
  obtain ⟨fd, F⟩ := e.F__law_integers
  refine ⟨fd, F.ok sc__law_integers (fun _ _ _ _ z => mk1_len z) (fun cdv A outer s H vs Q E hr hsp => ?_), FunD.bindsN F fun _ _ _ _ _ _ us hl => match us, hl with | [_], _ => rfl, fun_lk F⟩
  have hu := hr.units
  obtain ⟨a0, rfl, hs⟩ := mk1_at hsp
  refine ⟨rd__law_integers K S__law_is_integer E, ?_, h a0 H Q E hs⟩
  exact (pss_cons (sFor (passes_of rfl) rfl (fSeq (pn 0)) (tNm (i := 1) sc__law_integers.nd rfl (by first | exact .inl rfl | exact .inr rfl))
  (pss_one (ps_if (pt_not (tt_ (pe_call G__law_is_integer (hr.mono (by decide)) rfl e.g__law_is_integer k__law_is_integer b__law_is_integer .nil (passes_call (takes_of rfl rfl rfl rfl) fun _ _ _ _ h => h) (pa_cons (pn 1) pa_nil))))
  (pss_one (ps_ret pe_bl))
  pss_nil)))
  (pss_one (ps_ret pe_bl)))
abbrev N__law_same_piece : List Str := ["actual", "wanted"]
theorem sc__law_same_piece : FnScope N__law_same_piece ["actual", "wanted"] (defScope s__law_same_piece) := ⟨rfl, rfl, rfl, by decide +kernel, rfl, by decide +kernel, by decide +kernel⟩
def rd__law_same_piece (K : PySem.W.Frag) (S__law_integers : Sp1) (E : XK) : TS := (tSeq (tIfS (cTest (tOp uIs (cVar 1) (tC .non)))
  (tRet (tOp uIs (cVar 0) (tC .non)))
  tNext)
  (tSeq (tIfS (tOr (tNot (cTru K (cIsi K isiTuple (cVar 0)))) (cTest (tOp (uNe K) (tCB (uLen K) (tCons (cVar 0) tNil)) (tC (.int 7)))))
  (tRet (tC (.bl false)))
  tNext)
  (tSeq (tIfS (tOr (tNot (cTru K (cIsi K isiTuple (tOp (uIx K) (cVar 0) (tC (.int 6)))))) (tOr (tNot (cTru K (tCall (mk1 S__law_integers) [] E (tCons (tSl (uSl K) (cVar 0) tNoPart (cPart (tC (.int 6)))) tNil)))) (tNot (cTru K (tCall (mk1 S__law_integers) [] E (tCons (tOp (uIx K) (cVar 0) (tC (.int 6))) tNil))))))
  (tRet (tC (.bl false)))
  tNext)
  (tRet (tOp (uEq K) (cVar 0) (cVar 1))))))
theorem der__law_same_piece {P : Program} {w : World} {K : PySem.W.Frag} {mg : Str → Option Value} {base : Heap} {sp : Sp2} {S__law_integers : Sp1} (e : Txt K mg) (O__law_integers : Fok P w K mg base 2 (He.ga K "_law_integers") ["actual"] (mk1 S__law_integers))
    (h : ∀ a0 a1 H Q E, sp a0 a1 H Q E → rd__law_same_piece K S__law_integers E { nx := fun _ H' => Q .non H', rt := Q } [some a0, some a1] H) : Fok P w K mg base 3 (He.ga K "_law_same_piece") ["actual", "wanted"] (mk2 sp) := by
  obtain ⟨fd__law_integers, G__law_integers, b__law_integers, _⟩ := O__law_integers
  obtain ⟨_, F__law_integers⟩ := e.F__law_integers
  have k__law_integers := F__law_integers.kp
  obtain ⟨fd, F⟩ := e.F__law_same_piece
  refine ⟨fd, F.ok sc__law_same_piece (fun _ _ _ _ z => mk2_len z) (fun cdv A outer s H vs Q E hr hsp => ?_), FunD.bindsN F fun _ _ _ _ _ _ us hl => match us, hl with | [_, _], _ => rfl, fun_lk F⟩
  have hu := hr.units
  obtain ⟨a0, a1, rfl, hs⟩ := mk2_at hsp
  refine ⟨rd__law_same_piece K S__law_integers E, ?_, h a0 a1 H Q E hs⟩
  exact (pss_cons (ps_if (ct oIs (pn 1) pe_non)
  (pss_one (ps_ret (ce oIs (pn 0) pe_non)))
  pss_nil)
  (pss_cons (ps_if (PW.pt (pw_or (pt_not (tt_ (eIsi (t := isiTuple) isiTuple_ok rfl e.b_isinstance (pn 0) rfl e.b_tuple (by decide +kernel)))) (pw_or1 (ct (oNe hu) (pe_callB bLen rfl e.b_len (by decide +kernel) (pa_cons (pn 0) pa_nil)) pe_int))))
  (pss_one (ps_ret pe_bl))
  pss_nil)
  (pss_cons (ps_if (PW.pt (pw_or (pt_not (tt_ (eIsi (t := isiTuple) isiTuple_ok rfl e.b_isinstance (eIx hu (pn 0) pe_int) rfl e.b_tuple (by decide +kernel)))) (pw_or (pt_not (tt_ (pe_call G__law_integers (hr.mono (by decide)) rfl e.g__law_integers k__law_integers b__law_integers .nil (passes_call (takes_of rfl rfl rfl rfl) fun _ _ _ _ h => h) (pa_cons (eSl (pn 0) po_none (eSome pe_int)) pa_nil)))) (pw_or1 (pt_not (tt_ (pe_call G__law_integers (hr.mono (by decide)) rfl e.g__law_integers k__law_integers b__law_integers .nil (passes_call (takes_of rfl rfl rfl rfl) fun _ _ _ _ h => h) (pa_cons (eIx hu (pn 0) pe_int) pa_nil))))))))
  (pss_one (ps_ret pe_bl))
  pss_nil)
  (pss_one (ps_ret (ce (oEq hu) (pn 0) (pn 1)))))))
abbrev N__law_same_frame : List Str := ["actual", "wanted"]
theorem sc__law_same_frame : FnScope N__law_same_frame ["actual", "wanted"] (defScope s__law_same_frame) := ⟨rfl, rfl, rfl, by decide +kernel, rfl, by decide +kernel, by decide +kernel⟩
def rd__law_same_frame (K : PySem.W.Frag) (S__law_integers : Sp1) (E : XK) : TS := (tRet (cAnd K (cIsi K isiList (cVar 0)) (cAnd K (tCall (mk1 S__law_integers) [] E (tCons (cVar 0) tNil)) (tOp (uEq K) (cVar 0) (cVar 1)))))
theorem der__law_same_frame {P : Program} {w : World} {K : PySem.W.Frag} {mg : Str → Option Value} {base : Heap} {sp : Sp2} {S__law_integers : Sp1} (e : Txt K mg) (O__law_integers : Fok P w K mg base 2 (He.ga K "_law_integers") ["actual"] (mk1 S__law_integers))
    (h : ∀ a0 a1 H Q E, sp a0 a1 H Q E → rd__law_same_frame K S__law_integers E { nx := fun _ H' => Q .non H', rt := Q } [some a0, some a1] H) : Fok P w K mg base 3 (He.ga K "_law_same_frame") ["actual", "wanted"] (mk2 sp) := by
  obtain ⟨fd__law_integers, G__law_integers, b__law_integers, _⟩ := O__law_integers
  obtain ⟨_, F__law_integers⟩ := e.F__law_integers
  have k__law_integers := F__law_integers.kp
  obtain ⟨fd, F⟩ := e.F__law_same_frame
  refine ⟨fd, F.ok sc__law_same_frame (fun _ _ _ _ z => mk2_len z) (fun cdv A outer s H vs Q E hr hsp => ?_), FunD.bindsN F fun _ _ _ _ _ _ us hl => match us, hl with | [_, _], _ => rfl, fun_lk F⟩
  have hu := hr.units
  obtain ⟨a0, a1, rfl, hs⟩ := mk2_at hsp
  refine ⟨rd__law_same_frame K S__law_integers E, ?_, h a0 a1 H Q E hs⟩
  exact (pss_one (ps_ret (eAnd (eIsi (t := isiList) isiList_ok rfl e.b_isinstance (pn 0) rfl e.b_list (by decide +kernel)) (eAnd (pe_call G__law_integers (hr.mono (by decide)) rfl e.g__law_integers k__law_integers b__law_integers .nil (passes_call (takes_of rfl rfl rfl rfl) fun _ _ _ _ h => h) (pa_cons (pn 0) pa_nil)) (pe_one (ce (oEq hu) (pn 0) (pn 1)))))))
abbrev N__law_piece : List Str := ["box", "choice", "total", "offset", "size", "source", "target", "hops", "number", "cells", "k"]
theorem sc__law_piece : FnScope N__law_piece ["box"] (defScope s__law_piece) := ⟨rfl, rfl, rfl, by decide +kernel, rfl, by decide +kernel, by decide +kernel⟩
def rd__law_piece (K : PySem.W.Frag) (S__law_draw : Sp2) (E : XK) : TS := (tSeq (tAsg (tCall (mk2 S__law_draw) [] E (tCons (cVar 0) (tCons (tC (.int 4)) tNil))) (gNm 1))
  (tSeq (tAsg (tOp (uAdd K) (tC (.int 1)) (tCall (mk2 S__law_draw) [] E (tCons (cVar 0) (tCons (tC (.int 12)) tNil)))) (gNm 2))
  (tSeq (tIfS (cTest (tOp (uEq K) (cVar 1) (tC (.int 1))))
  (tAsg (tOp (uAdd K) (tC (.int 1)) (tCall (mk2 S__law_draw) [] E (tCons (cVar 0) (tCons (tC (.int 64)) tNil)))) (gNm 2))
  tNext)
  (tSeq (tIfS (cTest (tOp (uEq K) (cVar 1) (tC (.int 2))))
  (tAsg (tOp (uIx K) (cLst (tCons (tC (.int 1)) (tCons (tC (.int 2)) (tCons (tC (.int 63)) (tCons (tC (.int 64)) tNil))))) (tCall (mk2 S__law_draw) [] E (tCons (cVar 0) (tCons (tC (.int 4)) tNil)))) (gNm 2))
  tNext)
  (tSeq (tAsg (tCall (mk2 S__law_draw) [] E (tCons (cVar 0) (tCons (cVar 2) tNil))) (gNm 3))
  (tSeq (tAsg (tOp (uAdd K) (tC (.int 1)) (tCall (mk2 S__law_draw) [] E (tCons (cVar 0) (tCons (tOp uSub (cVar 2) (cVar 3)) tNil)))) (gNm 4))
  (tSeq (tIfS (cTest (tOp (uEq K) (tCall (mk2 S__law_draw) [] E (tCons (cVar 0) (tCons (tC (.int 2)) tNil))) (tC (.int 0))))
  (tAsg (tOp uSub (cVar 2) (cVar 3)) (gNm 4))
  tNext)
  (tSeq (tAsg (tCall (mk2 S__law_draw) [] E (tCons (cVar 0) (tCons (tC (.int 16)) tNil))) (gNm 5))
  (tSeq (tAsg (tOp uMod (tCB uInt (tCons (tOp (uAdd K) (tOp (uAdd K) (cVar 5) (tC (.int 1))) (tCall (mk2 S__law_draw) [] E (tCons (cVar 0) (tCons (tC (.int 15)) tNil)))) tNil)) (tC (.int 16))) (gNm 6))
  (tSeq (tAsg (tOp (uAdd K) (tC (.int 1)) (tCall (mk2 S__law_draw) [] E (tCons (cVar 0) (tCons (tC (.int 3)) tNil)))) (gNm 7))
  (tSeq (tAsg (tCall (mk2 S__law_draw) [] E (tCons (cVar 0) (tCons (tC (.int 256)) tNil))) (gNm 8))
  (tSeq (tAsg (cLc (iR1 (tCons (cVar 4) tNil)) (gNm 10) tYes (tCall (mk2 S__law_draw) [] E0 (tCons (cVar 0) (tCons (tC (.int 256)) tNil))) [10]) (gNm 9))
  (tRet (cTup (tCons (cVar 5) (tCons (cVar 6) (tCons (cVar 7) (tCons (cVar 8) (tCons (cVar 3) (tCons (cVar 2) (tCons (tCB (uTuple K) (tCons (cVar 9) tNil)) tNil)))))))))))))))))))))
theorem der__law_piece {P : Program} {w : World} {K : PySem.W.Frag} {mg : Str → Option Value} {base : Heap} {sp : Sp1} {S__law_draw : Sp2} (e : Txt K mg) (O__law_draw : Fok P w K mg base 2 (He.ga K "_law_draw") ["box", "size"] (mk2 S__law_draw))
    (h : ∀ a0 H Q E, sp a0 H Q E → rd__law_piece K S__law_draw E { nx := fun _ H' => Q .non H', rt := Q } [some a0, none, none, none, none, none, none, none, none, none, none] H) : Fok P w K mg base 3 (He.ga K "_law_piece") ["box"] (mk1 sp) := by
  obtain ⟨fd__law_draw, G__law_draw, b__law_draw, _⟩ := O__law_draw
  obtain ⟨_, F__law_draw⟩ := e.F__law_draw
  have k__law_draw := F__law_draw.kp
  obtain ⟨fd, F⟩ := e.F__law_piece
  refine ⟨fd, F.ok sc__law_piece (fun _ _ _ _ z => mk1_len z) (fun cdv A outer s H vs Q E hr hsp => ?_), FunD.bindsN F fun _ _ _ _ _ _ us hl => match us, hl with | [_], _ => rfl, fun_lk F⟩
  have hu := hr.units
  obtain ⟨a0, rfl, hs⟩ := mk1_at hsp
  refine ⟨rd__law_piece K S__law_draw E, ?_, h a0 H Q E hs⟩
  exact (pss_cons (sSet (i := 1) sc__law_piece.nd rfl (by first | exact .inl rfl | exact .inr rfl) (pe_call G__law_draw (hr.mono (by decide)) rfl e.g__law_draw k__law_draw b__law_draw .nil (passes_call (takes_of rfl rfl rfl rfl) fun _ _ _ _ h => h) (pa_cons (pn 0) (pa_cons pe_int pa_nil))))
  (pss_cons (sSet (i := 2) sc__law_piece.nd rfl (by first | exact .inl rfl | exact .inr rfl) (pe_op oAdd pe_int (pe_call G__law_draw (hr.mono (by decide)) rfl e.g__law_draw k__law_draw b__law_draw .nil (passes_call (takes_of rfl rfl rfl rfl) fun _ _ _ _ h => h) (pa_cons (pn 0) (pa_cons pe_int pa_nil)))))
  (pss_cons (ps_if (ct (oEq hu) (pn 1) pe_int)
  (pss_one (sSet (i := 2) sc__law_piece.nd rfl (by first | exact .inl rfl | exact .inr rfl) (pe_op oAdd pe_int (pe_call G__law_draw (hr.mono (by decide)) rfl e.g__law_draw k__law_draw b__law_draw .nil (passes_call (takes_of rfl rfl rfl rfl) fun _ _ _ _ h => h) (pa_cons (pn 0) (pa_cons pe_int pa_nil))))))
  pss_nil)
  (pss_cons (ps_if (ct (oEq hu) (pn 1) pe_int)
  (pss_one (sSet (i := 2) sc__law_piece.nd rfl (by first | exact .inl rfl | exact .inr rfl) (eIx hu (eLst (pa_cons pe_int (pa_cons pe_int (pa_cons pe_int (pa_cons pe_int pa_nil))))) (pe_call G__law_draw (hr.mono (by decide)) rfl e.g__law_draw k__law_draw b__law_draw .nil (passes_call (takes_of rfl rfl rfl rfl) fun _ _ _ _ h => h) (pa_cons (pn 0) (pa_cons pe_int pa_nil))))))
  pss_nil)
  (pss_cons (sSet (i := 3) sc__law_piece.nd rfl (by first | exact .inl rfl | exact .inr rfl) (pe_call G__law_draw (hr.mono (by decide)) rfl e.g__law_draw k__law_draw b__law_draw .nil (passes_call (takes_of rfl rfl rfl rfl) fun _ _ _ _ h => h) (pa_cons (pn 0) (pa_cons (pn 2) pa_nil))))
  (pss_cons (sSet (i := 4) sc__law_piece.nd rfl (by first | exact .inl rfl | exact .inr rfl) (pe_op oAdd pe_int (pe_call G__law_draw (hr.mono (by decide)) rfl e.g__law_draw k__law_draw b__law_draw .nil (passes_call (takes_of rfl rfl rfl rfl) fun _ _ _ _ h => h) (pa_cons (pn 0) (pa_cons (pe_op oSub (pn 2) (pn 3)) pa_nil)))))
  (pss_cons (ps_if (ct (oEq hu) (pe_call G__law_draw (hr.mono (by decide)) rfl e.g__law_draw k__law_draw b__law_draw .nil (passes_call (takes_of rfl rfl rfl rfl) fun _ _ _ _ h => h) (pa_cons (pn 0) (pa_cons pe_int pa_nil))) pe_int)
  (pss_one (sSet (i := 4) sc__law_piece.nd rfl (by first | exact .inl rfl | exact .inr rfl) (pe_op oSub (pn 2) (pn 3))))
  pss_nil)
  (pss_cons (sSet (i := 5) sc__law_piece.nd rfl (by first | exact .inl rfl | exact .inr rfl) (pe_call G__law_draw (hr.mono (by decide)) rfl e.g__law_draw k__law_draw b__law_draw .nil (passes_call (takes_of rfl rfl rfl rfl) fun _ _ _ _ h => h) (pa_cons (pn 0) (pa_cons pe_int pa_nil))))
  (pss_cons (sSet (i := 6) sc__law_piece.nd rfl (by first | exact .inl rfl | exact .inr rfl) (pe_op oMod (pe_callTy bInt rfl e.b_int (by decide +kernel) (pa_cons (pe_op oAdd (pe_op oAdd (pn 5) pe_int) (pe_call G__law_draw (hr.mono (by decide)) rfl e.g__law_draw k__law_draw b__law_draw .nil (passes_call (takes_of rfl rfl rfl rfl) fun _ _ _ _ h => h) (pa_cons (pn 0) (pa_cons pe_int pa_nil)))) pa_nil)) pe_int))
  (pss_cons (sSet (i := 7) sc__law_piece.nd rfl (by first | exact .inl rfl | exact .inr rfl) (pe_op oAdd pe_int (pe_call G__law_draw (hr.mono (by decide)) rfl e.g__law_draw k__law_draw b__law_draw .nil (passes_call (takes_of rfl rfl rfl rfl) fun _ _ _ _ h => h) (pa_cons (pn 0) (pa_cons pe_int pa_nil)))))
  (pss_cons (sSet (i := 8) sc__law_piece.nd rfl (by first | exact .inl rfl | exact .inr rfl) (pe_call G__law_draw (hr.mono (by decide)) rfl e.g__law_draw k__law_draw b__law_draw .nil (passes_call (takes_of rfl rfl rfl rfl) fun _ _ _ _ h => h) (pa_cons (pn 0) (pa_cons pe_int pa_nil))))
  (pss_cons (sSetLc (i := 9) (own := [("k", 10)]) rfl sc__law_piece.nd rfl rfl (sw_true rfl rfl rfl (by decide +kernel)) (fR1 rfl e.b_range (pa_cons (pn 4) pa_nil)) (blkOk_by (N := N__law_piece) (sc := defScope s__law_piece) (own := [("k", 10)]) (by decide +kernel)) (fun _ _ _ _ _ => (tNm (i := 10) sc__law_piece.nd rfl (by first | exact .inl rfl | exact .inr rfl))) (fun _ _ _ _ _ => pts_nil) (fun _ _ _ _ _ => (pe_call G__law_draw (hr.mono (by decide)) rfl e.g__law_draw k__law_draw b__law_draw .nil passL (pa_cons (pn 0) (pa_cons pe_int pa_nil)))))
  (pss_one (ps_ret (eTup (pa_cons (pn 5) (pa_cons (pn 6) (pa_cons (pn 7) (pa_cons (pn 8) (pa_cons (pn 3) (pa_cons (pn 2) (pa_cons (pe_callTy bTuple rfl e.b_tuple (by decide +kernel) (pa_cons (pn 9) pa_nil)) pa_nil))))))))))))))))))))))
abbrev N__law_frame : List Str := ["piece"]
theorem sc__law_frame : FnScope N__law_frame ["piece"] (defScope s__law_frame) := ⟨rfl, rfl, rfl, by decide +kernel, rfl, by decide +kernel, by decide +kernel⟩
def rd__law_frame (K : PySem.W.Frag)  (E : XK) : TS := (tRet (tOp (uAdd K) (tOp (uAdd K) (cLst (tCons (tC (.int 0)) tNil)) (tCB (uList K) (tCons (tSl (uSl K) (cVar 0) tNoPart (cPart (tC (.int 6)))) tNil))) (tCB (uList K) (tCons (tOp (uIx K) (cVar 0) (tC (.int 6))) tNil))))
theorem der__law_frame {P : Program} {w : World} {K : PySem.W.Frag} {mg : Str → Option Value} {base : Heap} {sp : Sp1}  (e : Txt K mg) 
    (h : ∀ a0 H Q E, sp a0 H Q E → rd__law_frame K  E { nx := fun _ H' => Q .non H', rt := Q } [some a0] H) : Fok P w K mg base 1 (He.ga K "_law_frame") ["piece"] (mk1 sp) := by
  obtain ⟨fd, F⟩ := e.F__law_frame
  refine ⟨fd, F.ok sc__law_frame (fun _ _ _ _ z => mk1_len z) (fun cdv A outer s H vs Q E hr hsp => ?_), FunD.bindsN F fun _ _ _ _ _ _ us hl => match us, hl with | [_], _ => rfl, fun_lk F⟩
  have hu := hr.units
  obtain ⟨a0, rfl, hs⟩ := mk1_at hsp
  refine ⟨rd__law_frame K  E, ?_, h a0 H Q E hs⟩
  exact (pss_one (ps_ret (pe_op oAdd (pe_op oAdd (eLst (pa_cons pe_int pa_nil)) (pe_callTy (bList rfl) rfl e.b_list (by decide +kernel) (pa_cons (eSl (pn 0) po_none (eSome pe_int)) pa_nil))) (pe_callTy (bList rfl) rfl e.b_list (by decide +kernel) (pa_cons (eIx hu (pn 0) pe_int) pa_nil)))))
abbrev N__law_content : List Str := ["content"]
theorem sc__law_content : FnScope N__law_content ["content"] (defScope s__law_content) := ⟨rfl, rfl, rfl, by decide +kernel, rfl, by decide +kernel, by decide +kernel⟩
def rd__law_content (K : PySem.W.Frag)  (E : XK) : TS := (tSeq (tIfS (tOr (cTest (tOp (uLt K) (tCB (uLen K) (tCons (cVar 0) tNil)) (tC (.int 8)))) (cTest (tOp (uNe K) (tOp (uIx K) (cVar 0) (tC (.int 0))) (tC (.int 0)))))
  (tRet (tC .non))
  tNext)
  (tSeq (tIfS (tOr (cTest (tOp uGt (tOp (uIx K) (cVar 0) (tC (.int 1))) (tC (.int 15)))) (cTest (tOp uGt (tOp (uIx K) (cVar 0) (tC (.int 2))) (tC (.int 15)))))
  (tRet (tC .non))
  tNext)
  (tSeq (tIfS (tOr (cTest (tOp (uLt K) (tOp (uIx K) (cVar 0) (tC (.int 3))) (tC (.int 1)))) (cTest (tOp uGt (tOp (uIx K) (cVar 0) (tC (.int 3))) (tC (.int 3)))))
  (tRet (tC .non))
  tNext)
  (tSeq (tIfS (tOr (cTest (tOp (uLt K) (tOp (uIx K) (cVar 0) (tC (.int 6))) (tC (.int 1)))) (cTest (tOp uGt (tOp (uIx K) (cVar 0) (tC (.int 6))) (tC (.int 64)))))
  (tRet (tC .non))
  tNext)
  (tSeq (tIfS (cTest (tOp uGt (tOp uSub (tCB (uLen K) (tCons (cVar 0) tNil)) (tC (.int 7))) (tOp uSub (tOp (uIx K) (cVar 0) (tC (.int 6))) (tOp (uIx K) (cVar 0) (tC (.int 5))))))
  (tRet (tC .non))
  tNext)
  (tRet (tOp (uAdd K) (tCB (uTuple K) (tCons (tSl (uSl K) (cVar 0) (cPart (tC (.int 1))) (cPart (tC (.int 7)))) tNil)) (cTup (tCons (tCB (uTuple K) (tCons (tSl (uSl K) (cVar 0) (cPart (tC (.int 7))) tNoPart) tNil)) tNil)))))))))
theorem der__law_content {P : Program} {w : World} {K : PySem.W.Frag} {mg : Str → Option Value} {base : Heap} {sp : Sp1}  (e : Txt K mg) 
    (h : ∀ a0 H Q E, sp a0 H Q E → rd__law_content K  E { nx := fun _ H' => Q .non H', rt := Q } [some a0] H) : Fok P w K mg base 1 (He.ga K "_law_content") ["content"] (mk1 sp) := by
  obtain ⟨fd, F⟩ := e.F__law_content
  refine ⟨fd, F.ok sc__law_content (fun _ _ _ _ z => mk1_len z) (fun cdv A outer s H vs Q E hr hsp => ?_), FunD.bindsN F fun _ _ _ _ _ _ us hl => match us, hl with | [_], _ => rfl, fun_lk F⟩
  have hu := hr.units
  obtain ⟨a0, rfl, hs⟩ := mk1_at hsp
  refine ⟨rd__law_content K  E, ?_, h a0 H Q E hs⟩
  exact (pss_cons (ps_if (PW.pt (pw_or (ct (oLt (Nat.lt_of_le_of_lt (Nat.le_add_right _ 64) hu)) (pe_callB bLen rfl e.b_len (by decide +kernel) (pa_cons (pn 0) pa_nil)) pe_int) (pw_or1 (ct (oNe hu) (eIx hu (pn 0) pe_int) pe_int))))
  (pss_one (ps_ret pe_non))
  pss_nil)
  (pss_cons (ps_if (PW.pt (pw_or (ct oGt (eIx hu (pn 0) pe_int) pe_int) (pw_or1 (ct oGt (eIx hu (pn 0) pe_int) pe_int))))
  (pss_one (ps_ret pe_non))
  pss_nil)
  (pss_cons (ps_if (PW.pt (pw_or (ct (oLt (Nat.lt_of_le_of_lt (Nat.le_add_right _ 64) hu)) (eIx hu (pn 0) pe_int) pe_int) (pw_or1 (ct oGt (eIx hu (pn 0) pe_int) pe_int))))
  (pss_one (ps_ret pe_non))
  pss_nil)
  (pss_cons (ps_if (PW.pt (pw_or (ct (oLt (Nat.lt_of_le_of_lt (Nat.le_add_right _ 64) hu)) (eIx hu (pn 0) pe_int) pe_int) (pw_or1 (ct oGt (eIx hu (pn 0) pe_int) pe_int))))
  (pss_one (ps_ret pe_non))
  pss_nil)
  (pss_cons (ps_if (ct oGt (pe_op oSub (pe_callB bLen rfl e.b_len (by decide +kernel) (pa_cons (pn 0) pa_nil)) pe_int) (pe_op oSub (eIx hu (pn 0) pe_int) (eIx hu (pn 0) pe_int)))
  (pss_one (ps_ret pe_non))
  pss_nil)
  (pss_one (ps_ret (pe_op oAdd (pe_callTy bTuple rfl e.b_tuple (by decide +kernel) (pa_cons (eSl (pn 0) (eSome pe_int) (eSome pe_int)) pa_nil)) (eTup (pa_cons (pe_callTy bTuple rfl e.b_tuple (by decide +kernel) (pa_cons (eSl (pn 0) (eSome pe_int) po_none) pa_nil)) pa_nil))))))))))
abbrev N__law_any_cell : List Str := ["box"]
theorem sc__law_any_cell : FnScope N__law_any_cell ["box"] (defScope s__law_any_cell) := ⟨rfl, rfl, rfl, by decide +kernel, rfl, by decide +kernel, by decide +kernel⟩
def rd__law_any_cell (K : PySem.W.Frag) (S__law_draw : Sp2) (E : XK) : TS := (tSeq (tIfS (cTest (tOp (uEq K) (tCall (mk2 S__law_draw) [] E (tCons (cVar 0) (tCons (tC (.int 2)) tNil))) (tC (.int 0))))
  (tRet (tCall (mk2 S__law_draw) [] E (tCons (cVar 0) (tCons (tC (.int 256)) tNil))))
  tNext)
  (tRet (tOp (uIx K) (cLst (tCons (tC (.int 0)) (tCons (tC (.int 1)) (tCons (tC (.int 2)) (tCons (tC (.int 3)) (tCons (tC (.int 4)) (tCons (tC (.int 15)) (tCons (tC (.int 16)) (tCons (tC (.int 63)) (tCons (tC (.int 64)) (tCons (tC (.int 65)) (tCons (tC (.int 255)) tNil)))))))))))) (tCall (mk2 S__law_draw) [] E (tCons (cVar 0) (tCons (tC (.int 11)) tNil))))))
theorem der__law_any_cell {P : Program} {w : World} {K : PySem.W.Frag} {mg : Str → Option Value} {base : Heap} {sp : Sp1} {S__law_draw : Sp2} (e : Txt K mg) (O__law_draw : Fok P w K mg base 2 (He.ga K "_law_draw") ["box", "size"] (mk2 S__law_draw))
    (h : ∀ a0 H Q E, sp a0 H Q E → rd__law_any_cell K S__law_draw E { nx := fun _ H' => Q .non H', rt := Q } [some a0] H) : Fok P w K mg base 3 (He.ga K "_law_any_cell") ["box"] (mk1 sp) := by
  obtain ⟨fd__law_draw, G__law_draw, b__law_draw, _⟩ := O__law_draw
  obtain ⟨_, F__law_draw⟩ := e.F__law_draw
  have k__law_draw := F__law_draw.kp
  obtain ⟨fd, F⟩ := e.F__law_any_cell
  refine ⟨fd, F.ok sc__law_any_cell (fun _ _ _ _ z => mk1_len z) (fun cdv A outer s H vs Q E hr hsp => ?_), FunD.bindsN F fun _ _ _ _ _ _ us hl => match us, hl with | [_], _ => rfl, fun_lk F⟩
  have hu := hr.units
  obtain ⟨a0, rfl, hs⟩ := mk1_at hsp
  refine ⟨rd__law_any_cell K S__law_draw E, ?_, h a0 H Q E hs⟩
  exact (pss_cons (ps_if (ct (oEq hu) (pe_call G__law_draw (hr.mono (by decide)) rfl e.g__law_draw k__law_draw b__law_draw .nil (passes_call (takes_of rfl rfl rfl rfl) fun _ _ _ _ h => h) (pa_cons (pn 0) (pa_cons pe_int pa_nil))) pe_int)
  (pss_one (ps_ret (pe_call G__law_draw (hr.mono (by decide)) rfl e.g__law_draw k__law_draw b__law_draw .nil (passes_call (takes_of rfl rfl rfl rfl) fun _ _ _ _ h => h) (pa_cons (pn 0) (pa_cons pe_int pa_nil)))))
  pss_nil)
  (pss_one (ps_ret (eIx hu (eLst (pa_cons pe_int (pa_cons pe_int (pa_cons pe_int (pa_cons pe_int (pa_cons pe_int (pa_cons pe_int (pa_cons pe_int (pa_cons pe_int (pa_cons pe_int (pa_cons pe_int (pa_cons pe_int pa_nil)))))))))))) (pe_call G__law_draw (hr.mono (by decide)) rfl e.g__law_draw k__law_draw b__law_draw .nil (passes_call (takes_of rfl rfl rfl rfl) fun _ _ _ _ h => h) (pa_cons (pn 0) (pa_cons pe_int pa_nil)))))))
abbrev N__law_bent : List Str := ["box", "frame", "choice", "bent", "place", "room", "k"]
theorem sc__law_bent : FnScope N__law_bent ["box", "frame"] (defScope s__law_bent) := ⟨rfl, rfl, rfl, by decide +kernel, rfl, by decide +kernel, by decide +kernel⟩
def rd__law_bent (K : PySem.W.Frag) (S__law_draw : Sp2) (S__law_any_cell : Sp1) (E : XK) : TS := (tSeq (tAsg (tCall (mk2 S__law_draw) [] E (tCons (cVar 0) (tCons (tC (.int 8)) tNil))) (gNm 2))
  (tSeq (tAsg (tCB (uList K) (tCons (cVar 1) tNil)) (gNm 3))
  (tSeq (tIfS (cTest (tOp (uLt K) (cVar 2) (tC (.int 4))))
  (tSeq (tAsg (tCall (mk2 S__law_draw) [] E (tCons (cVar 0) (tCons (tC (.int 7)) tNil))) (gNm 4))
  (tAsg (tCall (mk1 S__law_any_cell) [] E (tCons (cVar 0) tNil)) (gSub (cVar 3) (cVar 4) uSet)))
  (tIfS (cTest (tOp (uEq K) (cVar 2) (tC (.int 4))))
  (tSeq (tAsg (tCall (mk2 S__law_draw) [] E (tCons (cVar 0) (tCons (tCB (uLen K) (tCons (cVar 3) tNil)) tNil))) (gNm 4))
  (tAsg (tCall (mk1 S__law_any_cell) [] E (tCons (cVar 0) tNil)) (gSub (cVar 3) (cVar 4) uSet)))
  (tIfS (cTest (tOp (uEq K) (cVar 2) (tC (.int 5))))
  (tAsg (tSl (uSl K) (cVar 3) tNoPart (cPart (tOp (uAdd K) (tC (.int 1)) (tCall (mk2 S__law_draw) [] E (tCons (cVar 0) (tCons (tCB (uLen K) (tCons (cVar 3) tNil)) tNil)))))) (gNm 3))
  (tIfS (cTest (tOp (uEq K) (cVar 2) (tC (.int 6))))
  (tSeq (tAsg (tOp (uAdd K) (tOp uSub (tOp uSub (tOp (uIx K) (cVar 1) (tC (.int 6))) (tOp (uIx K) (cVar 1) (tC (.int 5)))) (tCB (uLen K) (tCons (cVar 1) tNil))) (tC (.int 7))) (gNm 5))
  (tAsg (tOp (uAdd K) (cVar 3) (cLc (iR1 (tCons (tOp (uAdd K) (cVar 5) (tCall (mk2 S__law_draw) [] E (tCons (cVar 0) (tCons (tC (.int 3)) tNil)))) tNil)) (gNm 6) tYes (tCall (mk2 S__law_draw) [] E0 (tCons (cVar 0) (tCons (tC (.int 256)) tNil))) [6])) (gNm 3)))
  (tSeq (tAsg (cLst (tCons (tCall (mk2 S__law_draw) [] E (tCons (cVar 0) (tCons (tC (.int 2)) tNil))) (tCons (tCall (mk2 S__law_draw) [] E (tCons (cVar 0) (tCons (tC (.int 18)) tNil))) (tCons (tCall (mk2 S__law_draw) [] E (tCons (cVar 0) (tCons (tC (.int 18)) tNil))) (tCons (tCall (mk2 S__law_draw) [] E (tCons (cVar 0) (tCons (tC (.int 5)) tNil))) tNil))))) (gNm 3))
  (tSeq (tAsg (tOp (uAdd K) (cVar 3) (cLst (tCons (tCall (mk2 S__law_draw) [] E (tCons (cVar 0) (tCons (tC (.int 256)) tNil))) (tCons (tCall (mk2 S__law_draw) [] E (tCons (cVar 0) (tCons (tC (.int 20)) tNil))) (tCons (tCall (mk2 S__law_draw) [] E (tCons (cVar 0) (tCons (tC (.int 20)) tNil))) tNil))))) (gNm 3))
  (tAsg (tOp (uAdd K) (cVar 3) (cLc (iR1 (tCons (tCall (mk2 S__law_draw) [] E (tCons (cVar 0) (tCons (tC (.int 8)) tNil))) tNil)) (gNm 6) tYes (tCall (mk2 S__law_draw) [] E0 (tCons (cVar 0) (tCons (tC (.int 256)) tNil))) [6])) (gNm 3))))))))
  (tSeq (tIfS (cTest (tOp (uEq K) (tCall (mk2 S__law_draw) [] E (tCons (cVar 0) (tCons (tC (.int 3)) tNil))) (tC (.int 0))))
  (tSeq (tAsg (tCall (mk2 S__law_draw) [] E (tCons (cVar 0) (tCons (tCB (uLen K) (tCons (cVar 3) tNil)) tNil))) (gNm 4))
  (tAsg (tCall (mk1 S__law_any_cell) [] E (tCons (cVar 0) tNil)) (gSub (cVar 3) (cVar 4) uSet)))
  tNext)
  (tRet (cVar 3))))))
theorem der__law_bent {P : Program} {w : World} {K : PySem.W.Frag} {mg : Str → Option Value} {base : Heap} {sp : Sp2} {S__law_draw : Sp2} {S__law_any_cell : Sp1} (e : Txt K mg) (O__law_draw : Fok P w K mg base 2 (He.ga K "_law_draw") ["box", "size"] (mk2 S__law_draw)) (O__law_any_cell : Fok P w K mg base 3 (He.ga K "_law_any_cell") ["box"] (mk1 S__law_any_cell))
    (h : ∀ a0 a1 H Q E, sp a0 a1 H Q E → rd__law_bent K S__law_draw S__law_any_cell E { nx := fun _ H' => Q .non H', rt := Q } [some a0, some a1, none, none, none, none, none] H) : Fok P w K mg base 4 (He.ga K "_law_bent") ["box", "frame"] (mk2 sp) := by
  obtain ⟨fd__law_draw, G__law_draw, b__law_draw, _⟩ := O__law_draw
  obtain ⟨_, F__law_draw⟩ := e.F__law_draw
  have k__law_draw := F__law_draw.kp
  obtain ⟨fd__law_any_cell, G__law_any_cell, b__law_any_cell, _⟩ := O__law_any_cell
  obtain ⟨_, F__law_any_cell⟩ := e.F__law_any_cell
  have k__law_any_cell := F__law_any_cell.kp
  obtain ⟨fd, F⟩ := e.F__law_bent
  refine ⟨fd, F.ok sc__law_bent (fun _ _ _ _ z => mk2_len z) (fun cdv A outer s H vs Q E hr hsp => ?_), FunD.bindsN F fun _ _ _ _ _ _ us hl => match us, hl with | [_, _], _ => rfl, fun_lk F⟩
  have hu := hr.units
  obtain ⟨a0, a1, rfl, hs⟩ := mk2_at hsp
  refine ⟨rd__law_bent K S__law_draw S__law_any_cell E, ?_, h a0 a1 H Q E hs⟩
  exact (pss_cons (sSet (i := 2) sc__law_bent.nd rfl (by first | exact .inl rfl | exact .inr rfl) (pe_call G__law_draw (hr.mono (by decide)) rfl e.g__law_draw k__law_draw b__law_draw .nil (passes_call (takes_of rfl rfl rfl rfl) fun _ _ _ _ h => h) (pa_cons (pn 0) (pa_cons pe_int pa_nil))))
  (pss_cons (sSet (i := 3) sc__law_bent.nd rfl (by first | exact .inl rfl | exact .inr rfl) (pe_callTy (bList rfl) rfl e.b_list (by decide +kernel) (pa_cons (pn 1) pa_nil)))
  (pss_cons (ps_if (ct (oLt (Nat.lt_of_le_of_lt (Nat.le_add_right _ 64) hu)) (pn 2) pe_int)
  (pss_cons (sSet (i := 4) sc__law_bent.nd rfl (by first | exact .inl rfl | exact .inr rfl) (pe_call G__law_draw (hr.mono (by decide)) rfl e.g__law_draw k__law_draw b__law_draw .nil (passes_call (takes_of rfl rfl rfl rfl) fun _ _ _ _ h => h) (pa_cons (pn 0) (pa_cons pe_int pa_nil))))
  (pss_one (ps_asg (pe_call G__law_any_cell (hr.mono (by decide)) rfl e.g__law_any_cell k__law_any_cell b__law_any_cell .nil (passes_call (takes_of rfl rfl rfl rfl) fun _ _ _ _ h => h) (pa_cons (pn 0) pa_nil)) (pg_sub (pn 3) (pn 4) (setU hu)))))
  (pss_one (ps_if (ct (oEq hu) (pn 2) pe_int)
  (pss_cons (sSet (i := 4) sc__law_bent.nd rfl (by first | exact .inl rfl | exact .inr rfl) (pe_call G__law_draw (hr.mono (by decide)) rfl e.g__law_draw k__law_draw b__law_draw .nil (passes_call (takes_of rfl rfl rfl rfl) fun _ _ _ _ h => h) (pa_cons (pn 0) (pa_cons (pe_callB bLen rfl e.b_len (by decide +kernel) (pa_cons (pn 3) pa_nil)) pa_nil))))
  (pss_one (ps_asg (pe_call G__law_any_cell (hr.mono (by decide)) rfl e.g__law_any_cell k__law_any_cell b__law_any_cell .nil (passes_call (takes_of rfl rfl rfl rfl) fun _ _ _ _ h => h) (pa_cons (pn 0) pa_nil)) (pg_sub (pn 3) (pn 4) (setU hu)))))
  (pss_one (ps_if (ct (oEq hu) (pn 2) pe_int)
  (pss_one (sSet (i := 3) sc__law_bent.nd rfl (by first | exact .inl rfl | exact .inr rfl) (eSl (pn 3) po_none (eSome (pe_op oAdd pe_int (pe_call G__law_draw (hr.mono (by decide)) rfl e.g__law_draw k__law_draw b__law_draw .nil (passes_call (takes_of rfl rfl rfl rfl) fun _ _ _ _ h => h) (pa_cons (pn 0) (pa_cons (pe_callB bLen rfl e.b_len (by decide +kernel) (pa_cons (pn 3) pa_nil)) pa_nil))))))))
  (pss_one (ps_if (ct (oEq hu) (pn 2) pe_int)
  (pss_cons (sSet (i := 5) sc__law_bent.nd rfl (by first | exact .inl rfl | exact .inr rfl) (pe_op oAdd (pe_op oSub (pe_op oSub (eIx hu (pn 1) pe_int) (eIx hu (pn 1) pe_int)) (pe_callB bLen rfl e.b_len (by decide +kernel) (pa_cons (pn 1) pa_nil))) pe_int))
  (pss_one (sSet (i := 3) sc__law_bent.nd rfl (by first | exact .inl rfl | exact .inr rfl) (pe_op oAdd (pn 3) (eLc (own := [("k", 6)]) rfl sc__law_bent.nd (fR1 rfl e.b_range (pa_cons (pe_op oAdd (pn 5) (pe_call G__law_draw (hr.mono (by decide)) rfl e.g__law_draw k__law_draw b__law_draw .nil (passes_call (takes_of rfl rfl rfl rfl) fun _ _ _ _ h => h) (pa_cons (pn 0) (pa_cons pe_int pa_nil)))) pa_nil)) (blkOk_by (N := N__law_bent) (sc := defScope s__law_bent) (own := [("k", 6)]) (by decide +kernel)) (fun _ _ _ _ _ => (tNm (i := 6) sc__law_bent.nd rfl (by first | exact .inl rfl | exact .inr rfl))) (fun _ _ _ _ _ => pts_nil) (fun _ _ _ _ _ => (pe_call G__law_draw (hr.mono (by decide)) rfl e.g__law_draw k__law_draw b__law_draw .nil passL (pa_cons (pn 0) (pa_cons pe_int pa_nil)))))))))
  (pss_cons (sSet (i := 3) sc__law_bent.nd rfl (by first | exact .inl rfl | exact .inr rfl) (eLst (pa_cons (pe_call G__law_draw (hr.mono (by decide)) rfl e.g__law_draw k__law_draw b__law_draw .nil (passes_call (takes_of rfl rfl rfl rfl) fun _ _ _ _ h => h) (pa_cons (pn 0) (pa_cons pe_int pa_nil))) (pa_cons (pe_call G__law_draw (hr.mono (by decide)) rfl e.g__law_draw k__law_draw b__law_draw .nil (passes_call (takes_of rfl rfl rfl rfl) fun _ _ _ _ h => h) (pa_cons (pn 0) (pa_cons pe_int pa_nil))) (pa_cons (pe_call G__law_draw (hr.mono (by decide)) rfl e.g__law_draw k__law_draw b__law_draw .nil (passes_call (takes_of rfl rfl rfl rfl) fun _ _ _ _ h => h) (pa_cons (pn 0) (pa_cons pe_int pa_nil))) (pa_cons (pe_call G__law_draw (hr.mono (by decide)) rfl e.g__law_draw k__law_draw b__law_draw .nil (passes_call (takes_of rfl rfl rfl rfl) fun _ _ _ _ h => h) (pa_cons (pn 0) (pa_cons pe_int pa_nil))) pa_nil))))))
  (pss_cons (sSet (i := 3) sc__law_bent.nd rfl (by first | exact .inl rfl | exact .inr rfl) (pe_op oAdd (pn 3) (eLst (pa_cons (pe_call G__law_draw (hr.mono (by decide)) rfl e.g__law_draw k__law_draw b__law_draw .nil (passes_call (takes_of rfl rfl rfl rfl) fun _ _ _ _ h => h) (pa_cons (pn 0) (pa_cons pe_int pa_nil))) (pa_cons (pe_call G__law_draw (hr.mono (by decide)) rfl e.g__law_draw k__law_draw b__law_draw .nil (passes_call (takes_of rfl rfl rfl rfl) fun _ _ _ _ h => h) (pa_cons (pn 0) (pa_cons pe_int pa_nil))) (pa_cons (pe_call G__law_draw (hr.mono (by decide)) rfl e.g__law_draw k__law_draw b__law_draw .nil (passes_call (takes_of rfl rfl rfl rfl) fun _ _ _ _ h => h) (pa_cons (pn 0) (pa_cons pe_int pa_nil))) pa_nil))))))
  (pss_one (sSet (i := 3) sc__law_bent.nd rfl (by first | exact .inl rfl | exact .inr rfl) (pe_op oAdd (pn 3) (eLc (own := [("k", 6)]) rfl sc__law_bent.nd (fR1 rfl e.b_range (pa_cons (pe_call G__law_draw (hr.mono (by decide)) rfl e.g__law_draw k__law_draw b__law_draw .nil (passes_call (takes_of rfl rfl rfl rfl) fun _ _ _ _ h => h) (pa_cons (pn 0) (pa_cons pe_int pa_nil))) pa_nil)) (blkOk_by (N := N__law_bent) (sc := defScope s__law_bent) (own := [("k", 6)]) (by decide +kernel)) (fun _ _ _ _ _ => (tNm (i := 6) sc__law_bent.nd rfl (by first | exact .inl rfl | exact .inr rfl))) (fun _ _ _ _ _ => pts_nil) (fun _ _ _ _ _ => (pe_call G__law_draw (hr.mono (by decide)) rfl e.g__law_draw k__law_draw b__law_draw .nil passL (pa_cons (pn 0) (pa_cons pe_int pa_nil)))))))))))))))))
  (pss_cons (ps_if (ct (oEq hu) (pe_call G__law_draw (hr.mono (by decide)) rfl e.g__law_draw k__law_draw b__law_draw .nil (passes_call (takes_of rfl rfl rfl rfl) fun _ _ _ _ h => h) (pa_cons (pn 0) (pa_cons pe_int pa_nil))) pe_int)
  (pss_cons (sSet (i := 4) sc__law_bent.nd rfl (by first | exact .inl rfl | exact .inr rfl) (pe_call G__law_draw (hr.mono (by decide)) rfl e.g__law_draw k__law_draw b__law_draw .nil (passes_call (takes_of rfl rfl rfl rfl) fun _ _ _ _ h => h) (pa_cons (pn 0) (pa_cons (pe_callB bLen rfl e.b_len (by decide +kernel) (pa_cons (pn 3) pa_nil)) pa_nil))))
  (pss_one (ps_asg (pe_call G__law_any_cell (hr.mono (by decide)) rfl e.g__law_any_cell k__law_any_cell b__law_any_cell .nil (passes_call (takes_of rfl rfl rfl rfl) fun _ _ _ _ h => h) (pa_cons (pn 0) pa_nil)) (pg_sub (pn 3) (pn 4) (setU hu)))))
  pss_nil)
  (pss_one (ps_ret (pn 3)))))))
abbrev N__law_read : List Str := ["content", "wanted", "handed_in", "actual"]
theorem sc__law_read : FnScope N__law_read ["content", "wanted"] (defScope s__law_read) := ⟨rfl, rfl, rfl, by decide +kernel, rfl, by decide +kernel, by decide +kernel⟩
def rd__law_read (K : PySem.W.Frag) (S_piece_of_frame : Sp1) (S__law_same_piece : Sp2) (E : XK) : TS := (tSeq (tAsg (tCB (uList K) (tCons (cVar 0) tNil)) (gNm 2))
  (tSeq (tAsg (tCall (mk1 S_piece_of_frame) [] E (tCons (cVar 2) tNil)) (gNm 3))
  (tSeq (tIfS (tOr (cTest (tOp (uNe K) (cVar 2) (cVar 0))) (tNot (cTru K (tCall (mk2 S__law_same_piece) [] E (tCons (cVar 3) (tCons (cVar 1) tNil))))))
  (tRet (tC (.bl false)))
  tNext)
  (tSeq (tAsg (tC (.int 7)) (gSub (cVar 2) (tC (.int 0)) uSet))
  (tSeq (tAsg (tC (.int 7)) (gSub (cVar 2) (tOp uSub (tCB (uLen K) (tCons (cVar 0) tNil)) (tC (.int 1))) uSet))
  (tRet (tCall (mk2 S__law_same_piece) [] E (tCons (cVar 3) (tCons (cVar 1) tNil)))))))))
theorem der__law_read {P : Program} {w : World} {K : PySem.W.Frag} {mg : Str → Option Value} {base : Heap} {sp : Sp2} {S_piece_of_frame : Sp1} {S__law_same_piece : Sp2} (e : Txt K mg) (O_piece_of_frame : Fok P w K mg base 1 (He.ga K "piece_of_frame") ["content"] (mk1 S_piece_of_frame)) (O__law_same_piece : Fok P w K mg base 3 (He.ga K "_law_same_piece") ["actual", "wanted"] (mk2 S__law_same_piece))
    (h : ∀ a0 a1 H Q E, sp a0 a1 H Q E → rd__law_read K S_piece_of_frame S__law_same_piece E { nx := fun _ H' => Q .non H', rt := Q } [some a0, some a1, none, none] H) : Fok P w K mg base 4 (He.ga K "_law_read") ["content", "wanted"] (mk2 sp) := by
  obtain ⟨fd_piece_of_frame, G_piece_of_frame, b_piece_of_frame, _⟩ := O_piece_of_frame
  obtain ⟨_, F_piece_of_frame⟩ := e.F_piece_of_frame
  have k_piece_of_frame := F_piece_of_frame.kp
  obtain ⟨fd__law_same_piece, G__law_same_piece, b__law_same_piece, _⟩ := O__law_same_piece
  obtain ⟨_, F__law_same_piece⟩ := e.F__law_same_piece
  have k__law_same_piece := F__law_same_piece.kp
  obtain ⟨fd, F⟩ := e.F__law_read
  refine ⟨fd, F.ok sc__law_read (fun _ _ _ _ z => mk2_len z) (fun cdv A outer s H vs Q E hr hsp => ?_), FunD.bindsN F fun _ _ _ _ _ _ us hl => match us, hl with | [_, _], _ => rfl, fun_lk F⟩
  have hu := hr.units
  obtain ⟨a0, a1, rfl, hs⟩ := mk2_at hsp
  refine ⟨rd__law_read K S_piece_of_frame S__law_same_piece E, ?_, h a0 a1 H Q E hs⟩
  exact (pss_cons (sSet (i := 2) sc__law_read.nd rfl (by first | exact .inl rfl | exact .inr rfl) (pe_callTy (bList rfl) rfl e.b_list (by decide +kernel) (pa_cons (pn 0) pa_nil)))
  (pss_cons (sSet (i := 3) sc__law_read.nd rfl (by first | exact .inl rfl | exact .inr rfl) (pe_call G_piece_of_frame (hr.mono (by decide)) rfl e.g_piece_of_frame k_piece_of_frame b_piece_of_frame .nil (passes_call (takes_of rfl rfl rfl rfl) fun _ _ _ _ h => h) (pa_cons (pn 2) pa_nil)))
  (pss_cons (ps_if (PW.pt (pw_or (ct (oNe hu) (pn 2) (pn 0)) (pw_or1 (pt_not (tt_ (pe_call G__law_same_piece (hr.mono (by decide)) rfl e.g__law_same_piece k__law_same_piece b__law_same_piece .nil (passes_call (takes_of rfl rfl rfl rfl) fun _ _ _ _ h => h) (pa_cons (pn 3) (pa_cons (pn 1) pa_nil))))))))
  (pss_one (ps_ret pe_bl))
  pss_nil)
  (pss_cons (ps_asg pe_int (pg_sub (pn 2) pe_int (setU hu)))
  (pss_cons (ps_asg pe_int (pg_sub (pn 2) (pe_op oSub (pe_callB bLen rfl e.b_len (by decide +kernel) (pa_cons (pn 0) pa_nil)) pe_int) (setU hu)))
  (pss_one (ps_ret (pe_call G__law_same_piece (hr.mono (by decide)) rfl e.g__law_same_piece k__law_same_piece b__law_same_piece .nil (passes_call (takes_of rfl rfl rfl rfl) fun _ _ _ _ h => h) (pa_cons (pn 3) (pa_cons (pn 1) pa_nil))))))))))
abbrev N__law_framed : List Str := ["piece", "frame", "actual"]
theorem sc__law_framed : FnScope N__law_framed ["piece"] (defScope s__law_framed) := ⟨rfl, rfl, rfl, by decide +kernel, rfl, by decide +kernel, by decide +kernel⟩
def rd__law_framed (K : PySem.W.Frag) (S__law_frame : Sp1) (S_frame_of_piece : Sp1) (S__law_same_frame : Sp2) (S__law_read : Sp2) (E : XK) : TS := (tSeq (tAsg (tCall (mk1 S__law_frame) [] E (tCons (cVar 0) tNil)) (gNm 1))
  (tSeq (tAsg (tCall (mk1 S_frame_of_piece) [] E (tCons (cVar 0) tNil)) (gNm 2))
  (tSeq (tIfS (tNot (cTru K (tCall (mk2 S__law_same_frame) [] E (tCons (cVar 2) (tCons (cVar 1) tNil)))))
  (tRet (tC (.bl false)))
  tNext)
  (tSeq (tDrop (tBM K "list" aAppend (cVar 2) (tCons (tC (.int 0)) tNil)))
  (tRet (cAnd K (tCall (mk2 S__law_same_frame) [] E (tCons (tCall (mk1 S_frame_of_piece) [] E (tCons (cVar 0) tNil)) (tCons (cVar 1) tNil))) (tCall (mk2 S__law_read) [] E (tCons (cVar 1) (tCons (cVar 0) tNil)))))))))
theorem der__law_framed {P : Program} {w : World} {K : PySem.W.Frag} {mg : Str → Option Value} {base : Heap} {sp : Sp1} {S__law_frame : Sp1} {S_frame_of_piece : Sp1} {S__law_same_frame : Sp2} {S__law_read : Sp2} (e : Txt K mg) (O__law_frame : Fok P w K mg base 1 (He.ga K "_law_frame") ["piece"] (mk1 S__law_frame)) (O_frame_of_piece : Fok P w K mg base 1 (He.ga K "frame_of_piece") ["piece"] (mk1 S_frame_of_piece)) (O__law_same_frame : Fok P w K mg base 3 (He.ga K "_law_same_frame") ["actual", "wanted"] (mk2 S__law_same_frame)) (O__law_read : Fok P w K mg base 4 (He.ga K "_law_read") ["content", "wanted"] (mk2 S__law_read))
    (h : ∀ a0 H Q E, sp a0 H Q E → rd__law_framed K S__law_frame S_frame_of_piece S__law_same_frame S__law_read E { nx := fun _ H' => Q .non H', rt := Q } [some a0, none, none] H) : Fok P w K mg base 5 (He.ga K "_law_framed") ["piece"] (mk1 sp) := by
  obtain ⟨fd__law_frame, G__law_frame, b__law_frame, _⟩ := O__law_frame
  obtain ⟨_, F__law_frame⟩ := e.F__law_frame
  have k__law_frame := F__law_frame.kp
  obtain ⟨fd_frame_of_piece, G_frame_of_piece, b_frame_of_piece, _⟩ := O_frame_of_piece
  obtain ⟨_, F_frame_of_piece⟩ := e.F_frame_of_piece
  have k_frame_of_piece := F_frame_of_piece.kp
  obtain ⟨fd__law_same_frame, G__law_same_frame, b__law_same_frame, _⟩ := O__law_same_frame
  obtain ⟨_, F__law_same_frame⟩ := e.F__law_same_frame
  have k__law_same_frame := F__law_same_frame.kp
  obtain ⟨fd__law_read, G__law_read, b__law_read, _⟩ := O__law_read
  obtain ⟨_, F__law_read⟩ := e.F__law_read
  have k__law_read := F__law_read.kp
  obtain ⟨fd, F⟩ := e.F__law_framed
  refine ⟨fd, F.ok sc__law_framed (fun _ _ _ _ z => mk1_len z) (fun cdv A outer s H vs Q E hr hsp => ?_), FunD.bindsN F fun _ _ _ _ _ _ us hl => match us, hl with | [_], _ => rfl, fun_lk F⟩
  have hu := hr.units
  obtain ⟨a0, rfl, hs⟩ := mk1_at hsp
  refine ⟨rd__law_framed K S__law_frame S_frame_of_piece S__law_same_frame S__law_read E, ?_, h a0 H Q E hs⟩
  exact (pss_cons (sSet (i := 1) sc__law_framed.nd rfl (by first | exact .inl rfl | exact .inr rfl) (pe_call G__law_frame (hr.mono (by decide)) rfl e.g__law_frame k__law_frame b__law_frame .nil (passes_call (takes_of rfl rfl rfl rfl) fun _ _ _ _ h => h) (pa_cons (pn 0) pa_nil)))
  (pss_cons (sSet (i := 2) sc__law_framed.nd rfl (by first | exact .inl rfl | exact .inr rfl) (pe_call G_frame_of_piece (hr.mono (by decide)) rfl e.g_frame_of_piece k_frame_of_piece b_frame_of_piece .nil (passes_call (takes_of rfl rfl rfl rfl) fun _ _ _ _ h => h) (pa_cons (pn 0) pa_nil)))
  (pss_cons (ps_if (pt_not (tt_ (pe_call G__law_same_frame (hr.mono (by decide)) rfl e.g__law_same_frame k__law_same_frame b__law_same_frame .nil (passes_call (takes_of rfl rfl rfl rfl) fun _ _ _ _ h => h) (pa_cons (pn 2) (pa_cons (pn 1) pa_nil)))))
  (pss_one (ps_ret pe_bl))
  pss_nil)
  (pss_cons (ps_expr (pe_bm PySem.F.plainAttrs_list PySem.F.slot_list_append PySem.F.type_list_append mAppend (pn 2) (pa_cons pe_int pa_nil)))
  (pss_one (ps_ret (eAnd (pe_call G__law_same_frame (hr.mono (by decide)) rfl e.g__law_same_frame k__law_same_frame b__law_same_frame .nil (passes_call (takes_of rfl rfl rfl rfl) fun _ _ _ _ h => h) (pa_cons (pe_call G_frame_of_piece (hr.mono (by decide)) rfl e.g_frame_of_piece k_frame_of_piece b_frame_of_piece .nil (passes_call (takes_of rfl rfl rfl rfl) fun _ _ _ _ h => h) (pa_cons (pn 0) pa_nil)) (pa_cons (pn 1) pa_nil))) (pe_one (pe_call G__law_read (hr.mono (by decide)) rfl e.g__law_read k__law_read b__law_read .nil (passes_call (takes_of rfl rfl rfl rfl) fun _ _ _ _ h => h) (pa_cons (pn 1) (pa_cons (pn 0) pa_nil)))))))))))
abbrev N__law_whole : List Str := ["piece", "cells", "handed_in", "actual", "wanted"]
theorem sc__law_whole : FnScope N__law_whole ["piece"] (defScope s__law_whole) := ⟨rfl, rfl, rfl, by decide +kernel, rfl, by decide +kernel, by decide +kernel⟩
def rd__law_whole (K : PySem.W.Frag) (S_whole_piece : Sp5) (S__law_framed : Sp1) (S__law_same_piece : Sp2) (E : XK) : TS := (tSeq (tAsg (tCB (uList K) (tCons (tOp (uIx K) (cVar 0) (tC (.int 6))) tNil)) (gNm 1))
  (tSeq (tAsg (tCB (uList K) (tCons (cVar 1) tNil)) (gNm 2))
  (tSeq (tAsg (tCall (mk5 S_whole_piece) [] E (tCons (tOp (uIx K) (cVar 0) (tC (.int 0))) (tCons (tOp (uIx K) (cVar 0) (tC (.int 1))) (tCons (tOp (uIx K) (cVar 0) (tC (.int 2))) (tCons (tOp (uIx K) (cVar 0) (tC (.int 3))) (tCons (cVar 2) tNil)))))) (gNm 3))
  (tSeq (tAsg (tOp (uAdd K) (tSl (uSl K) (cVar 0) tNoPart (cPart (tC (.int 4)))) (cTup (tCons (tC (.int 0)) (tCons (tCB (uLen K) (tCons (cVar 1) tNil)) (tCons (tOp (uIx K) (cVar 0) (tC (.int 6))) tNil))))) (gNm 4))
  (tSeq (tIfS (tOr (cTest (tOp (uNe K) (cVar 2) (cVar 1))) (tNot (cTru K (tCall (mk2 S__law_same_piece) [] E (tCons (cVar 3) (tCons (cVar 4) tNil))))))
  (tRet (tC (.bl false)))
  tNext)
  (tRet (tCall (mk1 S__law_framed) [] E (tCons (cVar 4) tNil))))))))
theorem der__law_whole {P : Program} {w : World} {K : PySem.W.Frag} {mg : Str → Option Value} {base : Heap} {sp : Sp1} {S_whole_piece : Sp5} {S__law_framed : Sp1} {S__law_same_piece : Sp2} (e : Txt K mg) (O_whole_piece : Fok P w K mg base 1 (He.ga K "whole_piece") ["source", "target", "hops", "id", "cells"] (mk5 S_whole_piece)) (O__law_framed : Fok P w K mg base 5 (He.ga K "_law_framed") ["piece"] (mk1 S__law_framed)) (O__law_same_piece : Fok P w K mg base 3 (He.ga K "_law_same_piece") ["actual", "wanted"] (mk2 S__law_same_piece))
    (h : ∀ a0 H Q E, sp a0 H Q E → rd__law_whole K S_whole_piece S__law_framed S__law_same_piece E { nx := fun _ H' => Q .non H', rt := Q } [some a0, none, none, none, none] H) : Fok P w K mg base 6 (He.ga K "_law_whole") ["piece"] (mk1 sp) := by
  obtain ⟨fd_whole_piece, G_whole_piece, b_whole_piece, _⟩ := O_whole_piece
  obtain ⟨_, F_whole_piece⟩ := e.F_whole_piece
  have k_whole_piece := F_whole_piece.kp
  obtain ⟨fd__law_framed, G__law_framed, b__law_framed, _⟩ := O__law_framed
  obtain ⟨_, F__law_framed⟩ := e.F__law_framed
  have k__law_framed := F__law_framed.kp
  obtain ⟨fd__law_same_piece, G__law_same_piece, b__law_same_piece, _⟩ := O__law_same_piece
  obtain ⟨_, F__law_same_piece⟩ := e.F__law_same_piece
  have k__law_same_piece := F__law_same_piece.kp
  obtain ⟨fd, F⟩ := e.F__law_whole
  refine ⟨fd, F.ok sc__law_whole (fun _ _ _ _ z => mk1_len z) (fun cdv A outer s H vs Q E hr hsp => ?_), FunD.bindsN F fun _ _ _ _ _ _ us hl => match us, hl with | [_], _ => rfl, fun_lk F⟩
  have hu := hr.units
  obtain ⟨a0, rfl, hs⟩ := mk1_at hsp
  refine ⟨rd__law_whole K S_whole_piece S__law_framed S__law_same_piece E, ?_, h a0 H Q E hs⟩
  exact (pss_cons (sSet (i := 1) sc__law_whole.nd rfl (by first | exact .inl rfl | exact .inr rfl) (pe_callTy (bList rfl) rfl e.b_list (by decide +kernel) (pa_cons (eIx hu (pn 0) pe_int) pa_nil)))
  (pss_cons (sSet (i := 2) sc__law_whole.nd rfl (by first | exact .inl rfl | exact .inr rfl) (pe_callTy (bList rfl) rfl e.b_list (by decide +kernel) (pa_cons (pn 1) pa_nil)))
  (pss_cons (sSet (i := 3) sc__law_whole.nd rfl (by first | exact .inl rfl | exact .inr rfl) (pe_call G_whole_piece (hr.mono (by decide)) rfl e.g_whole_piece k_whole_piece b_whole_piece .nil (passes_call (takes_of rfl rfl rfl rfl) fun _ _ _ _ h => h) (pa_cons (eIx hu (pn 0) pe_int) (pa_cons (eIx hu (pn 0) pe_int) (pa_cons (eIx hu (pn 0) pe_int) (pa_cons (eIx hu (pn 0) pe_int) (pa_cons (pn 2) pa_nil)))))))
  (pss_cons (sSet (i := 4) sc__law_whole.nd rfl (by first | exact .inl rfl | exact .inr rfl) (pe_op oAdd (eSl (pn 0) po_none (eSome pe_int)) (eTup (pa_cons pe_int (pa_cons (pe_callB bLen rfl e.b_len (by decide +kernel) (pa_cons (pn 1) pa_nil)) (pa_cons (eIx hu (pn 0) pe_int) pa_nil))))))
  (pss_cons (ps_if (PW.pt (pw_or (ct (oNe hu) (pn 2) (pn 1)) (pw_or1 (pt_not (tt_ (pe_call G__law_same_piece (hr.mono (by decide)) rfl e.g__law_same_piece k__law_same_piece b__law_same_piece .nil (passes_call (takes_of rfl rfl rfl rfl) fun _ _ _ _ h => h) (pa_cons (pn 3) (pa_cons (pn 4) pa_nil))))))))
  (pss_one (ps_ret pe_bl))
  pss_nil)
  (pss_one (ps_ret (pe_call G__law_framed (hr.mono (by decide)) rfl e.g__law_framed k__law_framed b__law_framed .nil (passes_call (takes_of rfl rfl rfl rfl) fun _ _ _ _ h => h) (pa_cons (pn 4) pa_nil)))))))))
abbrev N__law_cut : List Str := ["box", "piece", "width", "actual", "starts", "k", "cells", "wanted"]
theorem sc__law_cut : FnScope N__law_cut ["box", "piece"] (defScope s__law_cut) := ⟨rfl, rfl, rfl, by decide +kernel, rfl, by decide +kernel, by decide +kernel⟩
def rd__law_cut (K : PySem.W.Frag) (S_cut : Sp2) (S__law_draw : Sp2) (S__law_same_piece : Sp2) (S__law_framed : Sp1) (E : XK) : TS := (tSeq (tAsg (tOp (uAdd K) (tC (.int 1)) (tCall (mk2 S__law_draw) [] E (tCons (cVar 0) (tCons (tOp (uAdd K) (tCB (uLen K) (tCons (tOp (uIx K) (cVar 1) (tC (.int 6))) tNil)) (tC (.int 2))) tNil)))) (gNm 2))
  (tSeq (tAsg (tCall (mk2 S_cut) [] E (tCons (cVar 1) (tCons (cVar 2) tNil))) (gNm 3))
  (tSeq (tAsg (cLRg (tCons (tC (.int 0)) (tCons (tCB (uLen K) (tCons (tOp (uIx K) (cVar 1) (tC (.int 6))) tNil)) (tCons (cVar 2) tNil)))) (gNm 4))
  (tSeq (tIfS (tOr (tNot (cTru K (cIsi K isiList (cVar 3)))) (cTest (tOp (uNe K) (tCB (uLen K) (tCons (cVar 3) tNil)) (tCB (uLen K) (tCons (cVar 4) tNil)))))
  (tRet (tC (.bl false)))
  tNext)
  (tSeq (cFor (iR1 (tCons (tCB (uLen K) (tCons (cVar 4) tNil)) tNil)) (gNm 5)
  (tSeq (tAsg (tSl (uSl K) (tOp (uIx K) (cVar 1) (tC (.int 6))) (cPart (tOp (uIx K) (cVar 4) (cVar 5))) (cPart (tOp (uAdd K) (tOp (uIx K) (cVar 4) (cVar 5)) (cVar 2)))) (gNm 6))
  (tSeq (tAsg (tOp (uAdd K) (tSl (uSl K) (cVar 1) tNoPart (cPart (tC (.int 4)))) (cTup (tCons (tOp (uAdd K) (tOp (uIx K) (cVar 1) (tC (.int 4))) (tOp (uIx K) (cVar 4) (cVar 5))) (tCons (tOp (uIx K) (cVar 1) (tC (.int 5))) (tCons (cVar 6) tNil))))) (gNm 7))
  (tIfS (tOr (tNot (cTru K (tCall (mk2 S__law_same_piece) [] E (tCons (tOp (uIx K) (cVar 3) (cVar 5)) (tCons (cVar 7) tNil))))) (tNot (cTru K (tCall (mk1 S__law_framed) [] E (tCons (cVar 7) tNil)))))
  (tRet (tC (.bl false)))
  tNext))))
  (tRet (tC (.bl true))))))))
theorem der__law_cut {P : Program} {w : World} {K : PySem.W.Frag} {mg : Str → Option Value} {base : Heap} {sp : Sp2} {S_cut : Sp2} {S__law_draw : Sp2} {S__law_same_piece : Sp2} {S__law_framed : Sp1} (e : Txt K mg) (O_cut : Fok P w K mg base 1 (He.ga K "cut") ["piece", "width"] (mk2 S_cut)) (O__law_draw : Fok P w K mg base 2 (He.ga K "_law_draw") ["box", "size"] (mk2 S__law_draw)) (O__law_same_piece : Fok P w K mg base 3 (He.ga K "_law_same_piece") ["actual", "wanted"] (mk2 S__law_same_piece)) (O__law_framed : Fok P w K mg base 5 (He.ga K "_law_framed") ["piece"] (mk1 S__law_framed))
    (h : ∀ a0 a1 H Q E, sp a0 a1 H Q E → rd__law_cut K S_cut S__law_draw S__law_same_piece S__law_framed E { nx := fun _ H' => Q .non H', rt := Q } [some a0, some a1, none, none, none, none, none, none] H) : Fok P w K mg base 6 (He.ga K "_law_cut") ["box", "piece"] (mk2 sp) := by
  obtain ⟨fd_cut, G_cut, b_cut, _⟩ := O_cut
  obtain ⟨_, F_cut⟩ := e.F_cut
  have k_cut := F_cut.kp
  obtain ⟨fd__law_draw, G__law_draw, b__law_draw, _⟩ := O__law_draw
  obtain ⟨_, F__law_draw⟩ := e.F__law_draw
  have k__law_draw := F__law_draw.kp
  obtain ⟨fd__law_same_piece, G__law_same_piece, b__law_same_piece, _⟩ := O__law_same_piece
  obtain ⟨_, F__law_same_piece⟩ := e.F__law_same_piece
  have k__law_same_piece := F__law_same_piece.kp
  obtain ⟨fd__law_framed, G__law_framed, b__law_framed, _⟩ := O__law_framed
  obtain ⟨_, F__law_framed⟩ := e.F__law_framed
  have k__law_framed := F__law_framed.kp
  obtain ⟨fd, F⟩ := e.F__law_cut
  refine ⟨fd, F.ok sc__law_cut (fun _ _ _ _ z => mk2_len z) (fun cdv A outer s H vs Q E hr hsp => ?_), FunD.bindsN F fun _ _ _ _ _ _ us hl => match us, hl with | [_, _], _ => rfl, fun_lk F⟩
  have hu := hr.units
  obtain ⟨a0, a1, rfl, hs⟩ := mk2_at hsp
  refine ⟨rd__law_cut K S_cut S__law_draw S__law_same_piece S__law_framed E, ?_, h a0 a1 H Q E hs⟩
  exact (pss_cons (sSet (i := 2) sc__law_cut.nd rfl (by first | exact .inl rfl | exact .inr rfl) (pe_op oAdd pe_int (pe_call G__law_draw (hr.mono (by decide)) rfl e.g__law_draw k__law_draw b__law_draw .nil (passes_call (takes_of rfl rfl rfl rfl) fun _ _ _ _ h => h) (pa_cons (pn 0) (pa_cons (pe_op oAdd (pe_callB bLen rfl e.b_len (by decide +kernel) (pa_cons (eIx hu (pn 1) pe_int) pa_nil)) pe_int) pa_nil)))))
  (pss_cons (sSet (i := 3) sc__law_cut.nd rfl (by first | exact .inl rfl | exact .inr rfl) (pe_call G_cut (hr.mono (by decide)) rfl e.g_cut k_cut b_cut .nil (passes_call (takes_of rfl rfl rfl rfl) fun _ _ _ _ h => h) (pa_cons (pn 1) (pa_cons (pn 2) pa_nil))))
  (pss_cons (sSet (i := 4) sc__law_cut.nd rfl (by first | exact .inl rfl | exact .inr rfl) (eLRg rfl rfl e.b_list rfl e.b_range (pa_cons pe_int (pa_cons (pe_callB bLen rfl e.b_len (by decide +kernel) (pa_cons (eIx hu (pn 1) pe_int) pa_nil)) (pa_cons (pn 2) pa_nil)))))
  (pss_cons (ps_if (PW.pt (pw_or (pt_not (tt_ (eIsi (t := isiList) isiList_ok rfl e.b_isinstance (pn 3) rfl e.b_list (by decide +kernel)))) (pw_or1 (ct (oNe hu) (pe_callB bLen rfl e.b_len (by decide +kernel) (pa_cons (pn 3) pa_nil)) (pe_callB bLen rfl e.b_len (by decide +kernel) (pa_cons (pn 4) pa_nil))))))
  (pss_one (ps_ret pe_bl))
  pss_nil)
  (pss_cons (sFor (passes_of rfl) rfl (fR1 rfl e.b_range (pa_cons (pe_callB bLen rfl e.b_len (by decide +kernel) (pa_cons (pn 4) pa_nil)) pa_nil)) (tNm (i := 5) sc__law_cut.nd rfl (by first | exact .inl rfl | exact .inr rfl))
  (pss_cons (sSet (i := 6) sc__law_cut.nd rfl (by first | exact .inl rfl | exact .inr rfl) (eSl (eIx hu (pn 1) pe_int) (eSome (eIx hu (pn 4) (pn 5))) (eSome (pe_op oAdd (eIx hu (pn 4) (pn 5)) (pn 2)))))
  (pss_cons (sSet (i := 7) sc__law_cut.nd rfl (by first | exact .inl rfl | exact .inr rfl) (pe_op oAdd (eSl (pn 1) po_none (eSome pe_int)) (eTup (pa_cons (pe_op oAdd (eIx hu (pn 1) pe_int) (eIx hu (pn 4) (pn 5))) (pa_cons (eIx hu (pn 1) pe_int) (pa_cons (pn 6) pa_nil))))))
  (pss_one (ps_if (PW.pt (pw_or (pt_not (tt_ (pe_call G__law_same_piece (hr.mono (by decide)) rfl e.g__law_same_piece k__law_same_piece b__law_same_piece .nil (passes_call (takes_of rfl rfl rfl rfl) fun _ _ _ _ h => h) (pa_cons (eIx hu (pn 3) (pn 5)) (pa_cons (pn 7) pa_nil))))) (pw_or1 (pt_not (tt_ (pe_call G__law_framed (hr.mono (by decide)) rfl e.g__law_framed k__law_framed b__law_framed .nil (passes_call (takes_of rfl rfl rfl rfl) fun _ _ _ _ h => h) (pa_cons (pn 7) pa_nil)))))))
  (pss_one (ps_ret pe_bl))
  pss_nil)))))
  (pss_one (ps_ret pe_bl)))))))
abbrev N__law_way : List Str := ["piece", "hops", "wanted"]
theorem sc__law_way : FnScope N__law_way ["piece"] (defScope s__law_way) := ⟨rfl, rfl, rfl, by decide +kernel, rfl, by decide +kernel, by decide +kernel⟩
def rd__law_way (K : PySem.W.Frag) (S_passed_on : Sp1) (S__law_same_piece : Sp2) (S__law_framed : Sp1) (E : XK) : TS := (tSeq (cFor (iR3 (tCons (tOp uSub (tOp (uIx K) (cVar 0) (tC (.int 2))) (tC (.int 1))) (tCons (tC (.int 0)) (tCons (tUn uNeg (tC (.int 1))) tNil)))) (gNm 1)
  (tSeq (tAsg (tOp (uAdd K) (tOp (uAdd K) (tSl (uSl K) (cVar 0) tNoPart (cPart (tC (.int 2)))) (cTup (tCons (cVar 1) tNil))) (tSl (uSl K) (cVar 0) (cPart (tC (.int 3))) tNoPart)) (gNm 2))
  (tSeq (tIfS (tOr (tNot (cTru K (tCall (mk2 S__law_same_piece) [] E (tCons (tCall (mk1 S_passed_on) [] E (tCons (cVar 0) tNil)) (tCons (cVar 2) tNil))))) (tNot (cTru K (tCall (mk1 S__law_framed) [] E (tCons (cVar 2) tNil)))))
  (tRet (tC (.bl false)))
  tNext)
  (tAsg (cVar 2) (gNm 0)))))
  (tRet (tOp uIs (tCall (mk1 S_passed_on) [] E (tCons (cVar 0) tNil)) (tC .non))))
theorem der__law_way {P : Program} {w : World} {K : PySem.W.Frag} {mg : Str → Option Value} {base : Heap} {sp : Sp1} {S_passed_on : Sp1} {S__law_same_piece : Sp2} {S__law_framed : Sp1} (e : Txt K mg) (O_passed_on : Fok P w K mg base 1 (He.ga K "passed_on") ["piece"] (mk1 S_passed_on)) (O__law_same_piece : Fok P w K mg base 3 (He.ga K "_law_same_piece") ["actual", "wanted"] (mk2 S__law_same_piece)) (O__law_framed : Fok P w K mg base 5 (He.ga K "_law_framed") ["piece"] (mk1 S__law_framed))
    (h : ∀ a0 H Q E, sp a0 H Q E → rd__law_way K S_passed_on S__law_same_piece S__law_framed E { nx := fun _ H' => Q .non H', rt := Q } [some a0, none, none] H) : Fok P w K mg base 6 (He.ga K "_law_way") ["piece"] (mk1 sp) := by
  obtain ⟨fd_passed_on, G_passed_on, b_passed_on, _⟩ := O_passed_on
  obtain ⟨_, F_passed_on⟩ := e.F_passed_on
  have k_passed_on := F_passed_on.kp
  obtain ⟨fd__law_same_piece, G__law_same_piece, b__law_same_piece, _⟩ := O__law_same_piece
  obtain ⟨_, F__law_same_piece⟩ := e.F__law_same_piece
  have k__law_same_piece := F__law_same_piece.kp
  obtain ⟨fd__law_framed, G__law_framed, b__law_framed, _⟩ := O__law_framed
  obtain ⟨_, F__law_framed⟩ := e.F__law_framed
  have k__law_framed := F__law_framed.kp
  obtain ⟨fd, F⟩ := e.F__law_way
  refine ⟨fd, F.ok sc__law_way (fun _ _ _ _ z => mk1_len z) (fun cdv A outer s H vs Q E hr hsp => ?_), FunD.bindsN F fun _ _ _ _ _ _ us hl => match us, hl with | [_], _ => rfl, fun_lk F⟩
  have hu := hr.units
  obtain ⟨a0, rfl, hs⟩ := mk1_at hsp
  refine ⟨rd__law_way K S_passed_on S__law_same_piece S__law_framed E, ?_, h a0 H Q E hs⟩
  exact (pss_cons (sFor (passes_of rfl) rfl (fR3 rfl e.b_range (pa_cons (pe_op oSub (eIx hu (pn 0) pe_int) pe_int) (pa_cons pe_int (pa_cons (pe_un nNeg pe_int) pa_nil)))) (tNm (i := 1) sc__law_way.nd rfl (by first | exact .inl rfl | exact .inr rfl))
  (pss_cons (sSet (i := 2) sc__law_way.nd rfl (by first | exact .inl rfl | exact .inr rfl) (pe_op oAdd (pe_op oAdd (eSl (pn 0) po_none (eSome pe_int)) (eTup (pa_cons (pn 1) pa_nil))) (eSl (pn 0) (eSome pe_int) po_none)))
  (pss_cons (ps_if (PW.pt (pw_or (pt_not (tt_ (pe_call G__law_same_piece (hr.mono (by decide)) rfl e.g__law_same_piece k__law_same_piece b__law_same_piece .nil (passes_call (takes_of rfl rfl rfl rfl) fun _ _ _ _ h => h) (pa_cons (pe_call G_passed_on (hr.mono (by decide)) rfl e.g_passed_on k_passed_on b_passed_on .nil (passes_call (takes_of rfl rfl rfl rfl) fun _ _ _ _ h => h) (pa_cons (pn 0) pa_nil)) (pa_cons (pn 2) pa_nil))))) (pw_or1 (pt_not (tt_ (pe_call G__law_framed (hr.mono (by decide)) rfl e.g__law_framed k__law_framed b__law_framed .nil (passes_call (takes_of rfl rfl rfl rfl) fun _ _ _ _ h => h) (pa_cons (pn 2) pa_nil)))))))
  (pss_one (ps_ret pe_bl))
  pss_nil)
  (pss_one (sSet (i := 0) sc__law_way.nd rfl (by first | exact .inl rfl | exact .inr rfl) (pn 2))))))
  (pss_one (ps_ret (ce oIs (pe_call G_passed_on (hr.mono (by decide)) rfl e.g_passed_on k_passed_on b_passed_on .nil (passes_call (takes_of rfl rfl rfl rfl) fun _ _ _ _ h => h) (pa_cons (pn 0) pa_nil)) pe_non))))
abbrev N_law : List Str := ["script", "box", "piece", "frame", "k", "bent"]
theorem sc_law : FnScope N_law ["script"] (defScope s_law) := ⟨rfl, rfl, rfl, by decide +kernel, rfl, by decide +kernel, by decide +kernel⟩
def rd_law (K : PySem.W.Frag) (S__law_box : Sp1) (S__law_piece : Sp1) (S__law_frame : Sp1) (S__law_bent : Sp2) (S__law_framed : Sp1) (S__law_whole : Sp1) (S__law_cut : Sp2) (S__law_way : Sp1) (S__law_draw : Sp2) (S__law_read : Sp2) (S__law_content : Sp1) (E : XK) : TS := (tSeq (tAsg (tCall (mk1 S__law_box) [] E (tCons (cVar 0) tNil)) (gNm 1))
  (tSeq (tAsg (tCall (mk1 S__law_piece) [] E (tCons (cVar 1) tNil)) (gNm 2))
  (tSeq (tIfS (tOr (tNot (cTru K (tCall (mk1 S__law_framed) [] E (tCons (cVar 2) tNil)))) (tOr (tNot (cTru K (tCall (mk1 S__law_whole) [] E (tCons (cVar 2) tNil)))) (tOr (tNot (cTru K (tCall (mk2 S__law_cut) [] E (tCons (cVar 1) (tCons (cVar 2) tNil))))) (tNot (cTru K (tCall (mk1 S__law_way) [] E (tCons (cVar 2) tNil)))))))
  (tRet (tC (.bl false)))
  tNext)
  (tSeq (tAsg (tCall (mk1 S__law_frame) [] E (tCons (cVar 2) tNil)) (gNm 3))
  (tSeq (cFor (iR1 (tCons (tOp (uAdd K) (tC (.int 3)) (tCall (mk2 S__law_draw) [] E (tCons (cVar 1) (tCons (tC (.int 6)) tNil)))) tNil)) (gNm 4)
  (tSeq (tAsg (tCall (mk2 S__law_bent) [] E (tCons (cVar 1) (tCons (cVar 3) tNil))) (gNm 5))
  (tIfS (tNot (cTru K (tCall (mk2 S__law_read) [] E (tCons (cVar 5) (tCons (tCall (mk1 S__law_content) [] E (tCons (cVar 5) tNil)) tNil)))))
  (tRet (tC (.bl false)))
  tNext)))
  (tRet (tC (.bl true))))))))
theorem der_law {P : Program} {w : World} {K : PySem.W.Frag} {mg : Str → Option Value} {base : Heap} {sp : Sp1} {S__law_box : Sp1} {S__law_piece : Sp1} {S__law_frame : Sp1} {S__law_bent : Sp2} {S__law_framed : Sp1} {S__law_whole : Sp1} {S__law_cut : Sp2} {S__law_way : Sp1} {S__law_draw : Sp2} {S__law_read : Sp2} {S__law_content : Sp1} (e : Txt K mg) (O__law_box : Fok P w K mg base 1 (He.ga K "_law_box") ["script"] (mk1 S__law_box)) (O__law_piece : Fok P w K mg base 3 (He.ga K "_law_piece") ["box"] (mk1 S__law_piece)) (O__law_frame : Fok P w K mg base 1 (He.ga K "_law_frame") ["piece"] (mk1 S__law_frame)) (O__law_bent : Fok P w K mg base 4 (He.ga K "_law_bent") ["box", "frame"] (mk2 S__law_bent)) (O__law_framed : Fok P w K mg base 5 (He.ga K "_law_framed") ["piece"] (mk1 S__law_framed)) (O__law_whole : Fok P w K mg base 6 (He.ga K "_law_whole") ["piece"] (mk1 S__law_whole)) (O__law_cut : Fok P w K mg base 6 (He.ga K "_law_cut") ["box", "piece"] (mk2 S__law_cut)) (O__law_way : Fok P w K mg base 6 (He.ga K "_law_way") ["piece"] (mk1 S__law_way)) (O__law_draw : Fok P w K mg base 2 (He.ga K "_law_draw") ["box", "size"] (mk2 S__law_draw)) (O__law_read : Fok P w K mg base 4 (He.ga K "_law_read") ["content", "wanted"] (mk2 S__law_read)) (O__law_content : Fok P w K mg base 1 (He.ga K "_law_content") ["content"] (mk1 S__law_content))
    (h : ∀ a0 H Q E, sp a0 H Q E → rd_law K S__law_box S__law_piece S__law_frame S__law_bent S__law_framed S__law_whole S__law_cut S__law_way S__law_draw S__law_read S__law_content E { nx := fun _ H' => Q .non H', rt := Q } [some a0, none, none, none, none, none] H) : Fok P w K mg base 7 (He.ga K "law") ["script"] (mk1 sp) := by
  obtain ⟨fd__law_box, G__law_box, b__law_box, _⟩ := O__law_box
  obtain ⟨_, F__law_box⟩ := e.F__law_box
  have k__law_box := F__law_box.kp
  obtain ⟨fd__law_piece, G__law_piece, b__law_piece, _⟩ := O__law_piece
  obtain ⟨_, F__law_piece⟩ := e.F__law_piece
  have k__law_piece := F__law_piece.kp
  obtain ⟨fd__law_frame, G__law_frame, b__law_frame, _⟩ := O__law_frame
  obtain ⟨_, F__law_frame⟩ := e.F__law_frame
  have k__law_frame := F__law_frame.kp
  obtain ⟨fd__law_bent, G__law_bent, b__law_bent, _⟩ := O__law_bent
  obtain ⟨_, F__law_bent⟩ := e.F__law_bent
  have k__law_bent := F__law_bent.kp
  obtain ⟨fd__law_framed, G__law_framed, b__law_framed, _⟩ := O__law_framed
  obtain ⟨_, F__law_framed⟩ := e.F__law_framed
  have k__law_framed := F__law_framed.kp
  obtain ⟨fd__law_whole, G__law_whole, b__law_whole, _⟩ := O__law_whole
  obtain ⟨_, F__law_whole⟩ := e.F__law_whole
  have k__law_whole := F__law_whole.kp
  obtain ⟨fd__law_cut, G__law_cut, b__law_cut, _⟩ := O__law_cut
  obtain ⟨_, F__law_cut⟩ := e.F__law_cut
  have k__law_cut := F__law_cut.kp
  obtain ⟨fd__law_way, G__law_way, b__law_way, _⟩ := O__law_way
  obtain ⟨_, F__law_way⟩ := e.F__law_way
  have k__law_way := F__law_way.kp
  obtain ⟨fd__law_draw, G__law_draw, b__law_draw, _⟩ := O__law_draw
  obtain ⟨_, F__law_draw⟩ := e.F__law_draw
  have k__law_draw := F__law_draw.kp
  obtain ⟨fd__law_read, G__law_read, b__law_read, _⟩ := O__law_read
  obtain ⟨_, F__law_read⟩ := e.F__law_read
  have k__law_read := F__law_read.kp
  obtain ⟨fd__law_content, G__law_content, b__law_content, _⟩ := O__law_content
  obtain ⟨_, F__law_content⟩ := e.F__law_content
  have k__law_content := F__law_content.kp
  obtain ⟨fd, F⟩ := e.F_law
  refine ⟨fd, F.ok sc_law (fun _ _ _ _ z => mk1_len z) (fun cdv A outer s H vs Q E hr hsp => ?_), FunD.bindsN F fun _ _ _ _ _ _ us hl => match us, hl with | [_], _ => rfl, fun_lk F⟩
  have hu := hr.units
  obtain ⟨a0, rfl, hs⟩ := mk1_at hsp
  refine ⟨rd_law K S__law_box S__law_piece S__law_frame S__law_bent S__law_framed S__law_whole S__law_cut S__law_way S__law_draw S__law_read S__law_content E, ?_, h a0 H Q E hs⟩
  exact (pss_cons (sSet (i := 1) sc_law.nd rfl (by first | exact .inl rfl | exact .inr rfl) (pe_call G__law_box (hr.mono (by decide)) rfl e.g__law_box k__law_box b__law_box .nil (passes_call (takes_of rfl rfl rfl rfl) fun _ _ _ _ h => h) (pa_cons (pn 0) pa_nil)))
  (pss_cons (sSet (i := 2) sc_law.nd rfl (by first | exact .inl rfl | exact .inr rfl) (pe_call G__law_piece (hr.mono (by decide)) rfl e.g__law_piece k__law_piece b__law_piece .nil (passes_call (takes_of rfl rfl rfl rfl) fun _ _ _ _ h => h) (pa_cons (pn 1) pa_nil)))
  (pss_cons (ps_if (PW.pt (pw_or (pt_not (tt_ (pe_call G__law_framed (hr.mono (by decide)) rfl e.g__law_framed k__law_framed b__law_framed .nil (passes_call (takes_of rfl rfl rfl rfl) fun _ _ _ _ h => h) (pa_cons (pn 2) pa_nil)))) (pw_or (pt_not (tt_ (pe_call G__law_whole (hr.mono (by decide)) rfl e.g__law_whole k__law_whole b__law_whole .nil (passes_call (takes_of rfl rfl rfl rfl) fun _ _ _ _ h => h) (pa_cons (pn 2) pa_nil)))) (pw_or (pt_not (tt_ (pe_call G__law_cut (hr.mono (by decide)) rfl e.g__law_cut k__law_cut b__law_cut .nil (passes_call (takes_of rfl rfl rfl rfl) fun _ _ _ _ h => h) (pa_cons (pn 1) (pa_cons (pn 2) pa_nil))))) (pw_or1 (pt_not (tt_ (pe_call G__law_way (hr.mono (by decide)) rfl e.g__law_way k__law_way b__law_way .nil (passes_call (takes_of rfl rfl rfl rfl) fun _ _ _ _ h => h) (pa_cons (pn 2) pa_nil)))))))))
  (pss_one (ps_ret pe_bl))
  pss_nil)
  (pss_cons (sSet (i := 3) sc_law.nd rfl (by first | exact .inl rfl | exact .inr rfl) (pe_call G__law_frame (hr.mono (by decide)) rfl e.g__law_frame k__law_frame b__law_frame .nil (passes_call (takes_of rfl rfl rfl rfl) fun _ _ _ _ h => h) (pa_cons (pn 2) pa_nil)))
  (pss_cons (sFor (passes_of rfl) rfl (fR1 rfl e.b_range (pa_cons (pe_op oAdd pe_int (pe_call G__law_draw (hr.mono (by decide)) rfl e.g__law_draw k__law_draw b__law_draw .nil (passes_call (takes_of rfl rfl rfl rfl) fun _ _ _ _ h => h) (pa_cons (pn 1) (pa_cons pe_int pa_nil)))) pa_nil)) (tNm (i := 4) sc_law.nd rfl (by first | exact .inl rfl | exact .inr rfl))
  (pss_cons (sSet (i := 5) sc_law.nd rfl (by first | exact .inl rfl | exact .inr rfl) (pe_call G__law_bent (hr.mono (by decide)) rfl e.g__law_bent k__law_bent b__law_bent .nil (passes_call (takes_of rfl rfl rfl rfl) fun _ _ _ _ h => h) (pa_cons (pn 1) (pa_cons (pn 3) pa_nil))))
  (pss_one (ps_if (pt_not (tt_ (pe_call G__law_read (hr.mono (by decide)) rfl e.g__law_read k__law_read b__law_read .nil (passes_call (takes_of rfl rfl rfl rfl) fun _ _ _ _ h => h) (pa_cons (pn 5) (pa_cons (pe_call G__law_content (hr.mono (by decide)) rfl e.g__law_content k__law_content b__law_content .nil (passes_call (takes_of rfl rfl rfl rfl) fun _ _ _ _ h => h) (pa_cons (pn 5) pa_nil)) pa_nil)))))
  (pss_one (ps_ret pe_bl))
  pss_nil))))
  (pss_one (ps_ret pe_bl)))))))
end Wk
namespace Wk
open PySem PySem.Spec PyProof.Rows L2
local macro_rules | `(tactic| walk_at "ar") => `(tactic| first
  | decide
  | exact Nat.le_of_lt (sl_lt (by first | decide | omega))
  | exact .inl (.inr ⟨by first | decide | omega, by first | decide | omega⟩)
  | exact .inl (.inl ⟨by first | decide | omega, by first | decide | omega⟩)
  | exact .inl ⟨by first | decide | omega, by first | decide | omega⟩
  | exact ⟨by first | decide | omega, by first | decide | omega⟩
  | exact ⟨by first | decide | omega, by first | decide | omega, by first | decide | omega⟩
  | exact ⟨by first | decide | omega, by first | decide | omega, by first | decide | omega, by first | decide | omega⟩
  | exact ⟨by first | decide | omega, by first | decide | omega, by first | decide | omega, by first | decide | omega, by first | decide | omega⟩
  | omega
  | exact sl_lt (by omega))
local macro_rules | `(tactic| walk_at "go") => `(tactic| repeat (refine And.intro (by walk_at "ar") ?_))
section
variable {P : Program} {w : World} {K : PySem.W.Frag} {mg : Str → Option Value} {base : Heap}
@[irreducible] def sp_is_integer : Sp1 := fun x0 H Q _ => ∃ v, x0 = v ∧ ((∃ i, v = .int i) ∧ Q (.bl true) H)
theorem ok_is_integer (e : Txt K mg) : Fok P w K mg base 1 (He.ga K "_law_is_integer") ["actual"] (mk1 sp_is_integer) := by
  refine der__law_is_integer e fun a0 H Q E h => ?_
  unfold sp_is_integer at h
  obtain ⟨v, rfl, ⟨i, rfl⟩, q⟩ := h
  exact q
theorem use_is_integer {x : V} {i : Int} {H : Hp} {Q : VK} {E : XK} (q : Q (.bl true) H) (e : x = .int i := by rfl) : sp_is_integer x H Q E := by
  unfold sp_is_integer
  exact ⟨_, rfl, ⟨i, e⟩, q⟩
@[irreducible] def sp_integers (K : PySem.W.Frag) : Sp1 := fun x0 H Q _ => ∃ (a : Addr) (ns : List Int), x0 = .ref a ∧ (SqL K H a (ns.map V.int) ∨ SqT K H a (ns.map V.int)) ∧ Q (.bl true) H
theorem ok_integers (e : Txt K mg) : Fok P w K mg base 2 (He.ga K "_law_integers") ["actual"] (mk1 (sp_integers K)) := by
  refine der__law_integers e (ok_is_integer e) fun a0 H Q E h => ?_
  unfold sp_integers at h
  obtain ⟨a, ns, rfl, hs, q⟩ := h
  rcases hs with hs | hs
  · refine forL (fun i σ H' => H' = H ∧ ∃ v, σ = [some (.ref a), v]) hs ⟨rfl, _, rfl⟩ (fun i σ H' _ h => by rw [h.1]; exact hs) ?_ ?_
    · rintro i x σ _ hx ⟨rfl, v, rfl⟩
      obtain ⟨n, rfl, _⟩ := map_at hx
      exact use_is_integer ⟨rfl, _, rfl⟩
    · rintro σ _ ⟨rfl, v, rfl⟩
      exact q
  · refine forT (fun i σ H' => H' = H ∧ ∃ v, σ = [some (.ref a), v]) hs ⟨rfl, _, rfl⟩ (fun i σ H' _ h => by rw [h.1]; exact hs) ?_ ?_
    · rintro i x σ _ hx ⟨rfl, v, rfl⟩
      obtain ⟨n, rfl, _⟩ := map_at hx
      exact use_is_integer ⟨rfl, _, rfl⟩
    · rintro σ _ ⟨rfl, v, rfl⟩
      exact q
@[irreducible] def sp_mixed : Sp2 := fun x0 x1 H Q _ => ∃ (i j : Int), x0 = .int i ∧ x1 = .int j ∧ ∀ x, Q (.int x) H
theorem ok_mixed (e : Txt K mg) : Fok P w K mg base 1 (He.ga K "_law_mixed") ["number", "count"] (mk2 sp_mixed) := by
  refine der__law_mixed e fun a0 a1 H Q E h => ?_
  unfold sp_mixed at h
  obtain ⟨i, j, rfl, rfl, q⟩ := h
  walk_at "go"
  have h1 := Int.emod_nonneg (i % 2147483647 * 48271 + j * 69621 + 9177) (show (2147483647 : Int) ≠ 0 by decide)
  have h2 := Int.emod_lt_of_pos (i % 2147483647 * 48271 + j * 69621 + 9177) (show (0 : Int) < 2147483647 by decide)
  walk_at "go"
  exact q _
theorem use_mixed {x y : V} {i j : Int} {H : Hp} {Q : VK} {E : XK} (q : ∀ n, Q (.int n) H) (e : x = .int i := by rfl) (e2 : y = .int j := by rfl) : sp_mixed x y H Q E := by
  unfold sp_mixed
  exact ⟨i, j, e, e2, q⟩
structure BD where
  gs : List Int
  ss : List Int
  r : Int
  c : Int
  f : Int
def bxL (b g s : Addr) (D : BD) : List (Addr × HO) := [(b, .lst [.ref g, .ref s, .int D.r, .int D.c, .int D.f]), (g, .lst (D.gs.map V.int)), (s, .lst (D.ss.map V.int))]
@[irreducible] def sp_draw (K : PySem.W.Frag) : Sp2 := fun x0 x1 H Q _ => ∃ (b g s : Addr) (D : BD) (n : Int), x0 = .ref b ∧ x1 = .int n ∧ 0 < n ∧ n < 1073741824 ∧ D.gs.length ≤ 63 ∧ Cells H (bxL b g s D) ∧
  ∀ H' D' x, D'.gs.length ≤ 63 → 0 ≤ x → x < n → Sv K H [b, g, s] H' (bxL b g s D') [] → Q (.int x) H'
theorem ok_draw (e : Txt K mg) : Fok P w K mg base 2 (He.ga K "_law_draw") ["box", "size"] (mk2 (sp_draw K)) := by
  refine der__law_draw e (ok_mixed e) fun a0 a1 H Q E h => ?_
  unfold sp_draw at h
  obtain ⟨b, g, s, D, n, rfl, rfl, h0, h1, hl, hc, q⟩ := h
  obtain ⟨gs, ss, r, c, f⟩ := D
  have st : Sv K H [b, g, s] H (bxL b g s ⟨gs, ss, r, c, f⟩) [] := hc.sv
  have hl : gs.length ≤ 63 := hl
  have dv : ∀ x : Int, DivOk x n := fun x => .inl ⟨h0, h1⟩
  -- box[3] = box[3] + 1
  refine st.ixL 0 ?_
  refine st.setI 0 (bxL b g s ⟨gs, ss, r, c + 1, f⟩) fun H1 st => ?_
  dsimp only [gNm, setK]
  refine cut (fun σ H' => σ = [some (.ref b), some (.int n), none, none] ∧ ∃ gs r, List.length gs ≤ 63 ∧ Sv K H [b, g, s] H' (bxL b g s ⟨gs, ss, r, c + 1, f⟩) []) ?rest0 (fun fin => ?stm0)
  case rest0 =>
    rintro σ H1 ⟨rfl, gs, r, hl, st⟩
    refine st.ixL 0 ?_
    refine iteD (fun hr => ?_) (fun hr => ?_)
    · refine st.ixL 0 ?_
      refine ⟨h0, ?_⟩
      refine st.ixL 0 ?_
      refine ⟨dv _, ?_⟩
      refine st.setI 0 (bxL b g s ⟨gs, ss, r / n, c + 1, f⟩) fun H1 st => ?_
      exact q _ _ _ hl (Int.emod_nonneg _ (by omega)) (Int.emod_lt_of_pos _ h0) st
    · refine st.ixL 0 ?_
      dsimp only [gNm, setK]
      refine cut (fun σ H' => (∃ x : Int, σ = [some (.ref b), some (.int n), none, some (.int x)]) ∧ ∃ L, Sv K H [b, g, s] H' (bxL b g s ⟨gs, ss, r, c + 1, f⟩) L) ?rest1 (fun fin => ?stm1)
      case rest1 =>
        rintro σ H1 ⟨⟨x, rfl⟩, L, st⟩
        refine st.ixL 0 ?_
        refine use_mixed fun y => ?_
        refine ⟨h0, ?_⟩
        exact q _ _ _ hl (Int.emod_nonneg _ (by omega)) (Int.emod_lt_of_pos _ h0) st.noT
      case stm1 =>
        refine st.ixL 0 ?_
        refine st.lst fun p H2 st2 => ?_
        have st3 := st2.sub (List.sublist_cons_self _ _)
        refine neL (ns := ss) (ms := []) (st2.sq 3 rfl) (st2.sq 0 rfl) ?_
        refine iteND (fun hg => ?_) (fun hg => ?_)
        · have hl : 0 < ss.length := List.length_pos_iff.mpr hg
          refine st3.ixL 0 ?_
          refine st3.ixL 0 ?_
          refine st3.ixL 0 ?_
          refine len_L (st3.sq 2 rfl) ?_
          simp only [List.length_map]
          refine ⟨by omega, ?_⟩
          obtain ⟨x, _, hx⟩ := at_int (ns := ss) (i := (c + 1) % (ss.length : Int)) (Int.emod_nonneg _ (by omega)) (Int.emod_lt_of_pos _ (by omega))
          refine ix_L (st3.sq 2 rfl) (hv := hx) ?_
          exact fin _ _ ⟨⟨_, rfl⟩, _, st3⟩
        · exact fin _ _ ⟨⟨_, rfl⟩, _, st3⟩
  case stm0 =>
    refine st.ixL 0 ?_
    refine iteD (fun hr => ?_) (fun hr => ?_)
    · -- box[0] != []
      refine st.ixL 0 ?_
      refine st.lst fun p H2 st2 => ?_
      have st3 := st2.sub (List.sublist_cons_self _ _)
      refine neL (ns := gs) (ms := []) (st2.sq 2 rfl) (st2.sq 0 rfl) ?_
      refine iteND (fun hg => ?_) (fun hg => ?_)
      · obtain ⟨g0, gs, rfl⟩ : ∃ g0 gs', gs = g0 :: gs' := by
          cases gs with
          | nil => exact absurd rfl hg
          | cons a l => exact ⟨a, l, rfl⟩
        refine st3.ixL 0 ?_
        refine ⟨st3.tyL 1, ?_⟩
        have hl2 : gs.length ≤ 63 := by simp at hl; omega
        refine st3.popAt 1 (bxL b g s ⟨gs, ss, r, c + 1, f⟩) fun H3 st3 => ?_
        refine st3.setI 0 (bxL b g s ⟨gs, ss, g0, c + 1, f⟩) fun H4 st4 => ?_
        exact fin _ _ ⟨rfl, gs, g0, by simp at hl; omega, st4⟩
      · exact fin _ _ ⟨rfl, gs, r, hl, st3⟩
    · exact fin _ _ ⟨rfl, gs, r, hl, st⟩
theorem use_draw {H0 H : Hp} {A : List Addr} {b g s : Addr} {D : BD} {L : List (Addr × HO)} {T : List (V × PyData)} {x y : V} {n : Int} {Q : VK} {E : XK} (st : Sv K H0 A H (bxL b g s D ++ L) T) (hl : D.gs.length ≤ 63)
    (k : ∀ H' D' x, D'.gs.length ≤ 63 → 0 ≤ x → x < n → Sv K H0 A H' (bxL b g s D' ++ L) T → Q (.int x) H') (ex : x = .ref b := by rfl) (ey : y = .int n := by rfl) (h1 : 0 < n := by first | decide | omega) (h2 : n < 1073741824 := by first | decide | omega) : sp_draw K x y H Q E := by
  subst ex ey
  unfold sp_draw
  exact ⟨b, g, s, D, n, rfl, rfl, h1, h2, hl, st.cellsF, fun H' D' x a1 a2 a3 u => k H' D' x a1 a2 a3 (st.call (T' := []) u)⟩
@[irreducible] def sp_box (K : PySem.W.Frag) : Sp1 := fun x0 H Q _ => ∃ (a : Addr) (ns : List Int), x0 = .ref a ∧ SqL K H a (ns.map V.int) ∧ ns.length ≤ 63 ∧
  ∀ H' b g s D, D.gs.length ≤ 63 → Sv K H [] H' (bxL b g s D ++ []) [] → Q (.ref b) H'
theorem ok_box (e : Txt K mg) : Fok P w K mg base 1 (He.ga K "_law_box") ["script"] (mk1 (sp_box K)) := by
  refine der__law_box e fun a0 H Q E h => ?_
  unfold sp_box at h
  obtain ⟨a, ns, rfl, hS, hl, q⟩ := h
  have st : Sv K H [] H [] [] := Sv.start0
  refine st.lst fun g H1 st => ?_
  refine st.lst fun s H1 st => ?_
  refine st.sl (es := ns.map V.int) (st.oldL hS (by simp)) (by rw [cut_hi (by decide), List.take_of_length_le (by simp; exact hl)]) fun c H1 st => ?_
  refine forL (fun i σ H' => ∃ (gs ss : List Int) (f : Int) (x y : Option V), σ = [some (.ref a), some (.ref g), some (.ref s), some (.int f), x, y] ∧ gs.length ≤ i ∧ ss.length ≤ i ∧ Sv K H [] H' [(c, .lst (ns.map V.int)), (s, .lst (ss.map V.int)), (g, .lst (gs.map V.int))] [])
    (st.sq 0 rfl) ⟨[], [], 0, none, none, rfl, Nat.le_refl _, Nat.le_refl _, st⟩ (fun i σ H' _ ⟨_, _, _, _, _, _, _, _, st⟩ => st.sq 0 rfl) ?_ ?_
  · rintro i x σ H1 hx ⟨gs, ss, f, x, y, rfl, h1, h2, st⟩
    obtain ⟨n, rfl, hn⟩ := map_at hx
    have hi : i < ns.length := (List.getElem?_eq_some_iff.mp hn).1
    dsimp only [gNm, setK]
    refine cut2 (fun σ H' => ∃ (gs ss : List Int), σ = [some (.ref a), some (.ref g), some (.ref s), some (.int f), some (.int n), some (.int n.natAbs)] ∧ gs.length ≤ i + 1 ∧ ss.length ≤ i + 1 ∧ Sv K H [] H' [(c, .lst (ns.map V.int)), (s, .lst (ss.map V.int)), (g, .lst (gs.map V.int))] []) ?rest (fun fin => ?stm)
    case rest =>
      rintro σ H1 ⟨gs, ss, rfl, h1, h2, st⟩
      walk_at "go"
      exact ⟨gs, ss, _, _, _, rfl, h1, h2, st⟩
    case stm =>
      refine ⟨by walk_at "ar", ?_⟩
      refine iteD (fun hr => ?_) (fun hr => ?_)
      · refine ⟨st.tyL 2, ?_⟩
        refine st.app 2 [(c, .lst (ns.map V.int)), (s, .lst (ss.map V.int)), (g, .lst (gs.map V.int ++ [V.int n.natAbs]))] fun H2 st => ?_
        exact fin _ _ ⟨gs ++ [(n.natAbs : Int)], ss, rfl, by simp; omega, by omega, by rw [List.map_append]; exact st⟩
      · refine ⟨st.tyL 1, ?_⟩
        refine st.app 1 [(c, .lst (ns.map V.int)), (s, .lst (ss.map V.int ++ [V.int n.natAbs])), (g, .lst (gs.map V.int))] fun H2 st => ?_
        exact fin _ _ ⟨gs, ss ++ [(n.natAbs : Int)], rfl, by omega, by simp; omega, by rw [List.map_append]; exact st⟩
  · rintro σ H1 ⟨gs, ss, f, x, y, rfl, h1, h2, st⟩
    have st := (st.pull 1 rfl).pull 2 rfl
    refine st.lst fun b H2 st => ?_
    exact q _ b g s ⟨gs, ss, 0, 0, f⟩ (by simp at h1 ⊢; omega) (st.sub (.cons₂ _ (.cons₂ _ (.cons₂ _ (.cons _ .slnil)))))
/-! ### pieces -/
structure Pc where
  s : Int
  t : Int
  h : Int
  n : Int
  o : Int
  tt : Int
  cs : List Int
def Pc.D (p : Pc) : PyData := .tuple [.int p.s, .int p.t, .int p.h, .int p.n, .int p.o, .int p.tt, .tuple (p.cs.map .int)]
def Pc.fr (p : Pc) : List Int := [0, p.s, p.t, p.h, p.n, p.o, p.tt] ++ p.cs
structure Pc.Ok (p : Pc) : Prop where
  s : p.s < 16
  t : p.t < 16
  h : 1 ≤ p.h ∧ p.h ≤ 3
  tt : 1 ≤ p.tt ∧ p.tt ≤ 64
  ne : 0 < p.cs.length
  o : 0 ≤ p.o
  fit : (p.cs.length : Int) ≤ p.tt - p.o
theorem pc_shaped (p : Pc) : SeqAt.shaped p.D = true := by
  show ((true && (true && (true && (true && (true && (true && (PyData.canLayAll0 (p.cs.map .int) && true))))))) && decide (max 0 (max 0 (max 0 (max 0 (max 0 (max 0 (max (PyData.depthAll (p.cs.map .int) + 1) 0)))))) + 1 ≤ 64)) = true
  rw [lay_ints, dep_ints]
  rfl
theorem pc_inv {H : Hp} {xs : List V} {p : Pc} (h : DtAll K H xs [.int p.s, .int p.t, .int p.h, .int p.n, .int p.o, .int p.tt, .tuple (p.cs.map .int)]) : ∃ v, xs = [.int p.s, .int p.t, .int p.h, .int p.n, .int p.o, .int p.tt, v] ∧ Dt K H v (.tuple (p.cs.map .int)) := by
  obtain ⟨_, rfl, h1⟩ := h.cI
  obtain ⟨_, rfl, h2⟩ := h1.cI
  obtain ⟨_, rfl, h3⟩ := h2.cI
  obtain ⟨_, rfl, h4⟩ := h3.cI
  obtain ⟨_, rfl, h5⟩ := h4.cI
  obtain ⟨_, rfl, h6⟩ := h5.cI
  obtain ⟨v, _, rfl, h7, h8⟩ := h6.c
  rw [h8.n]
  exact ⟨v, rfl, h7⟩
theorem pc_all {H : Hp} {v : V} {s t h n o tt : Int} {cs : List Int} (hv : Dt K H v (.tuple (cs.map .int))) : DtAll K H [.int s, .int t, .int h, .int n, .int o, .int tt, v] [.int s, .int t, .int h, .int n, .int o, .int tt, .tuple (cs.map .int)] :=
  .cons (.int _) (.cons (.int _) (.cons (.int _) (.cons (.int _) (.cons (.int _) (.cons (.int _) (.cons hv .nil))))))
/-- what a content carries -/
def pofD (c : List Int) : PyData := match c with
  | m :: s :: t :: h :: n :: o :: tt :: x :: xs => if m = 0 ∧ s < 16 ∧ t < 16 ∧ 1 ≤ h ∧ h ≤ 3 ∧ 1 ≤ tt ∧ tt ≤ 64 ∧ ((x :: xs).length : Int) ≤ tt - o then (Pc.mk s t h n o tt (x :: xs)).D else .none
  | _ => .none
theorem pof_fr {p : Pc} (h : p.Ok) : pofD p.fr = p.D := by
  obtain ⟨s, t, hh, n, o, tt, cs⟩ := p
  obtain ⟨h1, h2, h3, h4, h5, h6, h7⟩ := h
  cases cs with
  | nil => simp at h5
  | cons x xs =>
    show (if (0 : Int) = 0 ∧ s < 16 ∧ t < 16 ∧ 1 ≤ hh ∧ hh ≤ 3 ∧ 1 ≤ tt ∧ tt ≤ 64 ∧ ((x :: xs).length : Int) ≤ tt - o then _ else _) = _
    rw [if_pos ⟨rfl, h1, h2, h3.1, h3.2, h4.1, h4.2, h7⟩]
theorem pof_cases (c : List Int) : pofD c = .none ∨ ∃ p : Pc, pofD c = p.D := by
  unfold pofD
  split
  · split
    · exact .inr ⟨_, rfl⟩
    · exact .inl rfl
  · exact .inl rfl
/-! ### the program's defs -/
@[irreducible] def sp_whole_piece (K : PySem.W.Frag) : Sp5 := fun x0 x1 x2 x3 x4 H Q _ => ∃ (s t h n : Int) (l : Addr) (cs : List Int), x0 = .int s ∧ x1 = .int t ∧ x2 = .int h ∧ x3 = .int n ∧ x4 = .ref l ∧ SqL K H l (cs.map V.int) ∧
  ∀ H' v, Sv K H [] H' [] [(v, (Pc.mk s t h n 0 cs.length cs).D)] → Q v H'
theorem ok_whole_piece (e : Txt K mg) : Fok P w K mg base 1 (He.ga K "whole_piece") ["source", "target", "hops", "id", "cells"] (mk5 (sp_whole_piece K)) := by
  refine der_whole_piece e fun a0 a1 a2 a3 a4 H Q E h => ?_
  unfold sp_whole_piece at h
  obtain ⟨s, t, h, n, l, cs, rfl, rfl, rfl, rfl, rfl, hS, q⟩ := h
  have st : Sv K H [] H [] [] := Sv.start0
  refine len_L hS ?_
  refine st.tupL hS DtAll.ints fun x H1 st => ?_
  simp only [List.length_map]
  refine st.tup (pc_all (st.d 0 rfl)) fun v H2 st => ?_
  exact q _ _ (st.setT _ fun p hp => by
    have e : p = (V.ref v, (Pc.mk s t h n 0 cs.length cs).D) := by simpa using hp
    rw [e]
    exact st.d 0 rfl)
@[irreducible] def sp_passed_on (K : PySem.W.Frag) : Sp1 := fun x0 H Q _ => ∃ (v : V) (p : Pc), x0 = v ∧ Dt K H v p.D ∧
  ∀ H' x, Sv K H [] H' [] [(x, if p.h ≤ 1 then .none else (Pc.mk p.s p.t (p.h - 1) p.n p.o p.tt p.cs).D)] → Q x H'
theorem Sv.oneT {H0 H : Hp} {A : List Addr} {L : List (Addr × HO)} {T : List (V × PyData)} {v : V} {d : PyData} (st : Sv K H0 A H L ((v, d) :: T)) : Sv K H0 A H L [(v, d)] := st.setT _ fun p hp => by
  have e : p = (v, d) := by simpa using hp
  rw [e]
  exact st.d 0 rfl
theorem ok_passed_on (e : Txt K mg) : Fok P w K mg base 1 (He.ga K "passed_on") ["piece"] (mk1 (sp_passed_on K)) := by
  refine der_passed_on e fun a0 H Q E h => ?_
  unfold sp_passed_on at h
  obtain ⟨v, p, rfl, hd, q⟩ := h
  have st : Sv K H [] H [] [] := Sv.start0
  refine hd.unp fun xs hx => ?_
  obtain ⟨c, rfl, hc⟩ := pc_inv hx
  refine iteD (fun hr => ?_) (fun hr => ?_)
  · refine q _ _ (Sv.addT st ?_)
    rw [if_pos hr]
    exact .non
  · refine st.tup (pc_all hc) fun v H2 st => ?_
    rw [if_neg hr] at q
    exact q _ _ st
@[irreducible] def sp_frame_of_piece (K : PySem.W.Frag) : Sp1 := fun x0 H Q _ => ∃ (v : V) (p : Pc), x0 = v ∧ Dt K H v p.D ∧ p.cs.length ≤ 100 ∧
  ∀ H' l, Sv K H [] H' [(l, .lst (p.fr.map V.int))] [] → Q (.ref l) H'
theorem ok_frame_of_piece (e : Txt K mg) : Fok P w K mg base 1 (He.ga K "frame_of_piece") ["piece"] (mk1 (sp_frame_of_piece K)) := by
  refine der_frame_of_piece e fun a0 H Q E h => ?_
  unfold sp_frame_of_piece at h
  obtain ⟨v, p, rfl, hd, hl, q⟩ := h
  have st : Sv K H [] H [] [] := Sv.start0
  refine hd.unp fun xs hx => ?_
  obtain ⟨c, rfl, hc⟩ := pc_inv hx
  obtain ⟨a, ys, rfl, ht, ha⟩ := hc.eqT
  have ey := ha.eqInts
  subst ey
  refine ⟨_, _, rfl, .inl ht.sq, ?_⟩
  refine st.lst (fun l H1 st => ?_) (by simp; omega)
  refine q _ l ?_
  have e : p.fr.map V.int = [V.int 0, .int p.s, .int p.t, .int p.h, .int p.n, .int p.o, .int p.tt] ++ p.cs.map V.int := by
    unfold Pc.fr
    rw [List.map_append]
    rfl
  rw [e]
  rw [List.append_nil] at st
  exact st
@[irreducible] def sp_piece_of_frame (K : PySem.W.Frag) : Sp1 := fun x0 H Q _ => ∃ (a : Addr) (c : List Int), x0 = .ref a ∧ SqL K H a (c.map V.int) ∧ 0 < c.length ∧ c.length < 1000 ∧
  ∀ H' x, Sv K H [] H' [] [(x, pofD c)] → Q x H'
theorem ok_piece_of_frame (e : Txt K mg) : Fok P w K mg base 1 (He.ga K "piece_of_frame") ["content"] (mk1 (sp_piece_of_frame K)) := by
  refine der_piece_of_frame e fun a0 H Q E h => ?_
  unfold sp_piece_of_frame at h
  obtain ⟨a, c, rfl, hS, hp, hl, q⟩ := h
  have st : Sv K H [] H [] [] := Sv.start0
  have non : pofD c = .none → Q .non H := fun e => q _ _ (Sv.addT st (by rw [e]; exact .non))
  refine len_L hS ?_
  simp only [List.length_map]
  refine iteD (fun hr => ?_) (fun hr => ?_)
  · refine non ?_
    unfold pofD
    split
    · simp at hr
      omega
    · rfl
  obtain ⟨m, s, t, h, n, o, tt, x, xs, rfl⟩ : ∃ m s t h n o tt x xs, c = m :: s :: t :: h :: n :: o :: tt :: x :: xs := by
    match c, hr with
    | m :: s :: t :: h :: n :: o :: tt :: x :: xs, _ => exact ⟨_, _, _, _, _, _, _, _, _, rfl⟩
    | [], h => simp at h
    | [_], h => simp at h
    | [_, _], h => simp at h
    | [_, _, _], h => simp at h
    | [_, _, _, _], h => simp at h
    | [_, _, _, _, _], h => simp at h
    | [_, _, _, _, _, _], h => simp at h
    | [_, _, _, _, _, _, _], h => simp at h
  have non2 : ¬ (m = 0 ∧ s < 16 ∧ t < 16 ∧ 1 ≤ h ∧ h ≤ 3 ∧ 1 ≤ tt ∧ tt ≤ 64 ∧ ((x :: xs).length : Int) ≤ tt - o) → pofD (m :: s :: t :: h :: n :: o :: tt :: x :: xs) = .none := fun z => if_neg z
  refine ix_L hS ?_
  refine iteND (fun hm => ?_) (fun hm => ?_)
  · exact non (non2 fun z => hm z.1)
  refine st.sl (es := [.int s, .int t, .int h, .int n, .int o, .int tt]) hS rfl fun l H1 st => ?_
  refine unpL (st.sq 0 rfl) ?_
  refine st.sl (es := (x :: xs).map V.int) (st.oldL hS (by simp)) ?_ fun l2 H2 st => ?_
  · rw [cut_lo (by decide)]
    rfl
  refine st.tupL (st.sq 0 rfl) DtAll.ints fun y H3 st => ?_
  have non3 : pofD (m :: s :: t :: h :: n :: o :: tt :: x :: xs) = .none → Q .non H3 := fun e => q _ _ ((st.sub (List.nil_sublist _)).setT _ fun p hp => by
    have e2 : p = (V.non, pofD (m :: s :: t :: h :: n :: o :: tt :: x :: xs)) := by simpa using hp
    rw [e2, e]
    exact .non)
  refine iteD (fun h1 => ?_) (fun h1 => ?_)
  · exact non3 (non2 (by omega))
  refine iteD (fun h2 => ?_) (fun h2 => ?_)
  · exact non3 (non2 (by omega))
  refine iteD (fun h3 => ?_) (fun h3 => ?_)
  · exact non3 (non2 (by omega))
  refine iteD (fun h4 => ?_) (fun h4 => ?_)
  · exact non3 (non2 (by omega))
  refine iteD (fun h5 => ?_) (fun h5 => ?_)
  · exact non3 (non2 (by omega))
  refine iteD (fun h6 => ?_) (fun h6 => ?_)
  · exact non3 (non2 (by omega))
  refine Dt.len (st.d 0 rfl) ?_
  simp only [List.length_map]
  refine iteD (fun h7 => ?_) (fun h7 => ?_)
  · exact non3 (non2 (by omega))
  refine st.tup (pc_all (st.d 0 rfl)) fun v H4 st => ?_
  refine q _ _ ((st.sub (List.nil_sublist _)).setT _ fun p hp => ?_)
  have e2 : p = (V.ref v, pofD (m :: s :: t :: h :: n :: o :: tt :: x :: xs)) := by simpa using hp
  rw [e2]
  show Dt K H4 _ (if _ then _ else _)
  rw [if_pos (by omega)]
  exact st.d 0 rfl
/-! ### cutting -/
theorem rg_up {l w : Int} (h0 : 0 < l) (hl : l ≤ 100000) (hw : 1 ≤ w) (hw2 : w ≤ 100000) : ∃ n : Nat, RgC 0 l w n ∧ (n : Int) = (l - 1) / w + 1 := by
  have e : Builtin.Range.rangeSize 0 l w = (l - 1) / w + 1 := by
    unfold Builtin.Range.rangeSize
    rw [if_pos (show w > 0 by omega), if_pos (show (0 : Int) < l by omega), Int.sub_zero]
  have p : 0 ≤ (l - 1) / w := Int.ediv_nonneg (by omega) (by omega)
  refine ⟨((l - 1) / w + 1).toNat, ⟨by omega, by omega, ?_, ?_⟩, by omega⟩
  · unfold Builtin.Range.small
    rw [e]
    have hx : (l - 1) / w ≤ l - 1 := Int.ediv_le_self _ (by omega)
    simp only [Builtin.Range.rangeFitsLong, Bool.and_eq_true, Bool.or_eq_true, decide_eq_true_eq, beq_iff_eq, show w > 0 by omega, if_true]
    omega
  · rw [e]
    omega
def pk (p : Pc) (w k : Nat) : Pc := ⟨p.s, p.t, p.h, p.n, p.o + ((k * w : Nat) : Int), p.tt, (p.cs.drop (k * w)).take w⟩
theorem in_range {l w : Nat} {n k : Nat} (hw : 1 ≤ w) (hl : 0 < l) (hn : (n : Int) = ((l : Int) - 1) / (w : Int) + 1) (hk : k < n) : k * w < l := by
  have h1 : (k : Int) ≤ ((l : Int) - 1) / (w : Int) := by omega
  have h2 := Int.mul_le_of_le_ediv (show (0 : Int) < (w : Int) by omega) h1
  have e : ((k * w : Nat) : Int) = (k : Int) * (w : Int) := by simp
  omega
theorem pk_ok {p : Pc} (h : p.Ok) {w k : Nat} (hw : 1 ≤ w) (hk : k * w < p.cs.length) : (pk p w k).Ok := by
  obtain ⟨h1, h2, h3, h4, h5, h6, h7⟩ := h
  refine ⟨h1, h2, h3, h4, ?_, ?_, ?_⟩
  · show 0 < ((p.cs.drop (k * w)).take w).length
    rw [List.length_take, List.length_drop]
    omega
  · show 0 ≤ p.o + ((k * w : Nat) : Int)
    omega
  · show ((((p.cs.drop (k * w)).take w).length : Nat) : Int) ≤ p.tt - (p.o + ((k * w : Nat) : Int))
    rw [List.length_take, List.length_drop]
    omega
@[irreducible] def sp_cut (K : PySem.W.Frag) : Sp2 := fun x0 x1 H Q _ => ∃ (v : V) (p : Pc) (w : Nat), x0 = v ∧ x1 = .int w ∧ Dt K H v p.D ∧ 0 < p.cs.length ∧ p.cs.length ≤ 100 ∧ 1 ≤ w ∧ w ≤ 1000 ∧
  ∀ H' l ys (n : Nat), (n : Int) = ((p.cs.length : Int) - 1) / (w : Int) + 1 → ys.length = n → Sv K H [] H' [(l, .lst ys)] (ys.zip ((List.range n).map fun k => (pk p w k).D)) → Q (.ref l) H'
theorem ok_cut (e : Txt K mg) : Fok P w K mg base 1 (He.ga K "cut") ["piece", "width"] (mk2 (sp_cut K)) := by
  refine der_cut e fun a0 a1 H Q E h => ?_
  unfold sp_cut at h
  obtain ⟨v, p, w, rfl, rfl, hd, hp, hl, hw, hw2, q⟩ := h
  have st : Sv K H [] H [] [] := Sv.start0
  refine hd.unp fun xs hx => ?_
  obtain ⟨c, rfl, hc⟩ := pc_inv hx
  refine hc.len ?_
  simp only [List.length_map]
  refine iteD (fun hr => ?_) (fun hr => ?_)
  · refine st.lst fun l H1 st => ?_
    have e0 : ((p.cs.length : Int) - 1) / (w : Int) = 0 := Int.ediv_eq_zero_of_lt (by omega) (by omega)
    refine q _ l _ 1 (by rw [e0]; rfl) rfl (st.setT _ fun z hz => ?_)
    have e1 : pk p w 0 = p := by
      unfold pk
      rw [Nat.zero_mul, List.drop_zero, List.take_of_length_le (by omega)]
      simp
    have e2 : z = (a0, (pk p w 0).D) := by simpa using hz
    rw [e2, e1]
    exact st.oldD hd
  · refine hc.len ?_
    simp only [List.length_map]
    obtain ⟨n, hR, hn⟩ := rg_up (l := (p.cs.length : Int)) (w := (w : Int)) (by omega) (by omega) (by omega) (by omega)
    refine ⟨n, hR, ?_⟩
    have hn100 : n ≤ 1000 := by
      have : ((p.cs.length : Int) - 1) / (w : Int) ≤ (p.cs.length : Int) - 1 := Int.ediv_le_self _ (by omega)
      omega
    refine lcR (fun D i H' => ∃ ys, ys.length = i ∧ Sv K H [] H' [(D, .lst ys)] (ys.zip ((List.range i).map fun k => (pk p w k).D))) (fun D hD => ⟨[], rfl, st.new hD _⟩) ?_ ?_
    · rintro D i H1 hi ⟨ys, hyl, st⟩
      have hsl : ∀ {Q : VK}, (∀ x H2, Sv K H [] H2 [(D, .lst ys)] ((x, .tuple ((pk p w i).cs.map .int)) :: ys.zip ((List.range i).map fun k => (pk p w k).D)) → Q x H2) → uSl K c (some (0 + (i : Int) * (w : Int))) (some (0 + (i : Int) * (w : Int) + (w : Int))) H1 Q := fun {Q} k => by
        have e1 : (0 + (i : Int) * (w : Int)) = ((i * w : Nat) : Int) := by simp
        rw [e1]
        refine Dt.sl st (st.oldD hc) ?_ k
        rw [dcut_mid (by omega) (by omega)]
        show _ = (((p.cs.drop (i * w)).take w).map PyData.int)
        rw [List.map_take, List.map_drop]
        congr 1
        omega
      refine hsl fun x H2 st => ?_
      refine st.tup (pc_all (st.d 0 rfl)) fun z H3 st => ?_
      have hz : Dt K H3 (.ref z) (pk p w i).D := by
        have := st.d 0 rfl
        have e1 : p.o + (0 + (i : Int) * (w : Int)) = p.o + ((i * w : Nat) : Int) := by simp
        rw [e1] at this
        exact this
      have st := (st.addT hz).zipEnd (fun q hq => List.mem_cons_of_mem _ (List.mem_cons_of_mem _ hq)) (by simp; exact hyl)
      refine ⟨ys, st.at 0 rfl, sl_lt (by omega), ys ++ [V.ref z], by simp; exact hyl, ?_⟩
      rw [List.range_succ, List.map_append]
      exact st.put 0 rfl trivial _
    · rintro D H1 ⟨ys, hyl, st⟩
      exact q _ D ys n hn hyl st
end
end Wk

namespace Wk
open PySem PySem.Spec PyProof.Rows L2
local macro_rules | `(tactic| walk_at "ar") => `(tactic| first
  | decide
  | exact Nat.le_of_lt (sl_lt (by first | decide | omega))
  | exact .inl (.inr ⟨by first | decide | omega, by first | decide | omega⟩)
  | exact .inl (.inl ⟨by first | decide | omega, by first | decide | omega⟩)
  | exact .inl ⟨by first | decide | omega, by first | decide | omega⟩
  | exact ⟨by first | decide | omega, by first | decide | omega⟩
  | exact ⟨by first | decide | omega, by first | decide | omega, by first | decide | omega⟩
  | exact ⟨by first | decide | omega, by first | decide | omega, by first | decide | omega, by first | decide | omega⟩
  | exact ⟨by first | decide | omega, by first | decide | omega, by first | decide | omega, by first | decide | omega, by first | decide | omega⟩
  | omega
  | exact sl_lt (by omega))
local macro_rules | `(tactic| walk_at "nm") => `(tactic| dsimp only [gNm, setK, uAdd, uSub])
local macro_rules | `(tactic| walk_at "go") => `(tactic| repeat (refine And.intro (by walk_at "ar") ?_))
section
variable {P : Program} {w : World} {K : PySem.W.Frag} {mg : Str → Option Value} {base : Heap}
theorem pc_ok {s t h n o tt : Int} {cs : List Int} (h1 : s < 16) (h2 : t < 16) (h3 : 1 ≤ h) (h4 : h ≤ 3) (h5 : 1 ≤ tt) (h6 : tt ≤ 64) (h7 : 0 < cs.length) (h8 : 0 ≤ o) (h9 : (cs.length : Int) ≤ tt - o) : (Pc.mk s t h n o tt cs).Ok := ⟨h1, h2, ⟨h3, h4⟩, ⟨h5, h6⟩, h7, h8, h9⟩
theorem lcDraws {H0 H : Hp} {A : List Addr} {b g s : Addr} {D : BD} {L : List (Addr × HO)} {T : List (V × PyData)} {te : TE} {σ : L2.St} {i n : Nat} {m : Int} {Q : VK} (st : Sv K H0 A H (bxL b g s D ++ L) T) (hl : D.gs.length ≤ 63)
    (q : ∀ l (ns : List Int) H' (D' : BD), ns.length = n → D'.gs.length ≤ 63 → (∀ x ∈ ns, 0 ≤ x ∧ x < m) → Sv K H0 A H' (bxL b g s D' ++ (l, .lst (ns.map V.int)) :: L) T → Q (.ref l) H')
    (he : ∀ k H Q, sp_draw K (.ref b) (.int m) H Q E0 → setK σ i (some (.int k)) fun σ2 => te σ2 H Q := by exact fun _ _ _ h => h) (hm : 0 < m := by first | decide | omega) (hm2 : m < 1073741824 := by first | decide | omega) (hn : n < 1000000 := by first | decide | omega) :
    lcI (Itr 0 n) (gNm i) tYes te [i] σ Q H := by
  refine lcR1 (fun l k H' => ∃ (ns : List Int) (D' : BD), ns.length = k ∧ D'.gs.length ≤ 63 ∧ (∀ x ∈ ns, 0 ≤ x ∧ x < m) ∧ Sv K H0 A H' (bxL b g s D' ++ (l, .lst (ns.map V.int)) :: L) T)
    (fun l hd => ⟨[], D, rfl, hl, fun _ h => (nomatch h), (st.new hd _).perm List.perm_middle⟩) ?_ ?_
  · rintro l k H1 hk ⟨ns, D', h1, h2, h3, st⟩
    rw [setK_eq]
    show te _ H1 _
    have z := he (0 + (k : Nat)) H1 (fun y H4 => ∃ acc, H4 l = some (.lst acc) ∧ acc.length < sizeLine ∧ (fun H' => ∃ (ns : List Int) (D' : BD), ns.length = k + 1 ∧ D'.gs.length ≤ 63 ∧ (∀ x ∈ ns, 0 ≤ x ∧ x < m) ∧ Sv K H0 A H' (bxL b g s D' ++ (l, .lst (ns.map V.int)) :: L) T) (upd H4 l (.lst (acc ++ [y]))))
    rw [setK_eq] at z
    refine z ?_
    refine use_draw st h2 fun H2 D2 x a1 a2 a3 st => ?_
    refine st.lcEnd (R := fun H' => ∃ (ns : List Int) (D' : BD), ns.length = k + 1 ∧ D'.gs.length ≤ 63 ∧ (∀ x ∈ ns, 0 ≤ x ∧ x < m) ∧ Sv K H0 A H' (bxL b g s D' ++ (l, .lst (ns.map V.int)) :: L) T) 3 rfl (by simp; omega) (bxL b g s D2 ++ (l, .lst (ns.map V.int ++ [V.int x])) :: L) fun H3 st => ?_
    refine ⟨ns ++ [x], D2, by simp [h1], a1, ?_, by rw [List.map_append]; exact st⟩
    intro y hy
    rcases List.mem_append.mp hy with hy | hy
    · exact h3 y hy
    · have : y = x := by simpa using hy
      subst this
      exact ⟨a2, a3⟩
  · rintro l H1 ⟨ns, D', h1, h2, h3, st⟩
    exact q l ns H1 D' h1 h2 h3 st
theorem use_integers {x : V} {a : Addr} {ns : List Int} {H : Hp} {Q : VK} {E : XK} (hs : SqL K H a (ns.map V.int) ∨ SqT K H a (ns.map V.int)) (q : Q (.bl true) H) (ex : x = .ref a := by rfl) : sp_integers K x H Q E := by
  subst ex
  unfold sp_integers
  exact ⟨a, ns, rfl, hs, q⟩
theorem use_integersD {x : V} {ns : List Int} {ds : List PyData} {H : Hp} {Q : VK} {E : XK} (hs : Dt K H x (.tuple ds)) (q : Q (.bl true) H) (e : ds = ns.map .int := by rfl) : sp_integers K x H Q E := by
  subst e
  obtain ⟨a, ys, rfl, ht, ha⟩ := hs.eqT
  have ey := ha.eqInts
  subst ey
  exact use_integers (.inr ht.sq) q
theorem dt_isT {x : V} {ds : List PyData} {H : Hp} (h : Dt K H x (.tuple ds)) : ∃ a xs, x = .ref a ∧ SqT K H a xs := by
  obtain ⟨a, ys, rfl, ht, ha⟩ := h.eqT
  exact ⟨a, ys, rfl, ht.sq⟩
theorem Dt.isiT {x : V} {ds : List PyData} {H : Hp} {Q : VK} {t : IsiT} (h : Dt K H x (.tuple ds)) (q : Q (.bl t.tup) H) : uIsi K t x H Q := by
  obtain ⟨a, ys, rfl, ht, ha⟩ := h.eqT
  exact Wk.isiT ht.sq q
@[irreducible] def sp_same_piece (K : PySem.W.Frag) : Sp2 := fun x0 x1 H Q _ => ∃ (v u : V) (d : PyData), x0 = v ∧ x1 = u ∧ Dt K H v d ∧ Dt K H u d ∧ (d = .none ∨ ∃ p : Pc, d = p.D) ∧
  ∀ H', Sv K H [] H' [] [] → Q (.bl true) H'
theorem ok_same_piece (e : Txt K mg) : Fok P w K mg base 3 (He.ga K "_law_same_piece") ["actual", "wanted"] (mk2 (sp_same_piece K)) := by
  refine der__law_same_piece e (ok_integers e) fun a0 a1 H Q E h => ?_
  unfold sp_same_piece at h
  obtain ⟨v, u, d, rfl, rfl, hv, hu, hd, q⟩ := h
  have st : Sv K H [] H [] [] := Sv.start0
  rcases hd with rfl | ⟨p, rfl⟩
  · have e1 := hv.eqN
    have e2 := hu.eqN
    subst e1 e2
    exact q _ st
  · obtain ⟨a, ys, rfl, _⟩ := hv.eqT
    obtain ⟨b, zs, rfl, _⟩ := hu.eqT
    refine hv.isiT ?_
    refine hv.len ?_
    refine hv.ix fun x hx => ?_
    refine hx.isiT ?_
    refine Dt.sl st hv rfl fun y H1 st => ?_
    refine use_integersD (ns := [p.s, p.t, p.h, p.n, p.o, p.tt]) (st.d 0 rfl) ?_
    refine (st.oldD hv).ix fun x hx => ?_
    refine use_integersD hx ?_
    exact eqSame (st.oldD hv) (st.oldD hu) (pc_shaped p) (q _ st.noT)
theorem use_same_piece {H0 H : Hp} {A : List Addr} {L : List (Addr × HO)} {T : List (V × PyData)} {x y : V} {d : PyData} {Q : VK} {E : XK} (st : Sv K H0 A H L T) (h1 : Dt K H x d) (h2 : Dt K H y d) (hd : d = .none ∨ ∃ p : Pc, d = p.D)
    (q : ∀ H', Sv K H0 A H' L T → Q (.bl true) H') : sp_same_piece K x y H Q E := by
  unfold sp_same_piece
  exact ⟨x, y, d, rfl, rfl, h1, h2, hd, fun H' u => q H' (st.call0 u)⟩
@[irreducible] def sp_same_frame (K : PySem.W.Frag) : Sp2 := fun x0 x1 H Q _ => ∃ (a b : Addr) (ns : List Int), x0 = .ref a ∧ x1 = .ref b ∧ SqL K H a (ns.map V.int) ∧ SqL K H b (ns.map V.int) ∧ Q (.bl true) H
theorem ok_same_frame (e : Txt K mg) : Fok P w K mg base 3 (He.ga K "_law_same_frame") ["actual", "wanted"] (mk2 (sp_same_frame K)) := by
  refine der__law_same_frame e (ok_integers e) fun a0 a1 H Q E h => ?_
  unfold sp_same_frame at h
  obtain ⟨a, b, ns, rfl, rfl, h1, h2, q⟩ := h
  refine isiL h1 ?_
  refine use_integers (.inl h1) ?_
  refine eqL h1 h2 ?_
  rw [decide_eq_true rfl]
  exact q
theorem use_same_frame {x y : V} {a b : Addr} {ns : List Int} {H : Hp} {Q : VK} {E : XK} (h1 : SqL K H a (ns.map V.int)) (h2 : SqL K H b (ns.map V.int)) (q : Q (.bl true) H) (ex : x = .ref a := by rfl) (ey : y = .ref b := by rfl) : sp_same_frame K x y H Q E := by
  subst ex ey
  unfold sp_same_frame
  exact ⟨a, b, ns, rfl, rfl, h1, h2, q⟩
@[irreducible] def sp_piece (K : PySem.W.Frag) : Sp1 := fun x0 H Q _ => ∃ (b g s : Addr) (D : BD), x0 = .ref b ∧ D.gs.length ≤ 63 ∧ Cells H (bxL b g s D) ∧
  ∀ H' D' v (p : Pc), D'.gs.length ≤ 63 → p.Ok → Sv K H [b, g, s] H' (bxL b g s D') [(v, p.D)] → Q v H'
theorem ok_piece (e : Txt K mg) : Fok P w K mg base 3 (He.ga K "_law_piece") ["box"] (mk1 (sp_piece K)) := by
  refine der__law_piece e (ok_draw e) fun a0 H Q E h => ?_
  unfold sp_piece at h
  obtain ⟨b, g, s, D, rfl, hl, hc, q⟩ := h
  have st : Sv K H [b, g, s] H (bxL b g s D ++ []) [] := hc.sv
  refine cut4 (fun σ H' => ∃ (c t : Int) (D : BD), σ = [some (.ref b), some (.int c), some (.int t), none, none, none, none, none, none, none, none] ∧ 1 ≤ t ∧ t ≤ 64 ∧ D.gs.length ≤ 63 ∧ Sv K H [b, g, s] H' (bxL b g s D ++ []) []) ?rest0 (fun fin => ?stm0)
  case stm0 =>
    refine use_draw st hl fun H1 D c hl hc0 hc1 st => ?_
    refine use_draw st hl fun H1 D t hl h0 h1 st => ?_
    walk_at "nm"
    refine cut (fun σ H' => ∃ (t : Int) (D : BD), σ = [some (.ref b), some (.int c), some (.int t), none, none, none, none, none, none, none, none] ∧ 1 ≤ t ∧ t ≤ 64 ∧ D.gs.length ≤ 63 ∧ Sv K H [b, g, s] H' (bxL b g s D ++ []) []) ?rest1 (fun fin2 => ?stm1)
    case stm1 =>
      refine iteD (fun hr => ?_) (fun hr => ?_)
      · refine use_draw st hl fun H1 D t hl h0 h1 st => ?_
        exact fin2 _ _ ⟨_, _, rfl, by omega, by omega, hl, st⟩
      · exact fin2 _ _ ⟨_, _, rfl, by omega, by omega, hl, st⟩
    case rest1 =>
      rintro σ H1 ⟨t, D, rfl, h0, h1, hl, st⟩
      refine iteD (fun hr => ?_) (fun hr => ?_)
      · refine st.lst fun p H2 st => ?_
        refine use_draw (st.perm List.perm_middle) hl fun H3 D i hl h0 h1 st => ?_
        obtain ⟨x, hx, hx2⟩ := at_int (ns := [1, 2, 63, 64]) h0 h1
        have hb : 1 ≤ x ∧ x ≤ 64 := by
          have := List.mem_of_getElem? hx
          simp at this
          omega
        refine ix_L (st.sq 3 rfl) (hv := hx2) ?_
        exact fin _ _ ⟨_, _, _, rfl, hb.1, hb.2, hl, st.sub (.cons₂ _ (.cons₂ _ (.cons₂ _ (.cons _ .slnil))))⟩
      · exact fin _ _ ⟨_, _, _, rfl, h0, h1, hl, st⟩
  case rest0 =>
    rintro σ H1 ⟨c, t, D, rfl, h0, h1, hl, st⟩
    refine use_draw st hl (fun H1 D o hl ho0 ho1 st => ?_) rfl rfl (by omega) (by omega)
    refine use_draw st hl (fun H1 D z hl hz0 hz1 st => ?_) rfl rfl (by omega) (by omega)
    walk_at "nm"
    refine cut (fun σ H' => ∃ (z : Int) (D : BD), σ = [some (.ref b), some (.int c), some (.int t), some (.int o), some (.int z), none, none, none, none, none, none] ∧ 1 ≤ z ∧ z ≤ t - o ∧ D.gs.length ≤ 63 ∧ Sv K H [b, g, s] H' (bxL b g s D ++ []) []) ?rest2 (fun fin => ?stm2)
    case stm2 =>
      refine use_draw st hl fun H1 D r hl _ _ st => ?_
      refine iteD (fun hr => ?_) (fun hr => ?_)
      · exact fin _ _ ⟨_, _, rfl, by omega, by omega, hl, st⟩
      · exact fin _ _ ⟨_, _, rfl, by omega, by omega, hl, st⟩
    case rest2 =>
      rintro σ H1 ⟨z, D, rfl, hz0, hz1, hl, st⟩
      refine use_draw st hl fun H1 D so hl hs0 hs1 st => ?_
      refine use_draw st hl fun H1 D ta hl ht0 ht1 st => ?_
      walk_at "go"
      have ht2 := Int.emod_lt_of_pos (so + 1 + ta) (show (0 : Int) < 16 by decide)
      refine use_draw st hl fun H1 D ho hl hh0 hh1 st => ?_
      refine use_draw st hl fun H1 D nu hl _ _ st => ?_
      walk_at "go"
      refine lcDraws st hl fun l ns H2 D hn hl _ st => ?_
      refine st.tupL (st.sq 3 rfl) DtAll.ints fun x H3 st => ?_
      refine st.tup (pc_all (st.d 0 rfl)) fun v H4 st => ?_
      have st := st.sub (L' := bxL b g s D) (List.sublist_append_left _ _)
      exact q _ D _ ⟨so, (so + 1 + ta) % 16, 1 + ho, nu, o, t, ns⟩ hl (pc_ok (by omega) (by omega) (by omega) (by omega) (by omega) (by omega) (by omega) (by omega) (by omega)) st.oneT
end
end Wk

namespace Wk
open PySem PySem.Spec PyProof.Rows L2
local macro_rules | `(tactic| walk_at "ar") => `(tactic| first
  | decide
  | exact Nat.le_of_lt (sl_lt (by first | decide | omega))
  | exact .inl (.inr ⟨by first | decide | omega, by first | decide | omega⟩)
  | exact .inl (.inl ⟨by first | decide | omega, by first | decide | omega⟩)
  | exact .inl ⟨by first | decide | omega, by first | decide | omega⟩
  | exact ⟨by first | decide | omega, by first | decide | omega⟩
  | exact ⟨by first | decide | omega, by first | decide | omega, by first | decide | omega⟩
  | exact ⟨by first | decide | omega, by first | decide | omega, by first | decide | omega, by first | decide | omega⟩
  | exact ⟨by first | decide | omega, by first | decide | omega, by first | decide | omega, by first | decide | omega, by first | decide | omega⟩
  | omega
  | exact sl_lt (by omega))
local macro_rules | `(tactic| walk_at "nm") => `(tactic| dsimp only [gNm, setK, uAdd, uSub])
local macro_rules | `(tactic| walk_at "go") => `(tactic| repeat (refine And.intro (by walk_at "ar") ?_))
section
variable {P : Program} {w : World} {K : PySem.W.Frag} {mg : Str → Option Value} {base : Heap}
theorem use_integer_dummy : True := trivial
theorem fr_map (p : Pc) : p.fr.map V.int = ([V.int 0] ++ [V.int p.s, .int p.t, .int p.h, .int p.n, .int p.o, .int p.tt]) ++ p.cs.map V.int := by
  unfold Pc.fr
  rw [List.map_append]
  rfl
theorem Pc.Ok.le {p : Pc} (h : p.Ok) : p.cs.length ≤ 64 := by
  obtain ⟨h1, h2, h3, h4, h5, h6, h7⟩ := h
  omega
theorem fr_len (p : Pc) : p.fr.length = 7 + p.cs.length := by
  unfold Pc.fr
  rw [List.length_append]
  rfl
@[irreducible] def sp_frame (K : PySem.W.Frag) : Sp1 := fun x0 H Q _ => ∃ (v : V) (p : Pc), x0 = v ∧ Dt K H v p.D ∧ p.cs.length ≤ 100 ∧
  ∀ H' l, Sv K H [] H' [(l, .lst (p.fr.map V.int))] [] → Q (.ref l) H'
theorem ok_frame (e : Txt K mg) : Fok P w K mg base 1 (He.ga K "_law_frame") ["piece"] (mk1 (sp_frame K)) := by
  refine der__law_frame e fun a0 H Q E h => ?_
  unfold sp_frame at h
  obtain ⟨v, p, rfl, hd, hl, q⟩ := h
  have st : Sv K H [] H [] [] := Sv.start0
  refine st.lst fun l0 H1 st => ?_
  refine Dt.sl st (st.oldD hd) rfl fun x H2 st => ?_
  refine st.listT (st.d 0 rfl) fun l1 H3 xs hx st => ?_
  have e1 : xs = [p.s, p.t, p.h, p.n, p.o, p.tt].map V.int := hx.eqInts (ns := [p.s, p.t, p.h, p.n, p.o, p.tt])
  subst e1
  refine st.cat (st.at 1 rfl) (st.at 0 rfl) (by simp) fun l2 H4 st => ?_
  refine (st.oldD hd).ix fun y hy => ?_
  refine st.listT hy fun l3 H5 ys hy st => ?_
  have e2 := hy.eqInts
  subst e2
  refine st.cat (st.at 1 rfl) (st.at 0 rfl) (by simp; omega) fun l4 H6 st => ?_
  refine q _ _ ?_
  rw [fr_map]
  exact (st.sub (.cons₂ _ (List.nil_sublist _))).noT
theorem use_frame {H0 H : Hp} {A : List Addr} {L : List (Addr × HO)} {T : List (V × PyData)} {x : V} {p : Pc} {Q : VK} {E : XK} (st : Sv K H0 A H L T) (h1 : Dt K H x p.D) (hp : p.Ok)
    (q : ∀ H' l, Sv K H0 A H' ((l, .lst (p.fr.map V.int)) :: L) T → Q (.ref l) H') : sp_frame K x H Q E := by
  unfold sp_frame
  exact ⟨x, p, rfl, h1, by have := hp.le; omega, fun H' l u => q H' l (st.call0 u)⟩
theorem use_frame_of_piece {H0 H : Hp} {A : List Addr} {L : List (Addr × HO)} {T : List (V × PyData)} {x : V} {p : Pc} {Q : VK} {E : XK} (st : Sv K H0 A H L T) (h1 : Dt K H x p.D) (hp : p.Ok)
    (q : ∀ H' l, Sv K H0 A H' ((l, .lst (p.fr.map V.int)) :: L) T → Q (.ref l) H') : sp_frame_of_piece K x H Q E := by
  unfold sp_frame_of_piece
  exact ⟨x, p, rfl, h1, by have := hp.le; omega, fun H' l u => q H' l (st.call0 u)⟩
theorem use_passed_on {H0 H : Hp} {A : List Addr} {L : List (Addr × HO)} {T : List (V × PyData)} {x : V} {p : Pc} {Q : VK} {E : XK} (st : Sv K H0 A H L T) (h1 : Dt K H x p.D)
    (q : ∀ H' y, Sv K H0 A H' L ((y, if p.h ≤ 1 then .none else (Pc.mk p.s p.t (p.h - 1) p.n p.o p.tt p.cs).D) :: T) → Q y H') : sp_passed_on K x H Q E := by
  unfold sp_passed_on
  exact ⟨x, p, rfl, h1, fun H' y u => q H' y (st.call0 u)⟩
theorem use_whole_piece {H0 H : Hp} {A : List Addr} {L : List (Addr × HO)} {T : List (V × PyData)} {x0 x1 x2 x3 x4 : V} {s t h n : Int} {l : Addr} {cs : List Int} {Q : VK} {E : XK} (st : Sv K H0 A H L T) (h1 : SqL K H l (cs.map V.int))
    (q : ∀ H' v, Sv K H0 A H' L ((v, (Pc.mk s t h n 0 cs.length cs).D) :: T) → Q v H') (e0 : x0 = .int s := by rfl) (e1 : x1 = .int t := by rfl) (e2 : x2 = .int h := by rfl) (e3 : x3 = .int n := by rfl) (e4 : x4 = .ref l := by rfl) : sp_whole_piece K x0 x1 x2 x3 x4 H Q E := by
  subst e0 e1 e2 e3 e4
  unfold sp_whole_piece
  exact ⟨s, t, h, n, l, cs, rfl, rfl, rfl, rfl, rfl, h1, fun H' v u => q H' v (st.call0 u)⟩
theorem use_piece_of_frame {H0 H : Hp} {A : List Addr} {L : List (Addr × HO)} {T : List (V × PyData)} {x : V} {a : Addr} {c : List Int} {Q : VK} {E : XK} (st : Sv K H0 A H L T) (h1 : SqL K H a (c.map V.int)) (hl : 0 < c.length) (hl2 : c.length < 1000)
    (q : ∀ H' y, Sv K H0 A H' L ((y, pofD c) :: T) → Q y H') (e : x = .ref a := by rfl) : sp_piece_of_frame K x H Q E := by
  subst e
  unfold sp_piece_of_frame
  exact ⟨a, c, rfl, h1, hl, hl2, fun H' y u => q H' y (st.call0 u)⟩
theorem use_piece {H0 H : Hp} {A : List Addr} {b g s : Addr} {D : BD} {L : List (Addr × HO)} {T : List (V × PyData)} {x : V} {Q : VK} {E : XK} (st : Sv K H0 A H (bxL b g s D ++ L) T) (hl : D.gs.length ≤ 63)
    (q : ∀ H' D' v (p : Pc), D'.gs.length ≤ 63 → p.Ok → Sv K H0 A H' (bxL b g s D' ++ L) ((v, p.D) :: T) → Q v H') (e : x = .ref b := by rfl) : sp_piece K x H Q E := by
  subst e
  unfold sp_piece
  exact ⟨b, g, s, D, rfl, hl, st.cellsF, fun H' D' v p a1 a2 u => q H' D' v p a1 a2 (st.call u)⟩
theorem use_box {H0 H : Hp} {A : List Addr} {L : List (Addr × HO)} {T : List (V × PyData)} {x : V} {a : Addr} {ns : List Int} {Q : VK} {E : XK} (st : Sv K H0 A H L T) (h1 : SqL K H a (ns.map V.int)) (hl : ns.length ≤ 63)
    (q : ∀ H' b g s D, D.gs.length ≤ 63 → Sv K H0 A H' (bxL b g s D ++ L) T → Q (.ref b) H') (e : x = .ref a := by rfl) : sp_box K x H Q E := by
  subst e
  unfold sp_box
  exact ⟨a, ns, rfl, h1, hl, fun H' b g s D hl u => q H' b g s D hl (st.call0 u)⟩
theorem c8 {c : List Int} (h : 8 ≤ c.length) : ∃ m s t h n o tt x xs, c = m :: s :: t :: h :: n :: o :: tt :: x :: xs := by
  match c, h with
  | m :: s :: t :: h :: n :: o :: tt :: x :: xs, _ => exact ⟨_, _, _, _, _, _, _, _, _, rfl⟩
  | [], h => simp at h
  | [_], h => simp at h
  | [_, _], h => simp at h
  | [_, _, _], h => simp at h
  | [_, _, _, _], h => simp at h
  | [_, _, _, _, _], h => simp at h
  | [_, _, _, _, _, _], h => simp at h
  | [_, _, _, _, _, _, _], h => simp at h
@[irreducible] def sp_content (K : PySem.W.Frag) : Sp1 := fun x0 H Q _ => ∃ (a : Addr) (c : List Int), x0 = .ref a ∧ SqL K H a (c.map V.int) ∧ 0 < c.length ∧ c.length < 1000 ∧
  ∀ H' x, Sv K H [] H' [] [(x, pofD c)] → Q x H'
theorem ok_content (e : Txt K mg) : Fok P w K mg base 1 (He.ga K "_law_content") ["content"] (mk1 (sp_content K)) := by
  refine der__law_content e fun a0 H Q E h => ?_
  unfold sp_content at h
  obtain ⟨a, c, rfl, hS, hp, hl, q⟩ := h
  have st : Sv K H [] H [] [] := Sv.start0
  have non : pofD c = .none → Q .non H := fun e => q _ _ (Sv.addT st (by rw [e]; exact .non))
  refine len_L hS ?_
  simp only [List.length_map]
  refine iteD (fun hr => ?_) (fun hr => ?_)
  · refine non ?_
    unfold pofD
    split
    · simp at hr
      omega
    · rfl
  obtain ⟨m, s, t, h, n, o, tt, x, xs, rfl⟩ := c8 (c := c) (by omega)
  have non2 : ¬ (m = 0 ∧ s < 16 ∧ t < 16 ∧ 1 ≤ h ∧ h ≤ 3 ∧ 1 ≤ tt ∧ tt ≤ 64 ∧ ((x :: xs).length : Int) ≤ tt - o) → Q .non H := fun z => non (if_neg z)
  refine ix_L hS ?_
  refine iteND (fun hm => ?_) (fun hm => ?_)
  · exact non2 fun z => hm z.1
  refine ix_L hS ?_
  refine iteD (fun h1 => ?_) (fun h1 => ?_)
  · exact non2 (by omega)
  refine ix_L hS ?_
  refine iteD (fun h2 => ?_) (fun h2 => ?_)
  · exact non2 (by omega)
  refine ix_L hS ?_
  refine iteD (fun h3 => ?_) (fun h3 => ?_)
  · exact non2 (by omega)
  refine ix_L hS ?_
  refine iteD (fun h4 => ?_) (fun h4 => ?_)
  · exact non2 (by omega)
  refine ix_L hS ?_
  refine iteD (fun h5 => ?_) (fun h5 => ?_)
  · exact non2 (by omega)
  refine ix_L hS ?_
  refine iteD (fun h6 => ?_) (fun h6 => ?_)
  · exact non2 (by omega)
  refine len_L hS ?_
  refine ix_L hS ?_
  refine ix_L hS ?_
  simp only [List.length_map, List.length_cons] at hl ⊢
  refine iteD (fun h7 => ?_) (fun h7 => ?_)
  · refine non2 fun z => ?_
    simp only [List.length_cons] at z
    omega
  refine st.sl (es := [.int s, .int t, .int h, .int n, .int o, .int tt]) hS rfl fun l H1 st => ?_
  refine st.tupL (ds := [.int s, .int t, .int h, .int n, .int o, .int tt]) (st.sq 0 rfl) (.cons (.int _) (.cons (.int _) (.cons (.int _) (.cons (.int _) (.cons (.int _) (.cons (.int _) .nil)))))) fun y H2 st => ?_
  refine st.sl (es := (x :: xs).map V.int) (st.oldL hS (by simp)) ?_ fun l2 H3 st => ?_
  · rw [cut_lo (by decide)]
    rfl
  refine st.tupL (st.sq 0 rfl) DtAll.ints fun z H4 st => ?_
  refine st.tup (.cons (st.d 0 rfl) .nil) fun v H5 st => ?_
  refine Dt.cat st (st.d 2 rfl) (st.d 0 rfl) (by simp) fun u H6 st => ?_
  refine q _ _ ((st.sub (List.nil_sublist _)).setT _ fun p hp => ?_)
  have e2 : p = (u, pofD (m :: s :: t :: h :: n :: o :: tt :: x :: xs)) := by simpa using hp
  rw [e2]
  show Dt K H6 _ (if _ then _ else _)
  rw [if_pos ⟨by omega, by omega, by omega, by omega, by omega, by omega, by omega, by rw [List.length_cons]; omega⟩]
  exact st.d 0 rfl
theorem use_content {H0 H : Hp} {A : List Addr} {L : List (Addr × HO)} {T : List (V × PyData)} {x : V} {a : Addr} {c : List Int} {Q : VK} {E : XK} (st : Sv K H0 A H L T) (h1 : SqL K H a (c.map V.int)) (hl : 0 < c.length) (hl2 : c.length < 1000)
    (q : ∀ H' y, Sv K H0 A H' L ((y, pofD c) :: T) → Q y H') (e : x = .ref a := by rfl) : sp_content K x H Q E := by
  subst e
  unfold sp_content
  exact ⟨a, c, rfl, h1, hl, hl2, fun H' y u => q H' y (st.call0 u)⟩
@[irreducible] def sp_any_cell (K : PySem.W.Frag) : Sp1 := fun x0 H Q _ => ∃ (b g s : Addr) (D : BD), x0 = .ref b ∧ D.gs.length ≤ 63 ∧ Cells H (bxL b g s D) ∧
  ∀ H' D' x, D'.gs.length ≤ 63 → Sv K H [b, g, s] H' (bxL b g s D') [] → Q (.int x) H'
theorem ok_any_cell (e : Txt K mg) : Fok P w K mg base 3 (He.ga K "_law_any_cell") ["box"] (mk1 (sp_any_cell K)) := by
  refine der__law_any_cell e (ok_draw e) fun a0 H Q E h => ?_
  unfold sp_any_cell at h
  obtain ⟨b, g, s, D, rfl, hl, hc, q⟩ := h
  have st : Sv K H [b, g, s] H (bxL b g s D ++ []) [] := hc.sv
  refine use_draw st hl fun H1 D t hl h0 h1 st => ?_
  refine iteD (fun hr => ?_) (fun hr => ?_)
  · refine use_draw st hl fun H1 D t hl h0 h1 st => ?_
    exact q _ D t hl st
  · refine st.lst fun p H2 st => ?_
    refine use_draw (st.perm List.perm_middle) hl fun H3 D i hl h0 h1 st => ?_
    obtain ⟨x, hx, hx2⟩ := at_int (ns := [0, 1, 2, 3, 4, 15, 16, 63, 64, 65, 255]) h0 h1
    refine ix_L (st.sq 3 rfl) (hv := hx2) ?_
    exact q _ D _ hl (st.sub (.cons₂ _ (.cons₂ _ (.cons₂ _ (.cons _ .slnil)))))
theorem use_any_cell {H0 H : Hp} {A : List Addr} {b g s : Addr} {D : BD} {L : List (Addr × HO)} {T : List (V × PyData)} {x : V} {Q : VK} {E : XK} (st : Sv K H0 A H (bxL b g s D ++ L) T) (hl : D.gs.length ≤ 63)
    (k : ∀ H' D' x, D'.gs.length ≤ 63 → Sv K H0 A H' (bxL b g s D' ++ L) T → Q (.int x) H') (ex : x = .ref b := by rfl) : sp_any_cell K x H Q E := by
  subst ex
  unfold sp_any_cell
  exact ⟨b, g, s, D, rfl, hl, st.cellsF, fun H' D' x a1 u => k H' D' x a1 (st.call (T' := []) u)⟩
end
end Wk

namespace Wk
open PySem PySem.Spec PyProof.Rows L2
local macro_rules | `(tactic| walk_at "ar") => `(tactic| first
  | decide
  | exact Nat.le_of_lt (sl_lt (by first | decide | omega))
  | exact .inl (.inr ⟨by first | decide | omega, by first | decide | omega⟩)
  | exact .inl (.inl ⟨by first | decide | omega, by first | decide | omega⟩)
  | exact .inl ⟨by first | decide | omega, by first | decide | omega⟩
  | exact ⟨by first | decide | omega, by first | decide | omega⟩
  | exact ⟨by first | decide | omega, by first | decide | omega, by first | decide | omega⟩
  | exact ⟨by first | decide | omega, by first | decide | omega, by first | decide | omega, by first | decide | omega⟩
  | exact ⟨by first | decide | omega, by first | decide | omega, by first | decide | omega, by first | decide | omega, by first | decide | omega⟩
  | omega
  | exact sl_lt (by omega))
local macro_rules | `(tactic| walk_at "nm") => `(tactic| dsimp only [gNm, setK, uAdd, uSub])
local macro_rules | `(tactic| walk_at "sub") => `(tactic| repeat first | exact List.nil_sublist _ | exact .slnil | apply List.Sublist.cons₂ | apply List.Sublist.cons)
local macro_rules | `(tactic| walk_at "go") => `(tactic| repeat (refine And.intro (by walk_at "ar") ?_))
section
variable {P : Program} {w : World} {K : PySem.W.Frag} {mg : Str → Option Value} {base : Heap}
theorem set_map {ns : List Int} {j : Nat} {x : Int} : (ns.map V.int).set j (.int x) = (ns.set j x).map V.int := by rw [List.map_set]
@[irreducible] def sp_bent (K : PySem.W.Frag) : Sp2 := fun x0 x1 H Q _ => ∃ (b g s f : Addr) (D : BD) (p : Pc), x0 = .ref b ∧ x1 = .ref f ∧ D.gs.length ≤ 63 ∧ p.Ok ∧ Cells H (bxL b g s D ++ [(f, .lst (p.fr.map V.int))]) ∧
  ∀ H' D' l (ns : List Int), D'.gs.length ≤ 63 → 0 < ns.length → ns.length < 1000 → Sv K H [b, g, s, f] H' (bxL b g s D' ++ [(f, .lst (p.fr.map V.int)), (l, .lst (ns.map V.int))]) [] → Q (.ref l) H'
theorem ok_bent (e : Txt K mg) : Fok P w K mg base 4 (He.ga K "_law_bent") ["box", "frame"] (mk2 (sp_bent K)) := by
  refine der__law_bent e (ok_draw e) (ok_any_cell e) fun a0 a1 H Q E h => ?_
  unfold sp_bent at h
  obtain ⟨b, g, s, f, D, p, rfl, rfl, hl, hp, hc, q⟩ := h
  have st : Sv K H [b, g, s, f] H (bxL b g s D ++ [(f, .lst (p.fr.map V.int))]) [] := hc.sv
  have hle := hp.le
  have hfl := fr_len p
  have hpl := hp.ne
  refine use_draw st hl fun H1 D c hl hc0 hc1 st => ?_
  refine st.listL (st.sq 3 rfl) fun l H2 st => ?_
  walk_at "nm"
  refine cut (fun σ H' => ∃ (l : Addr) (ns : List Int) (D : BD) (L : List (Addr × HO)) (x4 x5 : Option V), σ = [some (.ref b), some (.ref f), some (.int c), some (.ref l), x4, x5, none] ∧ 0 < ns.length ∧ ns.length < 1000 ∧ D.gs.length ≤ 63 ∧ Sv K H [b, g, s, f] H' (bxL b g s D ++ (f, .lst (p.fr.map V.int)) :: (l, .lst (ns.map V.int)) :: L) []) ?rest0 (fun fin => ?stm0)
  case rest0 =>
    rintro σ H1 ⟨l, ns, D, L, x4, x5, rfl, h0, h1, hl, st⟩
    refine cut (fun σ H' => ∃ (ns : List Int) (D : BD) (x4 : Option V), σ = [some (.ref b), some (.ref f), some (.int c), some (.ref l), x4, x5, none] ∧ 0 < ns.length ∧ ns.length < 1000 ∧ D.gs.length ≤ 63 ∧ Sv K H [b, g, s, f] H' (bxL b g s D ++ (f, .lst (p.fr.map V.int)) :: (l, .lst (ns.map V.int)) :: L) []) ?rest1 (fun fin => ?stm1)
    case rest1 =>
      rintro σ H1 ⟨ns, D, x4, rfl, h0, h1, hl, st⟩
      exact q _ D l ns hl h0 h1 (st.sub (.cons₂ _ (.cons₂ _ (.cons₂ _ (.cons₂ _ (.cons₂ _ (List.nil_sublist _)))))))
    case stm1 =>
      refine use_draw st hl fun H1 D r hl _ _ st => ?_
      refine iteD (fun hr => ?_) (fun hr => ?_)
      · refine len_L (st.sq 4 rfl) ?_
        simp only [List.length_map]
        refine use_draw st hl (fun H1 D i hl i0 i1 st => ?_) rfl rfl (by omega) (by omega)
        refine use_any_cell st hl fun H1 D x hl st => ?_
        refine st.setI 4 (bxL b g s D ++ (f, .lst (p.fr.map V.int)) :: (l, .lst ((ns.map V.int).set i.toNat (.int x))) :: L) (fun H1 st => ?_) (hj := ixN_pos i0 (by simp; exact i1))
        rw [set_map] at st
        exact fin _ _ ⟨ns.set i.toNat x, D, some (.int i), rfl, by simp; exact h0, by simp; exact h1, hl, st⟩
      · exact fin _ _ ⟨ns, D, x4, rfl, h0, h1, hl, st⟩
  case stm0 =>
    have st := st.perm (L' := bxL b g s D ++ (f, .lst (p.fr.map V.int)) :: (l, .lst (p.fr.map V.int)) :: []) (List.perm_append_singleton (l, HO.lst (p.fr.map V.int)) (bxL b g s D ++ [(f, .lst (p.fr.map V.int))]))
    refine iteD (fun hr => ?_) (fun hr => ?_)
    · refine use_draw st hl (fun H1 D i hl i0 i1 st => ?_)
      refine use_any_cell st hl fun H1 D x hl st => ?_
      refine st.setI 4 (bxL b g s D ++ (f, .lst (p.fr.map V.int)) :: (l, .lst ((p.fr.map V.int).set i.toNat (.int x))) :: []) (fun H1 st => ?_) (hj := ixN_pos i0 (by simp; omega))
      rw [set_map] at st
      exact fin _ _ ⟨l, p.fr.set i.toNat x, D, [], some (.int i), none, rfl, by simp; omega, by simp; omega, hl, st⟩
    refine iteD (fun hr => ?_) (fun hr => ?_)
    · refine len_L (st.sq 4 rfl) ?_
      simp only [List.length_map]
      refine use_draw st hl (fun H1 D i hl i0 i1 st => ?_) rfl rfl (by omega) (by omega)
      refine use_any_cell st hl fun H1 D x hl st => ?_
      refine st.setI 4 (bxL b g s D ++ (f, .lst (p.fr.map V.int)) :: (l, .lst ((p.fr.map V.int).set i.toNat (.int x))) :: []) (fun H1 st => ?_) (hj := ixN_pos i0 (by simp; exact i1))
      rw [set_map] at st
      exact fin _ _ ⟨l, p.fr.set i.toNat x, D, [], some (.int i), none, rfl, by simp; omega, by simp; omega, hl, st⟩
    refine iteD (fun hr => ?_) (fun hr => ?_)
    · refine len_L (st.sq 4 rfl) ?_
      simp only [List.length_map]
      refine use_draw st hl (fun H1 D i hl i0 i1 st => ?_) rfl rfl (by omega) (by omega)
      refine st.sl (es := (p.fr.take (1 + i).toNat).map V.int) (st.sq 4 rfl) (by rw [cut_hi (by omega), List.map_take]) fun l2 H2 st => ?_
      have st := st.perm (L' := bxL b g s D ++ (f, .lst (p.fr.map V.int)) :: (l2, .lst ((p.fr.take (1 + i).toNat).map V.int)) :: [(l, .lst (p.fr.map V.int))]) (List.perm_middle (l₁ := bxL b g s D ++ [(f, .lst (p.fr.map V.int))]))
      exact fin _ _ ⟨l2, _, D, _, none, none, rfl, by simp; omega, by simp; omega, hl, st⟩
    refine iteD (fun hr => ?_) (fun hr => ?_)
    · have hF : SqL K _ f (p.fr.map V.int) := st.sq 3 rfl
      refine ix_L (v := .int p.tt) hF ?_
      refine ix_L (v := .int p.o) hF ?_
      refine len_L hF ?_
      simp only [List.length_map]
      have hfit := hp.fit
      have htt := hp.tt
      have ho := hp.o
      refine use_draw st hl (fun H1 D i hl i0 i1 st => ?_)
      walk_at "go"
      refine lcDraws st hl (fun m ms H2 D hm hl _ st => ?_) (hn := by omega)
      refine st.cat (st.at 5 rfl) (st.at 3 rfl) (by simp; omega) fun l2 H4 st => ?_
      rw [← List.map_append] at st
      have st := st.sub (L' := (l2, .lst ((p.fr ++ ms).map V.int)) :: (bxL b g s D ++ [(f, .lst (p.fr.map V.int))])) (by walk_at "sub")
      have st := st.perm (L' := bxL b g s D ++ (f, .lst (p.fr.map V.int)) :: (l2, .lst ((p.fr ++ ms).map V.int)) :: []) (List.perm_middle (l₁ := bxL b g s D ++ [(f, .lst (p.fr.map V.int))]))
      exact fin _ _ ⟨l2, _, D, _, none, some (.int _), rfl, by simp; omega, by simp; omega, hl, st⟩
    · refine use_draw st hl (fun H1 D i1 hl _ _ st => ?_)
      refine use_draw st hl (fun H1 D i2 hl _ _ st => ?_)
      refine use_draw st hl (fun H1 D i3 hl _ _ st => ?_)
      refine use_draw st hl (fun H1 D i4 hl _ _ st => ?_)
      refine st.lst fun l1 H2 st => ?_
      have st := st.sub (L' := (l1, .lst ([i1, i2, i3, i4].map V.int)) :: (bxL b g s D ++ [(f, .lst (p.fr.map V.int))])) (by walk_at "sub")
      have st := st.perm (L' := bxL b g s D ++ (f, .lst (p.fr.map V.int)) :: (l1, .lst ([i1, i2, i3, i4].map V.int)) :: []) (List.perm_middle (l₁ := bxL b g s D ++ [(f, .lst (p.fr.map V.int))]))
      refine use_draw st hl (fun H1 D i5 hl _ _ st => ?_)
      refine use_draw st hl (fun H1 D i6 hl _ _ st => ?_)
      refine use_draw st hl (fun H1 D i7 hl _ _ st => ?_)
      refine st.lst fun l2 H2 st => ?_
      refine st.cat (st.at 5 rfl) (st.at 0 rfl) (by simp) fun l3 H4 st => ?_
      have st := st.sub (L' := (l3, .lst ([i1, i2, i3, i4, i5, i6, i7].map V.int)) :: (bxL b g s D ++ [(f, .lst (p.fr.map V.int))])) (by walk_at "sub")
      have st := st.perm (L' := bxL b g s D ++ (f, .lst (p.fr.map V.int)) :: (l3, .lst ([i1, i2, i3, i4, i5, i6, i7].map V.int)) :: []) (List.perm_middle (l₁ := bxL b g s D ++ [(f, .lst (p.fr.map V.int))]))
      refine use_draw st hl (fun H1 D i8 hl _ _ st => ?_)
      walk_at "go"
      refine lcDraws st hl (fun m ms H2 D hm hl _ st => ?_)
      refine st.cat (st.at 5 rfl) (st.at 3 rfl) (by simp; omega) fun l4 H4 st => ?_
      rw [← List.map_append] at st
      have st := st.sub (L' := (l4, .lst (([i1, i2, i3, i4, i5, i6, i7] ++ ms).map V.int)) :: (bxL b g s D ++ [(f, .lst (p.fr.map V.int))])) (by walk_at "sub")
      have st := st.perm (L' := bxL b g s D ++ (f, .lst (p.fr.map V.int)) :: (l4, .lst (([i1, i2, i3, i4, i5, i6, i7] ++ ms).map V.int)) :: []) (List.perm_middle (l₁ := bxL b g s D ++ [(f, .lst (p.fr.map V.int))]))
      exact fin _ _ ⟨l4, _, D, _, none, none, rfl, by simp, by simp; omega, hl, st⟩

theorem use_bent {H0 H : Hp} {A : List Addr} {b g s f : Addr} {D : BD} {p : Pc} {L : List (Addr × HO)} {T : List (V × PyData)} {x y : V} {Q : VK} {E : XK} (st : Sv K H0 A H (bxL b g s D ++ (f, .lst (p.fr.map V.int)) :: L) T) (hl : D.gs.length ≤ 63) (hp : p.Ok)
    (k : ∀ H' D' l (ns : List Int), D'.gs.length ≤ 63 → 0 < ns.length → ns.length < 1000 → Sv K H0 A H' (bxL b g s D' ++ (f, .lst (p.fr.map V.int)) :: (l, .lst (ns.map V.int)) :: L) T → Q (.ref l) H') (ex : x = .ref b := by rfl) (ey : y = .ref f := by rfl) : sp_bent K x y H Q E := by
  subst ex ey
  have st : Sv K H0 A H ((bxL b g s D ++ [(f, .lst (p.fr.map V.int))]) ++ L) T := st
  unfold sp_bent
  exact ⟨b, g, s, f, D, p, rfl, rfl, hl, hp, st.cellsF, fun H' D' l ns a1 a2 a3 u => k H' D' l ns a1 a2 a3 (st.call (T' := []) u)⟩
@[irreducible] def sp_read (K : PySem.W.Frag) : Sp2 := fun x0 x1 H Q _ => ∃ (a : Addr) (v : V) (c : List Int), x0 = .ref a ∧ x1 = v ∧ SqL K H a (c.map V.int) ∧ 0 < c.length ∧ c.length < 1000 ∧ Dt K H v (pofD c) ∧
  ∀ H', Sv K H [] H' [] [] → Q (.bl true) H'
theorem ok_read (e : Txt K mg) : Fok P w K mg base 4 (He.ga K "_law_read") ["content", "wanted"] (mk2 (sp_read K)) := by
  refine der__law_read e (ok_piece_of_frame e) (ok_same_piece e) fun a0 a1 H Q E h => ?_
  unfold sp_read at h
  obtain ⟨a, v, c, rfl, rfl, hS, h0, h1, hv, q⟩ := h
  have st : Sv K H [] H [] [] := Sv.start0
  refine st.listL hS fun l H1 st => ?_
  refine use_piece_of_frame st (st.sq 0 rfl) h0 h1 fun H2 y st => ?_
  refine neL (ns := c) (ms := c) (st.sq 0 rfl) (st.oldL hS (by simp)) ?_
  rw [decide_eq_true rfl]
  refine use_same_piece st (st.d 0 rfl) (st.oldD hv) (pof_cases c) fun H3 st => ?_
  refine st.setI 0 [(l, .lst ((c.map V.int).set 0 (.int 7)))] (fun H4 st => ?_) (hj := ixN_pos (by decide) (by simp; omega))
  refine len_L (st.oldL hS (by simp)) ?_
  simp only [List.length_map]
  refine st.setI 0 [(l, .lst (((c.map V.int).set 0 (.int 7)).set ((c.length : Int) - 1).toNat (.int 7)))] (fun H4 st => ?_) (hj := ixN_pos (by omega) (by simp; omega))
  refine use_same_piece st (st.d 0 rfl) (st.oldD hv) (pof_cases c) fun H3 st => ?_
  exact q _ (st.sub (List.nil_sublist _)).noT
theorem use_read {H0 H : Hp} {A : List Addr} {L : List (Addr × HO)} {T : List (V × PyData)} {x y : V} {a : Addr} {c : List Int} {Q : VK} {E : XK} (st : Sv K H0 A H L T) (h1 : SqL K H a (c.map V.int)) (hl : 0 < c.length) (hl2 : c.length < 1000) (hv : Dt K H y (pofD c))
    (q : ∀ H', Sv K H0 A H' L T → Q (.bl true) H') (e : x = .ref a := by rfl) : sp_read K x y H Q E := by
  subst e
  unfold sp_read
  exact ⟨a, y, c, rfl, rfl, h1, hl, hl2, hv, fun H' u => q H' (st.call0 u)⟩
@[irreducible] def sp_framed (K : PySem.W.Frag) : Sp1 := fun x0 H Q _ => ∃ (v : V) (p : Pc), x0 = v ∧ Dt K H v p.D ∧ p.Ok ∧
  ∀ H', Sv K H [] H' [] [] → Q (.bl true) H'
theorem ok_framed (e : Txt K mg) : Fok P w K mg base 5 (He.ga K "_law_framed") ["piece"] (mk1 (sp_framed K)) := by
  refine der__law_framed e (ok_frame e) (ok_frame_of_piece e) (ok_same_frame e) (ok_read e) fun a0 H Q E h => ?_
  unfold sp_framed at h
  obtain ⟨v, p, rfl, hv, hp, q⟩ := h
  have st : Sv K H [] H [] [] := Sv.start0
  have hle := hp.le
  have hfl := fr_len p
  refine use_frame st hv hp fun H1 l st => ?_
  refine use_frame_of_piece st (st.oldD hv) hp fun H2 m st => ?_
  refine use_same_frame (st.sq 0 rfl) (st.sq 1 rfl) ?_
  refine ⟨st.tyL 0, ?_⟩
  refine st.app 0 [(m, .lst (p.fr.map V.int ++ [V.int 0])), (l, .lst (p.fr.map V.int))] (fun H3 st => ?_) (hx := by simp; omega)
  refine use_frame_of_piece st (st.oldD hv) hp fun H2 m2 st => ?_
  refine use_same_frame (st.sq 0 rfl) (st.sq 2 rfl) ?_
  refine use_read st (st.sq 2 rfl) (by omega) (by omega) (by rw [pof_fr hp]; exact st.oldD hv) fun H4 st => ?_
  exact q _ (st.sub (List.nil_sublist _))
theorem use_framed {H0 H : Hp} {A : List Addr} {L : List (Addr × HO)} {T : List (V × PyData)} {x : V} {p : Pc} {Q : VK} {E : XK} (st : Sv K H0 A H L T) (hv : Dt K H x p.D) (hp : p.Ok)
    (q : ∀ H', Sv K H0 A H' L T → Q (.bl true) H') : sp_framed K x H Q E := by
  unfold sp_framed
  exact ⟨x, p, rfl, hv, hp, fun H' u => q H' (st.call0 u)⟩
@[irreducible] def sp_whole (K : PySem.W.Frag) : Sp1 := fun x0 H Q _ => ∃ (v : V) (p : Pc), x0 = v ∧ Dt K H v p.D ∧ p.Ok ∧
  ∀ H', Sv K H [] H' [] [] → Q (.bl true) H'
theorem ok_whole (e : Txt K mg) : Fok P w K mg base 6 (He.ga K "_law_whole") ["piece"] (mk1 (sp_whole K)) := by
  refine der__law_whole e (ok_whole_piece e) (ok_framed e) (ok_same_piece e) fun a0 H Q E h => ?_
  unfold sp_whole at h
  obtain ⟨v, p, rfl, hv, hp, q⟩ := h
  have st : Sv K H [] H [] [] := Sv.start0
  have hle := hp.le
  refine hv.ix fun y hy => ?_
  refine st.listT hy fun l1 H1 xs hx st => ?_
  have e1 := hx.eqInts
  subst e1
  refine st.listL (st.sq 0 rfl) fun l2 H2 st => ?_
  have hv := st.oldD hv
  refine hv.ixI ?_
  refine hv.ixI ?_
  refine hv.ixI ?_
  refine hv.ixI ?_
  refine use_whole_piece st (st.sq 0 rfl) fun H3 u st => ?_
  have hv := st.oldD ‹Dt K H _ p.D›
  refine Dt.sl st hv (es := [.int p.s, .int p.t, .int p.h, .int p.n]) rfl fun z H4 st => ?_
  refine len_L (st.sq 1 rfl) ?_
  simp only [List.length_map]
  refine (st.oldD ‹Dt K H _ p.D›).ix fun y3 hy3 => ?_
  refine st.tup (.cons (.int _) (.cons (.int _) (.cons hy3 .nil))) fun t H5 st => ?_
  refine Dt.cat st (st.d 1 rfl) (st.d 0 rfl) (by simp) fun r H6 st => ?_
  have hr : Dt K H6 r (Pc.mk p.s p.t p.h p.n 0 p.cs.length p.cs).D := st.d 0 rfl
  have hpo : (Pc.mk p.s p.t p.h p.n 0 p.cs.length p.cs).Ok := pc_ok hp.s hp.t hp.h.1 hp.h.2 (by have := hp.ne; omega) (by omega) hp.ne (by omega) (by simp)
  refine neL (ns := p.cs) (ms := p.cs) (st.sq 0 rfl) (st.sq 1 rfl) ?_
  rw [decide_eq_true rfl]
  refine use_same_piece st (st.d 3 rfl) hr (.inr ⟨_, rfl⟩) fun H7 st => ?_
  refine use_framed (p := Pc.mk p.s p.t p.h p.n 0 p.cs.length p.cs) st (st.d 0 rfl) hpo fun H8 st => ?_
  exact q _ (st.sub (List.nil_sublist _)).noT
end
end Wk

namespace Wk
open PySem PySem.Spec PyProof.Rows L2
local macro_rules | `(tactic| walk_at "ar") => `(tactic| first
  | decide
  | exact Nat.le_of_lt (sl_lt (by first | decide | omega))
  | exact .inl (.inr ⟨by first | decide | omega, by first | decide | omega⟩)
  | exact .inl (.inl ⟨by first | decide | omega, by first | decide | omega⟩)
  | exact .inl ⟨by first | decide | omega, by first | decide | omega⟩
  | exact ⟨by first | decide | omega, by first | decide | omega⟩
  | exact ⟨by first | decide | omega, by first | decide | omega, by first | decide | omega⟩
  | exact ⟨by first | decide | omega, by first | decide | omega, by first | decide | omega, by first | decide | omega⟩
  | exact ⟨by first | decide | omega, by first | decide | omega, by first | decide | omega, by first | decide | omega, by first | decide | omega⟩
  | omega
  | exact sl_lt (by omega))
local macro_rules | `(tactic| walk_at "nm") => `(tactic| dsimp only [gNm, setK, uAdd, uSub])
local macro_rules | `(tactic| walk_at "sub") => `(tactic| repeat first | exact List.nil_sublist _ | exact .slnil | apply List.Sublist.cons₂ | apply List.Sublist.cons)
local macro_rules | `(tactic| walk_at "go") => `(tactic| repeat (refine And.intro (by walk_at "ar") ?_))
section
variable {P : Program} {w : World} {K : PySem.W.Frag} {mg : Str → Option Value} {base : Heap}
theorem use_whole {H0 H : Hp} {A : List Addr} {L : List (Addr × HO)} {T : List (V × PyData)} {x : V} {p : Pc} {Q : VK} {E : XK} (st : Sv K H0 A H L T) (hv : Dt K H x p.D) (hp : p.Ok)
    (q : ∀ H', Sv K H0 A H' L T → Q (.bl true) H') : sp_whole K x H Q E := by
  unfold sp_whole
  exact ⟨x, p, rfl, hv, hp, fun H' u => q H' (st.call0 u)⟩
theorem use_cut {H0 H : Hp} {A : List Addr} {L : List (Addr × HO)} {T : List (V × PyData)} {x y : V} {p : Pc} {w : Nat} {Q : VK} {E : XK} (st : Sv K H0 A H L T) (hv : Dt K H x p.D) (hp : p.Ok)
    (q : ∀ H' l ys (n : Nat), (n : Int) = ((p.cs.length : Int) - 1) / (w : Int) + 1 → ys.length = n → Sv K H0 A H' ((l, .lst ys) :: L) (ys.zip ((List.range n).map fun k => (pk p w k).D) ++ T) → Q (.ref l) H') (ey : y = .int w := by rfl) (hw : 1 ≤ w := by omega) (hw2 : w ≤ 1000 := by omega) : sp_cut K x y H Q E := by
  subst ey
  unfold sp_cut
  exact ⟨x, p, w, rfl, rfl, hv, hp.ne, by have := hp.le; omega, hw, hw2, fun H' l ys n a1 a2 u => q H' l ys n a1 a2 (st.call0 u)⟩
@[irreducible] def sp_lcut (K : PySem.W.Frag) : Sp2 := fun x0 x1 H Q _ => ∃ (b g s : Addr) (D : BD) (v : V) (p : Pc), x0 = .ref b ∧ x1 = v ∧ D.gs.length ≤ 63 ∧ Cells H (bxL b g s D) ∧ Dt K H v p.D ∧ p.Ok ∧
  ∀ H' D', D'.gs.length ≤ 63 → Sv K H [b, g, s] H' (bxL b g s D') [] → Q (.bl true) H'
theorem ok_lcut (e : Txt K mg) : Fok P w K mg base 6 (He.ga K "_law_cut") ["box", "piece"] (mk2 (sp_lcut K)) := by
  refine der__law_cut e (ok_cut e) (ok_draw e) (ok_same_piece e) (ok_framed e) fun a0 a1 H Q E h => ?_
  unfold sp_lcut at h
  obtain ⟨b, g, s, D, v, p, rfl, rfl, hl, hc, hv, hp, q⟩ := h
  have st : Sv K H [b, g, s] H (bxL b g s D ++ []) [] := hc.sv
  have hle := hp.le
  have hne := hp.ne
  refine hv.ix fun y hy => ?_
  refine hy.len ?_
  simp only [List.length_map]
  refine use_draw st hl (fun H1 D x hl x0 x1 st => ?_) rfl rfl (by omega) (by omega)
  obtain ⟨w, hw⟩ : ∃ w : Nat, 1 + x = (w : Int) := ⟨(1 + x).toNat, by omega⟩
  walk_at "nm"
  rw [hw]
  refine use_cut (w := w) (p := p) st (st.oldD hv) hp (fun H2 l ys n hn hys st => ?_)
  refine (st.oldD hv).ix fun y hy => ?_
  refine hy.len ?_
  simp only [List.length_map]
  obtain ⟨n', hR, hn'⟩ := rg_up (l := (p.cs.length : Int)) (w := (w : Int)) (by omega) (by omega) (by omega) (by omega)
  have en : n' = n := by omega
  subst en
  have hn100 : n' ≤ 1000 := by
    have : ((p.cs.length : Int) - 1) / (w : Int) ≤ (p.cs.length : Int) - 1 := Int.ediv_le_self _ (by omega)
    omega
  refine ⟨n', hR, by omega, ?_⟩
  refine st.nw fun l2 H3 st => ?_
  refine isiL (st.sq 1 rfl) ?_
  refine len_L (st.sq 1 rfl) ?_
  refine len_L (st.sq 0 rfl) ?_
  have el : (rgC 0 (w : Int) n').length = n' := rgC_len
  rw [el, hys]
  refine iteND (fun hz => absurd rfl hz) (fun _ => ?_)
  refine len_L (st.sq 0 rfl) ?_
  rw [el]
  refine ⟨by omega, ?_⟩
  refine forR0 (fun k σ H' => ∃ x6 x7 k', Sv K H [b, g, s] H' ((l2, .lst (rgC 0 (w : Int) n')) :: (l, .lst ys) :: (bxL b g s D ++ [])) (ys.zip ((List.range n').map fun k => (pk p w k).D) ++ []) ∧ σ = [some (.ref b), some a1, some (.int w), some (.ref l), some (.ref l2), k', x6, x7]) ⟨none, none, none, st, rfl⟩ ?_ ?_
  · rintro k σ H4 hk ⟨x6, x7, k', st, rfl⟩
    have hv := st.oldD hv
    have hk : k < n' := by omega
    have hky : k < ys.length := by omega
    have hu : Dt K H4 ys[k] (pk p w k).D := st.dat (ys[k], (pk p w k).D) (by
      rw [List.append_nil]
      refine List.mem_of_getElem? (i := k) ?_
      rw [List.getElem?_zip_eq_some]
      exact ⟨List.getElem?_eq_getElem hky, by simp [hk]⟩)
    have st := st.addT hu
    refine hv.ix fun y hy => ?_
    refine ix_L (st.sq 0 rfl) (hv := rgC_at hk) ?_
    refine ix_L (st.sq 0 rfl) (hv := rgC_at hk) ?_
    have e1 : (0 + (k : Int) * (w : Int)) = ((k * w : Nat) : Int) := by simp
    rw [e1]
    refine Dt.sl st hy (es := (pk p w k).cs.map .int) ?_ fun z H5 st => ?_
    · rw [dcut_mid (by omega) (by omega)]
      show _ = (((p.cs.drop (k * w)).take w).map PyData.int)
      rw [List.map_take, List.map_drop]
      congr 1
      omega
    refine Dt.sl st (st.oldD ‹Dt K H a1 p.D›) (es := [.int p.s, .int p.t, .int p.h, .int p.n]) rfl fun z2 H6 st => ?_
    have hv := st.oldD ‹Dt K H a1 p.D›
    refine hv.ixI ?_
    refine ix_L (st.sq 0 rfl) (hv := rgC_at hk) ?_
    rw [e1]
    refine hv.ixI ?_
    refine st.tup (.cons (.int _) (.cons (.int _) (.cons (st.d 1 rfl) .nil))) fun t H7 st => ?_
    refine Dt.cat st (st.d 1 rfl) (st.d 0 rfl) (by simp) fun r H8 st => ?_
    have hin := in_range (w := w) (l := p.cs.length) (n := n') (k := k) (by omega) hne hn hk
    have hpo := pk_ok hp (show 1 ≤ w by omega) hin
    have hr : Dt K H8 r (pk p w k).D := st.d 0 rfl
    refine ix_L (st.sq 1 rfl) (hv := at_pos (List.getElem?_eq_getElem hky)) ?_
    refine use_same_piece st (st.d 4 rfl) hr (.inr ⟨_, rfl⟩) fun H9 st => ?_
    refine use_framed (p := pk p w k) st (st.d 0 rfl) hpo fun H10 st => ?_
    exact ⟨_, _, _, st.setT _ fun q hq => st.dat q (List.mem_cons_of_mem _ (List.mem_cons_of_mem _ (List.mem_cons_of_mem _ (List.mem_cons_of_mem _ (List.mem_cons_of_mem _ hq))))), rfl⟩
  · rintro σ H4 ⟨x6, x7, k', st, rfl⟩
    exact q _ _ hl (st.sub (L' := bxL b g s D) (by walk_at "sub")).noT
theorem use_lcut {H0 H : Hp} {A : List Addr} {b g s : Addr} {D : BD} {L : List (Addr × HO)} {T : List (V × PyData)} {x y : V} {p : Pc} {Q : VK} {E : XK} (st : Sv K H0 A H (bxL b g s D ++ L) T) (hl : D.gs.length ≤ 63) (hv : Dt K H y p.D) (hp : p.Ok)
    (k : ∀ H' D', D'.gs.length ≤ 63 → Sv K H0 A H' (bxL b g s D' ++ L) T → Q (.bl true) H') (ex : x = .ref b := by rfl) : sp_lcut K x y H Q E := by
  subst ex
  unfold sp_lcut
  exact ⟨b, g, s, D, y, p, rfl, rfl, hl, st.cellsF, hv, hp, fun H' D' a1 u => k H' D' a1 (st.call (T' := []) u)⟩
@[irreducible] def sp_way (K : PySem.W.Frag) : Sp1 := fun x0 H Q _ => ∃ (v : V) (p : Pc), x0 = v ∧ Dt K H v p.D ∧ p.Ok ∧
  ∀ H', Sv K H [] H' [] [] → Q (.bl true) H'
theorem rg_dn {h : Int} (h1 : 1 ≤ h) (h2 : h ≤ 3) : ∃ n : Nat, RgC (h - 1) 0 (-1) n ∧ (n : Int) = h - 1 := by
  have : h = 1 ∨ h = 2 ∨ h = 3 := by omega
  rcases this with rfl | rfl | rfl
  · exact ⟨0, ⟨by decide, by decide, by decide, by decide⟩, rfl⟩
  · exact ⟨1, ⟨by decide, by decide, by decide, by decide⟩, rfl⟩
  · exact ⟨2, ⟨by decide, by decide, by decide, by decide⟩, rfl⟩
theorem ok_way (e : Txt K mg) : Fok P w K mg base 6 (He.ga K "_law_way") ["piece"] (mk1 (sp_way K)) := by
  refine der__law_way e (ok_passed_on e) (ok_same_piece e) (ok_framed e) fun a0 H Q E h => ?_
  unfold sp_way at h
  obtain ⟨v, p, rfl, hv, hp, q⟩ := h
  have st : Sv K H [] H [] [] := Sv.start0
  refine hv.ixI ?_
  walk_at "nm"
  obtain ⟨n, hR, hn⟩ := rg_dn hp.h.1 hp.h.2
  refine ⟨n, hR, ?_⟩
  refine forRC (fun k σ H' => ∃ u x1 x2 T, σ = [some u, x1, x2] ∧ Sv K H [] H' [] ((u, (Pc.mk p.s p.t (p.h - k) p.n p.o p.tt p.cs).D) :: T)) ⟨a0, none, none, [], rfl, by simpa using st.addT hv⟩ ?_ ?_
  · rintro k σ H1 hk ⟨u, x1, x2, T, rfl, st⟩
    have hu : Dt K H1 u (Pc.mk p.s p.t (p.h - k) p.n p.o p.tt p.cs).D := st.d 0 rfl
    refine Dt.sl st hu (es := [.int p.s, .int p.t]) rfl fun z1 H2 st => ?_
    refine st.tup (.cons (.int _) .nil) fun z2 H3 st => ?_
    refine Dt.cat st (st.d 1 rfl) (st.d 0 rfl) (by simp) fun z3 H4 st => ?_
    refine Dt.sl st (st.d 3 rfl) (es := [.int p.n, .int p.o, .int p.tt, .tuple (p.cs.map .int)]) rfl fun z4 H5 st => ?_
    refine Dt.cat st (st.d 1 rfl) (st.d 0 rfl) (by simp) fun z5 H6 st => ?_
    have hz : Dt K H6 z5 (Pc.mk p.s p.t (p.h - (k + 1 : Nat)) p.n p.o p.tt p.cs).D := by
      have := st.d 0 rfl
      have e1 : p.h - 1 + (k : Int) * (-1) = p.h - (k + 1 : Nat) := by omega
      rw [e1] at this
      exact this
    have hpo : (Pc.mk p.s p.t (p.h - (k + 1 : Nat)) p.n p.o p.tt p.cs).Ok := by
      obtain ⟨h1, h2, h3, h4, h5, h6, h7⟩ := hp
      exact pc_ok h1 h2 (by omega) (by omega) h4.1 h4.2 h5 h6 h7
    have st := st.addT hz
    refine use_passed_on st (st.d 6 rfl) fun H7 y st => ?_
    refine use_same_piece st (d := (Pc.mk p.s p.t (p.h - (k + 1 : Nat)) p.n p.o p.tt p.cs).D) ?_ (st.d 1 rfl) (.inr ⟨_, rfl⟩) fun H8 st => ?_
    · have := st.d 0 rfl
      rw [if_neg (show ¬ (Pc.mk p.s p.t (p.h - k) p.n p.o p.tt p.cs).h ≤ 1 by show ¬ p.h - (k : Int) ≤ 1; omega)] at this
      have e1 : p.h - (k : Int) - 1 = p.h - (k + 1 : Nat) := by omega
      rw [← e1]
      exact this
    refine use_framed st (st.d 1 rfl) hpo fun H9 st => ?_
    exact ⟨_, _, _, _, rfl, st.setT (_ :: []) fun z hz => by
      have ez : z = (z5, (Pc.mk p.s p.t (p.h - (k + 1 : Nat)) p.n p.o p.tt p.cs).D) := by simpa using hz
      rw [ez]
      exact st.d 1 rfl⟩
  · rintro σ H1 ⟨u, x1, x2, T, rfl, st⟩
    refine use_passed_on st (st.d 0 rfl) fun H2 y st => ?_
    have := st.d 0 rfl
    rw [if_pos (show (Pc.mk p.s p.t (p.h - n) p.n p.o p.tt p.cs).h ≤ 1 by show p.h - (n : Int) ≤ 1; omega)] at this
    have e1 := this.eqN
    subst e1
    exact q _ st.noT
theorem use_way {H0 H : Hp} {A : List Addr} {L : List (Addr × HO)} {T : List (V × PyData)} {x : V} {p : Pc} {Q : VK} {E : XK} (st : Sv K H0 A H L T) (hv : Dt K H x p.D) (hp : p.Ok)
    (q : ∀ H', Sv K H0 A H' L T → Q (.bl true) H') : sp_way K x H Q E := by
  unfold sp_way
  exact ⟨x, p, rfl, hv, hp, fun H' u => q H' (st.call0 u)⟩
@[irreducible] def sp_law (K : PySem.W.Frag) : Sp1 := fun x0 H Q _ => ∃ (a : Addr) (ns : List Int), x0 = .ref a ∧ SqL K H a (ns.map V.int) ∧ ns.length ≤ 63 ∧ ∀ H', Q (.bl true) H'
theorem ok_law (e : Txt K mg) : Fok P w K mg base 7 (He.ga K "law") ["script"] (mk1 (sp_law K)) := by
  refine der_law e (ok_box e) (ok_piece e) (ok_frame e) (ok_bent e) (ok_framed e) (ok_whole e) (ok_lcut e) (ok_way e) (ok_draw e) (ok_read e) (ok_content e) fun a0 H Q E h => ?_
  unfold sp_law at h
  obtain ⟨a, ns, rfl, hS, hl, q⟩ := h
  have st : Sv K H [] H [] [] := Sv.start0
  refine use_box st hS hl fun H1 b g s D hl st => ?_
  refine use_piece st hl fun H2 D v p hl hp st => ?_
  refine use_framed st (st.d 0 rfl) hp fun H3 st => ?_
  refine use_whole st (st.d 0 rfl) hp fun H3 st => ?_
  refine use_lcut st hl (st.d 0 rfl) hp fun H3 D hl st => ?_
  refine use_way st (st.d 0 rfl) hp fun H3 st => ?_
  refine use_frame st (st.d 0 rfl) hp fun H4 f st => ?_
  refine use_draw (st.perm List.perm_middle) hl fun H5 D n hl n0 n1 st => ?_
  walk_at "go"
  refine forR0 (fun k σ H' => ∃ (D : BD) (x4 x5 : Option V) (L : List (Addr × HO)) (T : List (V × PyData)), σ = [some (.ref a), some (.ref b), some v, some (.ref f), x4, x5] ∧ (D : BD).gs.length ≤ 63 ∧ Sv K H [] H' (bxL b g s D ++ (f, .lst (p.fr.map V.int)) :: L) T) ⟨D, none, none, [], _, rfl, hl, st⟩ ?_ ?_
  · rintro k σ H6 hk ⟨D, x4, x5, L, T, rfl, hl, st⟩
    refine use_bent st hl hp fun H7 D l ns hl h0 h1 st => ?_
    refine use_content st (st.sq 4 rfl) h0 h1 fun H8 y st => ?_
    refine use_read st (st.sq 4 rfl) h0 h1 (st.d 0 rfl) fun H9 st => ?_
    exact ⟨D, _, _, _, _, rfl, hl, st⟩
  · rintro σ H6 ⟨D, x4, x5, L, T, rfl, hl, st⟩
    exact q _
end
end Wk

namespace Wk
open PySem PySem.Spec PyProof.Rows L2
def d_whole_piece : He.DefD := ⟨("whole_piece", none), "whole_piece", "whole_piece", defArgs s_whole_piece, defBody s_whole_piece, defScope s_whole_piece, [], []⟩
def d_cut : He.DefD := ⟨("cut", none), "cut", "cut", defArgs s_cut, defBody s_cut, defScope s_cut, [], []⟩
def d_passed_on : He.DefD := ⟨("passed_on", none), "passed_on", "passed_on", defArgs s_passed_on, defBody s_passed_on, defScope s_passed_on, [], []⟩
def d_frame_of_piece : He.DefD := ⟨("frame_of_piece", none), "frame_of_piece", "frame_of_piece", defArgs s_frame_of_piece, defBody s_frame_of_piece, defScope s_frame_of_piece, [], []⟩
def d_piece_of_frame : He.DefD := ⟨("piece_of_frame", none), "piece_of_frame", "piece_of_frame", defArgs s_piece_of_frame, defBody s_piece_of_frame, defScope s_piece_of_frame, [], []⟩
def d__law_box : He.DefD := ⟨("_law_box", none), "_law_box", "_law_box", defArgs s__law_box, defBody s__law_box, defScope s__law_box, [], []⟩
def d__law_mixed : He.DefD := ⟨("_law_mixed", none), "_law_mixed", "_law_mixed", defArgs s__law_mixed, defBody s__law_mixed, defScope s__law_mixed, [], []⟩
def d__law_draw : He.DefD := ⟨("_law_draw", none), "_law_draw", "_law_draw", defArgs s__law_draw, defBody s__law_draw, defScope s__law_draw, [], []⟩
def d__law_is_integer : He.DefD := ⟨("_law_is_integer", none), "_law_is_integer", "_law_is_integer", defArgs s__law_is_integer, defBody s__law_is_integer, defScope s__law_is_integer, [], []⟩
def d__law_integers : He.DefD := ⟨("_law_integers", none), "_law_integers", "_law_integers", defArgs s__law_integers, defBody s__law_integers, defScope s__law_integers, [], []⟩
def d__law_same_piece : He.DefD := ⟨("_law_same_piece", none), "_law_same_piece", "_law_same_piece", defArgs s__law_same_piece, defBody s__law_same_piece, defScope s__law_same_piece, [], []⟩
def d__law_same_frame : He.DefD := ⟨("_law_same_frame", none), "_law_same_frame", "_law_same_frame", defArgs s__law_same_frame, defBody s__law_same_frame, defScope s__law_same_frame, [], []⟩
def d__law_piece : He.DefD := ⟨("_law_piece", none), "_law_piece", "_law_piece", defArgs s__law_piece, defBody s__law_piece, defScope s__law_piece, [], []⟩
def d__law_frame : He.DefD := ⟨("_law_frame", none), "_law_frame", "_law_frame", defArgs s__law_frame, defBody s__law_frame, defScope s__law_frame, [], []⟩
def d__law_content : He.DefD := ⟨("_law_content", none), "_law_content", "_law_content", defArgs s__law_content, defBody s__law_content, defScope s__law_content, [], []⟩
def d__law_any_cell : He.DefD := ⟨("_law_any_cell", none), "_law_any_cell", "_law_any_cell", defArgs s__law_any_cell, defBody s__law_any_cell, defScope s__law_any_cell, [], []⟩
def d__law_bent : He.DefD := ⟨("_law_bent", none), "_law_bent", "_law_bent", defArgs s__law_bent, defBody s__law_bent, defScope s__law_bent, [], []⟩
def d__law_read : He.DefD := ⟨("_law_read", none), "_law_read", "_law_read", defArgs s__law_read, defBody s__law_read, defScope s__law_read, [], []⟩
def d__law_framed : He.DefD := ⟨("_law_framed", none), "_law_framed", "_law_framed", defArgs s__law_framed, defBody s__law_framed, defScope s__law_framed, [], []⟩
def d__law_whole : He.DefD := ⟨("_law_whole", none), "_law_whole", "_law_whole", defArgs s__law_whole, defBody s__law_whole, defScope s__law_whole, [], []⟩
def d__law_cut : He.DefD := ⟨("_law_cut", none), "_law_cut", "_law_cut", defArgs s__law_cut, defBody s__law_cut, defScope s__law_cut, [], []⟩
def d__law_way : He.DefD := ⟨("_law_way", none), "_law_way", "_law_way", defArgs s__law_way, defBody s__law_way, defScope s__law_way, [], []⟩
def d_law : He.DefD := ⟨("law", none), "law", "law", defArgs s_law, defBody s_law, defScope s_law, [], []⟩
def fnL : List He.DefD := [d_whole_piece, d_cut, d_passed_on, d_frame_of_piece, d_piece_of_frame, d__law_box, d__law_mixed, d__law_draw, d__law_is_integer, d__law_integers, d__law_same_piece, d__law_same_frame, d__law_piece, d__law_frame, d__law_content, d__law_any_cell, d__law_bent, d__law_read, d__law_framed, d__law_whole, d__law_cut, d__law_way, d_law]
def faL : List He.Fa := [.int "ADDRESSES" 16, .int "HEAD_CELLS" 7, .int "MOST_CELLS" 64, .int "MOST_HOPS" 3, .int "PIECE_MARK" 0, .glo "_law_any_cell", .glo "_law_bent", .glo "_law_box", .glo "_law_content", .glo "_law_cut", .glo "_law_draw", .glo "_law_frame", .glo "_law_framed", .glo "_law_integers", .glo "_law_is_integer", .glo "_law_mixed", .glo "_law_piece", .glo "_law_read", .glo "_law_same_frame", .glo "_law_same_piece", .glo "_law_way", .glo "_law_whole", .free "abs", .free "bool", .glo "cut", .glo "frame_of_piece", .free "int", .free "isinstance", .glo "law", .free "len", .free "list", .glo "passed_on", .glo "piece_of_frame", .free "range", .free "tuple", .glo "whole_piece"]
def loose : List Str := (["ADDRESSES", "PIECE_MARK", "HEAD_CELLS", "MOST_HOPS", "MOST_CELLS", "whole_piece", "cut", "passed_on", "frame_of_piece", "piece_of_frame", "_law_box", "_law_mixed", "_law_draw", "_law_is_integer", "_law_integers", "_law_same_piece", "_law_same_frame", "_law_piece", "_law_frame", "_law_content", "_law_any_cell", "_law_bent", "_law_read", "_law_framed", "_law_whole", "_law_cut", "_law_way"] : List Str)
abbrev R : PySem.W.OpenRow := PySem.W.OpenLaw.row PySem.Challenge.rw_wirespan_k13_piece_frames
abbrev hk : PySem.W.Hook := He.hookD 4 faL fnL
def ob (s : PySem.W.SharedT) : He.AlD := He.obsDG 4 faL fnL (HandSHeadRun.getT s)
theorem ob_eq (s : PySem.W.SharedT) : ob s = hk.obs s.abs := He.obsDG_eq (HandSHeadRun.getT_eq s)
theorem run (w : World) : HandSHeadRun.RunEq R (PySem.W.view R.prog [29]) hk ob 20000 loose w := by
  intro os
  kernel_rfl
theorem txt_ok {K : PySem.W.Frag} {h : Heap} {mg : Str → Option Value} (X : K.In h) (G : h.Ns mainGlobals mg) (c : He.SaysD faL fnL K) : Txt K mg where
  c_ADDRESSES := He.int_ok X G (c.fact 0 (f := .int "ADDRESSES" 16) rfl)
  c_HEAD_CELLS := He.int_ok X G (c.fact 1 (f := .int "HEAD_CELLS" 7) rfl)
  c_MOST_CELLS := He.int_ok X G (c.fact 2 (f := .int "MOST_CELLS" 64) rfl)
  c_MOST_HOPS := He.int_ok X G (c.fact 3 (f := .int "MOST_HOPS" 3) rfl)
  c_PIECE_MARK := He.int_ok X G (c.fact 4 (f := .int "PIECE_MARK" 0) rfl)
  g__law_any_cell := He.glo_ok X G (c.fact 5 (f := .glo "_law_any_cell") rfl)
  g__law_bent := He.glo_ok X G (c.fact 6 (f := .glo "_law_bent") rfl)
  g__law_box := He.glo_ok X G (c.fact 7 (f := .glo "_law_box") rfl)
  g__law_content := He.glo_ok X G (c.fact 8 (f := .glo "_law_content") rfl)
  g__law_cut := He.glo_ok X G (c.fact 9 (f := .glo "_law_cut") rfl)
  g__law_draw := He.glo_ok X G (c.fact 10 (f := .glo "_law_draw") rfl)
  g__law_frame := He.glo_ok X G (c.fact 11 (f := .glo "_law_frame") rfl)
  g__law_framed := He.glo_ok X G (c.fact 12 (f := .glo "_law_framed") rfl)
  g__law_integers := He.glo_ok X G (c.fact 13 (f := .glo "_law_integers") rfl)
  g__law_is_integer := He.glo_ok X G (c.fact 14 (f := .glo "_law_is_integer") rfl)
  g__law_mixed := He.glo_ok X G (c.fact 15 (f := .glo "_law_mixed") rfl)
  g__law_piece := He.glo_ok X G (c.fact 16 (f := .glo "_law_piece") rfl)
  g__law_read := He.glo_ok X G (c.fact 17 (f := .glo "_law_read") rfl)
  g__law_same_frame := He.glo_ok X G (c.fact 18 (f := .glo "_law_same_frame") rfl)
  g__law_same_piece := He.glo_ok X G (c.fact 19 (f := .glo "_law_same_piece") rfl)
  g__law_way := He.glo_ok X G (c.fact 20 (f := .glo "_law_way") rfl)
  g__law_whole := He.glo_ok X G (c.fact 21 (f := .glo "_law_whole") rfl)
  b_abs := He.free_ok X G (c.fact 22 (f := .free "abs") rfl)
  b_bool := He.free_ok X G (c.fact 23 (f := .free "bool") rfl)
  g_cut := He.glo_ok X G (c.fact 24 (f := .glo "cut") rfl)
  g_frame_of_piece := He.glo_ok X G (c.fact 25 (f := .glo "frame_of_piece") rfl)
  b_int := He.free_ok X G (c.fact 26 (f := .free "int") rfl)
  b_isinstance := He.free_ok X G (c.fact 27 (f := .free "isinstance") rfl)
  g_law := He.glo_ok X G (c.fact 28 (f := .glo "law") rfl)
  b_len := He.free_ok X G (c.fact 29 (f := .free "len") rfl)
  b_list := He.free_ok X G (c.fact 30 (f := .free "list") rfl)
  g_passed_on := He.glo_ok X G (c.fact 31 (f := .glo "passed_on") rfl)
  g_piece_of_frame := He.glo_ok X G (c.fact 32 (f := .glo "piece_of_frame") rfl)
  b_range := He.free_ok X G (c.fact 33 (f := .free "range") rfl)
  b_tuple := He.free_ok X G (c.fact 34 (f := .free "tuple") rfl)
  g_whole_piece := He.glo_ok X G (c.fact 35 (f := .glo "whole_piece") rfl)
  F_whole_piece := c.def_ 0 (d := d_whole_piece) rfl
  F_cut := c.def_ 1 (d := d_cut) rfl
  F_passed_on := c.def_ 2 (d := d_passed_on) rfl
  F_frame_of_piece := c.def_ 3 (d := d_frame_of_piece) rfl
  F_piece_of_frame := c.def_ 4 (d := d_piece_of_frame) rfl
  F__law_box := c.def_ 5 (d := d__law_box) rfl
  F__law_mixed := c.def_ 6 (d := d__law_mixed) rfl
  F__law_draw := c.def_ 7 (d := d__law_draw) rfl
  F__law_is_integer := c.def_ 8 (d := d__law_is_integer) rfl
  F__law_integers := c.def_ 9 (d := d__law_integers) rfl
  F__law_same_piece := c.def_ 10 (d := d__law_same_piece) rfl
  F__law_same_frame := c.def_ 11 (d := d__law_same_frame) rfl
  F__law_piece := c.def_ 12 (d := d__law_piece) rfl
  F__law_frame := c.def_ 13 (d := d__law_frame) rfl
  F__law_content := c.def_ 14 (d := d__law_content) rfl
  F__law_any_cell := c.def_ 15 (d := d__law_any_cell) rfl
  F__law_bent := c.def_ 16 (d := d__law_bent) rfl
  F__law_read := c.def_ 17 (d := d__law_read) rfl
  F__law_framed := c.def_ 18 (d := d__law_framed) rfl
  F__law_whole := c.def_ 19 (d := d__law_whole) rfl
  F__law_cut := c.def_ 20 (d := d__law_cut) rfl
  F__law_way := c.def_ 21 (d := d__law_way) rfl
  F_law := c.def_ 22 (d := d_law) rfl
end Wk
open PySem PySem.W PySem.Calls PyProof.Rows
theorem PySem.Challenge.cw_wirespan_k13_piece_frames_holds : PySem.Challenge.rw_wirespan_k13_piece_frames.Holds := by
  w_on; o_law
  refine HandSHeadRun.head_any (r := OpenLaw.row PySem.Challenge.rw_wirespan_k13_piece_frames) (q := view (OpenLaw.row PySem.Challenge.rw_wirespan_k13_piece_frames).prog [29]) (H := Wk.hk) (ob := Wk.ob) (M := 20000) (loose := Wk.loose) (d := HandSHeadRun.topDef (OpenLaw.row PySem.Challenge.rw_wirespan_k13_piece_frames).prog 29) (kwd := []) Wk.ob_eq
    (by kernel_rfl) (fun s => by kernel_rfl) Wk.run (by kernel_rfl) (by kernel_rfl) (by kernel_rfl) (by rfl) (by first | assumption | decide +kernel) (by decide +kernel) ⟨rfl, rfl, rfl, rfl, rfl, by decide +kernel⟩ ?hw ?hc
  case hw => w_witness2
  case hc =>
    refine Wk.walk_ofE2 (l := PySem.Challenge.rw_wirespan_k13_piece_frames) (n := 63) (k := 7) (x := "script") rfl (by decide) (by kernel_rfl) ⟨rfl, by decide, by decide⟩ ?F
    intro w mg fa h Y G hmg0
    obtain ⟨K, KX, c⟩ := Y
    have e := Wk.txt_ok KX G c
    have hmg : mg ("law" : PySem.Str) = some (.ref fa) := by
      have e : (HandSHeadRun.topDef (OpenLaw.row PySem.Challenge.rw_wirespan_k13_piece_frames).prog 29).name = ("law" : PySem.Str) := by kernel_rfl
      rw [← e]
      exact hmg0
    have ea : fa = He.ga K "law" := by
      have q := hmg.symm.trans e.g_law
      cases q
      rfl
    subst ea
    obtain ⟨fd, F⟩ := e.F_law
    refine ⟨K, fd, Wk.mk1 (Wk.sp_law K), KX, fun s v => L2.FunD.bindsA (ps := ["script"]) F (fun _ _ _ _ _ _ us hl => match us, hl with | [_], _ => rfl) s [v] rfl, fun H a ns hl _ hS => ?_, fun base _ _ => Wk.fok_same F (Wk.ok_law (P := (PySem.Challenge.rw_wirespan_k13_piece_frames).prog) (w := w) (base := base) e)⟩
    show Wk.sp_law K _ _ _ _
    unfold Wk.sp_law
    exact ⟨a, ns, rfl, hS, hl, fun _ => rfl⟩


import PyProof.Rows.All
import Wide.All
import OpenK.AllK
import Wide.FinOn
import KE.KStateDown
import Lean
import HandS.ForMost
import HandS.Flow
import HandS.Style
import HandS.IsInst
import HandS.Star
import HandS.Conv
import HandS.Wide
import HandS.WideBits
import HandS.TupAny
import HandS.Exc
import HandS.ExcOwn
import HandS.WordsExc
import HandS.NoneIn
import HandS.RevRange
import HandS.Defaults
import HandS.Head0
import HandS.Head1
import HandS.Head2
import HandS.HeadEnd
import HandS.HeadHook1
import HandS.HeadHook2
import HandS.Property
import HandS.Dict
import HandS.List
import HandS.Text
import HandS.More
import HandS.SortInts
import PyProof.DelItemList
import PySem.Challenge.RW_wirespan_k20_taker_in_order
set_option Elab.async false
set_option linter.all false
set_option maxRecDepth 100000
set_option maxHeartbeats 4000000
namespace Wk
open PySem PySem.Spec PyProof.Rows L2
section
variable {X : Cx}

/-! ### weaker readings -/
theorem peI {e : Expr} {t t' : TE} (h : PE X e t) (w : ∀ σ H Q, t' σ H Q → t σ H Q) : PE X e t' :=
  ⟨fun pins s σ H Q I q => h.run pins s σ H Q I (w σ H Q q)⟩
theorem ptI {e : Expr} {t t' : TT} (h : PT X e t) (w : ∀ σ H Q, t' σ H Q → t σ H Q) : PT X e t' :=
  ⟨fun pins s σ H Q I q => h.run pins s σ H Q I (w σ H Q q)⟩
theorem psI {e : Stmt} {t t' : TS} (h : PS X e t) (w : ∀ D σ H, t' D σ H → t D σ H) : PS X e t' :=
  ⟨fun pins s σ H D I q => h.run pins s σ H D I (w D σ H q)⟩

/-! ### names -/
def cVar (i : Nat) : TE := fun σ H Q => match σ[i]? with
  | some (some v) => Q v H
  | _ => False
theorem cVar_to {i : Nat} {σ : L2.St} {H : Hp} {Q : VK} (q : cVar i σ H Q) : tVar i σ H Q := by
  unfold cVar at q
  split at q
  · exact ⟨_, by assumption, q⟩
  · exact q.elim
theorem pn (i : Nat) {x : Str} {pos : Pos} (hN : X.N[i]? = some x := by rfl) (hv : Vis X.env.scope x := by first | exact Or.inl rfl | exact Or.inr (Or.inl rfl) | exact Or.inr (Or.inr rfl)) (hd : (x == ("__debug__" : Str)) = false := by decide)
    (hcd : (x == ("__classdict__" : Str)) = false := by decide) : PE X (.Name x pos) (cVar i) := peI (pe_var hN hv hd hcd) fun _ _ _ q => cVar_to q

/-! ### operators on values -/
def b2 : Bool → Int
  | true => 1
  | false => 0
@[irreducible] def aAdd (K : PySem.W.Frag) (a b : Addr) (H : Hp) (Q : VK) : Prop := rCat (.ref a) (.ref b) H Q ∨ rCatA K (.ref a) (.ref b) H Q
def uAdd (K : PySem.W.Frag) : R2 := fun x y H Q => match x, y with
  | .int i, .int j => Q (.int (i + j)) H
  | .str a, .str b => a.length + b.length ≤ sizeLine ∧ Q (.str (a ++ b)) H
  | .ref a, .ref b => aAdd K a b H Q
  | _, _ => False
theorem oAdd : OpR X (binaryOp .Add) (uAdd X.K) := by
  intro pins s σ H x y v u Q I rx ry q
  cases x <;> cases y <;> first
    | exact (show False from q).elim
    | exact op_add pins s σ H _ _ v u Q I rx ry ⟨_, _, rfl, rfl, q⟩
    | exact op_add_str pins s σ H _ _ v u Q I rx ry ⟨_, _, rfl, rfl, q.1, q.2⟩
    | (have q2 : aAdd X.K _ _ H Q := q
       unfold aAdd at q2
       rcases q2 with q | q
       · exact op_cat pins s σ H _ _ v u Q I rx ry q
       · exact op_catA pins s σ H _ _ v u Q I rx ry q)
def uSub : R2 := fun x y H Q => match x, y with
  | .int i, .int j => Q (.int (i - j)) H
  | _, _ => False
theorem oSub : OpR X (binaryOp .Sub) uSub := by
  intro pins s σ H x y v u Q I rx ry q
  cases x <;> cases y <;> first
    | exact (show False from q).elim
    | exact op_sub pins s σ H _ _ v u Q I rx ry ⟨_, _, rfl, rfl, q⟩
@[irreducible] def aRep (a : Addr) (k : Int) (H : Hp) (Q : VK) : Prop := rRep (.ref a) (.int k) H Q
def uMul : R2 := fun x y H Q => match x, y with
  | .int i, .int j => (CMul i j ∨ CMulX i j) ∧ Q (.int (i * j)) H
  | .ref a, .int k => aRep a k H Q
  | _, _ => False
theorem oMul : OpR X (binaryOp .Mult) uMul := by
  intro pins s σ H x y v u Q I rx ry q
  cases x <;> cases y <;> first
    | exact (show False from q).elim
    | (obtain ⟨c, q⟩ := q
       rcases c with c | c
       · exact op_mul pins s σ H _ _ v u Q I rx ry ⟨_, _, rfl, rfl, c, q⟩
       · exact op_mulX pins s σ H _ _ v u Q I rx ry ⟨_, _, rfl, rfl, c, q⟩)
    | (have q2 : aRep _ _ H Q := q
       unfold aRep at q2
       exact op_rep pins s σ H _ _ v u Q I rx ry q2)
/-- i // j for 0 < j -/
def DivOk (i j : Int) : Prop := CDiv i j ∨ CDivW i j
def uDiv : R2 := fun x y H Q => match x, y with
  | .int i, .int j => DivOk i j ∧ Q (.int (i / j)) H
  | _, _ => False
theorem oDiv : OpR X (binaryOp .FloorDiv) uDiv := by
  intro pins s σ H x y v u Q I rx ry q
  cases x <;> cases y <;> first
    | exact (show False from q).elim
    | (obtain ⟨c, q⟩ := q
       rcases c with c | c
       · exact op_fdiv pins s σ H _ _ v u Q I rx ry ⟨_, _, rfl, rfl, c, q⟩
       · exact op_fdivW pins s σ H _ _ v u Q I rx ry ⟨_, _, rfl, rfl, c, q⟩)
def uMod : R2 := fun x y H Q => match x, y with
  | .int i, .int j => 0 < j ∧ Q (.int (i % j)) H
  | _, _ => False
theorem oMod : OpR X (binaryOp .Mod) uMod := by
  intro pins s σ H x y v u Q I rx ry q
  cases x <;> cases y <;> first
    | exact (show False from q).elim
    | exact op_mod pins s σ H _ _ v u Q I rx ry ⟨_, _, rfl, rfl, q.1, q.2⟩
/-- i ** j whatever i, if the answer is not too long -/
def CPowW (i j : Int) : Prop := 0 ≤ j ∧ (Builtin.Int.intBits i : Int) * j ≤ 2 ^ 27
theorem op_powW : OpR X (binaryOp .Pow) (rI CPowW fun i j => .int (i ^ j.toNat)) := opI fun _ _ _ _ _ _ _ hc q => pow_int hc.1 hc.2 q
def uPow : R2 := fun x y H Q => match x, y with
  | .int i, .int j => (CPow i j ∨ CPowW i j) ∧ Q (.int (i ^ j.toNat)) H
  | _, _ => False
theorem oPow : OpR X (binaryOp .Pow) uPow := by
  intro pins s σ H x y v u Q I rx ry q
  cases x <;> cases y <;> first
    | exact (show False from q).elim
    | (obtain ⟨c, q⟩ := q
       rcases c with c | c
       · exact op_pow pins s σ H _ _ v u Q I rx ry ⟨_, _, rfl, rfl, c, q⟩
       · exact op_powW pins s σ H _ _ v u Q I rx ry ⟨_, _, rfl, rfl, c, q⟩)
def uShl : R2 := fun x y H Q => match x, y with
  | .int i, .int j => (CPow i j ∨ CShl i j) ∧ Q (.int (i * 2 ^ j.toNat)) H
  | _, _ => False
theorem oShl : OpR X (binaryOp .LShift) uShl := by
  intro pins s σ H x y v u Q I rx ry q
  cases x <;> cases y <;> first
    | exact (show False from q).elim
    | (obtain ⟨c, q⟩ := q
       rcases c with c | c
       · exact op_shl pins s σ H _ _ v u Q I rx ry ⟨_, _, rfl, rfl, c, q⟩
       · exact op_shlW pins s σ H _ _ v u Q I rx ry ⟨_, _, rfl, rfl, c, q⟩)
def uShr : R2 := fun x y H Q => match x, y with
  | .int i, .int j => 0 ≤ j ∧ Q (.int (i / 2 ^ j.toNat)) H
  | _, _ => False
theorem oShr : OpR X (binaryOp .RShift) uShr := by
  intro pins s σ H x y v u Q I rx ry q
  cases x <;> cases y <;> first
    | exact (show False from q).elim
    | exact op_shr pins s σ H _ _ v u Q I rx ry ⟨_, _, rfl, rfl, q.1, q.2⟩
def uI2 (f : Int → Int → Int) : R2 := fun x y H Q => match x, y with
  | .int i, .int j => Q (.int (f i j)) H
  | _, _ => False
theorem oAnd : OpR X (binaryOp .BitAnd) (uI2 Builtin.bitAnd) := by
  intro pins s σ H x y v u Q I rx ry q
  cases x <;> cases y <;> first
    | exact (show False from q).elim
    | exact op_and pins s σ H _ _ v u Q I rx ry ⟨_, _, rfl, rfl, q⟩
theorem oOr : OpR X (binaryOp .BitOr) (uI2 Builtin.bitOr) := by
  intro pins s σ H x y v u Q I rx ry q
  cases x <;> cases y <;> first
    | exact (show False from q).elim
    | exact op_or pins s σ H _ _ v u Q I rx ry ⟨_, _, rfl, rfl, q⟩
theorem oXor : OpR X (binaryOp .BitXor) (uI2 Builtin.bitXor) := by
  intro pins s σ H x y v u Q I rx ry q
  cases x <;> cases y <;> first
    | exact (show False from q).elim
    | exact op_xor pins s σ H _ _ v u Q I rx ry ⟨_, _, rfl, rfl, q⟩
def uNeg : V → Hp → VK → Prop := fun x H Q => match x with
  | .int i => Q (.int (-i)) H
  | _ => False
theorem nNeg : UnR X (unaryOp .USub) uNeg := by
  intro pins s σ H x v Q I rx q
  cases x <;> first
    | exact (show False from q).elim
    | exact un_neg pins s σ H _ v Q I rx ⟨_, rfl, q⟩

/-! ### comparisons -/
@[irreducible] def aLt (K : PySem.W.Frag) (a b : Addr) (H : Hp) (Q : VK) : Prop := rLtT K (.ref a) (.ref b) H Q
def uLt (K : PySem.W.Frag) : R2 := fun x y H Q => match x, y with
  | .int i, .int j => Q (.bl (decide (i < j))) H
  | .ref a, .ref b => aLt K a b H Q
  | _, _ => False
theorem oLt (hu : X.A.units < cLine) : OpR X (compareOp .Lt) (uLt X.K) := by
  intro pins s σ H x y v u Q I rx ry q
  cases x <;> cases y <;> first
    | exact (show False from q).elim
    | exact op_lt pins s σ H _ _ v u Q I rx ry ⟨_, _, rfl, rfl, q⟩
    | (have q2 : aLt X.K _ _ H Q := q
       unfold aLt at q2
       exact op_ltT hu pins s σ H _ _ v u Q I rx ry q2)
def uLe : R2 := fun x y H Q => match x, y with
  | .int i, .int j => Q (.bl (decide (i ≤ j))) H
  | _, _ => False
theorem oLe : OpR X (compareOp .LtE) uLe := by
  intro pins s σ H x y v u Q I rx ry q
  cases x <;> cases y <;> first
    | exact (show False from q).elim
    | exact op_le pins s σ H _ _ v u Q I rx ry ⟨_, _, rfl, rfl, q⟩
def uGt : R2 := fun x y H Q => match x, y with
  | .int i, .int j => Q (.bl (decide (j < i))) H
  | _, _ => False
theorem oGt : OpR X (compareOp .Gt) uGt := by
  intro pins s σ H x y v u Q I rx ry q
  cases x <;> cases y <;> first
    | exact (show False from q).elim
    | exact op_gt pins s σ H _ _ v u Q I rx ry ⟨_, _, rfl, rfl, q⟩
def uGe : R2 := fun x y H Q => match x, y with
  | .int i, .int j => Q (.bl (decide (j ≤ i))) H
  | _, _ => False
theorem oGe : OpR X (compareOp .GtE) uGe := by
  intro pins s σ H x y v u Q I rx ry q
  cases x <;> cases y <;> first
    | exact (show False from q).elim
    | exact op_ge pins s σ H _ _ v u Q I rx ry ⟨_, _, rfl, rfl, q⟩
theorem dI {i j : Int} : decide (V.int i = V.int j) = decide (i = j) := by
  by_cases h : i = j <;> simp [h]
theorem dS {i j : Str} : decide (V.str i = V.str j) = decide (i = j) := by
  by_cases h : i = j <;> simp [h]
theorem dB {i j : Bool} : decide (V.bl i = V.bl j) = decide (i = j) := by
  by_cases h : i = j <;> simp [h]
@[irreducible] def aEq (K : PySem.W.Frag) (x y : V) (H : Hp) (Q : VK) : Prop := rEqD K x y H Q
@[irreducible] def aNe (K : PySem.W.Frag) (x y : V) (H : Hp) (Q : VK) : Prop := rNeD K x y H Q
/-- == of scalars by their values, of anything else as data -/
def uEq (K : PySem.W.Frag) : R2 := fun x y H Q => match x, y with
  | .int i, .int j => Q (.bl (decide (i = j))) H
  | .str i, .str j => Q (.bl (decide (i = j))) H
  | .bl i, .bl j => Q (.bl (decide (i = j))) H
  | .non, .non => Q (.bl true) H
  | .non, .int _ => Q (.bl false) H
  | .int _, .non => Q (.bl false) H
  | .str _, .int _ => Q (.bl false) H
  | .int _, .str _ => Q (.bl false) H
  | .str _, .non => Q (.bl false) H
  | .non, .str _ => Q (.bl false) H
  | x, y => aEq K x y H Q
theorem oEq (hu : X.A.units + 64 < cLine) : OpR X (compareOp .Eq) (uEq X.K) := by
  intro pins s σ H x y v u Q I rx ry q
  cases x <;> cases y <;> first
    | exact op_eq pins s σ H _ _ v u Q I rx ry ⟨rfl, by first | (rw [dI]; exact q) | (rw [dS]; exact q) | (rw [dB]; exact q) | (rw [decide_eq_true rfl]; exact q) | (rw [decide_eq_false (fun z => nomatch z)]; exact q)⟩
    | (have q2 : aEq X.K _ _ H Q := q
       unfold aEq at q2
       exact op_eqD hu pins s σ H _ _ v u Q I rx ry q2)
def uNe (K : PySem.W.Frag) : R2 := fun x y H Q => match x, y with
  | .int i, .int j => Q (.bl (!decide (i = j))) H
  | .str i, .str j => Q (.bl (!decide (i = j))) H
  | .bl i, .bl j => Q (.bl (!decide (i = j))) H
  | .non, .non => Q (.bl false) H
  | .non, .int _ => Q (.bl true) H
  | .int _, .non => Q (.bl true) H
  | .str _, .int _ => Q (.bl true) H
  | .int _, .str _ => Q (.bl true) H
  | .str _, .non => Q (.bl true) H
  | .non, .str _ => Q (.bl true) H
  | x, y => aNe K x y H Q
theorem oNe (hu : X.A.units + 64 < cLine) : OpR X (compareOp .NotEq) (uNe X.K) := by
  intro pins s σ H x y v u Q I rx ry q
  cases x <;> cases y <;> first
    | exact op_ne pins s σ H _ _ v u Q I rx ry ⟨rfl, by first | (rw [dI]; exact q) | (rw [dS]; exact q) | (rw [dB]; exact q) | (rw [decide_eq_true rfl]; exact q) | (rw [decide_eq_false (fun z => nomatch z)]; exact q)⟩
    | (have q2 : aNe X.K _ _ H Q := q
       unfold aNe at q2
       exact op_neD hu pins s σ H _ _ v u Q I rx ry q2)
def isN : V → Bool
  | .non => true
  | _ => false
/-- x is None, and of bools, and of objects -/
def uIs : R2 := fun x y H Q => match y with
  | .non => Q (.bl (isN x)) H
  | .bl b => (match x with
    | .bl a => Q (.bl (decide (a = b))) H
    | _ => False)
  | _ => False
theorem isN_eq {x : V} : decide (x = .non) = isN x := by
  cases x <;> first | rfl | exact decide_eq_false (fun z => nomatch z) | exact decide_eq_true rfl
theorem oIs : OpR X (compareOp .Is) uIs := by
  intro pins s σ H x y v u Q I rx ry q
  cases y <;> first
    | exact (show False from q).elim
    | exact op_isN pins s σ H _ _ v u Q I rx ry ⟨rfl, by rw [isN_eq]; exact q⟩
    | (cases x <;> first
        | exact (show False from q).elim
        | exact op_isBl pins s σ H _ _ v u Q I rx ry ⟨_, _, rfl, rfl, q⟩)
def uIsnt : R2 := fun x y H Q => match y with
  | .non => Q (.bl (!isN x)) H
  | .bl b => (match x with
    | .bl a => Q (.bl (!decide (a = b))) H
    | _ => False)
  | _ => False
theorem oIsnt : OpR X (compareOp .IsNot) uIsnt := by
  intro pins s σ H x y v u Q I rx ry q
  cases y <;> first
    | exact (show False from q).elim
    | exact op_notN pins s σ H _ _ v u Q I rx ry ⟨rfl, by rw [isN_eq]; exact q⟩
    | (cases x <;> first
        | exact (show False from q).elim
        | exact op_notBl pins s σ H _ _ v u Q I rx ry ⟨_, _, rfl, rfl, q⟩)
/-- x in y: a flat list or tuple; a dict; a sign in a text -/
@[irreducible] def uIn (K : PySem.W.Frag) : R2 := fun x y H Q => rIn K false x y H Q ∨ (∃ a o, y = .ref a ∧ DGet H a x o ∧ Q (.bl o.isSome) H) ∨ (∃ (c : Nat) (z : Str), x = .str ⟨#[c]⟩ ∧ y = .str z ∧ Q (.bl (decide (c ∈ z.cps.toList))) H)
theorem oIn (hu : X.A.units + 64 < cLine) : OpR X (compareOp .In) (uIn X.K) := by
  intro pins s σ H x y v u Q I rx ry q
  unfold uIn at q
  rcases q with q | ⟨a, o, e, g, q⟩ | q
  · exact op_in_seq pins s σ H _ _ v u Q I rx ry q
  · subst e
    obtain rfl : u = Value.ref a := ry
    exact d_in (by omega) I g rx fun s' I' => ⟨.bl o.isSome, H, I', rfl, q⟩
  · exact op_in_sign pins s σ H _ _ v u Q I rx ry q
@[irreducible] def uNotIn (K : PySem.W.Frag) : R2 := fun x y H Q => rIn K true x y H Q ∨ (∃ a o, y = .ref a ∧ DGet H a x o ∧ Q (.bl (!o.isSome)) H) ∨ (∃ (c : Nat) (z : Str), x = .str ⟨#[c]⟩ ∧ y = .str z ∧ Q (.bl (!decide (c ∈ z.cps.toList))) H)
theorem oNotIn (hu : X.A.units + 64 < cLine) : OpR X (compareOp .NotIn) (uNotIn X.K) := by
  intro pins s σ H x y v u Q I rx ry q
  unfold uNotIn at q
  rcases q with q | ⟨a, o, e, g, q⟩ | q
  · exact op_notIn_seq pins s σ H _ _ v u Q I rx ry q
  · subst e
    obtain rfl : u = Value.ref a := ry
    exact d_notIn (by omega) I g rx fun s' I' => ⟨.bl (!o.isSome), H, I', rfl, q⟩
  · exact op_notIn_sign pins s σ H _ _ v u Q I rx ry q
end
end Wk

namespace Wk
open PySem PySem.Spec PyProof.Rows L2
section
variable {X : Cx} {a b c e : Expr} {ta tb tc te : TE} {t u : TT} {rest : List Expr} {pos : Pos}

/-! ### tests -/
def cTest (t : TE) : TT := fun σ H Q => t σ H fun x H' => match x with
  | .bl k => Q k H'
  | _ => False
theorem tMono {t : TE} (m : Prop) : True := trivial
theorem test_at {x : V} {H : Hp} {Q : Bool → Hp → Prop} (q : match x with | .bl k => Q k H | _ => False) : ∃ k, x = .bl k ∧ Q k H := by
  cases x <;> first | exact ⟨_, rfl, q⟩ | exact (show False from q).elim
/-- a comparison as a test -/
theorem ct {op : CmpOp} {r : R2} (ho : OpR X (compareOp op) r) (ha : PE X a ta) (hb : PE X b tb) (hm : behindInMarks op b = false := by first | exact nomark _ | rfl) : PT X (.Compare a [op] [b] pos) (cTest (tOp r ta tb)) := by
  refine ⟨fun pins s σ H Q I h => ?_⟩
  refine wpAny_isTrue_Compare1 (thn (ha.run pins s σ H _ I h) fun v s1 ⟨x, H1, I1, r1, q1⟩ => thn (hb.run pins s1 σ H1 _ I1 q1) fun u s2 ⟨y, H2, I2, r2, q2⟩ =>
    thn (ho pins s2 σ H2 x y v u _ I2 r1 r2 q2) fun c s3 ⟨z, H3, I3, r3, q3⟩ => ?_) hm
  obtain ⟨k, e, q3⟩ := test_at q3
  subst e
  cases r3
  exact wpAny_truthy_bool ⟨H3, I3, q3⟩
theorem ce {op : CmpOp} {r : R2} (ho : OpR X (compareOp op) r) (ha : PE X a ta) (hb : PE X b tb) (hm : behindInMarks op b = false := by first | exact nomark _ | rfl) : PE X (.Compare a [op] [b] pos) (tOp r ta tb) := pe_cmpR ho ha hb hm
def cChain (r r' : R2) (ta tb tc : TE) : TE := fun σ H Q => ta σ H fun x H1 => tb σ H1 fun y H2 => r x y H2 fun z H3 => match z with
  | .bl k => if k = true then tc σ H3 fun w' H4 => r' y w' H4 Q else Q (.bl false) H3
  | _ => False
def uMonoR (r : R2) : Prop := ∀ x y H (Q Q' : VK), (∀ v H', Q v H' → Q' v H') → r x y H Q → r x y H Q'
theorem chain_at {z : V} {A : Prop} {B : Prop} (q : match z with | .bl k => if k = true then A else B | _ => False) : ∃ k, z = .bl k ∧ (if k = true then A else B) := by
  cases z <;> first | exact ⟨_, rfl, q⟩ | exact (show False from q).elim
theorem cec {op op' : CmpOp} {r r' : R2} (ho : OpR X (compareOp op) r) (ho' : OpR X (compareOp op') r') (ha : PE X a ta) (hb : PE X b tb) (hc : PE X c tc)
    (hm : lastMarks [op, op'] [b, c] = false := by with_unfolding_all rfl) : PE X (.Compare a [op, op'] [b, c] pos) (cChain r r' ta tb tc) := by
  refine ⟨fun pins s σ H Q I h => ?_⟩
  refine Compare_chain (thn (ha.run pins s σ H _ I h) fun v s1 ⟨x, H1, I1, r1, q1⟩ => chain_link (thn (hb.run pins s1 σ H1 _ I1 q1) fun u s2 ⟨y, H2, I2, r2, q2⟩ =>
    thn (ho pins s2 σ H2 x y v u _ I2 r1 r2 q2) fun d s3 ⟨z, H3, I3, r3, q3⟩ => ?_)) hm
  obtain ⟨k, e, q3⟩ := chain_at q3
  subst e
  cases r3
  refine wpAny_truthy_bool ?_
  cases k with
  | false => exact ite_ff ⟨.bl false, H3, I3, rfl, q3⟩
  | true => exact ite_tt (chain_last (thn (hc.run pins s3 σ H3 _ I3 q3) fun w' s4 ⟨z', H4, I4, r4, q4⟩ => ho' pins s4 σ H4 y z' u w' Q I4 r2 r4 q4))
theorem ctc {op op' : CmpOp} {r r' : R2} (ho : OpR X (compareOp op) r) (ho' : OpR X (compareOp op') r') (ha : PE X a ta) (hb : PE X b tb) (hc : PE X c tc)
    (hm : lastMarks [op, op'] [b, c] = false := by with_unfolding_all rfl) : PT X (.Compare a [op, op'] [b, c] pos) (cTest (cChain r r' ta tb tc)) := by
  refine ⟨fun pins s σ H Q I h => ?_⟩
  refine isTrue_chain (thn (ha.run pins s σ H _ I h) fun v s1 ⟨x, H1, I1, r1, q1⟩ => test_link (thn (hb.run pins s1 σ H1 _ I1 q1) fun u s2 ⟨y, H2, I2, r2, q2⟩ =>
    thn (ho pins s2 σ H2 x y v u _ I2 r1 r2 q2) fun d s3 ⟨z, H3, I3, r3, q3⟩ => ?_)) hm
  obtain ⟨k, e, q3⟩ := chain_at q3
  subst e
  cases r3
  refine wpAny_truthy_bool ?_
  cases k with
  | false =>
    have q' : Q false H3 := q3
    exact ite_ff ⟨H3, I3, q'⟩
  | true =>
    refine ite_tt (test_last (thn (hc.run pins s3 σ H3 _ I3 q3) fun w' s4 ⟨z', H4, I4, r4, q4⟩ => thn (ho' pins s4 σ H4 y z' u w' _ I4 r2 r4 q4) fun d' s5 ⟨z2, H5, I5, r5, q5⟩ => ?_))
    obtain ⟨k2, e2, q5⟩ := test_at q5
    subst e2
    cases r5
    exact wpAny_truthy_bool ⟨H5, I5, q5⟩
@[irreducible] def aTru (K : PySem.W.Frag) (x : V) (H : Hp) (Q : Bool → Prop) : Prop := ∃ k, TruV K x H k ∧ Q k
/-- a value's truth -/
def kTru (K : PySem.W.Frag) (x : V) (H : Hp) (Q : Bool → Prop) : Prop := match x with
  | .bl b => Q b
  | .non => Q false
  | .int i => Q (i != 0)
  | x => aTru K x H Q
theorem kTru_to {K : PySem.W.Frag} {x : V} {H : Hp} {Q : Bool → Prop} (q : kTru K x H Q) : ∃ k, TruV K x H k ∧ Q k := by
  cases x <;> first
    | exact ⟨_, rfl, q⟩
    | (have q2 : aTru K _ H Q := q
       unfold aTru at q2
       exact q2)
/-- any expression as a test, by its truth -/
def cTru (K : PySem.W.Frag) (te : TE) : TT := fun σ H Q => te σ H fun x H1 => kTru K x H1 fun k => Q k H1
theorem tt_ (ha : PE X a ta) (he : ∀ whole, isTrue a X.env whole = (do let v ← whole; standAt a.pos; holding [v] (truthy v)) := by intro _; rfl) : PT X a (cTru X.K ta) := by
  refine ⟨fun pins s σ H Q I h => ?_⟩
  exact isTrue_plain (thn (ha.run pins s σ H _ I h) fun v s1 ⟨x, H1, I1, r1, q1⟩ => tru_ok pins s1 σ H1 x v Q I1 r1 (kTru_to q1)) (he _)

/-! ### and, or, not as values -/
def cAnd (K : PySem.W.Frag) (ta tb : TE) : TE := fun σ H Q => ta σ H fun x H1 => match x with
  | .bl c => if c = true then tb σ H1 Q else Q (.bl false) H1
  | x => ∃ k, TruV K x H1 k ∧ if k = true then tb σ H1 Q else Q x H1
theorem eAnd (ha : PE X a ta) (hb : PE X (.BoolOp .And (b :: rest) pos) tb) : PE X (.BoolOp .And (a :: b :: rest) pos) (cAnd X.K ta tb) := by
  refine ⟨fun pins s σ H Q I h => ?_⟩
  refine BoolOp_and (thn (ha.run pins s σ H _ I h) fun v s1 ⟨x, H1, I1, r1, q1⟩ => ?_)
  have q2 : ∃ k, TruV X.K x H1 k ∧ if k = true then tb σ H1 Q else Q x H1 := by
    cases x <;> first
      | exact q1
      | (rename_i c; refine ⟨c, rfl, ?_⟩; cases c <;> exact q1)
  obtain ⟨k, e, q1⟩ := q2
  refine thn (tru_ok pins s1 σ H1 x v (fun c H2 => c = k ∧ H2 = H1) I1 r1 ⟨k, e, rfl, rfl⟩) fun c s2 hc => ?_
  obtain ⟨H2, I2, e1, e2⟩ := hc
  rw [e2] at I2
  rw [← e1] at q1
  cases c with
  | true => exact hb.run pins s2 σ H1 Q I2 q1
  | false => exact ⟨x, H1, I2, r1, q1⟩
def cOr (K : PySem.W.Frag) (ta tb : TE) : TE := fun σ H Q => ta σ H fun x H1 => match x with
  | .bl c => if c = true then Q (.bl true) H1 else tb σ H1 Q
  | x => ∃ k, TruV K x H1 k ∧ if k = true then Q x H1 else tb σ H1 Q
theorem eOr (ha : PE X a ta) (hb : PE X (.BoolOp .Or (b :: rest) pos) tb) : PE X (.BoolOp .Or (a :: b :: rest) pos) (cOr X.K ta tb) := by
  refine ⟨fun pins s σ H Q I h => ?_⟩
  refine BoolOp_or (thn (ha.run pins s σ H _ I h) fun v s1 ⟨x, H1, I1, r1, q1⟩ => ?_)
  have q2 : ∃ k, TruV X.K x H1 k ∧ if k = true then Q x H1 else tb σ H1 Q := by
    cases x <;> first
      | exact q1
      | (rename_i c; refine ⟨c, rfl, ?_⟩; cases c <;> exact q1)
  obtain ⟨k, e, q1⟩ := q2
  refine thn (tru_ok pins s1 σ H1 x v (fun c H2 => c = k ∧ H2 = H1) I1 r1 ⟨k, e, rfl, rfl⟩) fun c s2 hc => ?_
  obtain ⟨H2, I2, e1, e2⟩ := hc
  rw [e2] at I2
  rw [← e1] at q1
  cases c with
  | true => exact ⟨x, H1, I2, r1, q1⟩
  | false => exact hb.run pins s2 σ H1 Q I2 q1
def cNot (K : PySem.W.Frag) (ta : TE) : TE := fun σ H Q => ta σ H fun x H1 => kTru K x H1 fun k => Q (.bl (!k)) H1
theorem eNot (ha : PE X a ta) : PE X (.UnaryOp .Not a pos) (cNot X.K ta) := by
  refine ⟨fun pins s σ H Q I h => ?_⟩
  refine UnaryOp_ (thn (ha.run pins s σ H _ I h) fun v s1 ⟨x, H1, I1, r1, q1⟩ => ?_)
  obtain ⟨k, e, q1⟩ := kTru_to q1
  exact not_of (thn (tru_ok pins s1 σ H1 x v (fun c H2 => Q (.bl (!c)) H2) I1 r1 ⟨k, e, q1⟩) fun c s2 ⟨H2, I2, q2⟩ => ⟨.bl (!c), H2, I2, rfl, q2⟩)

/-! ### subscripts -/
theorem ix_dict (hu : X.A.units + 1 < cLine) : IxR X (fun x y H Q => ∃ a v, x = .ref a ∧ DGet H a y (some v) ∧ Q v H) := by
  intro value slice pins s σ H x y v u Q I rx ry h hs
  obtain ⟨a, z, rfl, g, q⟩ := h
  obtain rfl : v = Value.ref a := rx
  exact tail_any (dict_typeIs I g) PySem.F.slot_dict_getitem.lookup (d_getItem hu I g ry fun w' s3 I3 rw' => ⟨z, H, I3, rw', q⟩) hs
/-- a[i]: a list's, a tuple's, a text's item; a dict's value -/
@[irreducible] def uIx (K : PySem.W.Frag) : R2 := fun x y H Q => match x, y with
  | .ref p, .int i => (∃ xs v, SqL K H p xs ∧ atI xs i = some v ∧ Q v H) ∨ (∃ xs v, SqT K H p xs ∧ atI xs i = some v ∧ Q v H) ∨ (∃ v, DGet H p (.int i) (some v) ∧ Q v H)
  | .ref p, y => ∃ v, DGet H p y (some v) ∧ Q v H
  | .str z, .int i => ∃ c, z.length ≤ sizeLine ∧ atI z.cps.toList i = some c ∧ Q (.str ⟨#[c]⟩) H
  | _, _ => False
theorem ixU (hu : X.A.units + 64 < cLine) : IxR X (uIx X.K) := by
  intro value slice pins s σ H x y v u Q I rx ry h hs
  unfold uIx at h
  have hu1 : X.A.units + 1 < cLine := by omega
  cases x <;> cases y <;> first
    | exact (show False from h).elim
    | (obtain ⟨c, h1, h2, q⟩ := h
       exact ix_str value slice pins s σ H _ _ v u Q I rx ry ⟨_, _, c, rfl, rfl, h1, h2, q⟩ hs)
    | (obtain ⟨z, g, q⟩ := h
       exact ix_dict hu1 value slice pins s σ H _ _ v u Q I rx ry ⟨_, z, rfl, g, q⟩ hs)
    | (rcases h with ⟨xs, z, h1, h2, q⟩ | ⟨xs, z, h1, h2, q⟩ | ⟨z, g, q⟩
       · exact ix_list value slice pins s σ H _ _ v u Q I rx ry ⟨_, xs, _, z, rfl, rfl, h1, h2, q⟩ hs
       · exact ix_tup value slice pins s σ H _ _ v u Q I rx ry ⟨_, xs, _, z, rfl, rfl, h1, h2, q⟩ hs
       · exact ix_dict hu1 value slice pins s σ H _ _ v u Q I rx ry ⟨_, z, rfl, g, q⟩ hs)
theorem eIx (hu : X.A.units + 64 < cLine) (ha : PE X a ta) (hb : PE X b tb) (hs : PlainIx b := by intro _ _; rfl) : PE X (.Subscript a b pos) (tOp (uIx X.K) ta tb) := pe_ix (ixU hu) ha hb hs
/-- x[lo:hi] -/
@[irreducible] def uSl (K : PySem.W.Frag) : V → Option Int → Option Int → Hp → VK → Prop := fun x lo hi H Q => match x with
  | .ref _ => rSlL K x lo hi H Q ∨ rSlA K x lo hi H Q
  | .str _ => rSlS x lo hi H Q
  | _ => False
theorem slU : SlR X (uSl X.K) := by
  intro pins s σ H x v vl vu lo hi sl Q I rx hs pl pu h
  unfold uSl at h
  cases x <;> first
    | exact (show False from h).elim
    | exact sl_str pins s σ H _ v vl vu lo hi sl Q I rx hs pl pu h
    | (rcases h with h | h
       · exact sl_list pins s σ H _ v vl vu lo hi sl Q I rx hs pl pu h
       · exact sl_tupA pins s σ H _ v vl vu lo hi sl Q I rx hs pl pu h)
/-- the bounds of a slice -/
def cPart (t : TE) : TO := fun σ H Q => t σ H fun x H1 => match x with
  | .int i => Q (some i) H1
  | _ => False
theorem part_at {x : V} {H : Hp} {Q : Option Int → Hp → Prop} (q : match x with | .int i => Q (some i) H | _ => False) : ∃ i, x = .int i ∧ Q (some i) H := by
  cases x <;> first | exact ⟨_, rfl, q⟩ | exact (show False from q).elim
theorem eSome (h : PE X e te) : PO X (some e) (cPart te) := by
  refine ⟨fun pins s σ H Q I hw => ?_⟩
  rw [evalPart_some]
  refine thn (h.run pins s σ H _ I hw) fun u s1 ⟨x, H1, I1, r1, q1⟩ => ?_
  obtain ⟨i, rfl, q⟩ := part_at q1
  obtain ⟨t, rfl⟩ := r1
  exact ⟨some i, H1, I1, .int i t, q⟩
theorem eSl {lo hi : Option Expr} {tl th : TO} {p2 : Pos} (he : PE X e te) (hl : PO X lo tl) (hu : PO X hi th) : PE X (.Subscript e (.Slice lo hi none p2) pos) (tSl (uSl X.K) te tl th) := pe_slice slU he hl hu

/-! ### built-ins by values -/
@[irreducible] def aLen (K : PySem.W.Frag) (p : Addr) (H : Hp) (Q : VK) : Prop := (∃ xs, SqL K H p xs ∧ Q (.int xs.length) H) ∨ (∃ xs, SqT K H p xs ∧ Q (.int xs.length) H) ∨ ∃ kvs, H p = some (.dK kvs) ∧ Q (.int kvs.length) H
@[irreducible] def uLen (K : PySem.W.Frag) : List V → Hp → VK → Prop := fun vs H Q => match vs with
  | [.str y] => y.length ≤ sizeLine ∧ Q (.int y.length) H
  | [.ref p] => aLen K p H Q
  | _ => False
theorem bLen : CallR X (.builtin "len") (uLen X.K) := by
  intro pins s σ H xs us Q I r h
  unfold uLen at h
  split at h
  · exact call_len pins s σ H _ us Q I r ⟨_, _, rfl, ⟨h.1, rfl⟩, h.2⟩
  · unfold aLen at h
    rcases h with ⟨xs, h1, q⟩ | ⟨xs, h1, q⟩ | ⟨kvs, h1, q⟩
    · exact call_len_seq pins s σ H _ us Q I r ⟨_, _, rfl, .inl h1, q⟩
    · exact call_len_seq pins s σ H _ us Q I r ⟨_, _, rfl, .inr h1, q⟩
    · exact call_lenD pins s σ H _ us Q I r ⟨_, _, rfl, h1, q⟩
  · exact h.elim
def uInt : List V → Hp → VK → Prop := fun vs H Q => match vs with
  | [.int i] => Q (.int i) H
  | [.bl k] => Q (.int (b2 k)) H
  | _ => False
theorem bInt : CallR X (.type "int") uInt := by
  intro pins s σ H xs us Q I r h
  unfold uInt at h
  split at h
  · exact call_int1 pins s σ H _ us Q I r (.inl ⟨_, rfl, h⟩)
  · rename_i k
    refine call_int1 pins s σ H _ us Q I r (.inr ⟨k, rfl, ?_⟩)
    cases k <;> exact h
  · exact h.elim
def uAbs : List V → Hp → VK → Prop := fun vs H Q => match vs with
  | [.int i] => Q (.int (i.natAbs : Int)) H
  | _ => False
theorem bAbs : CallR X (.builtin "abs") uAbs := by
  intro pins s σ H xs us Q I r h
  unfold uAbs at h
  split at h
  · rename_i i
    refine call_abs pins s σ H _ us Q I r ⟨i, rfl, ?_⟩
    have e : (if i < 0 then -i else i) = (i.natAbs : Int) := by split <;> omega
    rw [e]
    exact h
  · exact h.elim
def uBool : List V → Hp → VK → Prop := fun vs H Q => match vs with
  | [.int i] => Q (.bl (i != 0)) H
  | [.bl k] => Q (.bl k) H
  | _ => False
theorem bBool : CallR X (.type "bool") uBool := by
  intro pins s σ H xs us Q I r h
  unfold uBool at h
  split at h
  · exact call_bool1 pins s σ H _ us Q I r (.inl ⟨_, rfl, h⟩)
  · exact call_bool1 pins s σ H _ us Q I r (.inr ⟨_, rfl, h⟩)
  · exact h.elim
@[irreducible] def uList (K : PySem.W.Frag) : List V → Hp → VK → Prop := fun vs H Q => match vs with
  | [.ref p] => (∃ ys, (SqL K H p ys ∨ SqT K H p ys) ∧ ∀ l, H l = none → Q (.ref l) (upd H l (.lst ys))) ∨ (∃ kvs, H p = some (.dK kvs) ∧ ∀ q, H q = none → Q (.ref q) (upd H q (.lst (kvs.map fun kv => kV kv.1)))) ∨
      ∃ kvs, Rd H p (.dT kvs) ∧ ∀ q bs, H q = none → IsKeys H kvs bs → Q (.ref q) (upd H q (.lst (bs.map V.ref)))
  | _ => False
theorem bList (hc : X.calm = true) : CallR X (.type "list") (uList X.K) := by
  intro pins s σ H xs us Q I r h
  unfold uList at h
  split at h
  · rcases h with ⟨ys, h1, q⟩ | ⟨kvs, h1, q⟩ | ⟨kvs, h1, q⟩
    · exact call_list_of pins s σ H _ us Q I r ⟨_, ys, rfl, h1, q⟩
    · exact call_list_dK hc pins s σ H _ us Q I r ⟨_, kvs, rfl, h1, q⟩
    · exact call_list_dT hc pins s σ H _ us Q I r ⟨_, kvs, rfl, h1, q⟩
  · exact h.elim
@[irreducible] def uTuple (K : PySem.W.Frag) : List V → Hp → VK → Prop := fun vs H Q => match vs with
  | [.ref p] => (∃ ys, SqL K H p ys ∧ ∀ l, H l = none → Q (.ref l) (upd H l (.tup ys))) ∨ (∃ ys, SqT K H p ys ∧ Q (.ref p) H)
  | _ => False
theorem bTuple : CallR X (.type "tuple") (uTuple X.K) := by
  intro pins s σ H xs us Q I r h
  unfold uTuple at h
  split at h
  · rcases h with ⟨ys, h1, q⟩ | ⟨ys, h1, q⟩
    · exact call_tuple_of pins s σ H _ us Q I r ⟨_, ys, rfl, .inl ⟨h1, q⟩⟩
    · exact call_tuple_of pins s σ H _ us Q I r ⟨_, ys, rfl, .inr ⟨h1, q⟩⟩
  · exact h.elim
def uMin2 : List V → Hp → VK → Prop := fun vs H Q => match vs with
  | [.int i, .int j] => Q (.int (min i j)) H
  | _ => False
theorem bMin2 (hc : X.calm = true) : CallR X (.builtin "min") uMin2 := by
  intro pins s σ H xs us Q I r h
  unfold uMin2 at h
  split at h
  · rename_i i j
    refine call_min2 hc pins s σ H _ us Q I r ⟨i, j, rfl, ?_⟩
    have e : (if j < i then j else i) = min i j := by split <;> omega
    rw [e]
    exact h
  · exact h.elim
def uMax2 : List V → Hp → VK → Prop := fun vs H Q => match vs with
  | [.int i, .int j] => Q (.int (max i j)) H
  | _ => False
theorem bMax2 (hc : X.calm = true) : CallR X (.builtin "max") uMax2 := by
  intro pins s σ H xs us Q I r h
  unfold uMax2 at h
  split at h
  · rename_i i j
    refine call_max2 hc pins s σ H _ us Q I r ⟨i, j, rfl, ?_⟩
    have e : (if j > i then j else i) = max i j := by split <;> omega
    rw [e]
    exact h
  · exact h.elim

/-! ### isinstance(x, T), T a built-in type -/
/-- the kinds of an address -/
inductive Knd where
  | lst | tup | dict | ins (C : Addr)
def Kd (K : PySem.W.Frag) (H : Hp) (a : Addr) : Knd → Prop
  | .lst => ∃ xs, SqL K H a xs
  | .tup => ∃ xs, SqT K H a xs
  | .dict => (∃ kvs, Rd H a (.dK kvs)) ∨ ∃ kvs, H a = some (.dT kvs)
  | .ins _ => False
def Knd.ty : Knd → Value
  | .lst => .type "list"
  | .tup => .type "tuple"
  | .dict => .type "dict"
  | .ins C => .ref C
theorem Kd.tyx {K : PySem.W.Frag} {H : Hp} {a : Addr} : ∀ {k : Knd}, Kd K H a k → TyX K H (.ref a) k.ty
  | .lst, h => by
    obtain ⟨xs, (h | ⟨o, h⟩) | ⟨o, its, n, h1, h2, _⟩⟩ := h
    · exact .base (.lst h)
    · exact .base (.frz h)
    · exact .kList h1 h2
  | .tup, h => by
    obtain ⟨xs, (h | ⟨o, h⟩) | ⟨o, its, n, h1, h2, _⟩⟩ := h
    · exact .base (.tup h)
    · exact .fTuple h
    · exact .kTuple h1 h2
  | .dict, h => by
    rcases h with ⟨kvs, h | ⟨o, h⟩⟩ | ⟨kvs, h⟩
    · exact .base (.dK h)
    · exact .fDict h
    · exact .base (.dT h)
  | .ins _, h => h.elim
/-- what isinstance says of a kind: of int, bool, str, None, list, tuple, dict -/
structure IsiT where
  T : String
  int : Bool
  bl : Bool
  str : Bool
  non : Bool
  lst : Bool
  tup : Bool
  dict : Bool
def IsiT.of (t : IsiT) : Knd → Bool
  | .lst => t.lst
  | .tup => t.tup
  | .dict => t.dict
  | .ins _ => false
def IsiT.good (t : IsiT) : Bool := kitB "int" t.T == some t.int && kitB "bool" t.T == some t.bl && kitB "str" t.T == some t.str && kitB "NoneType" t.T == some t.non && kitB "list" t.T == some t.lst && kitB "tuple" t.T == some t.tup && kitB "dict" t.T == some t.dict
@[irreducible] def aIsi (K : PySem.W.Frag) (t : IsiT) (a : Addr) (H : Hp) (Q : VK) : Prop := (∃ k, Kd K H a k ∧ Q (.bl (t.of k)) H) ∨ ∃ ty b, TyX K H (.ref a) ty ∧ PySem.W.kitOne K ty (.type t.T) = some b ∧ Q (.bl b) H
def uIsi (K : PySem.W.Frag) (t : IsiT) (x : V) (H : Hp) (Q : VK) : Prop := match x with
  | .int _ => Q (.bl t.int) H
  | .bl _ => Q (.bl t.bl) H
  | .str _ => Q (.bl t.str) H
  | .non => Q (.bl t.non) H
  | .ref a => aIsi K t a H Q
  | _ => False
theorem isi_to {K : PySem.W.Frag} {t : IsiT} {x : V} {H : Hp} {Q : VK} (g : t.good = true) (h : uIsi K t x H Q) : rIsi K [x, .ty t.T] H Q := by
  unfold IsiT.good at g
  simp only [Bool.and_eq_true, beq_iff_eq] at g
  obtain ⟨⟨⟨⟨⟨⟨g1, g2⟩, g3⟩, g4⟩, g5⟩, g6⟩, g7⟩ := g
  cases x with
  | int i => exact ⟨_, _, _, _, _, rfl, .ty _, .base (.int i), kit_ty g1, h⟩
  | bl i => exact ⟨_, _, _, _, _, rfl, .ty _, .base (.bl i), kit_ty g2, h⟩
  | str i => exact ⟨_, _, _, _, _, rfl, .ty _, .base (.str i), kit_ty g3, h⟩
  | non => exact ⟨_, _, _, _, _, rfl, .ty _, .base .non, kit_ty g4, h⟩
  | ref a =>
    have h : aIsi K t a H Q := h
    unfold aIsi at h
    rcases h with ⟨k, hk, q⟩ | ⟨ty, b, h1, h2, q⟩
    · cases k with
      | lst => exact ⟨_, _, _, _, _, rfl, .ty _, hk.tyx, kit_ty g5, q⟩
      | tup => exact ⟨_, _, _, _, _, rfl, .ty _, hk.tyx, kit_ty g6, q⟩
      | dict => exact ⟨_, _, _, _, _, rfl, .ty _, hk.tyx, kit_ty g7, q⟩
      | ins C => exact hk.elim
    · exact ⟨_, _, _, _, _, rfl, .ty _, h1, h2, q⟩
  | _ => exact (show False from h).elim
abbrev isiInt : IsiT := ⟨"int", true, true, false, false, false, false, false⟩
abbrev isiBool : IsiT := ⟨"bool", false, true, false, false, false, false, false⟩
abbrev isiStr : IsiT := ⟨"str", false, false, true, false, false, false, false⟩
abbrev isiList : IsiT := ⟨"list", false, false, false, false, true, false, false⟩
abbrev isiTuple : IsiT := ⟨"tuple", false, false, false, false, false, true, false⟩
abbrev isiDict : IsiT := ⟨"dict", false, false, false, false, false, false, true⟩
theorem isiInt_ok : isiInt.good = true := by decide +kernel
theorem isiBool_ok : isiBool.good = true := by decide +kernel
theorem isiStr_ok : isiStr.good = true := by decide +kernel
theorem isiList_ok : isiList.good = true := by decide +kernel
theorem isiTuple_ok : isiTuple.good = true := by decide +kernel
theorem isiDict_ok : isiDict.good = true := by decide +kernel
def cIsi (K : PySem.W.Frag) (t : IsiT) (ta : TE) : TE := fun σ H Q => ta σ H fun x H1 => uIsi K t x H1 Q
theorem peC {e : Expr} {t t' : TE} (h : PE X e t) (w : ∀ σ H Q, t' σ H Q → t σ H Q) : PE X e t' := peI h w
theorem eIsi {t : IsiT} {x : Str} {p p2 pos : Pos} (g : t.good = true) (hg : Gl X "isinstance") (hm : X.mg "isinstance" = none) (ha : PE X a ta) (hg2 : Gl X x) (hm2 : X.mg x = none) (hv : bootBuiltins x = some (.type t.T)) (hn : x ≠ "__name__" := by decide) (hd : (x == ("__debug__" : Str)) = false := by decide)
    (hs : starEach [a, .Name x p2] X.env = (false, eval a X.env) :: starEach [.Name x p2] X.env := by rfl) (hpl : (backTo pos (starEach [.Name x p2] X.env)).any (·.1) = false := by rfl) (hs2 : starEach [.Name x p2] X.env = (false, eval (.Name x p2) X.env) :: starEach [] X.env := by rfl) :
    PE X (.Call (.Name "isinstance" p) [a, .Name x p2] [] pos) (cIsi X.K t ta) := by
  refine ⟨fun pins s σ H Q I h => ?_⟩
  have hb : PE X (.Name x p2) (tC (.ty t.T)) := pe_bltn hg2 hm2 hv rfl hn hd
  have hr : CallR X (.builtin "isinstance") (rIsi X.K) := call_isi
  have ha2 : PA X [a, .Name x p2] (fun σ H Q => ta σ H fun x H1 => Q [x, .ty t.T] H1) := ⟨fun ps pins s σ H Q I h => (pa_cons ha (pa_cons hb pa_nil hs2) hs).run ps pins s σ H Q I h⟩
  have hv0 : bootBuiltins "isinstance" = some (.builtin "isinstance") := by decide +kernel
  refine (pe_callB (id := "isinstance") (r := fun vs H Q => match vs with | [x, .ty T] => T = t.T ∧ uIsi X.K t x H Q | _ => False) ?_ hg hm hv0 ha2 (by decide) (by decide) hs hpl).run pins s σ H Q I ?_
  · intro pins s σ H xs us Q I r h
    split at h
    · obtain ⟨rfl, h⟩ := h
      exact hr pins s σ H _ us Q I r (isi_to g h)
    · exact h.elim
  · have mono : ∀ σ H, ta σ H (fun x H1 => uIsi X.K t x H1 Q) → tCB (fun vs H Q => match vs with | [x, .ty T] => T = t.T ∧ uIsi X.K t x H Q | _ => False) (fun σ H Q => ta σ H fun x H1 => Q [x, .ty t.T] H1) σ H Q := fun σ H h => by
      unfold tCB
      have e : (fun (x : V) (H1 : Hp) => uIsi X.K t x H1 Q) = fun x H1 => (t.T = t.T ∧ uIsi X.K t x H1 Q) := by
        funext x H1
        exact propext ⟨fun h => ⟨rfl, h⟩, fun h => h.2⟩
      rw [e] at h
      exact h
    exact mono σ H h
end
end Wk

namespace Wk
open PySem PySem.Spec PyProof.Rows L2
section
variable {X : Cx} {tg : Expr}
/-! ### what a for walks -/
@[irreducible] def aSeq (K : PySem.W.Frag) (a : Addr) (H : Hp) (R : It → Hp → Prop) : Prop := (∃ xs, SqL K H a xs ∧ R (Itl K a) H) ∨ (∃ xs, SqT K H a xs ∧ R (Itt K a) H)
def iSeq (K : PySem.W.Frag) (tl : TE) : TI := fun σ H R => tl σ H fun x H1 => match x with
  | .ref a => aSeq K a H1 R
  | .str z => R (Its z) H1
  | _ => False
theorem fSeq {l : Expr} {tl : TE} (hl : PE X l tl) : PI X tg l (iSeq X.K tl) := by
  refine ⟨fun pins s σ H R I h => ?_⟩
  refine thn (hl.run pins s σ H _ I h) fun v s1 ⟨x, H1, I1, r1, q1⟩ => ?_
  cases x with
  | ref a =>
    have q1 : aSeq X.K a H1 R := q1
    unfold aSeq at q1
    rcases q1 with ⟨xs, hq, q⟩ | ⟨xs, hq, q⟩
    · cases r1
      obtain ⟨its, rv, p, hz⟩ := I1.list hq
      refine wpAny_pyIter_list p.isList ?_
      refine ⟨s1.heap.objs.size, [s1.heap.objs.size], _, _, H1, rfl, I1.kept (t' := s1.toks) fun b o e => Heap.get?_push_of_some _ e, turn_list a _, ⟨_, Heap.get?_push_size _ rfl, rfl, rfl⟩, fun b hb => ?_, q⟩
      have e : b = s1.heap.objs.size := by simpa using hb
      subst e
      exact I1.fpOk (Nat.le_refl _) (I1.hok.fresh (Nat.le_refl _))
    · cases r1
      obtain ⟨its, rv, p, hz⟩ := I1.tuple hq
      refine wpAny_pyIter_tuple (show s1.heap.IsTuple a its.toArray from p) ?_
      refine ⟨s1.heap.objs.size, [s1.heap.objs.size], _, _, H1, rfl, I1.kept (t' := s1.toks) fun b o e => Heap.get?_push_of_some _ e, turn_tuple a _, ⟨_, Heap.get?_push_size _ rfl, rfl, rfl⟩, fun b hb => ?_, q⟩
      have e : b = s1.heap.objs.size := by simpa using hb
      subst e
      exact I1.fpOk (Nat.le_refl _) (I1.hok.fresh (Nat.le_refl _))
  | str z =>
    obtain ⟨t, rfl⟩ := r1
    cases ha : z.cps.all (· < 128)
    · exact wpAny_pyIter_wide ha (pi_one (tk := s1.toks) I1 _ (turn_str _ z t "str_iterator" (.inr rfl)) ⟨_, Heap.get?_push_size _ rfl, rfl, rfl⟩ q1)
    · exact wpAny_pyIter_ascii ha (pi_one (tk := s1.toks) I1 _ (turn_str _ z t "str_ascii_iterator" (.inl rfl)) ⟨_, Heap.get?_push_size _ rfl, rfl, rfl⟩ q1)
  | _ => exact (show False from q1).elim
def iR1 (ta : TA) : TI := fun σ H R => ta σ H fun vs H1 => match vs with
  | [.int j] => (-(2 ^ 62) ≤ j ∧ j < 2 ^ 62) ∧ R (Itr 0 j.toNat) H1
  | _ => False
def iR2 (ta : TA) : TI := fun σ H R => ta σ H fun vs H1 => match vs with
  | [.int i, .int j] => (-(2 ^ 62) ≤ i ∧ i < 2 ^ 62 ∧ -(2 ^ 62) ≤ j ∧ j < 2 ^ 62) ∧ R (Itr i (j - i).toNat) H1
  | _ => False
def iR3 (ta : TA) : TI := fun σ H R => ta σ H fun vs H1 => match vs with
  | [.int i, .int j, .int c] => ∃ n, RgC i j c n ∧ R (Itc i c n) H1
  | _ => False
variable {a b c : Expr} {ta : TA} {p pos : Pos}
theorem fR1 (hg : Gl X "range") (hm : X.mg "range" = none) (ha : PA X [a] ta) (hs : starEach [a] X.env = [(false, eval a X.env)] := by rfl) : PI X tg (.Call (.Name "range" p) [a] [] pos) (iR1 ta) := by
  refine ⟨fun pins s σ H R I h => ?_⟩
  refine Call_ (ld_blt I hg hm boot_range (PyProof.Rows.callWith_type1 (thn (ha.run pos pins s σ H _ I h) fun us s1 ⟨vs, H1, I1, r1, q1⟩ => ?_) hs rfl))
  dsimp only at q1
  split at q1
  · obtain ⟨⟨q1, q2⟩, q⟩ := q1
    cases r1 with
    | cons r rr =>
      cases rr
      obtain ⟨t, rfl⟩ := r
      exact call_range_1 (range_it I1 (by omega) (by omega) q1 q2 (by simpa using q))
  · exact q1.elim
theorem fR2 (hg : Gl X "range") (hm : X.mg "range" = none) (ha : PA X [a, b] ta) (hs : starEach [a, b] X.env = [(false, eval a X.env), (false, eval b X.env)] := by rfl) (hs2 : starEach [b] X.env = [(false, eval b X.env)] := by rfl) :
    PI X tg (.Call (.Name "range" p) [a, b] [] pos) (iR2 ta) := by
  refine ⟨fun pins s σ H R I h => ?_⟩
  refine Call_ (ld_blt I hg hm boot_range (PyProof.Rows.callWith_type1 (thn (ha.run pos pins s σ H _ I h) fun us s1 ⟨vs, H1, I1, r1, q1⟩ => ?_) (by rw [hs, hs2]) (by rw [hs2]; rfl)))
  dsimp only at q1
  split at q1
  · obtain ⟨⟨q1, q2, q3, q4⟩, q⟩ := q1
    cases r1 with
    | cons r rr =>
      cases rr with
      | cons r' rr =>
        cases rr
        obtain ⟨t, rfl⟩ := r
        obtain ⟨t', rfl⟩ := r'
        exact call_range_2 (range_it I1 q1 q2 q3 q4 q)
  · exact q1.elim
theorem fR3 (hg : Gl X "range") (hm : X.mg "range" = none) (ha : PA X [a, b, c] ta)
    (hs : starEach [a, b, c] X.env = (false, eval a X.env) :: starEach [b, c] X.env := by rfl) (hpl : (backTo pos (starEach [b, c] X.env)).any (·.1) = false := by rfl) :
    PI X tg (.Call (.Name "range" p) [a, b, c] [] pos) (iR3 ta) := by
  have h0 := pi_range3 (X := X) (tg := tg) (p := p) hg hm ha hs hpl
  have g : PA X [a, b, c] (fun σ H Q => ta σ H fun vs H1 => match vs with | [.int i, .int j, .int k] => Q [.int i, .int j, .int k] H1 | _ => False) := ⟨fun ps pins s σ H Q I h => thn (ha.run ps pins s σ H _ I h) fun us s1 ⟨vs, H1, I1, r1, q1⟩ => by
    dsimp only at q1
    split at q1
    · exact ⟨_, H1, I1, r1, q1⟩
    · exact q1.elim⟩
  have h1 := pi_range3 (X := X) (tg := tg) (p := p) hg hm g hs hpl
  refine ⟨fun pins s σ H R I h => h1.run pins s σ H R I ?_⟩
  have e : (fun (vs : List V) (H1 : Hp) => match vs with
    | [.int i, .int j, .int c] => ∃ n, RgC i j c n ∧ R (Itc i c n) H1
    | _ => False) = fun vs H1 => (match vs with | [.int i, .int j, .int k] => (∃ (i' j' c' : Int) (n : Nat), [V.int i, .int j, .int k] = [.int i', .int j', .int c'] ∧ RgC i' j' c' n ∧ R (Itc i' c' n) H1) | _ => False) := by
    funext vs H1
    split
    · refine propext ⟨fun ⟨n, h1, h2⟩ => ⟨_, _, _, n, rfl, h1, h2⟩, fun ⟨i', j', c', n, e, h1, h2⟩ => ?_⟩
      injection e with e1 e
      injection e with e2 e
      injection e with e3 e
      injection e1 with e1
      injection e2 with e2
      injection e3 with e3
      subst e1 e2 e3
      exact ⟨n, h1, h2⟩
    · rfl
  show ta σ H (fun vs H1 => (match vs with | [.int i, .int j, .int k] => (∃ (i' j' c' : Int) (n : Nat), [V.int i, .int j, .int k] = [.int i', .int j', .int c'] ∧ RgC i' j' c' n ∧ R (Itc i' c' n) H1) | _ => False))
  rw [← e]
  exact h

/-! ### targets -/
/-- a slot stored; the row of slots stays written out -/
def setK : List (Option V) → Nat → Option V → (List (Option V) → Prop) → Prop
  | [], _, _, k => k []
  | _ :: l, 0, v, k => k (v :: l)
  | a :: l, i + 1, v, k => setK l i v fun l' => k (a :: l')
theorem setK_eq : ∀ (l : List (Option V)) (i : Nat) (v : Option V) (k : List (Option V) → Prop), setK l i v k = k (l.set i v)
  | [], _, _, _ => rfl
  | _ :: _, 0, _, _ => rfl
  | a :: l, i + 1, v, k => by
    show setK l i v (fun l' => k (a :: l')) = _
    rw [setK_eq l i v]
    rfl
def gNm (i : Nat) : TG := fun v σ H Q => setK σ i (some v) fun σ' => Q σ' H
theorem gNm_eq (i : Nat) : gNm i = gName i := by
  funext v σ H Q
  unfold gNm gName
  rw [setK_eq]
theorem tNm {X : Cx} {i : Nat} {x : Str} {pos : Pos} (hN : X.N.Nodup) (hi : X.N[i]? = some x) (hx : Loc X.env.scope x) (hf : X.fn x = true ∨ X.env.scope.names.lookup x = some .local := by first | exact .inl rfl | exact .inr rfl | assumption) : PG X (.Name x pos) (gNm i) := by
  rw [gNm_eq]
  exact pg_name hN hi hx hf
theorem sSet {X : Cx} {i : Nat} {x : Str} {e : Expr} {te : TE} {pos pos' : Pos} (hN : X.N.Nodup) (hi : X.N[i]? = some x) (hx : Loc X.env.scope x) (he : PE X e te) (hs : swapsWith e (some (.Name x pos')) pos.line X.env = pure false := by rfl) (hf : X.fn x = true ∨ X.env.scope.names.lookup x = some .local := by first | exact .inl rfl | exact .inr rfl | assumption) :
    PS X (.Assign [.Name x pos'] e pos) (tAsg te (gNm i)) := by
  rw [gNm_eq]
  exact ps_set hN hi hx he hs hf
theorem wipe1 (σ : L2.St) (i : Nat) : wipe σ [i] = σ.set i none := rfl
/-- the run of a comprehension, of a loop: opaque, their rules are below -/
@[irreducible] def lcI (J : It) (g : TG) (tt : TT) (te : TE) (vs : List Nat) (σ : L2.St) (Q : VK) (H1 : Hp) : Prop := ∀ D, H1 D = none → ∃ W : Nat → Nat → Hp → Prop, (∃ m, W 0 m (upd H1 D (.lst []))) ∧ ∀ k m H, W k m H →
  (J.stop k H ∧ Q (.ref D) H) ∨ (J.go k H ∧ ∃ Nx : Hp → Prop, (∀ H', Nx H' → ∃ m', m' < m ∧ W (k + 1) m' H') ∧ ∀ x H', J.yld k H x H' → g x (wipe σ vs) H' fun σ2 H2 => wipe σ2 vs = wipe σ vs ∧ tt σ2 H2 fun b H3 =>
    if b = true then te σ2 H3 fun y H4 => ∃ acc, H4 D = some (.lst acc) ∧ acc.length < sizeLine ∧ Nx (upd H4 D (.lst (acc ++ [y]))) else Nx H3)
def cLc (wi : TI) (g : TG) (tt : TT) (te : TE) (vs : List Nat) : TE := fun σ H Q => wi σ H fun J H1 => lcI J g tt te vs σ Q H1
theorem cLc_eq (wi : TI) (g : TG) (tt : TT) (te : TE) (vs : List Nat) : cLc wi g tt te vs = tLc wi g tt te vs := by
  unfold cLc tLc lcI
  rfl
@[irreducible] def forI (J : It) (g : TG) (tb : TS) (D : Ends) (σ : L2.St) (H1 : Hp) : Prop := ∃ W : Nat → Nat → L2.St → Hp → Prop, (∃ m, W 0 m σ H1) ∧ ∀ i m σ H, W i m σ H →
  (J.stop i H ∧ D.nx σ H) ∨ (J.go i H ∧ ∃ N : L2.St → Hp → Prop, (∀ σ' H', N σ' H' → ∃ m', m' < m ∧ W (i + 1) m' σ' H') ∧ ∀ x H', J.yld i H x H' → g x σ H' fun σ2 H2 => tb { D with nx := N, ct := N, bk := D.nx } σ2 H2)
def cFor (wi : TI) (g : TG) (tb : TS) : TS := fun D σ H => wi σ H fun J H1 => forI J g tb D σ H1
theorem cFor_eq (wi : TI) (g : TG) (tb : TS) : cFor wi g tb = tFor wi g tb := by
  unfold cFor tFor forI
  rfl
theorem sFor {X : Cx} {tg : Expr} {iter : Expr} {body : List Stmt} {wi : TI} {g : TG} {tb : TS} {pos : Pos} (hp : PassesOwn (model X.prog X.w) X.A X.env X.xe) (hc : X.calm = true) (hi : PI X tg iter wi) (hg : PG X tg g) (hb : PSs X body tb)
    (hs : ∀ x, foldedSetIterable iter X.env x = pure x := by intro _; rfl) : PS X (.For tg iter body [] pos) (cFor wi g tb) := by
  rw [cFor_eq]
  exact ps_for hp hc hi hg hb hs
theorem eLc {X : Cx} {elt tg iter : Expr} {ifs : List Expr} {scope : Scope} {own : List (Str × Nat)} {pos : Pos} {wi : TI} {g : TG} {tt : TT} {te : TE} (hc : X.calm = true) (hN : X.N.Nodup) (hi : PI X tg iter wi) (ok : BlkOk X.N X.env.scope scope own)
    (hg : ∀ (s : Shared) (H : Hp) (C : Addr) (cl : List (Str × Addr)) (fp : List Addr), PG (X.blk s H scope (compEnvC scope cl C X.env) fp) tg g) (ht : ∀ (s : Shared) (H : Hp) (C : Addr) (cl : List (Str × Addr)) (fp : List Addr), PTs (X.blk s H scope (compEnvC scope cl C X.env) fp) ifs tt)
    (he : ∀ (s : Shared) (H : Hp) (C : Addr) (cl : List (Str × Addr)) (fp : List Addr), PE (X.blk s H scope (compEnvC scope cl C X.env) fp) elt te) (hs : ∀ x, foldedSetIterable iter X.env x = pure x := by intro _; rfl) :
    PE X (.ListComp elt [⟨tg, iter, ifs, 0⟩] scope pos) (cLc wi g tt te (own.map (·.2))) := by
  rw [cLc_eq]
  exact pe_lc hc hN hi ok hg ht he hs
theorem sSetLc {X : Cx} {i : Nat} {y : Str} {py : Pos} {elt tg iter : Expr} {ifs : List Expr} {scope : Scope} {own : List (Str × Nat)} {pos spos : Pos} {wi : TI} {g : TG} {tt : TT} {te : TE} (hc : X.calm = true) (hN : X.N.Nodup) (hy : X.N[i]? = some y) (hyl : X.env.scope.names.lookup y = some .local)
    (hsw : swapsWith (.ListComp elt [⟨tg, iter, ifs, 0⟩] scope pos) (some (.Name y py)) spos.line X.env = pure true) (hi : PI X tg iter wi) (ok : BlkOk X.N X.env.scope scope own)
    (hg : ∀ (s : Shared) (H : Hp) (C : Addr) (cl : List (Str × Addr)) (fp : List Addr), PG (X.blk s H scope (compEnvC scope cl C X.env) fp) tg g) (ht : ∀ (s : Shared) (H : Hp) (C : Addr) (cl : List (Str × Addr)) (fp : List Addr), PTs (X.blk s H scope (compEnvC scope cl C X.env) fp) ifs tt)
    (he : ∀ (s : Shared) (H : Hp) (C : Addr) (cl : List (Str × Addr)) (fp : List Addr), PE (X.blk s H scope (compEnvC scope cl C X.env) fp) elt te) (hs : ∀ x, foldedSetIterable iter X.env x = pure x := by intro _; rfl) :
    PS X (.Assign [.Name y py] (.ListComp elt [⟨tg, iter, ifs, 0⟩] scope pos) spos) (tAsg (cLc wi g tt te (own.map (·.2))) (gNm i)) := by
  rw [gNm_eq, cLc_eq]
  exact ps_setLc hc hN hy hyl hsw hi ok hg ht he hs
theorem forR {lo : Int} {n : Nat} {g : TG} {tb : TS} {D : Ends} {σ : L2.St} {H : Hp} (Pv : Nat → L2.St → Hp → Prop) (h0 : Pv 0 σ H)
    (hs : ∀ i σ H, i < n → Pv i σ H → g (.int (lo + (i : Nat))) σ H fun σ2 H2 => tb { D with nx := Pv (i + 1), ct := Pv (i + 1), bk := D.nx } σ2 H2) (hd : ∀ σ H, Pv n σ H → D.nx σ H) : forI (Itr lo n) g tb D σ H := by
  unfold forI
  exact for_range Pv h0 hs hd
theorem forR0 {n : Nat} {g : TG} {tb : TS} {D : Ends} {σ : L2.St} {H : Hp} (Pv : Nat → L2.St → Hp → Prop) (h0 : Pv 0 σ H)
    (hs : ∀ i σ H, i < n → Pv i σ H → g (.int (i : Nat)) σ H fun σ2 H2 => tb { D with nx := Pv (i + 1), ct := Pv (i + 1), bk := D.nx } σ2 H2) (hd : ∀ σ H, Pv n σ H → D.nx σ H) : forI (Itr 0 n) g tb D σ H :=
  forR Pv h0 (fun i σ H h p => by rw [Int.zero_add]; exact hs i σ H h p) hd
theorem forRC {lo c : Int} {n : Nat} {g : TG} {tb : TS} {D : Ends} {σ : L2.St} {H : Hp} (Pv : Nat → L2.St → Hp → Prop) (h0 : Pv 0 σ H)
    (hs : ∀ i σ H, i < n → Pv i σ H → g (.int (lo + (i : Nat) * c)) σ H fun σ2 H2 => tb { D with nx := Pv (i + 1), ct := Pv (i + 1), bk := D.nx } σ2 H2) (hd : ∀ σ H, Pv n σ H → D.nx σ H) : forI (Itc lo c n) g tb D σ H := by
  unfold forI
  exact for_rangeC Pv h0 hs hd
/-- a comprehension over a range, its target a name -/
theorem lcR {lo c : Int} {n : Nat} {tt : TT} {te : TE} {i : Nat} {σ : L2.St} {H1 : Hp} {Q : VK} (Pv : Addr → Nat → Hp → Prop) (h0 : ∀ D, H1 D = none → Pv D 0 (upd H1 D (.lst [])))
    (hs : ∀ D k H, k < n → Pv D k H → setK σ i (some (.int (lo + (k : Nat) * c))) fun σ2 => tt σ2 H fun b H3 =>
      if b = true then te σ2 H3 fun y H4 => ∃ acc, H4 D = some (.lst acc) ∧ acc.length < sizeLine ∧ Pv D (k + 1) (upd H4 D (.lst (acc ++ [y]))) else Pv D (k + 1) H3) (hd : ∀ D H, Pv D n H → Q (.ref D) H) :
    lcI (Itc lo c n) (gNm i) tt te [i] σ Q H1 := by
  unfold lcI
  intro D hD
  refine ⟨fun k m H => m = n - k ∧ k ≤ n ∧ Pv D k H, ⟨n, by simp, Nat.zero_le _, h0 D hD⟩, ?_⟩
  rintro k m H ⟨rfl, hi, p⟩
  by_cases hlt : k < n
  · refine .inr ⟨hlt, Pv D (k + 1), fun H' p' => ⟨n - (k + 1), by omega, rfl, hlt, p'⟩, fun x H' y => ?_⟩
    obtain ⟨e, y⟩ := y
    subst e y
    have z := hs D k _ hlt p
    rw [setK_eq] at z
    show setK _ i _ _
    rw [setK_eq, wipe1, List.set_set]
    exact ⟨by rw [wipe1, List.set_set], z⟩
  · have e : k = n := by omega
    subst e
    exact .inl ⟨Nat.le_refl _, hd D H p⟩
theorem lcR1 {lo : Int} {n : Nat} {tt : TT} {te : TE} {i : Nat} {σ : L2.St} {H1 : Hp} {Q : VK} (Pv : Addr → Nat → Hp → Prop) (h0 : ∀ D, H1 D = none → Pv D 0 (upd H1 D (.lst [])))
    (hs : ∀ D k H, k < n → Pv D k H → setK σ i (some (.int (lo + (k : Nat)))) fun σ2 => tt σ2 H fun b H3 =>
      if b = true then te σ2 H3 fun y H4 => ∃ acc, H4 D = some (.lst acc) ∧ acc.length < sizeLine ∧ Pv D (k + 1) (upd H4 D (.lst (acc ++ [y]))) else Pv D (k + 1) H3) (hd : ∀ D H, Pv D n H → Q (.ref D) H) :
    lcI (Itr lo n) (gNm i) tt te [i] σ Q H1 := by
  unfold lcI
  intro D hD
  refine ⟨fun k m H => m = n - k ∧ k ≤ n ∧ Pv D k H, ⟨n, by simp, Nat.zero_le _, h0 D hD⟩, ?_⟩
  rintro k m H ⟨rfl, hi, p⟩
  by_cases hlt : k < n
  · refine .inr ⟨hlt, Pv D (k + 1), fun H' p' => ⟨n - (k + 1), by omega, rfl, hlt, p'⟩, fun x H' y => ?_⟩
    obtain ⟨e, y⟩ := y
    subst e y
    have z := hs D k _ hlt p
    rw [setK_eq] at z
    show setK _ i _ _
    rw [setK_eq, wipe1, List.set_set]
    exact ⟨by rw [wipe1, List.set_set], z⟩
  · have e : k = n := by omega
    subst e
    exact .inl ⟨Nat.le_refl _, hd D H p⟩
/-- a comprehension over a list or a tuple that stays, its target a name -/
theorem lcS {K : PySem.W.Frag} {a : Addr} {xs : List V} {tt : TT} {te : TE} {i : Nat} {σ : L2.St} {H1 : Hp} {Q : VK} (Pv : Addr → Nat → Hp → Prop) (h : SqL K H1 a xs) (h0 : ∀ D, H1 D = none → Pv D 0 (upd H1 D (.lst []))) (hl : ∀ D k H, k ≤ xs.length → Pv D k H → SqL K H a xs)
    (hs : ∀ D k x H, xs[k]? = some x → Pv D k H → setK σ i (some x) fun σ2 => tt σ2 H fun b H3 =>
      if b = true then te σ2 H3 fun y H4 => ∃ acc, H4 D = some (.lst acc) ∧ acc.length < sizeLine ∧ Pv D (k + 1) (upd H4 D (.lst (acc ++ [y]))) else Pv D (k + 1) H3) (hd : ∀ D H, Pv D xs.length H → Q (.ref D) H) :
    aSeq K a H1 (fun J H1 => lcI J (gNm i) tt te [i] σ Q H1) := by
  unfold aSeq lcI
  refine .inl ⟨xs, h, fun D hD => ?_⟩
  refine lc_list (Qd := fun H => Q (.ref D) H) (Pv D) (h0 D hD) (hl D) (fun k x H hx p => ?_) (hd D)
  have z := hs D k x H hx p
  rw [setK_eq] at z
  show setK _ i _ _
  rw [setK_eq, wipe1, List.set_set]
  exact ⟨by rw [wipe1, List.set_set], z⟩
theorem lcT {K : PySem.W.Frag} {a : Addr} {xs : List V} {tt : TT} {te : TE} {i : Nat} {σ : L2.St} {H1 : Hp} {Q : VK} (Pv : Addr → Nat → Hp → Prop) (h : SqT K H1 a xs) (h0 : ∀ D, H1 D = none → Pv D 0 (upd H1 D (.lst []))) (hl : ∀ D k H, k ≤ xs.length → Pv D k H → SqT K H a xs)
    (hs : ∀ D k x H, xs[k]? = some x → Pv D k H → setK σ i (some x) fun σ2 => tt σ2 H fun b H3 =>
      if b = true then te σ2 H3 fun y H4 => ∃ acc, H4 D = some (.lst acc) ∧ acc.length < sizeLine ∧ Pv D (k + 1) (upd H4 D (.lst (acc ++ [y]))) else Pv D (k + 1) H3) (hd : ∀ D H, Pv D xs.length H → Q (.ref D) H) :
    aSeq K a H1 (fun J H1 => lcI J (gNm i) tt te [i] σ Q H1) := by
  unfold aSeq lcI
  refine .inr ⟨xs, h, fun D hD => ?_⟩
  refine lc_tup (Qd := fun H => Q (.ref D) H) (Pv D) (h0 D hD) (hl D) (fun k x H hx p => ?_) (hd D)
  have z := hs D k x H hx p
  rw [setK_eq] at z
  show setK _ i _ _
  rw [setK_eq, wipe1, List.set_set]
  exact ⟨by rw [wipe1, List.set_set], z⟩
def gNl : TGs := fun vs σ H Q => match vs with
  | [] => Q σ H
  | _ => False
def gCn (t : TG) (u : TGs) : TGs := fun vs σ H Q => match vs with
  | v :: r => t v σ H fun σ' H' => u r σ' H' Q
  | [] => False
theorem gsNil : PGs X [] gNl := by
  refine ⟨fun pins s σ H vs us Q I r h => ?_⟩
  cases vs with
  | nil =>
    cases r
    exact assignInOrder_nil ⟨σ, H, I, h⟩
  | cons v r => exact (show False from h).elim
theorem gsCons {e : Expr} {es : List Expr} {t : TG} {u : TGs} (h1 : PG X e t) (h2 : PGs X es u)
    (hs : (assignEach (e :: es) X.env).map (·.2) = assign e X.env :: (assignEach es X.env).map (·.2) := by rfl) : PGs X (e :: es) (gCn t u) := by
  refine ⟨fun pins s σ H vs us Q I r h => ?_⟩
  cases vs with
  | nil => exact (show False from h).elim
  | cons v vr =>
    cases r with
    | cons r rr =>
      rw [hs]
      refine assignInOrder_cons (thn (h1.run pins s σ H _ _ _ I r h) fun _ s1 ⟨σ1, H1, I1, q1⟩ => ?_)
      exact h2.run pins s1 σ1 H1 _ _ Q I1 rr q1
/-- (a, b, ..) = a tuple or a list of that length -/
@[irreducible] def gUn (K : PySem.W.Frag) (n : Nat) (t : TGs) : TG := fun v σ H Q => match v with
  | .ref a => ∃ xs, (SqT K H a xs ∨ SqL K H a xs) ∧ xs.length = n ∧ t xs σ H Q
  | _ => False
theorem gUnp {es : List Expr} {k : Nat} {t : TGs} {n : Nat} (hc : X.calm = true) (h : PGs X es t)
    (hn : (assignEach es X.env).length = n := by rfl) (hst : (assignEach es X.env).findIdx? (·.1) = none := by rfl) : PG X (.Tuple es k pos) (gUn X.K n t) := by
  refine ⟨fun pins s σ H v u Q I r hw => ?_⟩
  unfold gUn at hw
  cases v with
  | ref a =>
    obtain ⟨xs, hq | hq, hl, hw⟩ := hw
    · exact (pg_tup (t := t) hc h hn hst).run pins s σ H _ _ Q I r ⟨a, xs, rfl, hq, hl, hw⟩
    · exact (pg_unl (t := t) hc h hn hst).run pins s σ H _ _ Q I r ⟨a, xs, rfl, hq, hl, hw⟩
  | _ => exact (show False from hw).elim
@[irreducible] def uSet : TSet := fun o i v H Q => match o with
  | .ref p => (∃ xs k j, i = .int k ∧ H p = some (.lst xs) ∧ ixN xs.length k = some j ∧ Q (upd H p (.lst (xs.set j v)))) ∨ ∃ H4, DPut H p i v H4 ∧ Q H4
  | _ => False
theorem setU (hu : X.A.units + 64 < cLine) : PSet X uSet := by
  intro pins s σ H o i v ov iv u Q I ro ri rv h
  unfold uSet at h
  cases o with
  | ref p =>
    rcases h with ⟨xs, k, j, e, h1, h2, q⟩ | ⟨H4, g, q⟩
    · exact set_list pins s σ H _ _ _ ov iv u Q I ro ri rv ⟨p, xs, k, j, rfl, e, h1, h2, q⟩
    · obtain rfl : ov = Value.ref p := ro
      exact d_setItem (by omega) I g ri rv fun s' I' => ⟨H4, I', q⟩
  | _ => exact (show False from h).elim
end

/-! ### immutable data -/
/-- a tuple that never changes: tracked, or of the written part -/
def Tt (K : PySem.W.Frag) (H : Hp) (a : Addr) (xs : List V) : Prop := H a = some (.tup xs) ∨ ∀ H', SqT K H' a xs
theorem Tt.sq {K : PySem.W.Frag} {H : Hp} {a : Addr} {xs : List V} (h : Tt K H a xs) : SqT K H a xs := by
  rcases h with h | h
  · exact .inl (.inl h)
  · exact h H
mutual
inductive Dt (K : PySem.W.Frag) (H : Hp) : V → PyData → Prop
  | non : Dt K H .non .none
  | bl (b : Bool) : Dt K H (.bl b) (.bool b)
  | int (i : Int) : Dt K H (.int i) (.int i)
  | str (x : Str) : Dt K H (.str x) (.str x)
  | tup {a : Addr} {xs : List V} {ds : List PyData} : Tt K H a xs → DtAll K H xs ds → Dt K H (.ref a) (.tuple ds)
inductive DtAll (K : PySem.W.Frag) (H : Hp) : List V → List PyData → Prop
  | nil : DtAll K H [] []
  | cons {v : V} {vs : List V} {d : PyData} {ds : List PyData} : Dt K H v d → DtAll K H vs ds → DtAll K H (v :: vs) (d :: ds)
end
section
variable {K : PySem.W.Frag} {H H' : Hp}
/-- tuples stay -/
def Tp (H H' : Hp) : Prop := ∀ b xs, H b = some (.tup xs) → H' b = some (.tup xs)
mutual
theorem Dt.mono (t : Tp H H') : ∀ {v : V} {d : PyData}, Dt K H v d → Dt K H' v d
  | _, _, .non => .non
  | _, _, .bl b => .bl b
  | _, _, .int i => .int i
  | _, _, .str x => .str x
  | _, _, .tup h ha => .tup (h.imp (fun h => t _ _ h) id) (DtAll.mono t ha)
theorem DtAll.mono (t : Tp H H') : ∀ {vs : List V} {ds : List PyData}, DtAll K H vs ds → DtAll K H' vs ds
  | _, _, .nil => .nil
  | _, _, .cons h hs => .cons (Dt.mono t h) (DtAll.mono t hs)
end
mutual
theorem Dt.dp : ∀ {v : V} {d : PyData}, Dt K H v d → Dp K H v d
  | _, _, .non => .non
  | _, _, .bl b => .bl b
  | _, _, .int i => .int i
  | _, _, .str x => .str x
  | _, _, .tup h ha => .tup h.sq (DtAll.dp ha)
theorem DtAll.dp : ∀ {vs : List V} {ds : List PyData}, DtAll K H vs ds → DpAll K H vs ds
  | _, _, .nil => .nil
  | _, _, .cons h hs => .cons (Dt.dp h) (DtAll.dp hs)
end
theorem Dt.eqI {v : V} {i : Int} (h : Dt K H v (.int i)) : v = .int i := by cases h; rfl
theorem Dt.eqB {v : V} {b : Bool} (h : Dt K H v (.bool b)) : v = .bl b := by cases h; rfl
theorem Dt.eqN {v : V} (h : Dt K H v .none) : v = .non := by cases h; rfl
theorem Dt.eqS {v : V} {x : Str} (h : Dt K H v (.str x)) : v = .str x := by cases h; rfl
theorem Dt.eqT {v : V} {ds : List PyData} (h : Dt K H v (.tuple ds)) : ∃ a xs, v = .ref a ∧ Tt K H a xs ∧ DtAll K H xs ds := by
  cases h with
  | tup h1 h2 => exact ⟨_, _, rfl, h1, h2⟩
theorem DtAll.len : ∀ {vs : List V} {ds : List PyData}, DtAll K H vs ds → vs.length = ds.length
  | _, _, .nil => rfl
  | _, _, .cons _ hs => congrArg Nat.succ (DtAll.len hs)
theorem DtAll.get : ∀ {vs : List V} {ds : List PyData} {i : Nat} {v : V}, DtAll K H vs ds → vs[i]? = some v → ∃ d, ds[i]? = some d ∧ Dt K H v d
  | _, _, i, v, .nil, e => by simp at e
  | _, _, 0, v, .cons h _, e => by
    simp at e
    subst e
    exact ⟨_, rfl, h⟩
  | _, _, i + 1, v, .cons _ hs, e => by
    obtain ⟨d, h1, h2⟩ := DtAll.get (i := i) hs (by simpa using e)
    exact ⟨d, by simpa using h1, h2⟩
theorem DtAll.at_ : ∀ {vs : List V} {ds : List PyData} {i : Nat} {d : PyData}, DtAll K H vs ds → ds[i]? = some d → ∃ v, vs[i]? = some v ∧ Dt K H v d
  | _, _, i, v, .nil, e => by simp at e
  | _, _, 0, v, .cons h _, e => by
    simp at e
    subst e
    exact ⟨_, rfl, h⟩
  | _, _, i + 1, v, .cons _ hs, e => by
    obtain ⟨d, h1, h2⟩ := DtAll.at_ (i := i) hs (by simpa using e)
    exact ⟨d, by simpa using h1, h2⟩
theorem DtAll.ints : ∀ {ns : List Int}, DtAll K H (ns.map V.int) (ns.map PyData.int)
  | [] => .nil
  | n :: ns => .cons (.int n) (DtAll.ints (ns := ns))
theorem DtAll.eqInts : ∀ {ns : List Int} {vs : List V}, DtAll K H vs (ns.map PyData.int) → vs = ns.map V.int
  | [], _, .nil => rfl
  | n :: ns, _, .cons h hs => by rw [h.eqI, DtAll.eqInts hs]; rfl
theorem DtAll.append : ∀ {vs ws : List V} {ds es : List PyData}, DtAll K H vs ds → DtAll K H ws es → DtAll K H (vs ++ ws) (ds ++ es)
  | _, _, _, _, .nil, h => h
  | _, _, _, _, .cons h hs, h2 => .cons h (DtAll.append hs h2)
theorem DtAll.take : ∀ {vs : List V} {ds : List PyData} (n : Nat), DtAll K H vs ds → DtAll K H (vs.take n) (ds.take n)
  | _, _, 0, _ => .nil
  | _, _, _ + 1, .nil => .nil
  | _, _, n + 1, .cons h hs => .cons h (DtAll.take n hs)
theorem DtAll.drop : ∀ {vs : List V} {ds : List PyData} (n : Nat), DtAll K H vs ds → DtAll K H (vs.drop n) (ds.drop n)
  | _, _, 0, h => h
  | _, _, _ + 1, .nil => .nil
  | _, _, n + 1, .cons h hs => DtAll.drop n hs
end

/-! ### the state: H0 the entry's heap, A what may be changed of it, L the cells at hand, T data -/
def NotTup : HO → Prop
  | .tup _ => False
  | _ => True
structure Sv (K : PySem.W.Frag) (H0 : Hp) (A : List Addr) (H : Hp) (L : List (Addr × HO)) (T : List (V × PyData)) : Prop where
  keep : ∀ b o, H0 b = some o → b ∉ A → H b = some o
  tps : Tp H0 H
  nd : (L.map Prod.fst).Nodup
  own : ∀ c ∈ L, H c.1 = some c.2 ∧ (c.1 ∈ A ∨ H0 c.1 = none)
  dat : ∀ p ∈ T, Dt K H p.1 p.2
section
variable {K : PySem.W.Frag} {H0 H H' : Hp} {A : List Addr} {L F F' R : List (Addr × HO)} {T T' : List (V × PyData)} {a p : Addr} {o o' : HO} {xs : List V} {ds : List PyData} {Q : VK}
theorem perm_erase : ∀ (L : List (Addr × HO)) (k : Nat) (hk : k < L.length), List.Perm (L[k] :: L.eraseIdx k) L
  | c :: L, 0, _ => List.Perm.refl _
  | c :: L, k + 1, hk => (List.Perm.swap c _ _).trans ((perm_erase L k (by simpa using hk)).cons c)
theorem Sv.start (hn : (L.map Prod.fst).Nodup) (h : ∀ c ∈ L, H c.1 = some c.2) (hd : ∀ p ∈ T, Dt K H p.1 p.2) : Sv K H (L.map Prod.fst) H L T :=
  ⟨fun _ _ h _ => h, fun _ _ h => h, hn, fun c hc => ⟨h c hc, .inl (List.mem_map_of_mem hc)⟩, fun p hp => hd p hp⟩
theorem Sv.start0 : Sv K H [] H [] [] where
  keep := fun _ _ h _ => h
  tps := fun _ _ h => h
  nd := List.nodup_nil
  own := fun c hc => nomatch hc
  dat := fun c hc => nomatch hc
theorem Sv.at (st : Sv K H0 A H L T) (k : Nat) (h : L[k]? = some (a, o)) : H a = some o := (st.own _ (List.mem_of_getElem? h)).1
theorem Sv.d (st : Sv K H0 A H L T) (k : Nat) {v : V} {d : PyData} (h : T[k]? = some (v, d)) : Dt K H v d := st.dat _ (List.mem_of_getElem? h)
theorem Sv.old (st : Sv K H0 A H L T) (h : H0 a = some o) (ha : a ∉ A) : H a = some o := st.keep _ _ h ha
theorem Sv.oldL (st : Sv K H0 A H L T) (h : SqL K H0 a xs) (ha : a ∉ A) : SqL K H a xs := by
  rcases h with (h | ⟨o, h⟩) | h
  · exact .inl (.inl (st.keep _ _ h ha))
  · exact .inl (.inr ⟨o, st.keep _ _ h ha⟩)
  · exact .inr h
theorem Sv.oldD (st : Sv K H0 A H L T) {v : V} {d : PyData} (h : Dt K H0 v d) : Dt K H v d := h.mono st.tps
theorem Sv.sq (st : Sv K H0 A H L T) (k : Nat) (h : L[k]? = some (a, .lst xs)) : SqL K H a xs := .inl (.inl (st.at k h))
theorem Sv.perm (st : Sv K H0 A H L T) {L' : List (Addr × HO)} (h : List.Perm L' L) : Sv K H0 A H L' T :=
  ⟨st.keep, st.tps, (h.map _).nodup_iff.mpr st.nd, fun c hc => st.own c (h.mem_iff.mp hc), st.dat⟩
theorem Sv.sub (st : Sv K H0 A H L T) {L' : List (Addr × HO)} (h : List.Sublist L' L) : Sv K H0 A H L' T :=
  ⟨st.keep, st.tps, st.nd.sublist (h.map _), fun c hc => st.own c (h.mem hc), st.dat⟩
theorem Sv.addT (st : Sv K H0 A H L T) {v : V} {d : PyData} (h : Dt K H v d) : Sv K H0 A H L ((v, d) :: T) :=
  ⟨st.keep, st.tps, st.nd, st.own, fun c hc => by
    rcases List.mem_cons.mp hc with e | hc
    · rw [e]; exact h
    · exact st.dat c hc⟩
theorem Sv.setT (st : Sv K H0 A H L T) (T' : List (V × PyData)) (h : ∀ p ∈ T', Dt K H p.1 p.2) : Sv K H0 A H L T' := ⟨st.keep, st.tps, st.nd, st.own, h⟩
theorem Sv.noT (st : Sv K H0 A H L T) : Sv K H0 A H L [] := st.setT [] fun _ h => nomatch h
theorem tp_put (h : H a = some o) (n : NotTup o) : Tp H (upd H a o') := fun b xs hb => by
  rw [upd_ne (fun e => by subst e; rw [h] at hb; cases hb; exact n)]
  exact hb
theorem tp_new (h : H a = none) : Tp H (upd H a o') := fun b xs hb => by
  rw [upd_ne (fun e => by subst e; rw [h] at hb; cases hb)]
  exact hb
theorem Sv.put (st : Sv K H0 A H L T) (k : Nat) (h : L[k]? = some (a, o)) (n : NotTup o := by trivial) (o' : HO) : Sv K H0 A (upd H a o') (L.set k (a, o')) T := by
  obtain ⟨hk, e⟩ := List.getElem?_eq_some_iff.mp h
  have hm : (a, o) ∈ L := List.mem_of_getElem? h
  have own := st.own _ hm
  have ne : ∀ j c, L[j]? = some c → j ≠ k → c.1 ≠ a := fun j c hj hjk q => by
    obtain ⟨hj2, ej⟩ := List.getElem?_eq_some_iff.mp hj
    have h1 : (L.map Prod.fst)[j]? = some a := by rw [List.getElem?_map, hj, ← q]; rfl
    have h2 : (L.map Prod.fst)[k]? = some a := by rw [List.getElem?_map, h]; rfl
    obtain ⟨l1, e1⟩ := List.getElem?_eq_some_iff.mp h1
    obtain ⟨l2, e2⟩ := List.getElem?_eq_some_iff.mp h2
    exact hjk ((List.getElem_inj st.nd).mp (e1.trans e2.symm))
  refine ⟨fun b u hb hA => ?_, fun b xs hb => tp_put own.1 n b xs (st.tps b xs hb), ?_, fun c hc => ?_, fun q hq => (st.dat q hq).mono (tp_put own.1 n)⟩
  · rw [upd_ne]
    · exact st.keep b u hb hA
    · rintro rfl
      rcases own.2 with z | z
      · exact hA z
      · rw [hb] at z; cases z
  · have : (L.set k (a, o')).map Prod.fst = L.map Prod.fst := by
      rw [List.map_set]
      refine List.ext_getElem? fun j => ?_
      by_cases hj : j = k
      · subst hj
        rw [List.getElem?_set_self (by simpa using hk), List.getElem?_map, h]
        rfl
      · rw [List.getElem?_set_ne (Ne.symm hj)]
    rw [this]
    exact st.nd
  · obtain ⟨j, hj⟩ := List.mem_iff_getElem?.mp hc
    by_cases hjk : j = k
    · subst hjk
      rw [List.getElem?_set_self hk] at hj
      cases hj
      exact ⟨upd_same, own.2⟩
    · rw [List.getElem?_set_ne (Ne.symm hjk)] at hj
      have := st.own c (List.mem_of_getElem? hj)
      exact ⟨by rw [upd_ne (ne j c hj hjk)]; exact this.1, this.2⟩
theorem Sv.new (st : Sv K H0 A H L T) (hp : H p = none) (o : HO) : Sv K H0 A (upd H p o) ((p, o) :: L) T := by
  have ne : ∀ b u, H b = some u → b ≠ p := fun b u h e => by subst e; rw [hp] at h; cases h
  refine ⟨fun b u hb hA => ?_, fun b xs hb => tp_new hp b xs (st.tps b xs hb), ?_, fun c hc => ?_, fun q hq => (st.dat q hq).mono (tp_new hp)⟩
  · have := st.keep b u hb hA
    rw [upd_ne (ne b u this)]
    exact this
  · refine List.nodup_cons.mpr ⟨fun hm => ?_, st.nd⟩
    obtain ⟨c, hc, e⟩ := List.mem_map.mp hm
    exact ne _ _ (st.own c hc).1 e
  · rcases List.mem_cons.mp hc with rfl | hc
    · refine ⟨upd_same, ?_⟩
      cases e : H0 p with
      | none => exact .inr rfl
      | some u =>
        refine .inl ?_
        by_cases hA : p ∈ A
        · exact hA
        · exact absurd rfl (ne _ _ (st.keep p u e hA))
    · have := st.own c hc
      exact ⟨by rw [upd_ne (ne _ _ this.1)]; exact this.1, this.2⟩
theorem Sv.newT (st : Sv K H0 A H L T) (hp : H p = none) (hd : DtAll K H xs ds) : Sv K H0 A (upd H p (.tup xs)) L ((.ref p, .tuple ds) :: T) := by
  have ne : ∀ b u, H b = some u → b ≠ p := fun b u h e => by subst e; rw [hp] at h; cases h
  refine ⟨fun b u hb hA => ?_, fun b xs hb => tp_new hp b xs (st.tps b xs hb), st.nd, fun c hc => ?_, fun q hq => ?_⟩
  · have := st.keep b u hb hA
    rw [upd_ne (ne b u this)]
    exact this
  · have := st.own c hc
    exact ⟨by rw [upd_ne (ne _ _ this.1)]; exact this.1, this.2⟩
  · rcases List.mem_cons.mp hq with rfl | hq
    · exact .tup (.inl upd_same) (hd.mono (tp_new hp))
    · exact (st.dat q hq).mono (tp_new hp)
/-- behind a call that was given the cells F -/
theorem Sv.call (st : Sv K H0 A H (F ++ R) T) (h : Sv K H (F.map Prod.fst) H' F' T') : Sv K H0 A H' (F' ++ R) (T' ++ T) := by
  have hF : ∀ b, b ∈ F.map Prod.fst → b ∈ A ∨ H0 b = none := fun b hb => by
    obtain ⟨c, hc, e⟩ := List.mem_map.mp hb
    have := (st.own c (List.mem_append_left _ hc)).2
    rw [e] at this
    exact this
  have hR : ∀ c ∈ R, c.1 ∉ F.map Prod.fst := fun c hc hm => by
    have nd := st.nd
    rw [List.map_append, List.nodup_append] at nd
    exact nd.2.2 _ hm _ (List.mem_map_of_mem hc) rfl
  refine ⟨fun b u hb hA => ?_, fun b xs hb => h.tps b xs (st.tps b xs hb), ?_, fun c hc => ?_, fun q hq => ?_⟩
  · refine h.keep b u (st.keep b u hb hA) fun hm => ?_
    rcases hF b hm with z | z
    · exact hA z
    · rw [hb] at z; cases z
  · rw [List.map_append, List.nodup_append]
    have nd := st.nd
    rw [List.map_append, List.nodup_append] at nd
    refine ⟨h.nd, nd.2.1, fun x hx y hy e => ?_⟩
    subst e
    obtain ⟨c, hc, e⟩ := List.mem_map.mp hx
    obtain ⟨c2, hc2, e2⟩ := List.mem_map.mp hy
    have h1 := (st.own c2 (List.mem_append_right _ hc2)).1
    rcases (h.own c hc).2 with z | z
    · rw [e] at z
      exact hR c2 hc2 (by rw [e2]; exact z)
    · rw [e, ← e2, h1] at z
      cases z
  · rcases List.mem_append.mp hc with hc | hc
    · have := h.own c hc
      refine ⟨this.1, ?_⟩
      rcases this.2 with z | z
      · exact hF _ z
      · cases e : H0 c.1 with
        | none => exact .inr rfl
        | some u =>
          refine .inl ?_
          by_cases hA : c.1 ∈ A
          · exact hA
          · rw [st.keep _ u e hA] at z; cases z
    · have := st.own c (List.mem_append_right _ hc)
      exact ⟨h.keep _ _ this.1 (hR c hc), this.2⟩
  · rcases List.mem_append.mp hq with hq | hq
    · exact h.dat q hq
    · exact (st.dat q hq).mono h.tps
theorem Sv.call0 (st : Sv K H0 A H L T) (h : Sv K H [] H' F' T') : Sv K H0 A H' (F' ++ L) (T' ++ T) := Sv.call (F := []) (R := L) st h
/-- to the front -/
theorem Sv.pull (st : Sv K H0 A H L T) (k : Nat) {c : Addr × HO} (h : L[k]? = some c) : Sv K H0 A H (c :: L.eraseIdx k) T := by
  obtain ⟨hk, e⟩ := List.getElem?_eq_some_iff.mp h
  refine st.perm ?_
  rw [← e]
  exact (perm_erase L k hk)
/-- a display -/
theorem Sv.mkL (st : Sv K H0 A H L T) (hl : xs.length ≤ sizeLine) (k : ∀ p H', Sv K H0 A H' ((p, .lst xs) :: L) T → Q (.ref p) H') : xs.length ≤ sizeLine ∧ ∀ p, H p = none → Q (.ref p) (upd H p (.lst xs)) :=
  ⟨hl, fun p hp => k p _ (st.new hp _)⟩
theorem Sv.mkL0 (st : Sv K H0 A H L T) (k : ∀ p H', Sv K H0 A H' ((p, .lst xs) :: L) T → Q (.ref p) H') : ∀ p, H p = none → Q (.ref p) (upd H p (.lst xs)) :=
  fun p hp => k p _ (st.new hp _)
theorem Sv.mkT (st : Sv K H0 A H L T) (hd : DtAll K H xs ds) (hl : xs.length ≤ sizeLine) (k : ∀ p H', Sv K H0 A H' L ((.ref p, .tuple ds) :: T) → Q (.ref p) H') : xs.length ≤ sizeLine ∧ ∀ p, H p = none → Q (.ref p) (upd H p (.tup xs)) :=
  ⟨hl, fun p hp => k p _ (st.newT hp hd)⟩
theorem Sv.mkT0 (st : Sv K H0 A H L T) (hd : DtAll K H xs ds) (k : ∀ p H', Sv K H0 A H' L ((.ref p, .tuple ds) :: T) → Q (.ref p) H') : ∀ p, H p = none → Q (.ref p) (upd H p (.tup xs)) :=
  fun p hp => k p _ (st.newT hp hd)
end

/-! ### tests whose answer is open -/
theorem iteB {c : Bool} {A B : Prop} (h1 : c = true → A) (h2 : c = false → B) : if c = true then A else B := by
  cases c with
  | true => exact h1 rfl
  | false => exact h2 rfl
theorem iteD {p : Prop} [Decidable p] {A B : Prop} (h1 : p → A) (h2 : ¬ p → B) : if decide p = true then A else B :=
  iteB (fun h => h1 (of_decide_eq_true h)) (fun h => h2 (of_decide_eq_false h))
theorem iteND {p : Prop} [Decidable p] {A B : Prop} (h1 : ¬ p → A) (h2 : p → B) : if (!decide p) = true then A else B :=
  iteB (fun h => h1 (by simpa using h)) (fun h => h2 (by simpa using h))
end Wk

namespace Wk
open PySem PySem.Spec PyProof.Rows L2
/-- the def at f keeps the promise sp -/
def Fok (P : Program) (w : World) (K : PySem.W.Frag) (mg : Str → Option Value) (base : Heap) (k : Nat) (f : Addr) (ps : List Str) (sp : Sp) : Prop :=
  ∃ fd, FnOk P w K mg base (L2.CX P w) k f fd ps sp ∧ ∃ oc od osl, K.lookup f = some ⟨oc, od, .func fd, osl⟩
theorem fun_lk {K : PySem.W.Frag} {x qual : Str} {params : Arguments} {body : List Stmt} {scope : Scope} {dvs : List V} {kws : List (Str × V)} {f : Addr} {fd : FuncData} (F : FunD K x qual params body scope dvs kws f fd) : ∃ oc od osl, K.lookup f = some ⟨oc, od, .func fd, osl⟩ := by
  obtain ⟨oc, od, dV, kV, doc, pm, an, cdv, ct, osl, _, lk, _⟩ := F.ex
  exact ⟨oc, od, osl, lk⟩
theorem fok_same {P : Program} {w : World} {K : PySem.W.Frag} {mg : Str → Option Value} {base : Heap} {k : Nat} {ps : List Str} {sp : Sp} {x qual : Str} {params : Arguments} {body : List Stmt} {scope : Scope} {dvs : List V} {kws : List (Str × V)} {f : Addr} {fd : FuncData} (F : FunD K x qual params body scope dvs kws f fd) (O : Fok P w K mg base k f ps sp) : FnOk P w K mg base (L2.CX P w) k f fd ps sp := by
  obtain ⟨fd2, G, oc, od, osl, l2⟩ := O
  obtain ⟨oc', od', osl', l1⟩ := fun_lk F
  rw [l1] at l2
  cases l2
  exact G
/-- .. the law -/
def FokA (P : Program) (w : World) (K : PySem.W.Frag) (mg : Str → Option Value) (base : Heap) (k : Nat) (f : Addr) (ps : List Str) (sp : Sp) : Prop :=
  ∀ fd, (∃ st qual x, FunD K x qual (defArgs st) (defBody st) (defScope st) [] [] f fd) → FnOk P w K mg base (L2.CX P w) k f fd ps sp
@[irreducible] def mkLst (xs : List V) (H : Hp) (Q : VK) : Prop := xs.length ≤ sizeLine ∧ ∀ p, H p = none → Q (.ref p) (upd H p (.lst xs))
@[irreducible] def mkTup (xs : List V) (H : Hp) (Q : VK) : Prop := xs.length ≤ sizeLine ∧ ∀ p, H p = none → Q (.ref p) (upd H p (.tup xs))
def cLst (t : TA) : TE := fun σ H Q => t σ H fun xs H1 => mkLst xs H1 Q
def cTup (t : TA) : TE := fun σ H Q => t σ H fun xs H1 => mkTup xs H1 Q
theorem cLst_eq (t : TA) : cLst t = tLst t := by
  funext σ H Q
  unfold cLst tLst
  congr 1
  funext xs H1
  unfold mkLst
  rfl
theorem cTup_eq (t : TA) : cTup t = tTup t := by
  funext σ H Q
  unfold cTup tTup
  congr 1
  funext xs H1
  unfold mkTup
  rfl
theorem eLst {X : Cx} {es : List Expr} {t : TA} {pos : Pos} (h : PA X es t) : PE X (.List es pos) (cLst t) := by
  rw [cLst_eq]
  exact pe_lst h
theorem eTup {X : Cx} {es : List Expr} {t : TA} {pos : Pos} {x1} (h : PA X es t) : PE X (.Tuple es x1 pos) (cTup t) := by
  rw [cTup_eq]
  exact pe_tup h
/-! ### promises by their arguments -/
abbrev Sp0 := Hp → VK → XK → Prop
def mk0 (f : Sp0) : Sp := fun vs H Q E => match vs with
  | [] => f  H Q E
  | _ => False
theorem mk0_len {f : Sp0} {vs : List V} {H : Hp} {Q : VK} {E : XK} (h : mk0 f vs H Q E) : vs.length = 0 := by
  unfold mk0 at h
  split at h
  · rfl
  · exact h.elim
theorem mk0_at {f : Sp0} {vs : List V} {H : Hp} {Q : VK} {E : XK} (h : mk0 f vs H Q E) : vs = [] ∧ f H Q E := by
  unfold mk0 at h
  split at h
  · exact ⟨rfl, h⟩
  · exact h.elim
abbrev Sp1 := V → Hp → VK → XK → Prop
def mk1 (f : Sp1) : Sp := fun vs H Q E => match vs with
  | [a0] => f a0 H Q E
  | _ => False
theorem mk1_len {f : Sp1} {vs : List V} {H : Hp} {Q : VK} {E : XK} (h : mk1 f vs H Q E) : vs.length = 1 := by
  unfold mk1 at h
  split at h
  · rfl
  · exact h.elim
theorem mk1_at {f : Sp1} {vs : List V} {H : Hp} {Q : VK} {E : XK} (h : mk1 f vs H Q E) : ∃ a0, vs = [a0] ∧ f a0 H Q E := by
  unfold mk1 at h
  split at h
  · exact ⟨_, rfl, h⟩
  · exact h.elim
abbrev Sp2 := V → V → Hp → VK → XK → Prop
def mk2 (f : Sp2) : Sp := fun vs H Q E => match vs with
  | [a0, a1] => f a0 a1 H Q E
  | _ => False
theorem mk2_len {f : Sp2} {vs : List V} {H : Hp} {Q : VK} {E : XK} (h : mk2 f vs H Q E) : vs.length = 2 := by
  unfold mk2 at h
  split at h
  · rfl
  · exact h.elim
theorem mk2_at {f : Sp2} {vs : List V} {H : Hp} {Q : VK} {E : XK} (h : mk2 f vs H Q E) : ∃ a0 a1, vs = [a0, a1] ∧ f a0 a1 H Q E := by
  unfold mk2 at h
  split at h
  · exact ⟨_, _, rfl, h⟩
  · exact h.elim
abbrev Sp3 := V → V → V → Hp → VK → XK → Prop
def mk3 (f : Sp3) : Sp := fun vs H Q E => match vs with
  | [a0, a1, a2] => f a0 a1 a2 H Q E
  | _ => False
theorem mk3_len {f : Sp3} {vs : List V} {H : Hp} {Q : VK} {E : XK} (h : mk3 f vs H Q E) : vs.length = 3 := by
  unfold mk3 at h
  split at h
  · rfl
  · exact h.elim
theorem mk3_at {f : Sp3} {vs : List V} {H : Hp} {Q : VK} {E : XK} (h : mk3 f vs H Q E) : ∃ a0 a1 a2, vs = [a0, a1, a2] ∧ f a0 a1 a2 H Q E := by
  unfold mk3 at h
  split at h
  · exact ⟨_, _, _, rfl, h⟩
  · exact h.elim
abbrev Sp4 := V → V → V → V → Hp → VK → XK → Prop
def mk4 (f : Sp4) : Sp := fun vs H Q E => match vs with
  | [a0, a1, a2, a3] => f a0 a1 a2 a3 H Q E
  | _ => False
theorem mk4_len {f : Sp4} {vs : List V} {H : Hp} {Q : VK} {E : XK} (h : mk4 f vs H Q E) : vs.length = 4 := by
  unfold mk4 at h
  split at h
  · rfl
  · exact h.elim
theorem mk4_at {f : Sp4} {vs : List V} {H : Hp} {Q : VK} {E : XK} (h : mk4 f vs H Q E) : ∃ a0 a1 a2 a3, vs = [a0, a1, a2, a3] ∧ f a0 a1 a2 a3 H Q E := by
  unfold mk4 at h
  split at h
  · exact ⟨_, _, _, _, rfl, h⟩
  · exact h.elim
abbrev Sp5 := V → V → V → V → V → Hp → VK → XK → Prop
def mk5 (f : Sp5) : Sp := fun vs H Q E => match vs with
  | [a0, a1, a2, a3, a4] => f a0 a1 a2 a3 a4 H Q E
  | _ => False
theorem mk5_len {f : Sp5} {vs : List V} {H : Hp} {Q : VK} {E : XK} (h : mk5 f vs H Q E) : vs.length = 5 := by
  unfold mk5 at h
  split at h
  · rfl
  · exact h.elim
theorem mk5_at {f : Sp5} {vs : List V} {H : Hp} {Q : VK} {E : XK} (h : mk5 f vs H Q E) : ∃ a0 a1 a2 a3 a4, vs = [a0, a1, a2, a3, a4] ∧ f a0 a1 a2 a3 a4 H Q E := by
  unfold mk5 at h
  split at h
  · exact ⟨_, _, _, _, _, rfl, h⟩
  · exact h.elim
abbrev Sp6 := V → V → V → V → V → V → Hp → VK → XK → Prop
def mk6 (f : Sp6) : Sp := fun vs H Q E => match vs with
  | [a0, a1, a2, a3, a4, a5] => f a0 a1 a2 a3 a4 a5 H Q E
  | _ => False
theorem mk6_len {f : Sp6} {vs : List V} {H : Hp} {Q : VK} {E : XK} (h : mk6 f vs H Q E) : vs.length = 6 := by
  unfold mk6 at h
  split at h
  · rfl
  · exact h.elim
theorem mk6_at {f : Sp6} {vs : List V} {H : Hp} {Q : VK} {E : XK} (h : mk6 f vs H Q E) : ∃ a0 a1 a2 a3 a4 a5, vs = [a0, a1, a2, a3, a4, a5] ∧ f a0 a1 a2 a3 a4 a5 H Q E := by
  unfold mk6 at h
  split at h
  · exact ⟨_, _, _, _, _, _, rfl, h⟩
  · exact h.elim
abbrev Sp7 := V → V → V → V → V → V → V → Hp → VK → XK → Prop
def mk7 (f : Sp7) : Sp := fun vs H Q E => match vs with
  | [a0, a1, a2, a3, a4, a5, a6] => f a0 a1 a2 a3 a4 a5 a6 H Q E
  | _ => False
theorem mk7_len {f : Sp7} {vs : List V} {H : Hp} {Q : VK} {E : XK} (h : mk7 f vs H Q E) : vs.length = 7 := by
  unfold mk7 at h
  split at h
  · rfl
  · exact h.elim
theorem mk7_at {f : Sp7} {vs : List V} {H : Hp} {Q : VK} {E : XK} (h : mk7 f vs H Q E) : ∃ a0 a1 a2 a3 a4 a5 a6, vs = [a0, a1, a2, a3, a4, a5, a6] ∧ f a0 a1 a2 a3 a4 a5 a6 H Q E := by
  unfold mk7 at h
  split at h
  · exact ⟨_, _, _, _, _, _, _, rfl, h⟩
  · exact h.elim
abbrev Sp8 := V → V → V → V → V → V → V → V → Hp → VK → XK → Prop
def mk8 (f : Sp8) : Sp := fun vs H Q E => match vs with
  | [a0, a1, a2, a3, a4, a5, a6, a7] => f a0 a1 a2 a3 a4 a5 a6 a7 H Q E
  | _ => False
theorem mk8_len {f : Sp8} {vs : List V} {H : Hp} {Q : VK} {E : XK} (h : mk8 f vs H Q E) : vs.length = 8 := by
  unfold mk8 at h
  split at h
  · rfl
  · exact h.elim
theorem mk8_at {f : Sp8} {vs : List V} {H : Hp} {Q : VK} {E : XK} (h : mk8 f vs H Q E) : ∃ a0 a1 a2 a3 a4 a5 a6 a7, vs = [a0, a1, a2, a3, a4, a5, a6, a7] ∧ f a0 a1 a2 a3 a4 a5 a6 a7 H Q E := by
  unfold mk8 at h
  split at h
  · exact ⟨_, _, _, _, _, _, _, _, rfl, h⟩
  · exact h.elim
abbrev Sp9 := V → V → V → V → V → V → V → V → V → Hp → VK → XK → Prop
def mk9 (f : Sp9) : Sp := fun vs H Q E => match vs with
  | [a0, a1, a2, a3, a4, a5, a6, a7, a8] => f a0 a1 a2 a3 a4 a5 a6 a7 a8 H Q E
  | _ => False
theorem mk9_len {f : Sp9} {vs : List V} {H : Hp} {Q : VK} {E : XK} (h : mk9 f vs H Q E) : vs.length = 9 := by
  unfold mk9 at h
  split at h
  · rfl
  · exact h.elim
theorem mk9_at {f : Sp9} {vs : List V} {H : Hp} {Q : VK} {E : XK} (h : mk9 f vs H Q E) : ∃ a0 a1 a2 a3 a4 a5 a6 a7 a8, vs = [a0, a1, a2, a3, a4, a5, a6, a7, a8] ∧ f a0 a1 a2 a3 a4 a5 a6 a7 a8 H Q E := by
  unfold mk9 at h
  split at h
  · exact ⟨_, _, _, _, _, _, _, _, _, rfl, h⟩
  · exact h.elim
/-! ### methods of lists -/
@[irreducible] def aAppend : V → List V → Hp → VK → Prop := rAppend
theorem mAppend {X : Cx} : MtR X "list.append" aAppend := by
  unfold aAppend
  exact mt_append
@[irreducible] def aPop : V → List V → Hp → VK → Prop := rPop
theorem mPop {X : Cx} : MtR X "list.pop" aPop := by
  unfold aPop
  exact mt_pop
@[irreducible] def aPopAt : V → List V → Hp → VK → Prop := rPopAt
theorem mPopAt {X : Cx} : MtR X "list.pop" aPopAt := by
  unfold aPopAt
  exact mt_popAt
@[irreducible] def aExtend : V → List V → Hp → VK → Prop := rExtend
theorem mExtend {X : Cx} : MtR X "list.extend" aExtend := by
  unfold aExtend
  exact mt_extend
@[irreducible] def aClear : V → List V → Hp → VK → Prop := rClear
theorem mClear {X : Cx} : MtR X "list.clear" aClear := by
  unfold aClear
  exact mt_clear
@[irreducible] def aReverse : V → List V → Hp → VK → Prop := rReverse
theorem mReverse {X : Cx} : MtR X "list.reverse" aReverse := by
  unfold aReverse
  exact mt_reverse
section
variable {X : Cx}
def cBits (to : TE) : TE := fun σ H Q => to σ H fun x H1 => match x with
  | .int i => Q (.int (Builtin.Int.intBits i : Nat)) H1
  | _ => False
theorem eBits {o : Expr} {to : TE} {apos pos : Pos} (ho : PE X o to) (hbase : attributeBase o "bit_length" X.env (eval o X.env) = eval o X.env := by rfl) (hline : (apos.endLine == pos.line) = true := by rfl) : PE X (.Call (.Attribute o "bit_length" apos) [] [] pos) (cBits to) := by
  refine ⟨fun pins s σ H Q I h => ?_⟩
  have h2 : PE X o (fun σ H Q' => to σ H fun x H1 => match x with | .int i => Q' (.int i) H1 | _ => False) := ⟨fun pins s σ H Q' I q' => thn (ho.run pins s σ H _ I q') fun v s1 ⟨x, H1, I1, r1, q1⟩ => by
    cases x <;> first
      | exact (show False from q1).elim
      | exact ⟨_, H1, I1, r1, q1⟩⟩
  refine (pe_bits h2 hbase hline).run pins s σ H Q I ?_
  have e : (fun (x : V) (H1 : Hp) => match x with | .int i => Q (.int (Builtin.Int.intBits i : Nat)) H1 | _ => False) = fun x H1 => (match x with | .int i => (∃ j, V.int i = .int j ∧ Q (.int (Builtin.Int.intBits j : Nat)) H1) | _ => False) := by
    funext x H1
    cases x <;> first
      | rfl
      | (refine propext ⟨fun h => ⟨_, rfl, h⟩, fun ⟨j, e, h⟩ => ?_⟩
         injection e with e
         subst e
         exact h)
  show to σ H (fun x H1 => (match x with | .int i => (∃ j, V.int i = .int j ∧ Q (.int (Builtin.Int.intBits j : Nat)) H1) | _ => False))
  rw [← e]
  exact h
def cPar (i j : Nat) (ta : TA) : TS := fun D σ H => ta σ H fun vs H1 => match vs with
  | [v, w] => setK σ i (some v) fun σ1 => setK σ1 j (some w) fun σ2 => D.nx σ2 H1
  | _ => False
theorem par_at {vs : List V} {f : V → V → Prop} (q : match vs with | [v, w] => f v w | _ => False) : ∃ v w, vs = [v, w] ∧ f v w := by
  split at q
  · exact ⟨_, _, rfl, q⟩
  · exact q.elim
theorem sPar {i j : Nat} {x y : Str} {a b : Expr} {ta : TA} {px py pt : Pos} {kt k2 pt2 pos} (hN : X.N.Nodup) (ha : PA X [a, b] ta) (hc : X.calm = true := by rfl) (hi : X.N[i]? = some x := by rfl) (hj : X.N[j]? = some y := by rfl) (hij : i ≠ j := by decide)
    (hx : X.env.scope.names.lookup x = some .local := by rfl) (hy : X.env.scope.names.lookup y = some .local := by rfl)
    (hs : swappedStores [.Tuple [.Name x px, .Name y py] kt pt] (.Tuple [a, b] k2 pt2) X.env = pure (some [x, y]) := by rfl) (hs2 : swapsWithSole [.Tuple [.Name x px, .Name y py] kt pt] (.Tuple [a, b] k2 pt2) pos.line X.env = pure false := by rfl) : PS X (.Assign [.Tuple [.Name x px, .Name y py] kt pt] (.Tuple [a, b] k2 pt2) pos) (cPar i j ta) := by
  have g : PA X [a, b] (fun σ H Q => ta σ H fun vs H1 => match vs with | [v, w] => Q [v, w] H1 | _ => False) := ⟨fun ps pins s σ H Q I h => thn (ha.run ps pins s σ H _ I h) fun us s1 ⟨vs, H1, I1, r1, q1⟩ => by
    dsimp only at q1
    split at q1
    · exact ⟨_, H1, I1, r1, q1⟩
    · exact q1.elim⟩
  refine ⟨fun pins s σ H D I h => (ps_par hc hN hi hj hij hx hy g hs hs2).run pins s σ H D I ?_⟩
  have e : (fun (vs : List V) (H1 : Hp) => match vs with | [v, w] => setK σ i (some v) fun σ1 => setK σ1 j (some w) fun σ2 => D.nx σ2 H1 | _ => False) = fun vs H1 => (match vs with | [v, w] => (∃ v' w', [v, w] = [v', w'] ∧ D.nx ((σ.set i (some v')).set j (some w')) H1) | _ => False) := by
    funext vs H1
    split
    · rw [setK_eq, setK_eq]
      refine propext ⟨fun h => ⟨_, _, rfl, h⟩, fun ⟨v', w', e, h⟩ => ?_⟩
      injection e with e1 e
      injection e with e2 e
      subst e1 e2
      exact h
    · rfl
  show ta σ H (fun vs H1 => (match vs with | [v, w] => (∃ v' w', [v, w] = [v', w'] ∧ D.nx ((σ.set i (some v')).set j (some w')) H1) | _ => False))
  rw [← e]
  exact h
def rgC (i c : Int) (n : Nat) : List V := (List.range n).map fun k => V.int (i + (k : Nat) * c)
theorem vals_rgC {a c : Int} {n : Nat} {acc : Array Value} (h : ItemsOf (fun i v => ∃ t, v = .int (a + i * c) t) acc n) : Vals (rgC a c n) acc.toList := by
  have e : acc.toList.length = n := by rw [Array.length_toList]; exact h.1
  unfold rgC
  rw [← e]
  refine vals_of_get acc.toList _ fun j u hj => ?_
  obtain ⟨t, rfl⟩ := h.2 j u (by rw [← hj, Array.getElem?_toList])
  exact ⟨t, rfl⟩
/-- a new list, however long -/
@[irreducible] def nwLst (xs : List V) (H : Hp) (Q : VK) : Prop := ∀ q, H q = none → Q (.ref q) (upd H q (.lst xs))
theorem nw_at {xs : List V} {H : Hp} {Q : VK} (h : nwLst xs H Q) : ∀ q, H q = none → Q (.ref q) (upd H q (.lst xs)) := by
  unfold nwLst at h
  exact h
/-- list(range(..)) -/
def cLRg (ta : TA) : TE := fun σ H Q => ta σ H fun vs H1 => match vs with
  | [.int j] => RgOk 0 j ∧ nwLst (rgC 0 1 j.toNat) H1 Q
  | [.int i, .int j] => RgOk i j ∧ nwLst (rgC i 1 (j - i).toNat) H1 Q
  | [.int i, .int j, .int c] => ∃ n, RgC i j c n ∧ n ≤ 2 ^ 24 ∧ nwLst (rgC i c n) H1 Q
  | _ => False
theorem lrg_fin {pins : List (Addr × Obj)} {σ : L2.St} {H1 : Hp} {s1 : Shared} {Q : VK} {r : Addr} {a b c : Int} {t u v : Tok} {n : Nat} (hc : X.calm = true) (I1 : Inv X pins σ H1 s1) (hr : IsRange s1.heap r a b c t u v) (h1 : Builtin.Range.small a b c = true) (h2 : Builtin.Range.rangeSize a b c = n) (h3 : n ≤ 2 ^ 24)
    (q : ∀ q, H1 q = none → Q (.ref q) (upd H1 q (.lst (rgC a c n)))) : wpAny (model X.prog X.w) X.A (call (.type "list") [.ref r]) (EP X pins σ Q) X.xe s1 := by
  refine call_list_range (n := n) (I1.ok.hd hc) hr h1 h2 h3 fun h' tk acc c' hk e' hi => ?_
  refine ⟨.ref s1.heap.objs.size, upd H1 s1.heap.objs.size (.lst (rgC a c n)), I1.laid hk (Nat.le_refl _) (show ObjOk X.prog X.w _ _ _ (.lst (rgC a c n)) from ⟨?_, acc.toList, c', vals_rgC hi, ?_⟩), rfl, q _ (I1.hok.fresh (Nat.le_refl _))⟩
  · unfold rgC
    rw [List.length_map, List.length_range, sizeLine_eq]; omega
  · rw [Array.toArray_toList]; exact e'
theorem eLRg {es : List Expr} {e1 : Expr} {ta : TA} {p p2 pos pos2 : Pos} (hc : X.calm = true) (hg : Gl X "list") (hm : X.mg "list" = none) (hg2 : Gl X "range") (hm2 : X.mg "range" = none) (ha : PA X (e1 :: es) ta)
    (na : starEach [.Call (.Name "range" p2) (e1 :: es) [] pos2] X.env = (false, eval (.Call (.Name "range" p2) (e1 :: es) [] pos2) X.env) :: starEach [] X.env := by rfl)
    (he : starEach (e1 :: es) X.env = (false, eval e1 X.env) :: starEach es X.env := by rfl) (hpl : (backTo pos2 (starEach es X.env)).any (·.1) = false := by rfl) :
    PE X (.Call (.Name "list" p) [.Call (.Name "range" p2) (e1 :: es) [] pos2] [] pos) (cLRg ta) := by
  refine ⟨fun pins s σ H Q I h => ?_⟩
  refine Call_ (ld_blt I hg hm boot_list (PyProof.Rows.callWith_type1 (args_cons ?_ na) na))
  refine Call_ (ld_blt I hg2 hm2 boot_range (PyProof.Rows.callWith_type1 (thn (ha.run pos2 pins s σ H _ I h) fun us s1 ⟨vs, H1, I1, r1, q1⟩ => ?_) he hpl))
  dsimp only at q1
  split at q1
  · obtain ⟨⟨b1, b2, b3, b4, b5⟩, q⟩ := q1
    cases r1 with
    | cons r rr =>
      cases rr
      obtain ⟨t, rfl⟩ := r
      refine call_range_1 (args_nil ?_)
      refine lrg_fin hc (I1.kept fun b u e => Heap.get?_push_of_some _ e) (IsRange.new _ _ _ _ _ _ _) (small_one b1 b2 b3 b4) ?_ ?_ (nw_at q)
      · rw [rangeSize_nat, Int.sub_zero]
      · rw [Int.sub_zero] at b5
        exact b5
  · obtain ⟨⟨b1, b2, b3, b4, b5⟩, q⟩ := q1
    cases r1 with
    | cons r rr =>
      cases rr with
      | cons r' rr =>
        cases rr
        obtain ⟨t, rfl⟩ := r
        obtain ⟨t', rfl⟩ := r'
        refine call_range_2 (args_nil ?_)
        exact lrg_fin hc (I1.kept fun b u e => Heap.get?_push_of_some _ e) (IsRange.new _ _ _ _ _ _ _) (small_one b1 b2 b3 b4) (rangeSize_nat _ _) b5 (nw_at q)
  · obtain ⟨n, ⟨c0, c1, c2, c3⟩, b5, q⟩ := q1
    cases r1 with
    | cons r rr =>
      cases rr with
      | cons r' rr =>
        cases rr with
        | cons r'' rr =>
          cases rr
          obtain ⟨t, rfl⟩ := r
          obtain ⟨t', rfl⟩ := r'
          obtain ⟨t'', rfl⟩ := r''
          refine call_range_3 c0 (args_nil ?_) (.inl (PyProof.noPylong_small c1))
          exact lrg_fin hc (I1.kept (t' := s1.toks) fun b u e => Heap.get?_push_of_some _ e) (IsRange.new _ _ _ _ _ _ _) c2 c3 b5 (nw_at q)
  · exact q1.elim
end
section
variable {P : Program} {w : World} {K : PySem.W.Frag} {mg : Str → Option Value}
theorem cx_none (H : Hp) (s : Shared) (e : Value) (s' : Shared) : L2.CX P w [] H s (fun _ _ _ => False) e s' → False := fun h => by
  obtain ⟨_, _, _, _, _, _, _, _, _, _, _, _, z⟩ := h
  exact z.elim
theorem walk_ofE2 {l : PySem.W.OpenLaw} {n k : Nat} {q : Program} {loose : List Str} {XP : (Str → Option Value) → Heap → Prop} {YP : World → Heap → Prop} {d : DefRec} {x : Str}
    (hn : l.most = some n) (hn2 : n ≤ sizeLine) (hdf : d.params.defaults = []) (hr : Room k callerA)
    (F : ∀ (w : World) (mg : Str → Option Value) (fa : Addr) (h : Heap), YP w h → h.Ns mainGlobals mg → mg d.name = some (.ref fa) →
      ∃ (K : PySem.W.Frag) (fd : FuncData) (sp : Sp), K.In h ∧ (∀ (s : Shared) (u : Value), BindsTo s fd ⟨[u], []⟩ [(x, u)]) ∧
        (∀ (H : Hp) (a : Addr) (ns : List Int), ns.length ≤ n → Only H → SqL K H a (ns.map V.int) → sp [.ref a] H (fun v _ => v = .bl true) fun _ _ _ => False) ∧
        ∀ base : Heap, K.In base → base.Ns mainGlobals mg → FnOk l.prog w K mg base (L2.CX l.prog w) k fa fd [x] sp) :
    PySem.W.WalkO q loose XP YP l.row.toRowW d [] (fun f vs => PySem.call f vs) := by
  refine Att.attach_call hn hdf fun w s₀ s₁ mg mb fa o pm cd doc a vs ns G Y ho hd hcd hmg hobj hints hlen hg => ?_
  obtain ⟨K, fd, sp, KX, hb, hsp, hF⟩ := F w mg fa _ Y G.T.g hmg
  exact law_call KX G.T.g G.T.b G.T.builtins G.T.nolimit hg hobj hints (Nat.le_trans hlen hn2) hr hF hb (fun H hO hS => hsp H a ns hlen hO hS) fun H e s' => cx_none H s₁ e s'
end
end Wk

namespace Wk
open PySem PySem.Spec PyProof.Rows L2
def Cells (H : Hp) (L : List (Addr × HO)) : Prop := (L.map Prod.fst).Nodup ∧ ∀ c ∈ L, H c.1 = some c.2
section
variable {K : PySem.W.Frag} {H0 H H' : Hp} {A : List Addr} {L F R : List (Addr × HO)} {T : List (V × PyData)} {a : Addr} {xs : List V}
theorem Sv.cells (st : Sv K H0 A H L T) : Cells H L := ⟨st.nd, fun c hc => (st.own c hc).1⟩
theorem Sv.cellsF (st : Sv K H0 A H (F ++ R) T) : Cells H F := (st.sub (List.sublist_append_left F R)).cells
theorem Cells.sv (c : Cells H L) : Sv K H (L.map Prod.fst) H L [] := Sv.start c.1 c.2 fun _ h => nomatch h
theorem map_at {ns : List Int} {i : Nat} {x : V} (h : (ns.map V.int)[i]? = some x) : ∃ n, x = .int n ∧ ns[i]? = some n := by
  rw [List.getElem?_map] at h
  cases e : ns[i]? with
  | none => rw [e] at h; cases h
  | some n => rw [e] at h; exact ⟨n, (Option.some.inj h).symm, rfl⟩
theorem at_pos {α : Type} {xs : List α} {i : Nat} {x : α} (h : xs[i]? = some x) : atI xs (i : Int) = some x := by
  have hi : i < xs.length := (List.getElem?_eq_some_iff.mp h).1
  unfold atI ixN
  rw [if_pos (by omega), if_pos (by omega)]
  simpa using h
theorem at_int {ns : List Int} {i : Int} (h0 : 0 ≤ i) (h1 : i < ns.length) : ∃ n, ns[i.toNat]? = some n ∧ atI (ns.map V.int) i = some (.int n) := by
  obtain ⟨k, rfl⟩ : ∃ k : Nat, i = k := ⟨i.toNat, by omega⟩
  have hk : k < ns.length := by omega
  refine ⟨ns[k], by simp [hk], at_pos ?_⟩
  rw [List.getElem?_map, List.getElem?_eq_getElem hk]
  rfl
theorem ixN_pos {n : Nat} {i : Int} (h0 : 0 ≤ i) (h1 : i < n) : ixN n i = some i.toNat := by
  unfold ixN
  rw [if_pos h0, if_pos h1]
theorem six_nat (n d k : Nat) : HT.sIx n d (some (k : Int)) = min k n := HT.sIx_nat n d k
theorem six_int (n d : Nat) {i : Int} (h : 0 ≤ i) : HT.sIx n d (some i) = min i.toNat n := by
  obtain ⟨k, rfl⟩ : ∃ k : Nat, i = k := ⟨i.toNat, by omega⟩
  rw [six_nat, Int.toNat_natCast]
theorem cut_hi {xs : List V} {i : Int} (h : 0 ≤ i) : cutV xs none (some i) = xs.take i.toNat := by
  unfold cutV
  rw [six_int _ _ h, HT.sIx_none, List.drop_zero, Nat.sub_zero, Nat.min_def]
  split
  · rfl
  · rw [List.take_of_length_le (Nat.le_refl _), List.take_of_length_le (by omega)]
theorem cut_lo {xs : List V} {i : Int} (h : 0 ≤ i) : cutV xs (some i) none = xs.drop i.toNat := by
  unfold cutV
  rw [six_int _ _ h, HT.sIx_none]
  by_cases hl : i.toNat ≤ xs.length
  · rw [Nat.min_eq_left hl, List.take_of_length_le (by rw [List.length_drop]; omega)]
  · rw [Nat.min_eq_right (show _ ≤ i.toNat by omega), List.drop_eq_nil_of_le (Nat.le_refl _), List.take_nil, List.drop_eq_nil_of_le (by omega)]
theorem cut_mid {xs : List V} {i j : Int} (h : 0 ≤ i) (h2 : 0 ≤ j) : cutV xs (some i) (some j) = (xs.drop i.toNat).take (j.toNat - i.toNat) := by
  unfold cutV
  rw [six_int _ _ h, six_int _ _ h2]
  by_cases hl : i.toNat ≤ xs.length
  · rw [Nat.min_eq_left hl]
    by_cases hj : j.toNat ≤ xs.length
    · rw [Nat.min_eq_left hj]
    · rw [Nat.min_eq_right (by omega), List.take_of_length_le (by rw [List.length_drop]; omega), List.take_of_length_le (by rw [List.length_drop]; omega)]
  · rw [Nat.min_eq_right (show _ ≤ i.toNat by omega), List.drop_eq_nil_of_le (Nat.le_refl _), List.drop_eq_nil_of_le (by omega), List.take_nil, List.take_nil]
theorem cut_all {xs : List V} : cutV xs none none = xs := by
  unfold cutV
  rw [HT.sIx_none, HT.sIx_none, List.drop_zero, Nat.sub_zero, List.take_length]
/-- the same for data -/
theorem dcut_hi {ds : List PyData} {i : Int} (h : 0 ≤ i) : (ds.drop (HT.sIx ds.length 0 none)).take (HT.sIx ds.length ds.length (some i) - HT.sIx ds.length 0 none) = ds.take i.toNat := by
  rw [six_int _ _ h, HT.sIx_none, List.drop_zero, Nat.sub_zero, Nat.min_def]
  split
  · rfl
  · rw [List.take_of_length_le (Nat.le_refl _), List.take_of_length_le (by omega)]
theorem dcut_lo {ds : List PyData} {i : Int} (h : 0 ≤ i) : (ds.drop (HT.sIx ds.length 0 (some i))).take (HT.sIx ds.length ds.length none - HT.sIx ds.length 0 (some i)) = ds.drop i.toNat := by
  rw [six_int _ _ h, HT.sIx_none]
  by_cases hl : i.toNat ≤ ds.length
  · rw [Nat.min_eq_left hl, List.take_of_length_le (by rw [List.length_drop]; omega)]
  · rw [Nat.min_eq_right (show _ ≤ i.toNat by omega), List.drop_eq_nil_of_le (Nat.le_refl _), List.take_nil, List.drop_eq_nil_of_le (by omega)]
theorem dcut_mid {ds : List PyData} {i j : Int} (h : 0 ≤ i) (h2 : 0 ≤ j) : (ds.drop (HT.sIx ds.length 0 (some i))).take (HT.sIx ds.length ds.length (some j) - HT.sIx ds.length 0 (some i)) = (ds.drop i.toNat).take (j.toNat - i.toNat) := by
  rw [six_int _ _ h, six_int _ _ h2]
  by_cases hl : i.toNat ≤ ds.length
  · rw [Nat.min_eq_left hl]
    by_cases hj : j.toNat ≤ ds.length
    · rw [Nat.min_eq_left hj]
    · rw [Nat.min_eq_right (by omega), List.take_of_length_le (by rw [List.length_drop]; omega), List.take_of_length_le (by rw [List.length_drop]; omega)]
  · rw [Nat.min_eq_right (show _ ≤ i.toNat by omega), List.drop_eq_nil_of_le (Nat.le_refl _), List.drop_eq_nil_of_le (by omega), List.take_nil, List.take_nil]
/-- what follows a statement, said once -/
theorem cut {t u : TS} {D : Ends} {σ : L2.St} {H : Hp} (R : L2.St → Hp → Prop) (h2 : ∀ σ' H', R σ' H' → u D σ' H') (h1 : (∀ σ' H', R σ' H' → u D σ' H') → t { D with nx := u D } σ H) : tSeq t u D σ H := h1 h2
theorem cut2 {t1 t2 u : TS} {D : Ends} {σ : L2.St} {H : Hp} (R : L2.St → Hp → Prop) (h2 : ∀ σ' H', R σ' H' → u D σ' H') (h1 : (∀ σ' H', R σ' H' → u D σ' H') → (tSeq t1 (tSeq t2 u)) D σ H) : (tSeq t1 (tSeq t2 u)) D σ H := h1 h2
theorem cut3 {t1 t2 t3 u : TS} {D : Ends} {σ : L2.St} {H : Hp} (R : L2.St → Hp → Prop) (h2 : ∀ σ' H', R σ' H' → u D σ' H') (h1 : (∀ σ' H', R σ' H' → u D σ' H') → (tSeq t1 (tSeq t2 (tSeq t3 u))) D σ H) : (tSeq t1 (tSeq t2 (tSeq t3 u))) D σ H := h1 h2
theorem cut4 {t1 t2 t3 t4 u : TS} {D : Ends} {σ : L2.St} {H : Hp} (R : L2.St → Hp → Prop) (h2 : ∀ σ' H', R σ' H' → u D σ' H') (h1 : (∀ σ' H', R σ' H' → u D σ' H') → (tSeq t1 (tSeq t2 (tSeq t3 (tSeq t4 u)))) D σ H) : (tSeq t1 (tSeq t2 (tSeq t3 (tSeq t4 u)))) D σ H := h1 h2
theorem cut5 {t1 t2 t3 t4 t5 u : TS} {D : Ends} {σ : L2.St} {H : Hp} (R : L2.St → Hp → Prop) (h2 : ∀ σ' H', R σ' H' → u D σ' H') (h1 : (∀ σ' H', R σ' H' → u D σ' H') → (tSeq t1 (tSeq t2 (tSeq t3 (tSeq t4 (tSeq t5 u))))) D σ H) : (tSeq t1 (tSeq t2 (tSeq t3 (tSeq t4 (tSeq t5 u))))) D σ H := h1 h2
theorem cut6 {t1 t2 t3 t4 t5 t6 u : TS} {D : Ends} {σ : L2.St} {H : Hp} (R : L2.St → Hp → Prop) (h2 : ∀ σ' H', R σ' H' → u D σ' H') (h1 : (∀ σ' H', R σ' H' → u D σ' H') → (tSeq t1 (tSeq t2 (tSeq t3 (tSeq t4 (tSeq t5 (tSeq t6 u)))))) D σ H) : (tSeq t1 (tSeq t2 (tSeq t3 (tSeq t4 (tSeq t5 (tSeq t6 u)))))) D σ H := h1 h2
theorem cut7 {t1 t2 t3 t4 t5 t6 t7 u : TS} {D : Ends} {σ : L2.St} {H : Hp} (R : L2.St → Hp → Prop) (h2 : ∀ σ' H', R σ' H' → u D σ' H') (h1 : (∀ σ' H', R σ' H' → u D σ' H') → (tSeq t1 (tSeq t2 (tSeq t3 (tSeq t4 (tSeq t5 (tSeq t6 (tSeq t7 u))))))) D σ H) : (tSeq t1 (tSeq t2 (tSeq t3 (tSeq t4 (tSeq t5 (tSeq t6 (tSeq t7 u))))))) D σ H := h1 h2
theorem cut8 {t1 t2 t3 t4 t5 t6 t7 t8 u : TS} {D : Ends} {σ : L2.St} {H : Hp} (R : L2.St → Hp → Prop) (h2 : ∀ σ' H', R σ' H' → u D σ' H') (h1 : (∀ σ' H', R σ' H' → u D σ' H') → (tSeq t1 (tSeq t2 (tSeq t3 (tSeq t4 (tSeq t5 (tSeq t6 (tSeq t7 (tSeq t8 u)))))))) D σ H) : (tSeq t1 (tSeq t2 (tSeq t3 (tSeq t4 (tSeq t5 (tSeq t6 (tSeq t7 (tSeq t8 u)))))))) D σ H := h1 h2
theorem Sv.lst (st : Sv K H0 A H L T) {Q : VK} (k : ∀ p H', Sv K H0 A H' ((p, .lst xs) :: L) T → Q (.ref p) H') (hl : xs.length < 1000000 := by first | decide | (simp; done) | (simp; omega)) : mkLst xs H Q := by
  unfold mkLst
  exact ⟨Nat.le_of_lt (Nat.lt_of_lt_of_le hl (by decide)), fun p hp => k p _ (st.new hp _)⟩
theorem Sv.tup (st : Sv K H0 A H L T) {Q : VK} {ds : List PyData} (hd : DtAll K H xs ds) (k : ∀ p H', Sv K H0 A H' L ((.ref p, .tuple ds) :: T) → Q (.ref p) H') (hl : xs.length < 1000000 := by first | decide | (simp; done) | (simp; omega)) : mkTup xs H Q := by
  unfold mkTup
  exact ⟨Nat.le_of_lt (Nat.lt_of_lt_of_le hl (by decide)), fun p hp => k p _ (st.newT hp hd)⟩
theorem Sv.nw (st : Sv K H0 A H L T) {Q : VK} (k : ∀ p H', Sv K H0 A H' ((p, .lst xs) :: L) T → Q (.ref p) H') : nwLst xs H Q := by
  unfold nwLst
  exact fun q hq => k q _ (st.new hq _)
theorem rgC_len {i c : Int} {n : Nat} : (rgC i c n).length = n := by unfold rgC; simp
theorem rgC_at {i c : Int} {n k : Nat} (h : k < n) : atI (rgC i c n) (k : Int) = some (.int (i + (k : Nat) * c)) := by
  refine at_pos ?_
  unfold rgC
  simp [h]
theorem sl_lt {n : Nat} (h : n < 1000000) : n < sizeLine := Nat.lt_of_lt_of_le h (by decide)
theorem sl_le {n : Nat} (h : n < 1000000) : n ≤ sizeLine := Nat.le_of_lt (sl_lt h)
variable {Q : VK} {p : Addr} {i : Int} {v : V} {L' : List (Addr × HO)} {ds : List PyData} {d : PyData}
/-! ### cells: reading, writing -/
theorem Sv.ixL {x y : V} (st : Sv K H0 A H L T) (k : Nat) (q : Q v H) (h : L[k]? = some (p, .lst xs) := by rfl) (ex : x = .ref p := by rfl) (ey : y = .int i := by rfl) (hv : atI xs i = some v := by first | rfl | exact at_pos rfl) : uIx K x y H Q := by
  subst ex ey
  unfold uIx
  exact .inl ⟨xs, v, st.sq k h, hv, q⟩
theorem Sv.setI {x y : V} (st : Sv K H0 A H L T) (k : Nat) {j : Nat} (L' : List (Addr × HO)) {Q : Hp → Prop} (q : ∀ H', Sv K H0 A H' L' T → Q H') (h : L[k]? = some (p, .lst xs) := by rfl) (ex : x = .ref p := by rfl) (ey : y = .int i := by rfl) (hj : ixN xs.length i = some j := by rfl) (hL : L.set k (p, .lst (xs.set j v)) = L' := by rfl) : uSet x y v H Q := by
  subst ex ey
  unfold uSet
  exact .inl ⟨xs, i, j, rfl, st.at k h, hj, q _ (hL ▸ st.put k h trivial _)⟩
theorem Sv.tyL {x : V} (st : Sv K H0 A H L T) (k : Nat) (h : L[k]? = some (p, .lst xs) := by rfl) (ex : x = .ref p := by rfl) : tyV K "list" x H := by
  subst ex
  exact .inl ⟨rfl, _, st.sq k h⟩
theorem Sv.popAt {x : V} {vs : List V} (st : Sv K H0 A H L T) (k : Nat) {j : Nat} (L' : List (Addr × HO)) (q : ∀ H', Sv K H0 A H' L' T → Q v H') (h : L[k]? = some (p, .lst xs) := by rfl) (ex : x = .ref p := by rfl) (ey : vs = [.int i] := by rfl) (hj : i.toNat = j := by rfl) (hv : xs[j]? = some v := by rfl) (hL : L.set k (p, .lst (xs.eraseIdx j)) = L' := by rfl) (h0 : 0 ≤ i := by first | decide | omega) (hi : i < xs.length := by first | decide | (simp; done) | (simp; omega)) (hx : xs.length < 1000000 := by first | decide | (simp; done) | (simp; omega)) : aPopAt x vs H Q := by
  subst hj ex ey
  unfold aPopAt
  refine ⟨p, xs, i, i.toNat, v, rfl, rfl, st.at k h, by omega, by omega, ?_, hv, q _ (hL ▸ st.put k h trivial _)⟩
  have e1 : ¬ (i < 0) := by omega
  have e2 : ¬ (i < 0 ∨ (xs.length : Int) ≤ i) := by omega
  unfold seqIndex?
  simp only [if_neg e1]
  first
    | (rw [if_neg (by simpa using e2)])
    | (rw [if_pos (by simp; omega)])
    | simp [h0, hi]
theorem Sv.app {x : V} {vs : List V} (st : Sv K H0 A H L T) (k : Nat) (L' : List (Addr × HO)) (q : ∀ H', Sv K H0 A H' L' T → Q .non H') (h : L[k]? = some (p, .lst xs) := by rfl) (ex : x = .ref p := by rfl) (ey : vs = [v] := by rfl) (hL : L.set k (p, .lst (xs ++ [v])) = L' := by rfl) (hx : xs.length < 1000000 := by first | decide | (simp; done) | (simp; omega)) : aAppend x vs H Q := by
  subst ex ey
  unfold aAppend
  exact ⟨p, xs, v, rfl, rfl, st.at k h, sl_lt hx, q _ (hL ▸ st.put k h trivial _)⟩
theorem len_L {vs : List V} (h : SqL K H p xs) (q : Q (.int xs.length) H) (ex : vs = [.ref p] := by rfl) : uLen K vs H Q := by
  subst ex
  unfold uLen
  show aLen K p H Q
  unfold aLen
  exact .inl ⟨xs, h, q⟩
theorem ix_L {x y : V} (h : SqL K H p xs) (q : Q v H) (ex : x = .ref p := by rfl) (ey : y = .int i := by rfl) (hv : atI xs i = some v := by first | rfl | exact at_pos rfl) : uIx K x y H Q := by
  subst ex ey
  unfold uIx
  exact .inl ⟨xs, v, h, hv, q⟩
theorem ix_T {x y : V} (h : SqT K H p xs) (q : Q v H) (ex : x = .ref p := by rfl) (ey : y = .int i := by rfl) (hv : atI xs i = some v := by first | rfl | exact at_pos rfl) : uIx K x y H Q := by
  subst ex ey
  unfold uIx
  exact .inr (.inl ⟨xs, v, h, hv, q⟩)
/-! ### data: reading -/
theorem DtAll.c {d : PyData} (h : DtAll K H xs (d :: ds)) : ∃ x xs', xs = x :: xs' ∧ Dt K H x d ∧ DtAll K H xs' ds := by
  cases h with
  | cons h1 h2 => exact ⟨_, _, rfl, h1, h2⟩
theorem DtAll.cI {n : Int} (h : DtAll K H xs (.int n :: ds)) : ∃ xs', xs = .int n :: xs' ∧ DtAll K H xs' ds := by
  obtain ⟨x, xs', e, h1, h2⟩ := h.c
  exact ⟨xs', by rw [e, h1.eqI], h2⟩
theorem DtAll.n (h : DtAll K H xs []) : xs = [] := by cases h; rfl
theorem Dt.ix {y : V} (h : Dt K H v (.tuple ds)) (q : ∀ x, Dt K H x d → Q x H) (ey : y = .int i := by rfl) (hd : atI ds i = some d := by first | rfl | exact at_pos rfl) : uIx K v y H Q := by
  subst ey
  obtain ⟨a, xs, rfl, ht, ha⟩ := h.eqT
  have hl := ha.len
  unfold atI at hd
  cases e : ixN ds.length i with
  | none => rw [e] at hd; cases hd
  | some j =>
    rw [e] at hd
    obtain ⟨x, hx, hxd⟩ := ha.at_ (i := j) (d := d) hd
    refine ix_T ht.sq (q x hxd) (hv := ?_)
    unfold atI
    rw [hl, e]
    exact hx
theorem Dt.ixI {y : V} {n : Int} (h : Dt K H v (.tuple ds)) (q : Q (.int n) H) (ey : y = .int i := by rfl) (hd : atI ds i = some (.int n) := by first | rfl | exact at_pos rfl) : uIx K v y H Q := by
  subst ey
  exact h.ix (d := .int n) (fun x hx => by rw [hx.eqI]; exact q) rfl hd
theorem Dt.len {vs : List V} (h : Dt K H v (.tuple ds)) (q : Q (.int ds.length) H) (ex : vs = [v] := by rfl) : uLen K vs H Q := by
  subst ex
  obtain ⟨a, xs, rfl, ht, ha⟩ := h.eqT
  unfold uLen
  show aLen K a H Q
  unfold aLen
  exact .inr (.inl ⟨xs, ht.sq, by rw [ha.len]; exact q⟩)
theorem Dt.unp {n : Nat} {t : TGs} {σ : L2.St} {Q : L2.St → Hp → Prop} (h : Dt K H v (.tuple ds)) (q : ∀ xs, DtAll K H xs ds → t xs σ H Q) (hl : ds.length = n := by rfl) : gUn K n t v σ H Q := by
  obtain ⟨a, xs, rfl, ht, ha⟩ := h.eqT
  unfold gUn
  exact ⟨xs, .inl ht.sq, by rw [ha.len]; exact hl, q xs ha⟩
theorem unpL {n : Nat} {t : TGs} {σ : L2.St} {x : V} {Q : L2.St → Hp → Prop} (h : SqL K H p xs) (q : t xs σ H Q) (ex : x = .ref p := by rfl) (hl : xs.length = n := by rfl) : gUn K n t x σ H Q := by
  subst ex
  unfold gUn
  exact ⟨xs, .inr h, hl, q⟩
/-- a slice of a tuple -/
theorem Dt.sl {lo hi : Option Int} (st : Sv K H0 A H L T) (h : Dt K H v (.tuple ds)) {es : List PyData} (he : (ds.drop (HT.sIx ds.length 0 lo)).take (HT.sIx ds.length ds.length hi - HT.sIx ds.length 0 lo) = es)
    (q : ∀ x H', Sv K H0 A H' L ((x, .tuple es) :: T) → Q x H') : uSl K v lo hi H Q := by
  obtain ⟨a, xs, rfl, ht, ha⟩ := h.eqT
  have hl := ha.len
  subst he
  unfold uSl
  refine .inr ⟨a, xs, rfl, ht.sq, fun hw => ?_, fun hw p hp => ?_⟩
  · refine q _ _ (st.addT ?_)
    rw [hl] at hw
    rw [hw.1, hw.2, List.drop_zero, Nat.sub_zero, List.take_length]
    exact h
  · refine q _ _ (st.newT hp ?_)
    unfold cutV
    rw [hl]
    exact (ha.drop _).take _
/-- a slice of a list: a new list -/
theorem Sv.sl {x : V} {lo hi : Option Int} (st : Sv K H0 A H L T) (h : SqL K H p xs) {es : List V} (he : cutV xs lo hi = es) (q : ∀ x H', Sv K H0 A H' ((x, .lst es) :: L) T → Q (.ref x) H') (ex : x = .ref p := by rfl) : uSl K x lo hi H Q := by
  subst ex
  unfold uSl
  exact .inl ⟨p, xs, rfl, h, fun x hx => he ▸ q x _ (st.new hx _)⟩
/-- t + u -/
theorem Dt.cat (st : Sv K H0 A H L T) {u : V} {es : List PyData} (h : Dt K H v (.tuple ds)) (h2 : Dt K H u (.tuple es)) (hl : ds.length + es.length < 1000000) (q : ∀ x H', Sv K H0 A H' L ((x, .tuple (ds ++ es)) :: T) → Q x H') : uAdd K v u H Q := by
  obtain ⟨a, xs, rfl, ht, ha⟩ := h.eqT
  obtain ⟨b, ys, rfl, hu, hb⟩ := h2.eqT
  have l1 := ha.len
  have l2 := hb.len
  show aAdd K a b H Q
  unfold aAdd
  refine .inr ⟨a, b, xs, ys, rfl, rfl, ht.sq, hu.sq, sl_le (by omega), fun e => ?_, fun e1 e2 => ?_, fun _ _ p hp => q _ _ (st.newT hp (ha.append hb))⟩
  · refine q _ _ (st.addT ?_)
    have : ds = [] := List.eq_nil_of_length_eq_zero (by rw [← l1, e]; rfl)
    rw [this]
    exact h2
  · refine q _ _ (st.addT ?_)
    have : es = [] := List.eq_nil_of_length_eq_zero (by rw [← l2, e2]; rfl)
    rw [this, List.append_nil]
    exact h
/-- xs + ys: a new list -/
theorem Sv.cat {x y : V} (st : Sv K H0 A H L T) {a b : Addr} {xs ys : List V} (h1 : H a = some (.lst xs)) (h2 : H b = some (.lst ys)) (hl : xs.length + ys.length < 1000000) (q : ∀ p H', Sv K H0 A H' ((p, .lst (xs ++ ys)) :: L) T → Q (.ref p) H') (ex : x = .ref a := by rfl) (ey : y = .ref b := by rfl) : uAdd K x y H Q := by
  subst ex ey
  show aAdd K a b H Q
  unfold aAdd
  exact .inl ⟨a, b, xs, ys, rfl, rfl, h1, h2, sl_le hl, fun p hp => q p _ (st.new hp _)⟩
/-- list(x), tuple(x) -/
theorem Sv.listL {vs : List V} (st : Sv K H0 A H L T) (h : SqL K H p xs) (q : ∀ l H', Sv K H0 A H' ((l, .lst xs) :: L) T → Q (.ref l) H') (ex : vs = [.ref p] := by rfl) : uList K vs H Q := by
  subst ex
  unfold uList
  exact .inl ⟨xs, .inl h, fun l hl => q l _ (st.new hl _)⟩
theorem Sv.listT {vs : List V} (st : Sv K H0 A H L T) (h : Dt K H v (.tuple ds)) (q : ∀ l H' xs, DtAll K H' xs ds → Sv K H0 A H' ((l, .lst xs) :: L) T → Q (.ref l) H') (ex : vs = [v] := by rfl) : uList K vs H Q := by
  subst ex
  obtain ⟨a, xs, rfl, ht, ha⟩ := h.eqT
  unfold uList
  exact .inl ⟨xs, .inr ht.sq, fun l hl => q l _ xs (ha.mono (tp_new hl)) (st.new hl _)⟩
theorem Sv.tupL {vs : List V} (st : Sv K H0 A H L T) (h : SqL K H p xs) (hd : DtAll K H xs ds) (q : ∀ x H', Sv K H0 A H' L ((x, .tuple ds) :: T) → Q x H') (ex : vs = [.ref p] := by rfl) : uTuple K vs H Q := by
  subst ex
  unfold uTuple
  exact .inl ⟨xs, h, fun l hl => q _ _ (st.newT hl hd)⟩
theorem Sv.tupT {vs : List V} (h : Dt K H v (.tuple ds)) (q : Q v H) (ex : vs = [v] := by rfl) : uTuple K vs H Q := by
  subst ex
  obtain ⟨a, xs, rfl, ht, ha⟩ := h.eqT
  unfold uTuple
  exact .inr ⟨xs, ht.sq, q⟩
/-! ### loops -/
/-- for x in a list that stays -/
theorem forL {a : Addr} {g : TG} {tb : TS} {D : Ends} {σ : L2.St} (Pv : Nat → L2.St → Hp → Prop) (h : SqL K H a xs) (h0 : Pv 0 σ H) (hl : ∀ i σ H, i ≤ xs.length → Pv i σ H → SqL K H a xs)
    (hs : ∀ i x σ H, xs[i]? = some x → Pv i σ H → g x σ H fun σ2 H2 => tb { D with nx := Pv (i + 1), ct := Pv (i + 1), bk := D.nx } σ2 H2) (hd : ∀ σ H, Pv xs.length σ H → D.nx σ H) :
    aSeq K a H (fun J H1 => forI J g tb D σ H1) := by
  unfold aSeq forI
  exact .inl ⟨xs, h, for_list Pv h0 hl hs hd⟩
theorem forT {a : Addr} {g : TG} {tb : TS} {D : Ends} {σ : L2.St} (Pv : Nat → L2.St → Hp → Prop) (h : SqT K H a xs) (h0 : Pv 0 σ H) (hl : ∀ i σ H, i ≤ xs.length → Pv i σ H → SqT K H a xs)
    (hs : ∀ i x σ H, xs[i]? = some x → Pv i σ H → g x σ H fun σ2 H2 => tb { D with nx := Pv (i + 1), ct := Pv (i + 1), bk := D.nx } σ2 H2) (hd : ∀ σ H, Pv xs.length σ H → D.nx σ H) :
    aSeq K a H (fun J H1 => forI J g tb D σ H1) := by
  unfold aSeq forI
  exact .inr ⟨xs, h, for_tup Pv h0 hl hs hd⟩
/-- the element of a comprehension is made: it goes to the end of the new list -/
theorem Sv.lcEnd {D : Addr} {R : Hp → Prop} (st : Sv K H0 A H L T) (k : Nat) (h : L[k]? = some (D, .lst xs)) (hx : xs.length < 1000000) (L' : List (Addr × HO)) (q : ∀ H', Sv K H0 A H' L' T → R H') (hL : L.set k (D, .lst (xs ++ [v])) = L' := by rfl) :
    ∃ acc, H D = some (.lst acc) ∧ acc.length < sizeLine ∧ R (upd H D (.lst (acc ++ [v]))) := ⟨xs, st.at k h, sl_lt hx, q _ (hL ▸ st.put k h trivial _)⟩
theorem zip_all {ys : List V} {es : List PyData} (h : ∀ p ∈ ys.zip es, Dt K H p.1 p.2) (hl : ys.length = es.length) : DtAll K H ys es := by
  induction ys generalizing es with
  | nil =>
    cases es with
    | nil => exact .nil
    | cons e es => simp at hl
  | cons y ys ih =>
    cases es with
    | nil => simp at hl
    | cons e es => exact .cons (h (y, e) (by simp)) (ih (fun p hp => h p (by simp [hp])) (by simpa using hl))
theorem Sv.zipEnd {z : V} {ys : List V} {es : List PyData} (st : Sv K H0 A H L ((z, d) :: T)) (hT : ∀ p ∈ ys.zip es, p ∈ T) (hl : ys.length = es.length) : Sv K H0 A H L ((ys ++ [z]).zip (es ++ [d])) := by
  refine st.setT _ fun p hp => ?_
  rw [List.zip_append hl] at hp
  rcases List.mem_append.mp hp with hp | hp
  · exact st.dat p (List.mem_cons_of_mem _ (hT p hp))
  · have e : p = (z, d) := by simpa using hp
    rw [e]
    exact st.dat _ (by simp)
theorem Sv.all {ys : List V} {es : List PyData} (st : Sv K H0 A H L T) (hT : ∀ p ∈ ys.zip es, p ∈ T) (hl : ys.length = es.length) : DtAll K H ys es := zip_all (fun p hp => st.dat p (hT p hp)) hl
/-! ### isinstance -/
theorem isiL {t : IsiT} {a : Addr} (h : SqL K H a xs) (q : Q (.bl t.lst) H) : aIsi K t a H Q := by
  unfold aIsi
  exact .inl ⟨.lst, ⟨xs, h⟩, q⟩
theorem isiT {t : IsiT} {a : Addr} (h : SqT K H a xs) (q : Q (.bl t.tup) H) : aIsi K t a H Q := by
  unfold aIsi
  exact .inl ⟨.tup, ⟨xs, h⟩, q⟩
/-! ### == of data -/
theorem eqv_ints : ∀ ns ms : List Int, PyData.eqvAll (ns.map PyData.int) (ms.map PyData.int) = decide (ns = ms)
  | [], [] => rfl
  | [], _ :: _ => rfl
  | _ :: _, [] => rfl
  | n :: ns, m :: ms => by
    show (PyData.eqv (.int n) (.int m) && PyData.eqvAll (ns.map PyData.int) (ms.map PyData.int)) = _
    rw [eqv_ints ns ms]
    show ((n == m) && decide (ns = ms)) = _
    rw [Bool.eq_iff_iff]
    simp
theorem lay_ints : ∀ ns : List Int, PyData.canLayAll0 (ns.map PyData.int) = true
  | [] => rfl
  | n :: ns => by
    show (true && PyData.canLayAll0 (ns.map PyData.int)) = true
    rw [lay_ints ns]
    rfl
theorem dep_ints : ∀ ns : List Int, PyData.depthAll (ns.map PyData.int) = 0
  | [] => rfl
  | n :: ns => by
    show max 0 (PyData.depthAll (ns.map PyData.int)) = 0
    rw [dep_ints ns]
    rfl
theorem shaped_ints (ns : List Int) : SeqAt.shaped (.list (ns.map PyData.int)) = true := by
  show (PyData.canLayAll0 (ns.map PyData.int) && decide (PyData.depthAll (ns.map PyData.int) + 1 ≤ 64)) = true
  rw [lay_ints, dep_ints]
  rfl
theorem dp_ints (ns : List Int) : DpAll K H (ns.map V.int) (ns.map PyData.int) := (DtAll.ints (ns := ns)).dp
theorem eqL {x y : V} {a b : Addr} {ns ms : List Int} (h1 : SqL K H a (ns.map V.int)) (h2 : SqL K H b (ms.map V.int)) (q : Q (.bl (decide (ns = ms))) H) (ex : x = .ref a := by rfl) (ey : y = .ref b := by rfl) : uEq K x y H Q := by
  subst ex ey
  show aEq K _ _ H Q
  unfold aEq
  exact ⟨_, _, .lst h1 (dp_ints ns), .lst h2 (dp_ints ms), shaped_ints ns, shaped_ints ms, by
    show Q (.bl (PyData.eqvAll (ns.map PyData.int) (ms.map PyData.int))) H
    rw [eqv_ints]
    exact q⟩
theorem neL {x y : V} {a b : Addr} {ns ms : List Int} (h1 : SqL K H a (ns.map V.int)) (h2 : SqL K H b (ms.map V.int)) (q : Q (.bl (!decide (ns = ms))) H) (ex : x = .ref a := by rfl) (ey : y = .ref b := by rfl) : uNe K x y H Q := by
  subst ex ey
  show aNe K _ _ H Q
  unfold aNe
  exact ⟨_, _, .lst h1 (dp_ints ns), .lst h2 (dp_ints ms), shaped_ints ns, shaped_ints ms, by
    show Q (.bl (!PyData.eqvAll (ns.map PyData.int) (ms.map PyData.int))) H
    rw [eqv_ints]
    exact q⟩
/-- the same data twice -/
theorem eqSame {x u : V} {a : Addr} (h1 : Dt K H (.ref a) d) (h2 : Dt K H u d) (hs : SeqAt.shaped d = true) (q : Q (.bl true) H) (ex : x = .ref a := by rfl) : uEq K x u H Q := by
  subst ex
  have e : PyData.eqv d d = true := SeqAt.eqv_refl d (SeqAt.canLay_of_shaped hs)
  obtain ⟨ds, rfl⟩ : ∃ ds, d = .tuple ds := by cases h1; exact ⟨_, rfl⟩
  obtain ⟨b, ys, rfl, _⟩ := h2.eqT
  show aEq K _ _ H Q
  unfold aEq
  exact ⟨_, _, h1.dp, h2.dp, hs, hs, by rw [e]; exact q⟩
end
end Wk

namespace Wk
open PySem PySem.Spec PyProof.Rows L2
/-! ### the head: defs at paths of one's own, facts of one's own -/
/-- one def: the path to it, its name, qualified name, parameters, body, scope, defaults, keyword-only defaults -/
structure DefX where
  pl : PySem.W.Frag → Addr
  name : Str
  qual : Str
  params : Arguments
  body : List Stmt
  scope : Scope
  dfl : List He.Dv := []
  kwd : List (Str × He.Dv) := []
def fnX (K : PySem.W.Frag) (a : Addr) : He.FnW := match K.lookup a with
  | some ⟨_, _, .func fd, _⟩ => some (fd.name, fd.qualname, fd.params, fd.body, fd.scope, fd.globals, fd.closure, fd.builtins)
  | _ => none
def DefX.val (d : DefX) : He.FnW := some (d.name, d.qual, d.params, .stmts d.body, d.scope, mainGlobals, [], builtinsNs)
def DefX.dvs (K : PySem.W.Frag) (d : DefX) : List V := d.dfl.map (He.Dv.v K)
def DefX.kws (K : PySem.W.Frag) (d : DefX) : List (Str × V) := d.kwd.map fun q => (q.1, q.2.v K)
def DefX.ok (K : PySem.W.Frag) (d : DefX) : Bool := PySem.W.keepIn K (.ref (d.pl K)) && (match K.lookup (d.pl K) with
  | some ⟨_, _, .func fd, _⟩ => PySem.W.codeIn K fd.code d.qual && (He.dflB K fd.defaults (d.dvs K) && He.kwdB K fd.kwdefaults (d.kws K))
  | _ => false)
theorem DefX.funD {K : PySem.W.Frag} {d : DefX} (e : fnX K (d.pl K) = d.val) (c : d.ok K = true) : ∃ fd, FunD K d.name d.qual d.params d.body d.scope (d.dvs K) (d.kws K) (d.pl K) fd := by
  obtain ⟨kp, c2⟩ := He.ba c
  unfold fnX at e
  cases q : K.lookup (d.pl K) with
  | none =>
    rw [q] at c2
    cases c2
  | some o =>
    obtain ⟨oc, od, dt, osl⟩ := o
    rw [q] at c2 e
    cases dt with
    | func fd =>
      obtain ⟨n1, n2, n3, n4, n5, n6, n7, n8, n9, n10, n11, n12, n13, n14, n15⟩ := fd
      have e2 : (some (n1, n2, n3, n4, n5, n6, n7, n15) : He.FnW) = some (d.name, d.qual, d.params, .stmts d.body, d.scope, mainGlobals, [], builtinsNs) := e
      simp only [Option.some.injEq, Prod.mk.injEq] at e2
      obtain ⟨h1, h2, h3, h4, h5, h6, h7, h8⟩ := e2
      subst h1 h2 h3 h4 h5 h6 h7 h8
      have c3 : (PySem.W.codeIn K n13 d.qual && (He.dflB K n8 (d.dvs K) && He.kwdB K n9 (d.kws K))) = true := c2
      obtain ⟨k1, k2⟩ := He.ba c3
      obtain ⟨k3, k4⟩ := He.ba k2
      exact ⟨_, ⟨oc, od, n8, n9, n10, n11, n12, n13, n14, osl, rfl, q, k1, He.dflB_ok k3, He.kwdB_ok k4⟩, kp⟩
    | _ => cases c2
abbrev Fx : Type := PySem.W.Frag → Bool
def obsX (fa : List Fx) (fn : List DefX) (K : PySem.W.Frag) : He.AlD := ((fa.all fun f => f K) && fn.all fun d => d.ok K, fn.map fun d => fnX K (d.pl K))
def valX (fn : List DefX) : He.AlD := (true, fn.map DefX.val)
def SaysX (fa : List Fx) (fn : List DefX) (K : PySem.W.Frag) : Prop := obsX fa fn K = valX fn
def obsXG (n : Nat) (fa : List Fx) (fn : List DefX) (g : Addr → Option Obj) : He.AlD := obsX fa fn (He.frG g (He.asD g n))
def hookX (n : Nat) (fa : List Fx) (fn : List DefX) : PySem.W.Hook where
  α := He.AlD
  obs := fun s => obsXG n fa fn s.heap.get?
  val := fun _ => valX fn
  says := fun _ h => ∃ K : PySem.W.Frag, K.In h ∧ SaysX fa fn K
  of := fun _ _ e => ⟨_, He.frG_in, e⟩
  keeps := fun _ _ _ ⟨K, hK, c⟩ k => ⟨K, PySem.W.Frag.In.keeps hK k, c⟩
theorem obsXG_eq {n : Nat} {fa : List Fx} {fn : List DefX} {g : Addr → Option Obj} {s : Shared} (h : ∀ a, g a = s.heap.get? a) : obsXG n fa fn g = (hookX n fa fn).obs s := by
  have e : g = s.heap.get? := funext h
  rw [e] <;> rfl
section
variable {fa : List Fx} {fn : List DefX} {K : PySem.W.Frag}
theorem SaysX.fact (c : SaysX fa fn K) (i : Nat) {f : Fx} (h : fa[i]? = some f := by rfl) : f K = true := by
  have c1 := (He.ba (show ((fa.all fun f => f K) && fn.all fun d => d.ok K) = true from congrArg (fun z : He.AlD => z.1) c)).1
  exact List.all_eq_true.mp c1 f (List.mem_of_getElem? h)
theorem SaysX.def_ (c : SaysX fa fn K) (i : Nat) {d : DefX} (h : fn[i]? = some d := by rfl) : ∃ fd, FunD K d.name d.qual d.params d.body d.scope (d.dvs K) (d.kws K) (d.pl K) fd := by
  have c2 := (He.ba (show ((fa.all fun f => f K) && fn.all fun d => d.ok K) = true from congrArg (fun z : He.AlD => z.1) c)).2
  have e : fn.map (fun d => fnX K (d.pl K)) = fn.map DefX.val := congrArg (fun z : He.AlD => z.2) c
  have e2 : (fn.map fun d => fnX K (d.pl K))[i]? = (fn.map DefX.val)[i]? := by rw [e]
  rw [List.getElem?_map, List.getElem?_map, h] at e2
  exact DefX.funD (Option.some.inj e2) (List.all_eq_true.mp c2 d (List.mem_of_getElem? h))
end
/-! ### properties -/
def pa (K : PySem.W.Frag) (C : Addr) (f : Str) : Addr := match PySem.W.findIn K (.ref C) f with
  | some (some (.ref p)) => p
  | _ => 0
/-- the getter of a property -/
def pg (K : PySem.W.Frag) (C : Addr) (f : Str) : Addr := match PySem.W.recIn K (pa K C f) "property" with
  | some (.ref g :: _) => g
  | _ => 0
def prB (C f : Str) : Fx := fun K => He.eqO (PySem.W.findIn K (.ref (He.ga K C)) f) (some (some (.ref (pa K (He.ga K C) f)))) && (He.eqO (PySem.W.specialIn K (.ref (pa K (He.ga K C) f)) "__get__") (some (some (.builtin "property.__get__"))) &&
  (decide (PySem.W.takesIn K (.ref (pa K (He.ga K C) f)) = some true) && (match PySem.W.recIn K (pa K (He.ga K C) f) "property" with
    | some (.ref _ :: _) => true
    | _ => false)))
theorem pr_ok {K : PySem.W.Frag} {C f : Str} (h : prB C f K = true) : PropOf K (He.ga K C) f (pa K (He.ga K C) f) (pg K (He.ga K C) f) := by
  obtain ⟨h1, h2⟩ := He.ba h
  obtain ⟨h2, h3⟩ := He.ba h2
  obtain ⟨h3, h4⟩ := He.ba h3
  refine ⟨He.eqO_ok h1, He.eqO_ok h2, of_decide_eq_true h3, ?_⟩
  have e : (match PySem.W.recIn K (pa K (He.ga K C) f) "property" with
    | some (.ref _ :: _) => true
    | _ => false) = true := h4
  unfold pg
  revert e
  cases q : PySem.W.recIn K (pa K (He.ga K C) f) "property" with
  | none => intro e; cases e
  | some l =>
    cases l with
    | nil => intro e; cases e
    | cons v r =>
      cases v with
      | ref g => intro _; exact ⟨r, rfl⟩
      | _ => intro e; cases e
/-! ### instances -/
/-- e.f, an attribute of an instance of the class at C -/
@[irreducible] def uFl (C : Addr) (f : Str) (x : V) (H : Hp) (Q : VK) : Prop := ∃ a dx fs v, x = .ref a ∧ H a = some (.ins C dx fs) ∧ fs.lookup f = some v ∧ Q v H
@[irreducible] def uPutFl (C : Addr) (f : Str) (x y : V) (H : Hp) (R : Hp → Prop) : Prop := ∃ a dx fs, x = .ref a ∧ H a = some (.ins C dx fs) ∧ fs.length < 1000 ∧ R (upd H a (.ins C dx (putF f y fs)))
@[irreducible] def uIns (C : Addr) (m : Str) (x : V) (H : Hp) (R : Prop) : Prop := ∃ a dx fs, x = .ref a ∧ H a = some (.ins C dx fs) ∧ fs.lookup m = none ∧ R
@[irreducible] def uObj (C : Addr) (x : V) (H : Hp) (R : Prop) : Prop := ∃ a dx fs, x = .ref a ∧ H a = some (.ins C dx fs) ∧ R
@[irreducible] def uNew (C : Addr) (H : Hp) (R : V → Hp → Prop) : Prop := ∀ x dx, H x = none → H dx = none → dx ≠ x → R (.ref x) (upd (upd H dx (.own x)) x (.ins C dx []))
def cFl (C : Addr) (f : Str) (te : TE) : TE := fun σ H Q => te σ H fun x H1 => uFl C f x H1 Q
def cPutFl (C : Addr) (f : Str) (ta tv : TE) : TS := fun D σ H => tv σ H fun y H1 => ta σ H1 fun x H2 => uPutFl C f x y H2 fun H3 => D.nx σ H3
def cAugFl (C : Addr) (f : Str) (ta tv : TE) (rd : R2) : TS := fun D σ H => ta σ H fun x H1 => uFl C f x H1 fun v H2 => tv σ H2 fun y H3 => rd v y H3 fun z H4 => uPutFl C f x z H4 fun H5 => D.nx σ H5
def cMe (C : Addr) (m : Str) (sp : Sp) (dvs : List V) (E : XK) (ta : TE) (t : TA) : TE := fun σ H Q => ta σ H fun x H1 => uIns C m x H1 (t σ H1 fun vs H2 => sp (x :: (vs ++ dvs)) H2 Q E)
def cPr (C : Addr) (sp : Sp) (dvs : List V) (E : XK) (ta : TE) : TE := fun σ H Q => ta σ H fun x H1 => uObj C x H1 (sp (x :: dvs) H1 Q E)
def cMk (C : Addr) (sp : Sp) (dvs : List V) (E : XK) (t : TA) : TE := fun σ H Q => t σ H fun vs H1 => uNew C H1 fun x H2 => sp (x :: (vs ++ dvs)) H2 (fun v H3 => v = .non ∧ Q x H3) E
def uAddI : R2 := fun x y H Q => match x, y with
  | .int i, .int j => Q (.int (i + j)) H
  | _, _ => False
section
variable {X : Cx} {o e value : Expr} {f m x : Str} {p pos apos pos' tpos : Pos} {ta tv te : TE} {C g pp : Addr} {CX : CXT} {k : Nat} {fa : Addr} {fd : FuncData} {ps : List Str} {sp : Sp} {dvs : List V} {ds : List Value} {E : XK} {es : List Expr} {t : TA}
theorem eFl (he : PE X e te) (c : Cls X.K C) (n : NoAttr X.K C f) (hb : attributeBase e f X.env (eval e X.env) = eval e X.env := by rfl) : PE X (.Attribute e f pos) (cFl C f te) := by
  refine ⟨fun pins s σ H Q I h => ?_⟩
  refine attr_of hb (thn (he.run pins s σ H _ I h) fun u s1 ⟨x, H1, I1, rx, q⟩ => ?_)
  unfold uFl at q
  obtain ⟨a, dx, fs, v, ex, ea, l, q⟩ := q
  subst ex
  obtain rfl : u = Value.ref a := rx
  exact getattr_ok I1 ea c n l fun u' s2 I2 ru => ⟨v, H1, I2, ru, q⟩
theorem sPutFl (ha : PE X o ta) (hv : PE X value tv) (c : Cls X.K C) (n : NoAttr X.K C f) (hs : swapsWith value (some (.Attribute o f pos')) pos.line X.env = pure false := by rfl) : PS X (.Assign [.Attribute o f pos'] value pos) (cPutFl C f ta tv) := by
  refine ⟨fun pins s σ H D I h => ?_⟩
  refine plainObj_wpAny_Assign_Attribute (thn (hv.run pins s σ H _ I h) fun u s1 ⟨y, H1, I1, ry, q⟩ => thn (ha.run pins s1 σ H1 _ I1 q) fun ov s2 ⟨x, H2, I2, rx, q⟩ => ?_) hs
  unfold uPutFl at q
  obtain ⟨a, dx, fs, ex, ea, l, q2⟩ := q
  subst ex
  obtain rfl : ov = Value.ref a := rx
  exact setattr_ok I2 ea c n l ry fun s3 I3 => ⟨σ, _, I3, q2⟩
theorem sAugFl {op : Operator} {rd : R2} (ha : PE X o ta) (hv : PE X value tv) (hop : InOp X op rd) (c : Cls X.K C) (n : NoAttr X.K C f) : PS X (.AugAssign (.Attribute o f tpos) op value pos) (cAugFl C f ta tv rd) := by
  refine ⟨fun pins s σ H D I h => ?_⟩
  refine wpAny_AugAssign_AttributeAny (thn (ha.run pins s σ H _ I h) fun ov s1 ⟨x, H1, I1, rx, q⟩ => ?_)
  unfold uFl at q
  obtain ⟨a, dx, fs, v, ex, ea, l, q⟩ := q
  subst ex
  obtain rfl : ov = Value.ref a := rx
  refine getattr_ok I1 ea c n l fun u s2 I2 ru => thn (hv.run pins s2 σ H1 _ I2 q) fun w3 s3 ⟨y, H2, I3, ry, q3⟩ => thn (hop pins s3 σ H2 v y u w3 _ I3 ru ry q3) fun w4 s4 ⟨z, H3, I4, rz, q4⟩ => ?_
  unfold uPutFl at q4
  obtain ⟨a', dx', fs', ea2, ea', l', q4⟩ := q4
  obtain rfl := V.ref.inj ea2
  exact setattr_ok I4 ea' c n l' rz fun s5 I5 => ⟨σ, _, I5, q4⟩
theorem inAdd : InOp X .Add uAddI := by
  intro pins s σ H x y u v Q I rx ry q
  cases x <;> cases y <;> first
    | exact (show False from q).elim
    | exact in_add pins s σ H _ _ u v Q I rx ry ⟨_, _, rfl, rfl, q⟩
theorem eMe {pl : Sem Bool} (he : PE X o ta) (hm : Meth X.K C m fa) (F : FnOk X.prog X.w X.K X.mg X.base CX k fa fd ps sp) (hr : Room k X.A) (c : Cls X.K C) (hb : Binds X.K fd ps ds) (hd : Vals dvs ds) (hx : Passes CX X E) (ha : PA X (e :: es) t)
    (hst : starEach (e :: es) X.env = (false, eval e X.env) :: starEach es X.env := by rfl) (hpl : (backTo pos (starEach es X.env)).any (·.1) = false := by rfl)
    (ht : eval (.Call (.Attribute o m apos) (e :: es) [] pos) X.env = (do
      let ov ← eval o X.env
      standAt apos.atName
      let (f, first) ← holding [ov] (getMethod ov m pl)
      callWith pos f first (backTo pos (starEach (e :: es) X.env)) (backToKw pos (keywordEach [] X.env))) := by rfl) :
    PE X (.Call (.Attribute o m apos) (e :: es) [] pos) (cMe C m sp dvs E ta t) := by
  refine ⟨fun pins s σ H Q I h => ?_⟩
  refine PySem.W.methodCall_KW (pl := pl) (thn (he.run pins s σ H _ I h) fun u s1 ⟨x, H1, I1, rx, q⟩ => ?_) ht
  unfold uIns at q
  obtain ⟨a, dx, fs, ex, ea, l, q⟩ := q
  subst ex
  obtain rfl : u = Value.ref a := rx
  refine getmeth_ok I1 ea c hm l ?_
  refine PySem.W.callWith_K (first := [.ref a]) (h₀ := X.base) I.ok.mod.kin hm.kp (thn (ha.run pos pins s1 σ H1 _ I1 q) fun us s2 ⟨vs, H2, I2, r, q2⟩ => ⟨I2.kIn, ?_⟩) hst hpl
  exact run_fn (us := .ref a :: us) (vs := .ref a :: vs) F hr hb hd hx I2 (.cons rfl r) q2
theorem eMe0 {pl : Sem Bool} (he : PE X o ta) (hm : Meth X.K C m fa) (F : FnOk X.prog X.w X.K X.mg X.base CX k fa fd ps sp) (hr : Room k X.A) (c : Cls X.K C) (hb : Binds X.K fd ps ds) (hd : Vals dvs ds) (hx : Passes CX X E)
    (ht : eval (.Call (.Attribute o m apos) [] [] pos) X.env = (do
      let ov ← eval o X.env
      standAt apos.atName
      let (f, first) ← holding [ov] (getMethod ov m pl)
      callWith pos f first (backTo pos (starEach [] X.env)) (backToKw pos (keywordEach [] X.env))) := by rfl) :
    PE X (.Call (.Attribute o m apos) [] [] pos) (cMe C m sp dvs E ta tNil) := by
  refine ⟨fun pins s σ H Q I h => ?_⟩
  refine PySem.W.methodCall_KW (pl := pl) (thn (he.run pins s σ H _ I h) fun u s1 ⟨x, H1, I1, rx, q⟩ => ?_) ht
  unfold uIns at q
  obtain ⟨a, dx, fs, ex, ea, l, q⟩ := q
  subst ex
  obtain rfl : u = Value.ref a := rx
  refine getmeth_ok I1 ea c hm l ?_
  exact PySem.W.callWith_K0 (first := [.ref a]) I1.kIn hm.kp (run_fn (us := [.ref a]) (vs := [.ref a]) F hr hb hd hx I1 (.cons rfl .nil) q)
theorem ePr (he : PE X e ta) (hp : PropOf X.K C f pp g) (F : FnOk X.prog X.w X.K X.mg X.base CX k g fd ps sp) (hr : Room (k + 1) X.A) (c : Cls X.K C) (hb : Binds X.K fd ps ds) (hd : Vals dvs ds) (hx : Passes CX X.nox E)
    (hab : attributeBase e f X.env (eval e X.env) = eval e X.env := by rfl) : PE X (.Attribute e f pos) (cPr C sp dvs E ta) := by
  refine ⟨fun pins s σ H Q I h => ?_⟩
  refine attr_of hab (thn (he.run pins s σ H _ I h) fun u s1 ⟨x, H1, I1, rx, q⟩ => ?_)
  unfold uObj at q
  obtain ⟨a, dx, fs, ex, ea, q⟩ := q
  subst ex
  obtain rfl : u = Value.ref a := rx
  exact getprop_ok I1 ea c hp F hr hb hd hx q
theorem eMk (M : Mk X.K C fa) (F : FnOk X.prog X.w X.K X.mg X.base CX k fa fd ps sp) (hr : Room (k + 1) X.A) (hg : Gl X x) (hm : X.mg x = some (.ref C)) (hb : Binds X.K fd ps ds) (hd : Vals dvs ds) (hx : Passes CX X E)
    (ha : PA X (e :: es) t) (hdb : (x == ("__debug__" : Str)) = false := by decide) (he : starEach (e :: es) X.env = (false, eval e X.env) :: starEach es X.env := by rfl) (hpl : (backTo pos (starEach es X.env)).any (·.1) = false := by rfl) :
    PE X (.Call (.Name x p) (e :: es) [] pos) (cMk C sp dvs E t) := by
  refine ⟨fun pins s σ H Q I h => ?_⟩
  refine wpAny_Call_Name_kw (ld_glob I hg hm ?_ hdb)
  refine PySem.W.callWith_K (h₀ := X.base) I.ok.mod.kin M.kp (thn (ha.run pos pins s σ H _ I h) fun us s1 ⟨vs, H1, I1, r, q⟩ => ⟨I1.kIn, ?_⟩) he hpl
  unfold uNew at q
  exact run_make M F hr hb hd hx I1 r q
theorem eMk0 (M : Mk X.K C fa) (F : FnOk X.prog X.w X.K X.mg X.base CX k fa fd ps sp) (hr : Room (k + 1) X.A) (hg : Gl X x) (hm : X.mg x = some (.ref C)) (hb : Binds X.K fd ps ds) (hd : Vals dvs ds) (hx : Passes CX X E)
    (hdb : (x == ("__debug__" : Str)) = false := by decide) : PE X (.Call (.Name x p) [] [] pos) (cMk C sp dvs E tNil) := by
  refine ⟨fun pins s σ H Q I h => ?_⟩
  refine wpAny_Call_Name_kw (ld_glob I hg hm ?_ hdb)
  have q : uNew C H fun x H2 => sp (x :: ([] ++ dvs)) H2 (fun v H3 => v = .non ∧ Q x H3) E := h
  unfold uNew at q
  exact PySem.W.callWith_K0 I.kIn M.kp (run_make (us := []) M F hr hb hd hx I .nil q)
end
section
variable {K : PySem.W.Frag} {H0 H : Hp} {A : List Addr} {L : List (Addr × HO)} {T : List (V × PyData)} {a C dx : Addr} {fs fs' : List (Str × V)} {f : Str} {v x y : V} {Q : VK}
theorem lk_here {k : Str} {v : V} {r : List (Str × V)} : List.lookup k ((k, v) :: r) = some v := by
  have e : (k == k) = true := beq_self_eq_true k
  simp only [List.lookup, e]
theorem lk_past {k g : Str} {v : V} {r : List (Str × V)} {w : Option V} (h : List.lookup k r = w) (e : (k == g) = false := by decide +kernel) : List.lookup k ((g, v) :: r) = w := by
  simp only [List.lookup, e]
  exact h
theorem lk_nil {k : Str} : List.lookup k ([] : List (Str × V)) = none := rfl
theorem put_here {f : Str} {v x : V} {r : List (Str × V)} : putF f v ((f, x) :: r) = (f, v) :: r := if_pos rfl
theorem put_past {f g : Str} {v x : V} {r r' : List (Str × V)} (h : putF f v r = r') (e : (g == f) = false := by decide +kernel) : putF f v ((g, x) :: r) = (g, x) :: r' := by
  rw [← h]
  exact if_neg fun q => by rw [q, beq_self_eq_true] at e; cases e
theorem put_nil {f : Str} {v : V} : putF f v [] = [(f, v)] := rfl
local macro_rules | `(tactic| walk_at "lk") => `(tactic| repeat (first | exact lk_nil | exact lk_here | refine lk_past ?_))
local macro_rules | `(tactic| walk_at "pf") => `(tactic| repeat (first | exact put_nil | exact put_here | refine put_past ?_))
/-- an attribute is read -/
theorem Sv.fl (st : Sv K H0 A H L T) (k : Nat) (q : Q v H) (h : L[k]? = some (a, .ins C dx fs) := by rfl) (ex : x = .ref a := by rfl) (hl : fs.lookup f = some v := by walk_at "lk") : uFl C f x H Q := by
  subst ex
  unfold uFl
  exact ⟨a, dx, fs, v, rfl, st.at k h, hl, q⟩
/-- .. written -/
theorem Sv.putFl (st : Sv K H0 A H L T) (k : Nat) (L' : List (Addr × HO)) {R : Hp → Prop} (q : ∀ H', Sv K H0 A H' L' T → R H') (h : L[k]? = some (a, .ins C dx fs) := by rfl) (ex : x = .ref a := by rfl) (hL : L.set k (a, .ins C dx fs') = L' := by rfl) (hp : putF f y fs = fs' := by walk_at "pf") (hn : fs.length < 1000 := by first | decide | (simp; done) | omega) : uPutFl C f x y H R := by
  subst ex
  unfold uPutFl
  refine ⟨a, dx, fs, rfl, st.at k h, hn, q _ ?_⟩
  rw [hp, ← hL]
  exact st.put k h trivial _
theorem Sv.ins {m : Str} {R : Prop} (st : Sv K H0 A H L T) (k : Nat) (q : R) (h : L[k]? = some (a, .ins C dx fs) := by rfl) (ex : x = .ref a := by rfl) (hl : fs.lookup m = none := by walk_at "lk") : uIns C m x H R := by
  subst ex
  unfold uIns
  exact ⟨a, dx, fs, rfl, st.at k h, hl, q⟩
theorem Sv.obj {R : Prop} (st : Sv K H0 A H L T) (k : Nat) (q : R) (h : L[k]? = some (a, .ins C dx fs) := by rfl) (ex : x = .ref a := by rfl) : uObj C x H R := by
  subst ex
  unfold uObj
  exact ⟨a, dx, fs, rfl, st.at k h, q⟩
/-- a new instance -/
theorem Sv.make {R : V → Hp → Prop} (st : Sv K H0 A H L T) (q : ∀ x dx H', Sv K H0 A H' ((x, .ins C dx []) :: (dx, .own x) :: L) T → R (.ref x) H') : uNew C H R := by
  unfold uNew
  exact fun x dx hx hd ne => q x dx _ ((st.new hd (.own x)).new (by rw [upd_ne (Ne.symm ne)]; exact hx) _)
end
end Wk

namespace Wk
open PySem PySem.Spec PyProof.Rows L2
@[irreducible] def nwK (H : Hp) (Q : VK) : Prop := ∀ p, H p = none → Q (.ref p) (upd H p (.dK []))
@[irreducible] def nwT (H : Hp) (Q : VK) : Prop := ∀ p, H p = none → Q (.ref p) (upd H p (.dT []))
def cNewK : TE := fun _ H Q => nwK H Q
def cNewT : TE := fun _ H Q => nwT H Q
@[irreducible] def uG (a : Addr) (y z : V) (H : Hp) (Q : VK) : Prop := ∃ o, DGet H a y o ∧ Q (o.getD z) H
@[irreducible] def uP1 (a : Addr) (y : V) (H : Hp) (Q : VK) : Prop := ∃ kvs k v, H a = some (.dK kvs) ∧ y = kV k ∧ valV kvs k = some v ∧ Q v (upd H a (.dK (dropK kvs k)))
@[irreducible] def uDel (x y : V) (H : Hp) (R : Hp → Prop) : Prop := ∃ a kvs k, x = .ref a ∧ H a = some (.dK kvs) ∧ y = kV k ∧ (valV kvs k).isSome = true ∧ R (upd H a (.dK (dropK kvs k)))
@[irreducible] def nwP (H : Hp) (R : Addr → Hp → Prop) : Prop := ∀ p, H p = none → R p (upd H p (.dK []))
@[irreducible] def uDone (p : Addr) (ps : List (V × V)) (H : Hp) (Q : VK) : Prop := H p = some (.dK []) ∧ ∃ kvs : List (Key × V), ps = kvs.map (fun kv => (kV kv.1, kv.2)) ∧ kvs.length ≤ 15 ∧ Q (.ref p) (upd H p (.dK (mergeK [] kvs)))
def cGet1 (td ty : TE) : TE := fun σ H Q => td σ H fun x H1 => match x with
  | .ref a => IsD H1 a ∧ ty σ H1 fun y H2 => uG a y .non H2 Q
  | _ => False
def cGet2 (td ty tx : TE) : TE := fun σ H Q => td σ H fun x H1 => match x with
  | .ref a => IsD H1 a ∧ ty σ H1 fun y H2 => tx σ H2 fun z H3 => uG a y z H3 Q
  | _ => False
def cPop1 (td ty : TE) : TE := fun σ H Q => td σ H fun x H1 => match x with
  | .ref a => IsD H1 a ∧ ty σ H1 fun y H2 => uP1 a y H2 Q
  | _ => False
def cDel (td ty : TE) : TS := fun D σ H => td σ H fun x H1 => ty σ H1 fun y H2 => uDel x y H2 fun H3 => D.nx σ H3
def cDisp (trs : List (TE × TE)) : TE := fun σ H Q => nwP H fun p H1 => tPairs trs σ H1 fun ps H2 => uDone p ps H2 Q
theorem ref_match {x : V} {P : Addr → Prop} : (match x with | .ref a => P a | _ => False) = ∃ a, x = .ref a ∧ P a := by
  refine propext ⟨fun h => ?_, fun ⟨a, e, h⟩ => by subst e; exact h⟩
  cases x <;> first
    | exact ⟨_, rfl, h⟩
    | exact h.elim
theorem cGet1_eq (td ty : TE) : cGet1 td ty = tDGet1 td ty := by
  funext σ H Q
  unfold cGet1 tDGet1 uG
  congr
  funext x H1
  exact ref_match
theorem cGet2_eq (td ty tx : TE) : cGet2 td ty tx = tDGet2 td ty tx := by
  funext σ H Q
  unfold cGet2 tDGet2 uG
  congr
  funext x H1
  exact ref_match
theorem cPop1_eq (td ty : TE) : cPop1 td ty = tDPop1 td ty := by
  funext σ H Q
  unfold cPop1 tDPop1 uP1
  congr
  funext x H1
  exact ref_match
section
variable {X : Cx} {o e f i : Expr} {apos cpos pos tpos : Pos} {td ty tx : TE}
theorem eNewK : PE X (.Dict [] [] pos) cNewK := by
  have e : cNewK = tDNewK := by
    unfold cNewK tDNewK nwK
    rfl
  rw [e]
  exact pe_dnewK
theorem eNewT : PE X (.Dict [] [] pos) cNewT := by
  have e : cNewT = tDNewT := by
    unfold cNewT tDNewT nwT
    rfl
  rw [e]
  exact pe_dnewT
theorem eGet1 (hu : X.A.units + 64 < cLine) (ho : PE X o td) (he : PE X e ty) (m : M1 X o "get" apos e cpos := by exact ⟨rfl, rfl, rfl, rfl⟩) : PE X (.Call (.Attribute o "get" apos) [e] [] cpos) (cGet1 td ty) := by
  rw [cGet1_eq]
  exact pe_dget1 (by omega) ho he m
theorem eGet2 (hu : X.A.units + 64 < cLine) (ho : PE X o td) (he : PE X e ty) (hf : PE X f tx) (m : M2 X o "get" apos e f cpos := by exact ⟨rfl, rfl, rfl, rfl⟩) : PE X (.Call (.Attribute o "get" apos) [e, f] [] cpos) (cGet2 td ty tx) := by
  rw [cGet2_eq]
  exact pe_dget2 (by omega) ho he hf m
theorem ePopK (ho : PE X o td) (he : PE X e ty) (m : M1 X o "pop" apos e cpos := by exact ⟨rfl, rfl, rfl, rfl⟩) : PE X (.Call (.Attribute o "pop" apos) [e] [] cpos) (cPop1 td ty) := by
  rw [cPop1_eq]
  exact pe_dpop1 ho he m
theorem sDel (ho : PE X o td) (hi : PE X i ty) : PS X (.Delete [.Subscript o i tpos] pos) (cDel td ty) := by
  have e : cDel td ty = sDDel td ty := by
    funext D σ H
    unfold cDel sDDel uDel
    congr
  rw [e]
  exact ps_ddel ho hi
theorem eDisp {keys : List (Option Expr)} {values : List Expr} {trs : List (TE × TE)} (h : PPs X pos keys values trs) (hall : keys.all (·.isSome) = true := by rfl) (hl : keys.length = values.length := by rfl) (h0 : keys ≠ [] := by exact List.cons_ne_nil _ _) (hn : keys.length ≤ 15 := by decide) : PE X (.Dict keys values pos) (cDisp trs) := by
  have e : cDisp trs = tDisp trs := by
    unfold cDisp tDisp nwP uDone
    rfl
  rw [e]
  exact pe_disp h hall hl h0 hn
end
section
variable {K : PySem.W.Frag} {H0 H : Hp} {A : List Addr} {L : List (Addr × HO)} {T : List (V × PyData)} {a p : Addr} {kvs : List (Key × V)} {v x y z : V} {Q : VK}
theorem Sv.nwK (st : Sv K H0 A H L T) (k : ∀ p H', Sv K H0 A H' ((p, .dK []) :: L) T → Q (.ref p) H') : nwK H Q := by
  unfold Wk.nwK
  exact fun p hp => k p _ (st.new hp _)
theorem Sv.nwT (st : Sv K H0 A H L T) (k : ∀ p H', Sv K H0 A H' ((p, .dT []) :: L) T → Q (.ref p) H') : nwT H Q := by
  unfold Wk.nwT
  exact fun p hp => k p _ (st.new hp _)
theorem Sv.nwP {R : Addr → Hp → Prop} (st : Sv K H0 A H L T) (k : ∀ p H', Sv K H0 A H' ((p, .dK []) :: L) T → R p H') : nwP H R := by
  unfold Wk.nwP
  exact fun p hp => k p _ (st.new hp _)
theorem Sv.isK (st : Sv K H0 A H L T) (k : Nat) (h : L[k]? = some (a, .dK kvs) := by rfl) : IsD H a := .inl ⟨kvs, .inl (st.at k h)⟩
/-- the pairs of a display are made -/
theorem Sv.done {ps : List (V × V)} (st : Sv K H0 A H L T) (k : Nat) (kvs : List (Key × V)) (L' : List (Addr × HO)) (q : ∀ H', Sv K H0 A H' L' T → Q (.ref p) H') (h : L[k]? = some (p, .dK []) := by rfl) (he : ps = kvs.map (fun kv => (kV kv.1, kv.2)) := by rfl) (hn : kvs.length ≤ 15 := by decide) (hL : L.set k (p, .dK (mergeK [] kvs)) = L' := by rfl) : uDone p ps H Q := by
  unfold uDone
  exact ⟨st.at k h, kvs, he, hn, q _ (hL ▸ st.put k h trivial _)⟩
theorem isK_H (h : H a = some (.dK kvs)) : IsD H a := .inl ⟨kvs, .inl h⟩
theorem fl_H {C dx : Addr} {fs : List (Str × V)} {f : Str} (h : H a = some (.ins C dx fs)) (q : Q v H) (ex : x = .ref a := by rfl) (hl : fs.lookup f = some v := by walk_at "lk") : uFl C f x H Q := by
  subst ex
  unfold uFl
  exact ⟨a, dx, fs, v, rfl, h, hl, q⟩
theorem ins_H {C dx : Addr} {fs : List (Str × V)} {m : Str} {R : Prop} (h : H a = some (.ins C dx fs)) (q : R) (ex : x = .ref a := by rfl) (hl : fs.lookup m = none := by walk_at "lk") : uIns C m x H R := by
  subst ex
  unfold uIns
  exact ⟨a, dx, fs, rfl, h, hl, q⟩
theorem obj_H {C dx : Addr} {fs : List (Str × V)} {R : Prop} (h : H a = some (.ins C dx fs)) (q : R) (ex : x = .ref a := by rfl) : uObj C x H R := by
  subst ex
  unfold uObj
  exact ⟨a, dx, fs, rfl, h, q⟩
theorem getK_H (key : Key) (h : H a = some (.dK kvs)) (q : Q ((valV kvs key).getD z) H) (ey : y = kV key := by rfl) : uG a y z H Q := by
  subst ey
  unfold uG
  exact ⟨_, .k h, q⟩
theorem inK_H (key : Key) (h : H a = some (.dK kvs)) (q : Q (.bl (valV kvs key).isSome) H) (ex : x = .ref a := by rfl) (ey : y = kV key := by rfl) : uIn K y x H Q := by
  subst ex ey
  unfold uIn
  exact .inr (.inl ⟨a, _, rfl, .k h, q⟩)
theorem notInK_H (key : Key) (h : H a = some (.dK kvs)) (q : Q (.bl (!(valV kvs key).isSome)) H) (ex : x = .ref a := by rfl) (ey : y = kV key := by rfl) : uNotIn K y x H Q := by
  subst ex ey
  unfold uNotIn
  exact .inr (.inl ⟨a, _, rfl, .k h, q⟩)
theorem ixK_H (key : Key) (h : H a = some (.dK kvs)) (hv : valV kvs key = some v) (q : Q v H) (ex : x = .ref a := by rfl) (ey : y = kV key := by rfl) : uIx K x y H Q := by
  subst ex ey
  have g : DGet H a (kV key) (some v) := hv ▸ DGet.k h
  unfold uIx
  cases key with
  | inl i => exact .inr (.inr ⟨v, g, q⟩)
  | inr s => exact ⟨v, g, q⟩
/-- d.get(key, z) -/
theorem Sv.getK (st : Sv K H0 A H L T) (k : Nat) (key : Key) (q : Q ((valV kvs key).getD z) H) (h : L[k]? = some (a, .dK kvs) := by rfl) (ey : y = kV key := by rfl) : uG a y z H Q := by
  subst ey
  unfold uG
  exact ⟨_, .k (st.at k h), q⟩
/-- key in d -/
theorem Sv.inK (st : Sv K H0 A H L T) (k : Nat) (key : Key) (q : Q (.bl (valV kvs key).isSome) H) (h : L[k]? = some (a, .dK kvs) := by rfl) (ex : x = .ref a := by rfl) (ey : y = kV key := by rfl) : uIn K y x H Q := by
  subst ex ey
  unfold uIn
  exact .inr (.inl ⟨a, _, rfl, .k (st.at k h), q⟩)
theorem Sv.notInK (st : Sv K H0 A H L T) (k : Nat) (key : Key) (q : Q (.bl (!(valV kvs key).isSome)) H) (h : L[k]? = some (a, .dK kvs) := by rfl) (ex : x = .ref a := by rfl) (ey : y = kV key := by rfl) : uNotIn K y x H Q := by
  subst ex ey
  unfold uNotIn
  exact .inr (.inl ⟨a, _, rfl, .k (st.at k h), q⟩)
/-- d[key], there -/
theorem Sv.ixK (st : Sv K H0 A H L T) (k : Nat) (key : Key) (hv : valV kvs key = some v) (q : Q v H) (h : L[k]? = some (a, .dK kvs) := by rfl) (ex : x = .ref a := by rfl) (ey : y = kV key := by rfl) : uIx K x y H Q := by
  subst ex ey
  have g : DGet H a (kV key) (some v) := hv ▸ DGet.k (st.at k h)
  unfold uIx
  cases key with
  | inl i => exact .inr (.inr ⟨v, g, q⟩)
  | inr s => exact ⟨v, g, q⟩
/-- d[key] = v -/
theorem Sv.setK (st : Sv K H0 A H L T) (k : Nat) (key : Key) (L' : List (Addr × HO)) {R : Hp → Prop} (q : ∀ H', Sv K H0 A H' L' T → R H') (h : L[k]? = some (a, .dK kvs) := by rfl) (ex : x = .ref a := by rfl) (ey : y = kV key := by rfl) (hL : L.set k (a, .dK (putK kvs key v)) = L' := by rfl) (hn : kvs.length < 1000000 := by first | decide | (simp; done) | (simp; omega) | omega) : uSet x y v H R := by
  subst ex ey
  unfold uSet
  exact .inr ⟨_, .k (st.at k h) (sl_lt hn), q _ (hL ▸ st.put k h trivial _)⟩
/-- d.pop(key), there -/
theorem Sv.popK (st : Sv K H0 A H L T) (k : Nat) (key : Key) (L' : List (Addr × HO)) (hv : valV kvs key = some v) (q : ∀ H', Sv K H0 A H' L' T → Q v H') (h : L[k]? = some (a, .dK kvs) := by rfl) (ey : y = kV key := by rfl) (hL : L.set k (a, .dK (dropK kvs key)) = L' := by rfl) : uP1 a y H Q := by
  subst ey
  unfold uP1
  exact ⟨kvs, key, v, st.at k h, rfl, hv, q _ (hL ▸ st.put k h trivial _)⟩
theorem Sv.delK (st : Sv K H0 A H L T) (k : Nat) (key : Key) (L' : List (Addr × HO)) {R : Hp → Prop} (hv : (valV kvs key).isSome = true) (q : ∀ H', Sv K H0 A H' L' T → R H') (h : L[k]? = some (a, .dK kvs) := by rfl) (ex : x = .ref a := by rfl) (ey : y = kV key := by rfl) (hL : L.set k (a, .dK (dropK kvs key)) = L' := by rfl) : uDel x y H R := by
  subst ex ey
  unfold uDel
  exact ⟨a, kvs, key, rfl, st.at k h, rfl, hv, q _ (hL ▸ st.put k h trivial _)⟩
theorem len_K {vs : List V} (h : H p = some (.dK kvs)) (q : Q (.int kvs.length) H) (ex : vs = [.ref p] := by rfl) : uLen K vs H Q := by
  subst ex
  unfold uLen
  show aLen K p H Q
  unfold aLen
  exact .inr (.inr ⟨kvs, h, q⟩)
end
end Wk

namespace Wk
open PySem PySem.Spec PyProof.Rows L2
/-! ### sum -/
@[irreducible] def uSum (K : PySem.W.Frag) : List V → Hp → VK → Prop := rSum K
theorem bSum {X : Cx} (hc : X.calm = true) : CallR X (.builtin "sum") (uSum X.K) := by
  unfold uSum
  exact cr_sum hc
/-! ### word[::-1] -/
@[irreducible] def uRevS (x : V) (H : Hp) (Q : VK) : Prop := ∃ z : Str, x = .str z ∧ z.length ≤ sizeLine ∧ ∀ y : Str, y.length ≤ z.length → Q (.str y) H
def cRevS (te : TE) : TE := fun σ H Q => te σ H fun x H1 => uRevS x H1 Q
theorem rev_len (n : Nat) : (Builtin.Str.strSliceIndices none none (-1) n).length ≤ n := by
  unfold Builtin.Str.strSliceIndices
  simp only []
  unfold sliceRange
  simp
  split <;> omega
theorem eRevS {X : Cx} {e : Expr} {te : TE} {k : Nat} {p1 p2 p3 pos : Pos} (he : PE X e te) : PE X (.Subscript e (.Slice none none (some (.UnaryOp .USub (.Constant (.int 1) k p1) p2)) p3) pos) (cRevS te) := by
  refine ⟨fun pins s σ H Q I h => ?_⟩
  refine Subscript_ (thn (he.run pins s σ H _ I h) fun v s1 ⟨x, H1, I1, r1, q1⟩ => ?_)
  unfold uRevS at q1
  obtain ⟨z, ex, hz, q⟩ := q1
  subst ex
  obtain ⟨t, rfl⟩ := r1
  have hst : PO X (some (.UnaryOp .USub (.Constant (.int 1) k p1) p2)) (tPart (tUn (rU fun i => .int (-i)) (tC (.int 1)))) := po_some (pe_un un_neg pe_int)
  refine wpAny_Slice (thn (po_none.run pins s1 σ H1 (fun o H2 => o = none ∧ H2 = H1) I1 ⟨rfl, rfl⟩) fun vl s2 ⟨l, H2, I2, pl, el, e2⟩ => ?_)
  subst el e2
  refine thn (po_none.run pins s2 σ H2 (fun o H3 => o = none ∧ H3 = H2) I2 ⟨rfl, rfl⟩) fun vu s3 ⟨u, H3, I3, pu, eu, e3⟩ => ?_
  subst eu e3
  refine thn (hst.run pins s3 σ H3 (fun o H4 => o = some (-1) ∧ H4 = H3) I3 ⟨1, rfl, -1, rfl, rfl, rfl⟩) fun vs s4 ⟨o, H4, I4, ps, eo, e4⟩ => ?_
  subst eo e4
  have I5 : Inv X pins σ H4 { s4 with heap := s4.heap.push { cls := .type "slice", data := .fields #[vl, vu, vs] } } := I4.kept (t' := s4.toks) fun b ob q => Heap.get?_push_of_some _ q
  obtain ⟨l', rfl, el⟩ := IsPart.raw pl
  obtain ⟨u', rfl, eu⟩ := IsPart.raw pu
  obtain ⟨st', rfl, es⟩ := IsPart.raw ps
  refine tail_any (T := "str") (id := "str.__getitem__") (ops := [.str z t, .ref s4.heap.objs.size]) (typeIs_str _ z t) F.slot_str_getitem.lookup ?_ (by with_unfolding_all rfl)
  have e1 : st'.map (·.1) = some (-1) := es
  refine wpAny_getItem_str_slice (l := l') (u := u') (st := st') ⟨_, Heap.get?_push_size _ rfl, rfl, rfl⟩ (by rw [e1]; rfl) ?_
  have el : l'.map (·.1) = none := el
  have eu : u'.map (·.1) = none := eu
  unfold sliceMade slicePicked
  rw [e1, el, eu]
  show Made.post (if ((-1 : Int) == 1 && _) = true then _ else _) _ _
  have hn : ((-1 : Int) == 1) = false := by decide
  rw [hn, Bool.false_and, if_neg Bool.false_ne_true]
  have hl : (⟨((Builtin.Str.strSliceIndices none none (-1) z.length).filterMap (z.cps[·]?)).toArray⟩ : Str).length ≤ z.length := by
    show (((Builtin.Str.strSliceIndices none none (-1) z.length).filterMap (z.cps[·]?)).toArray).size ≤ _
    rw [List.size_toArray]
    exact Nat.le_trans (List.length_filterMap_le _ _) (rev_len _)
  exact ⟨Nat.le_trans hl hz, .str _, H4, I5.tok _, ⟨_, rfl⟩, q _ hl⟩
section
variable {K : PySem.W.Frag} {H0 H : Hp} {A : List Addr} {L : List (Addr × HO)} {T : List (V × PyData)} {p : Addr} {vs : List V} {ns : List Int} {x : V} {Q : VK}
theorem sum_L (h : SqL K H p (ns.map V.int)) (q : Q (.int ns.sum) H) (ex : vs = [.ref p] := by rfl) : uSum K vs H Q := by
  subst ex
  unfold uSum
  exact ⟨p, ns, rfl, h, q⟩
theorem revS {z : Str} (q : ∀ y : Str, y.length ≤ z.length → Q (.str y) H) (ex : x = .str z := by rfl) (hz : z.length < 1000000 := by omega) : uRevS x H Q := by
  subst ex
  unfold uRevS
  exact ⟨z, rfl, sl_le hz, q⟩
end
section
variable {K : PySem.W.Frag}
/-! ### strings, numbers -/
theorem slS {x : V} {z : Str} {lo hi : Option Int} {H : Hp} {Q : VK} (q : ∀ y : Str, y.length ≤ z.length → Q (.str y) H) (ex : x = .str z := by rfl) (hz : z.length < 1000000 := by omega) : uSl K x lo hi H Q := by
  subst ex
  unfold uSl
  exact ⟨z, rfl, sl_le hz, q _ (cutS_length z lo hi)⟩
theorem ixS {x y : V} {z : Str} {i : Int} {H : Hp} {Q : VK} (q : ∀ c : Nat, z.cps.toList[i.toNat]? = some c → Q (.str ⟨#[c]⟩) H) (ex : x = .str z := by rfl) (ey : y = .int i := by rfl) (h0 : 0 ≤ i := by first | decide | omega) (h1 : i < z.length := by first | decide | omega) (hz : z.length < 1000000 := by first | decide | omega) : uIx K x y H Q := by
  subst ex ey
  obtain ⟨k, rfl⟩ : ∃ k : Nat, i = k := ⟨i.toNat, by omega⟩
  have hk : k < z.cps.toList.length := by rw [Array.length_toList]; exact Int.ofNat_lt.mp h1
  unfold uIx
  refine ⟨z.cps.toList[k], sl_le hz, at_pos (List.getElem?_eq_getElem hk), q _ ?_⟩
  rw [Int.toNat_natCast]
  exact List.getElem?_eq_getElem hk
theorem one_len (c : Nat) : (⟨#[c]⟩ : Str).length = 1 := rfl
theorem cat_len (a b : Str) : (a ++ b).length = a.length + b.length := by
  show (a.cps ++ b.cps).size = a.cps.size + b.cps.size
  exact Array.size_append
theorem az_len : ("abcdefghijklmnopqrstuvwxyz" : Str).length = 26 := by decide +kernel
theorem Sv.oneT {H0 H : Hp} {A : List Addr} {L : List (Addr × HO)} {T : List (V × PyData)} {v : V} {d : PyData} (st : Sv K H0 A H L ((v, d) :: T)) : Sv K H0 A H L [(v, d)] := st.setT _ fun p hp => by
  have e : p = (v, d) := by simpa using hp
  rw [e]
  exact st.d 0 rfl
/-- a comprehension over range(n) -/
theorem lcR10 {n : Nat} {tt : TT} {te : TE} {i : Nat} {σ : L2.St} {H1 : Hp} {Q : VK} (Pv : Addr → Nat → Hp → Prop) (h0 : ∀ D, H1 D = none → Pv D 0 (upd H1 D (.lst [])))
    (hs : ∀ D k H, k < n → Pv D k H → Wk.setK σ i (some (.int (k : Nat))) fun σ2 => tt σ2 H fun b H3 =>
      if b = true then te σ2 H3 fun y H4 => ∃ acc, H4 D = some (.lst acc) ∧ acc.length < sizeLine ∧ Pv D (k + 1) (upd H4 D (.lst (acc ++ [y]))) else Pv D (k + 1) H3) (hd : ∀ D H, Pv D n H → Q (.ref D) H) :
    lcI (Itr 0 n) (gNm i) tt te [i] σ Q H1 := lcR1 Pv h0 (fun D k H hk p => by rw [Int.zero_add]; exact hs D k H hk p) hd
/-- from here on: the heap as it stands is the new beginning -/
theorem Sv.root {H0 H : Hp} {A : List Addr} {L : List (Addr × HO)} {T : List (V × PyData)} (st : Sv K H0 A H L T) : Sv K H (L.map Prod.fst) H L T := Sv.start st.nd (fun c hc => (st.own c hc).1) st.dat
/-- .. and back -/
theorem Sv.back {H0 H H' : Hp} {A : List Addr} {L F' : List (Addr × HO)} {T T' : List (V × PyData)} (st : Sv K H0 A H L T) (h : Sv K H (L.map Prod.fst) H' F' T') : Sv K H0 A H' F' (T' ++ T) := by
  have z : Sv K H0 A H (L ++ []) T := by rw [List.append_nil]; exact st
  have := Sv.call z h
  rw [List.append_nil] at this
  exact this
/-- the cells in another order -/
theorem Sv.ord {H0 H : Hp} {A : List Addr} {L : List (Addr × HO)} {T : List (V × PyData)} (st : Sv K H0 A H L T) (is : List Nat) {L' : List (Addr × HO)} (hn : L.length = is.length := by rfl) (hp : List.isPerm is (List.range is.length) = true := by decide +kernel) (h : is.map (fun i => L[i]?) = L'.map some := by rfl) : Sv K H0 A H L' T := by
  refine st.perm ?_
  rw [← hn] at hp
  have p := (List.isPerm_iff.mp hp).map fun i => L[i]?
  have e : (List.range L.length).map (fun i => L[i]?) = L.map some := by
    refine List.ext_getElem? fun k => ?_
    rw [List.getElem?_map, List.getElem?_map]
    by_cases hk : k < L.length
    · rw [List.getElem?_range hk]
      simp [hk]
    · rw [List.getElem?_eq_none (by simpa using hk), List.getElem?_eq_none (by simpa using hk)]
      rfl
  rw [h, e] at p
  have q := p.filterMap (f := id)
  rw [List.filterMap_map, List.filterMap_map] at q
  simpa using q
/-- i != j, known to be false; i == j, known -/
theorem iteNN {i j : Int} {A B : Prop} (h : B) (e : i = j := by first | rfl | omega) : if (!decide (i = j)) = true then A else B := by
  subst e
  rw [decide_eq_true rfl]
  exact h
theorem iteEE {i j : Int} {A B : Prop} (h : A) (e : i = j := by first | rfl | omega) : if decide (i = j) = true then A else B := by
  subst e
  rw [decide_eq_true rfl]
  exact h
theorem Dt.isiT {x : V} {ds : List PyData} {H : Hp} {Q : VK} {t : IsiT} (h : Dt K H x (.tuple ds)) (q : Q (.bl t.tup) H) : uIsi K t x H Q := by
  obtain ⟨a, ys, rfl, ht, ha⟩ := h.eqT
  exact Wk.isiT ht.sq q
theorem set_map {ns : List Int} {j : Nat} {x : Int} : (ns.map V.int).set j (.int x) = (ns.set j x).map V.int := by rw [List.map_set]
end
end Wk

namespace Wk
open PySem PySem.Spec PyProof.Rows L2
/-! ### del xs[:c] -/
theorem bounds_front {c n : Nat} : sliceBounds none (some (c : Int)) none n = (0, ((min c n : Nat) : Int), 1) := by
  simp only [sliceBounds, Option.getD_none]
  have h2 : ¬ ((c : Int) < 0) := by omega
  simp only [h2, if_false, show (1 : Int) > 0 by decide, if_true]
  congr 1
  congr 1
  omega
theorem zip_drop {α : Type} {f : Nat → Bool} (c : Nat) : ∀ (l : List α) (k : Nat), (∀ j, f j = decide (j < c)) → ((l.zipIdx k).filterMap fun q => if f q.2 = true then none else some q.1) = l.drop (c - k)
  | [], k, _ => by simp
  | a :: l, k, h => by
    rw [List.zipIdx_cons, List.filterMap_cons, h k]
    by_cases q : k < c
    · rw [if_pos (decide_eq_true q), zip_drop c l (k + 1) h]
      have e : c - k = (c - (k + 1)) + 1 := by omega
      rw [e, List.drop_succ_cons]
    · have e : c - k = 0 := by omega
      have e2 : c - (k + 1) = 0 := by omega
      rw [if_neg (by rw [decide_eq_false q]; exact Bool.false_ne_true), zip_drop c l (k + 1) h, e, e2, List.drop_zero, List.drop_zero]
section
variable {prog : Program} {w : World} {A : Around} {E : Value → Shared → Prop} {s : Shared}
set_option maxRecDepth 100000 in
theorem delItem_front {l sl : Addr} {its : List Value} {n : Nat} {vl vu : Value} {c : Nat} {Q : Unit → Shared → Prop}
    (e : s.heap.get? l = some { cls := .type "list", data := .seq its.toArray n }) (hs : s.heap.IsSliceOf sl vl vu .none) (pl : IsPart vl none) (pu : IsPart vu (some (c : Int)))
    (hsz : its.length ≤ sizeLine) (h : ∀ g, g its.toArray = (its.drop c).toArray → Q () { s with heap := s.heap.update l (Obj.mapSeq g) }) : wpAny (model prog w) A (delItem (.ref l) (.ref sl)) Q E s := by
  have hl : s.heap.IsList l its.toArray := PySem.IsL.isList e
  obtain ⟨os, hos, hcs, hds⟩ := id hs
  have hTs : s.TypeIs (.ref sl) "slice" := ⟨os, hos, hcs⟩
  have hstep : ¬ ((rawPart none == rawInt 0) = true) := Bool.false_ne_true
  have m1 : min c its.toArray.size = min c its.length := by rw [List.size_toArray]
  unfold delItem
  try with_reducible refine wpAny_holding ?_
  first | refine wpAny_bind (wpAny_pure ?_) | skip
  refine wpAny_bind (wpAny_sequenceKey hl.typeIs (by decide) ?_)
  refine wpAny_bind (wpAny_callSpecial?_slot (name := Str.ofString "__delitem__") hl.typeIs F.slot_list_delitem
    (wpAny_call_entry F.slot_list_delitem hl.typeIs F.entry_list_delitem ?_ (F.args_list_delitem_2 _ _)))
  show wpAny _ _ (Builtin.List.listSubscript? (.ref sl) >>= _) _ _ s
  refine wpAny_bind ?_
  unfold Builtin.List.listSubscript?
  refine wpAny_bind (wpAny_specialOf hTs slice_no_index ?_)
  simp only [Option.isNone_none, if_true]
  refine wpAny_pure ?_
  show wpAny _ _ (typeOf (.ref sl) >>= _) _ _ s
  refine wpAny_bind (wpAny_typeOf hTs ?_)
  first
    | rw [if_neg (by decide)]
    | refine PySem.W.KFB.if_not (by decide) ?_
  rw [listSliceParts_eq]
  refine wpAny_bind (wpAny_bind (wpAny_field hos hds (x := .none) rfl (wpAny_bind (wpAny_listPart .none ?_))))
  rw [if_neg hstep]
  refine wpAny_bind (wpAny_field hos hds (x := vl) rfl (wpAny_bind (wpAny_listPart pl ?_)))
  refine wpAny_bind (wpAny_field hos hds (x := vu) rfl (wpAny_bind (wpAny_listPart pu (wpAny_pure ?_))))
  unfold Builtin.List.listItems
  refine wpAny_bind (wpAny_bind (wpAny_seqItems e rfl (wpAny_pure ?_)))
  refine wpAny_bind (wpAny_of_eq ((sliceIndices_raw none (some (c : Int)) none its.toArray.size (by simp)).trans (congrArg (pure : Int × Int × Int → Sem (Int × Int × Int)) bounds_front)) ?_)
  refine wpAny_bind (wpAny_rule ?_)
  refine wpAny_bind (wpAny_updateSeq (hz := by rw [List.size_toArray]; exact hsz) (_hz' := ?_) e rfl ?_)
  · refine wpAny_bind (wpAny_letGo ?_)
    first
      | refine wpAny_bind (wpAny_pure (wpAny_pure ⟨.none, rfl, wpAny_pure (h _ ?_)⟩))
      | refine wpAny_pure ⟨.none, rfl, wpAny_pure (h _ ?_)⟩
    show List.toArray _ = _
    congr 1
    refine (zip_drop (min c its.toArray.size) its 0 fun j => ?_).trans ?_
    · show (if (1 : Int) > 0 then ((decide ((0 : Int) ≤ (j : Int)) && decide ((j : Int) < ((min c its.toArray.size : Nat) : Int))) && (((j : Int) - 0) % 1 == 0)) else _) = _
      rw [if_pos (by decide)]
      have e1 : ((j : Int) - 0) % 1 = 0 := Int.emod_one _
      rw [e1, decide_eq_true (show (0 : Int) ≤ (j : Int) by omega), Bool.true_and, beq_self_eq_true, Bool.and_true]
      by_cases q : j < min c its.toArray.size
      · rw [decide_eq_true q, decide_eq_true (by omega)]
      · rw [decide_eq_false q, decide_eq_false (by omega)]
    · rw [m1, Nat.sub_zero]
      by_cases q : c ≤ its.length
      · rw [Nat.min_eq_left q]
      · rw [Nat.min_eq_right (by omega), List.drop_eq_nil_of_le (Nat.le_refl _), List.drop_eq_nil_of_le (by omega)]
  · rw [List.size_toArray]
    refine Nat.le_succ_of_le (Nat.le_trans (List.length_filterMap_le _ _) ?_)
    rw [List.length_zipIdx, List.toList_toArray]
    exact hsz
end
@[irreducible] def uDelF (x : V) (hi : Option Int) (H : Hp) (R : Hp → Prop) : Prop := ∃ (l : Addr) (xs : List V) (c : Nat), x = .ref l ∧ hi = some (c : Int) ∧ H l = some (.lst xs) ∧ R (upd H l (.lst (xs.drop c)))
def cDelF (to : TE) (th : TO) : TS := fun D σ H => to σ H fun x H1 => th σ H1 fun y H2 => uDelF x y H2 fun H3 => D.nx σ H3
theorem del_front {X : Cx} {pins : List (Addr × Obj)} {s : Shared} {σ : L2.St} {H : Hp} {l sl : Addr} {xs : List V} {vl vu : Value} {c : Nat} {Q : Unit → Shared → Prop} (I : Inv X pins σ H s) (hH : H l = some (.lst xs))
    (hs : s.heap.IsSliceOf sl vl vu .none) (pl : IsPart vl none) (pu : IsPart vu (some (c : Int))) (h : ∀ s', Inv X pins σ (upd H l (.lst (xs.drop c))) s' → Q () s') : wpAny (model X.prog X.w) X.A (delItem (.ref l) (.ref sl)) Q X.xe s := by
  obtain ⟨z, its, n, r, hl, e⟩ := I.lstM hH
  refine delItem_front e hs pl pu (by omega) fun g eg => h _ ?_
  refine I.lset (its' := its.drop c) (t' := s.toks) hH e eg (r.drop c) ?_
  rw [List.length_drop]
  omega
theorem sDelF {X : Cx} {o e : Expr} {to : TE} {th : TO} {p tpos pos : Pos} (ho : PE X o to) (he : PO X (some e) th) : PS X (.Delete [.Subscript o (.Slice none (some e) none p) tpos] pos) (cDelF to th) := by
  refine ⟨fun pins s σ H D I h => ?_⟩
  refine wpAny_Delete (wpAny_deleteEach_cons (wpAny_delete_Subscript (thn (ho.run pins s σ H _ I h) fun u s1 ⟨x, H1, I1, rx, q1⟩ => ?_)))
  refine wpAny_Slice (thn (po_none.run pins s1 σ H1 (fun o H2 => o = none ∧ H2 = H1) I1 ⟨rfl, rfl⟩) fun vl s2 ⟨lo, H2, I2, pl, el, e2⟩ => ?_)
  subst el e2
  refine thn (he.run pins s2 σ H2 _ I2 q1) fun vu s3 ⟨hi, H3, I3, pu, q⟩ => ?_
  unfold uDelF at q
  obtain ⟨l, xs, c, ex, eh, hl, q⟩ := q
  subst ex eh
  obtain rfl : u = Value.ref l := rx
  refine thn (po_none.run pins s3 σ H3 (fun o H4 => o = none ∧ H4 = H3) I3 ⟨rfl, rfl⟩) fun vs s4 ⟨o4, H4, I4, ps, eo, e4⟩ => ?_
  subst eo e4
  have I5 : Inv X pins σ H4 { s4 with heap := s4.heap.push { cls := .type "slice", data := .fields #[vl, vu, vs] } } := I4.kept (t' := s4.toks) fun b ob q => Heap.get?_push_of_some _ q
  have ev : vs = .none := by cases ps; rfl
  subst ev
  exact del_front I5 hl (Heap.IsSliceOf.new _ vl vu .none) pl pu fun s' I' => wpAny_deleteEach_nil ⟨σ, _, I', q⟩
section
variable {K : PySem.W.Frag} {H0 H : Hp} {A : List Addr} {L : List (Addr × HO)} {T : List (V × PyData)} {p a : Addr} {xs : List V} {x : V} {Q : VK}
theorem Sv.delF {hi : Option Int} (st : Sv K H0 A H L T) (k : Nat) {c : Nat} (L' : List (Addr × HO)) {R : Hp → Prop} (q : ∀ H', Sv K H0 A H' L' T → R H') (h : L[k]? = some (p, .lst xs) := by rfl) (ex : x = .ref p := by rfl) (eh : hi = some (c : Int) := by rfl) (hL : L.set k (p, .lst (xs.drop c)) = L' := by rfl) : uDelF x hi H R := by
  subst ex eh
  unfold uDelF
  exact ⟨p, xs, c, rfl, rfl, st.at k h, q _ (hL ▸ st.put k h trivial _)⟩
end
/-! ### sorted -/
@[irreducible] def uSorted (K : PySem.W.Frag) : List V → Hp → VK → Prop := fun vs H Q => (∃ (a : Addr) (kvs : List (Key × V)) (ks : List Int), vs = [.ref a] ∧ Rd H a (.dK kvs) ∧ kvs.map (·.1) = ks.map Sum.inl ∧ ks.length < 64 ∧
  ∀ (ys : List Int) (p : Addr), ys.Perm ks → ys.Pairwise (· ≤ ·) → H p = none → Q (.ref p) (upd H p (.lst (ys.map V.int)))) ∨ rSortedI K vs H Q
theorem bSorted {X : Cx} (hc : X.calm = true) : CallR X (.builtin "sorted") (uSorted X.K) := by
  intro pins s σ H xs us Q I r q
  unfold uSorted at q
  rcases q with q | q
  · exact call_sortedDI hc pins s σ H xs us Q I r q
  · exact cr_sortedI pins s σ H xs us Q I r q
section
variable {K : PySem.W.Frag} {H0 H : Hp} {A : List Addr} {L : List (Addr × HO)} {T : List (V × PyData)} {p a : Addr} {kvs : List (Key × V)} {vs : List V} {Q : VK}
theorem Sv.sortK {ks : List Int} (st : Sv K H0 A H L T) (h : H a = some (.dK kvs)) (hk : kvs.map (·.1) = ks.map Sum.inl) (hn : ks.length < 64) (q : ∀ p (ys : List Int) H', ys.Perm ks → ys.Pairwise (· ≤ ·) → Sv K H0 A H' ((p, .lst (ys.map V.int)) :: L) T → Q (.ref p) H') (ex : vs = [.ref a] := by rfl) : uSorted K vs H Q := by
  subst ex
  unfold uSorted
  exact .inl ⟨a, kvs, ks, rfl, .inl h, hk, hn, fun ys p h1 h2 hp => q p ys _ h1 h2 (st.new hp _)⟩
end
/-! ### a dict as a record: keys are texts -/
theorem vk_here {k : Key} {v : V} {r : List (Key × V)} : valV ((k, v) :: r) k = some v := valV_pos rfl
theorem vk_past {k g : Key} {v : V} {r : List (Key × V)} {w : Option V} (h : valV r k = w) (e : decide (g = k) = false := by decide +kernel) : valV ((g, v) :: r) k = w := by
  rw [valV_neg (of_decide_eq_false e)]
  exact h
theorem vk_nil {k : Key} : valV [] k = none := rfl
theorem pk_past {k g : Key} {v x : V} {r r' : List (Key × V)} (h : putK r k v = r') (e : decide (g = k) = false := by decide +kernel) : putK ((g, x) :: r) k v = (g, x) :: r' := by
  have e := of_decide_eq_false e
  subst h
  unfold putK
  rw [List.any_cons, decide_eq_false e, Bool.false_or]
  split
  · rw [List.map_cons, if_neg e]
  · rfl
theorem map_same {k : Key} {v : V} : ∀ {r : List (Key × V)}, valV r k = none → (r.map fun kv => if kv.1 = k then (kv.1, v) else kv) = r
  | [], _ => rfl
  | (g, x) :: r, h => by
    by_cases e : g = k
    · rw [valV_pos e] at h
      cases h
    · rw [valV_neg e] at h
      rw [List.map_cons, if_neg e, map_same h]
theorem pk_here {k : Key} {v x : V} {r : List (Key × V)} (h : valV r k = none := by walk_at "vk") : putK ((k, x) :: r) k v = (k, v) :: r := by
  unfold putK
  rw [List.any_cons, decide_eq_true rfl, Bool.true_or, if_pos rfl, List.map_cons, if_pos rfl, map_same h]
theorem pk_nil {k : Key} {v : V} : putK [] k v = [(k, v)] := rfl
theorem mergeK_new : ∀ (kvs acc : List (Key × V)), ((acc ++ kvs).map (·.1)).Nodup → mergeK acc kvs = acc ++ kvs
  | [], acc, _ => by rw [List.append_nil]; rfl
  | (k, v) :: r, acc, h => by
    have hk : valV acc k = none := by
      rw [List.map_append, List.nodup_append] at h
      cases e : valV acc k with
      | none => rfl
      | some x =>
        have hm : k ∈ acc.map (·.1) := by
          unfold valV at e
          cases f : acc.find? fun kv => decide (kv.1 = k) with
          | none => rw [f] at e; cases e
          | some q =>
            have h1 := List.find?_some f
            have h2 := List.mem_of_find?_eq_some f
            have e1 : q.1 = k := of_decide_eq_true h1
            rw [← e1]
            exact List.mem_map_of_mem h2
        exact absurd rfl (h.2.2 k hm k (by simp))
    show mergeK (putK acc k v) r = _
    rw [putK_new v hk, mergeK_new r (acc ++ [(k, v)]) (by rw [List.append_assoc]; exact h), List.append_assoc]
    rfl
/-- a display with keys that differ -/
theorem Sv.record {K : PySem.W.Frag} {H0 H : Hp} {A : List Addr} {L : List (Addr × HO)} {T : List (V × PyData)} {p : Addr} {Q : VK} {ps : List (V × V)} (st : Sv K H0 A H L T) (k : Nat) (kvs : List (Key × V)) (ks : List Key) (L' : List (Addr × HO)) (q : ∀ H', Sv K H0 A H' L' T → Q (.ref p) H') (h : L[k]? = some (p, .dK []) := by rfl) (he : ps = kvs.map (fun kv => (kV kv.1, kv.2)) := by rfl) (hn : kvs.length ≤ 15 := by first | decide | (simp; done) | exact Nat.le_of_ble_eq_true rfl) (hks : kvs.map (·.1) = ks := by rfl) (hnd : ks.Nodup := by decide +kernel) (hL : L.set k (p, .dK kvs) = L' := by rfl) : uDone p ps H Q := by
  have e : mergeK [] kvs = kvs := mergeK_new kvs [] (by rw [List.nil_append, hks]; exact hnd)
  exact st.done k kvs L' q h he hn (by rw [e]; exact hL)
section
variable {K : PySem.W.Frag} {H0 H : Hp} {A : List Addr} {L : List (Addr × HO)} {T : List (V × PyData)} {a : Addr} {kvs kvs' : List (Key × V)} {v x y : V} {Q : VK}
/-- d["f"] -/
theorem Sv.rd (st : Sv K H0 A H L T) (k : Nat) {f : Str} (q : Q v H) (h : L[k]? = some (a, .dK kvs) := by rfl) (ex : x = .ref a := by rfl) (ey : y = .str f := by rfl) (hv : valV kvs (.inr f) = some v := by walk_at "vk") : uIx K x y H Q := st.ixK k (.inr f) hv q h ex ey
/-- d["f"] = v -/
theorem Sv.wr (st : Sv K H0 A H L T) (k : Nat) {f : Str} (L' : List (Addr × HO)) {R : Hp → Prop} (q : ∀ H', Sv K H0 A H' L' T → R H') (h : L[k]? = some (a, .dK kvs) := by rfl) (ex : x = .ref a := by rfl) (ey : y = .str f := by rfl) (hL : L.set k (a, .dK kvs') = L' := by rfl) (hp : putK kvs (.inr f) v = kvs' := by walk_at "pk") (hn : kvs.length < 1000000 := by first | decide | (simp; done) | (simp; omega) | omega) : uSet x y v H R :=
  st.setK k (.inr f) L' q h ex ey (by rw [hp]; exact hL) hn
theorem rd_H {f : Str} (h : H a = some (.dK kvs)) (q : Q v H) (ex : x = .ref a := by rfl) (ey : y = .str f := by rfl) (hv : valV kvs (.inr f) = some v := by walk_at "vk") : uIx K x y H Q := ixK_H (.inr f) h hv q ex ey
end
end Wk

namespace Wk
open PySem PySem.Spec PyProof.Rows L2
def topS (i : Nat) : Stmt := PySem.Challenge.pw_wirespan_k20_taker_in_order.main.body.getD i (.Pass ⟨0, 0, 0, 0⟩)
abbrev s_ring_index : Stmt := topS 1
abbrev s_Taker___init__ : Stmt := inClass (topS 2) 0
abbrev s_Taker_room : Stmt := inClass (topS 2) 1
abbrev s_Taker_take : Stmt := inClass (topS 2) 2
abbrev s_Taker__move : Stmt := inClass (topS 2) 3
abbrev s_Taker_read : Stmt := inClass (topS 2) 4
abbrev s_Taker_told : Stmt := inClass (topS 2) 5
abbrev s_Taker_kept : Stmt := inClass (topS 2) 6
abbrev s__law_is_number : Stmt := topS 4
abbrev s__law_purse : Stmt := topS 5
abbrev s__law_mixed : Stmt := topS 6
abbrev s__law_draw : Stmt := topS 7
abbrev s__law_table : Stmt := topS 8
abbrev s__law_taken : Stmt := topS 9
abbrev s__law_same_list : Stmt := topS 10
abbrev s__law_same_pair : Stmt := topS 11
abbrev s__law_same_kept : Stmt := topS 12
abbrev s__law_shown : Stmt := topS 13
abbrev s__law_number : Stmt := topS 14
abbrev s__law_item : Stmt := topS 15
abbrev s__law_ring : Stmt := topS 16
abbrev s__law_reading : Stmt := topS 17
abbrev s__law_given : Stmt := topS 18
abbrev s__law_three : Stmt := topS 19
abbrev s__law_deed : Stmt := topS 20
abbrev s_law : Stmt := topS 21
structure Txt (K : PySem.W.Frag) (mg : Str → Option Value) : Prop where
  g_Taker : mg "Taker" = some (.ref (He.ga K "Taker"))
  g__law_deed : mg "_law_deed" = some (.ref (He.ga K "_law_deed"))
  g__law_draw : mg "_law_draw" = some (.ref (He.ga K "_law_draw"))
  g__law_given : mg "_law_given" = some (.ref (He.ga K "_law_given"))
  g__law_is_number : mg "_law_is_number" = some (.ref (He.ga K "_law_is_number"))
  g__law_item : mg "_law_item" = some (.ref (He.ga K "_law_item"))
  g__law_mixed : mg "_law_mixed" = some (.ref (He.ga K "_law_mixed"))
  g__law_number : mg "_law_number" = some (.ref (He.ga K "_law_number"))
  g__law_purse : mg "_law_purse" = some (.ref (He.ga K "_law_purse"))
  g__law_reading : mg "_law_reading" = some (.ref (He.ga K "_law_reading"))
  g__law_ring : mg "_law_ring" = some (.ref (He.ga K "_law_ring"))
  g__law_same_kept : mg "_law_same_kept" = some (.ref (He.ga K "_law_same_kept"))
  g__law_same_list : mg "_law_same_list" = some (.ref (He.ga K "_law_same_list"))
  g__law_same_pair : mg "_law_same_pair" = some (.ref (He.ga K "_law_same_pair"))
  g__law_shown : mg "_law_shown" = some (.ref (He.ga K "_law_shown"))
  g__law_table : mg "_law_table" = some (.ref (He.ga K "_law_table"))
  g__law_taken : mg "_law_taken" = some (.ref (He.ga K "_law_taken"))
  g__law_three : mg "_law_three" = some (.ref (He.ga K "_law_three"))
  b_bool : mg "bool" = none
  b_int : mg "int" = none
  b_isinstance : mg "isinstance" = none
  g_law : mg "law" = some (.ref (He.ga K "law"))
  b_len : mg "len" = none
  b_list : mg "list" = none
  b_max : mg "max" = none
  b_range : mg "range" = none
  g_ring_index : mg "ring_index" = some (.ref (He.ga K "ring_index"))
  b_sorted : mg "sorted" = none
  b_tuple : mg "tuple" = none
  F_ring_index : ∃ fd, FunD K "ring_index" "ring_index" (defArgs s_ring_index) (defBody s_ring_index) (defScope s_ring_index) [] [] (He.ga K "ring_index") fd
  F_Taker___init__ : ∃ fd, FunD K "__init__" "Taker.__init__" (defArgs s_Taker___init__) (defBody s_Taker___init__) (defScope s_Taker___init__) [] [] (He.ma K (He.ga K "Taker") "__init__") fd
  F_Taker_room : ∃ fd, FunD K "room" "Taker.room" (defArgs s_Taker_room) (defBody s_Taker_room) (defScope s_Taker_room) [] [] (pg K (He.ga K "Taker") "room") fd
  F_Taker_take : ∃ fd, FunD K "take" "Taker.take" (defArgs s_Taker_take) (defBody s_Taker_take) (defScope s_Taker_take) [] [] (He.ma K (He.ga K "Taker") "take") fd
  F_Taker__move : ∃ fd, FunD K "_move" "Taker._move" (defArgs s_Taker__move) (defBody s_Taker__move) (defScope s_Taker__move) [] [] (He.ma K (He.ga K "Taker") "_move") fd
  F_Taker_read : ∃ fd, FunD K "read" "Taker.read" (defArgs s_Taker_read) (defBody s_Taker_read) (defScope s_Taker_read) [V.non] [] (He.ma K (He.ga K "Taker") "read") fd
  F_Taker_told : ∃ fd, FunD K "told" "Taker.told" (defArgs s_Taker_told) (defBody s_Taker_told) (defScope s_Taker_told) [] [] (He.ma K (He.ga K "Taker") "told") fd
  F_Taker_kept : ∃ fd, FunD K "kept" "Taker.kept" (defArgs s_Taker_kept) (defBody s_Taker_kept) (defScope s_Taker_kept) [] [] (He.ma K (He.ga K "Taker") "kept") fd
  F__law_is_number : ∃ fd, FunD K "_law_is_number" "_law_is_number" (defArgs s__law_is_number) (defBody s__law_is_number) (defScope s__law_is_number) [] [] (He.ga K "_law_is_number") fd
  F__law_purse : ∃ fd, FunD K "_law_purse" "_law_purse" (defArgs s__law_purse) (defBody s__law_purse) (defScope s__law_purse) [] [] (He.ga K "_law_purse") fd
  F__law_mixed : ∃ fd, FunD K "_law_mixed" "_law_mixed" (defArgs s__law_mixed) (defBody s__law_mixed) (defScope s__law_mixed) [] [] (He.ga K "_law_mixed") fd
  F__law_draw : ∃ fd, FunD K "_law_draw" "_law_draw" (defArgs s__law_draw) (defBody s__law_draw) (defScope s__law_draw) [] [] (He.ga K "_law_draw") fd
  F__law_table : ∃ fd, FunD K "_law_table" "_law_table" (defArgs s__law_table) (defBody s__law_table) (defScope s__law_table) [] [] (He.ga K "_law_table") fd
  F__law_taken : ∃ fd, FunD K "_law_taken" "_law_taken" (defArgs s__law_taken) (defBody s__law_taken) (defScope s__law_taken) [] [] (He.ga K "_law_taken") fd
  F__law_same_list : ∃ fd, FunD K "_law_same_list" "_law_same_list" (defArgs s__law_same_list) (defBody s__law_same_list) (defScope s__law_same_list) [] [] (He.ga K "_law_same_list") fd
  F__law_same_pair : ∃ fd, FunD K "_law_same_pair" "_law_same_pair" (defArgs s__law_same_pair) (defBody s__law_same_pair) (defScope s__law_same_pair) [] [] (He.ga K "_law_same_pair") fd
  F__law_same_kept : ∃ fd, FunD K "_law_same_kept" "_law_same_kept" (defArgs s__law_same_kept) (defBody s__law_same_kept) (defScope s__law_same_kept) [] [] (He.ga K "_law_same_kept") fd
  F__law_shown : ∃ fd, FunD K "_law_shown" "_law_shown" (defArgs s__law_shown) (defBody s__law_shown) (defScope s__law_shown) [] [] (He.ga K "_law_shown") fd
  F__law_number : ∃ fd, FunD K "_law_number" "_law_number" (defArgs s__law_number) (defBody s__law_number) (defScope s__law_number) [] [] (He.ga K "_law_number") fd
  F__law_item : ∃ fd, FunD K "_law_item" "_law_item" (defArgs s__law_item) (defBody s__law_item) (defScope s__law_item) [] [] (He.ga K "_law_item") fd
  F__law_ring : ∃ fd, FunD K "_law_ring" "_law_ring" (defArgs s__law_ring) (defBody s__law_ring) (defScope s__law_ring) [] [] (He.ga K "_law_ring") fd
  F__law_reading : ∃ fd, FunD K "_law_reading" "_law_reading" (defArgs s__law_reading) (defBody s__law_reading) (defScope s__law_reading) [] [] (He.ga K "_law_reading") fd
  F__law_given : ∃ fd, FunD K "_law_given" "_law_given" (defArgs s__law_given) (defBody s__law_given) (defScope s__law_given) [] [] (He.ga K "_law_given") fd
  F__law_three : ∃ fd, FunD K "_law_three" "_law_three" (defArgs s__law_three) (defBody s__law_three) (defScope s__law_three) [] [] (He.ga K "_law_three") fd
  F__law_deed : ∃ fd, FunD K "_law_deed" "_law_deed" (defArgs s__law_deed) (defBody s__law_deed) (defScope s__law_deed) [] [] (He.ga K "_law_deed") fd
  F_law : ∃ fd, FunD K "law" "law" (defArgs s_law) (defBody s_law) (defScope s_law) [] [] (He.ga K "law") fd
  M_Taker : Mk K (He.ga K "Taker") (He.ma K (He.ga K "Taker") "__init__")
  k_Taker : Cls K (He.ga K "Taker")
  m_Taker__move : Meth K (He.ga K "Taker") "_move" (He.ma K (He.ga K "Taker") "_move")
  m_Taker_kept : Meth K (He.ga K "Taker") "kept" (He.ma K (He.ga K "Taker") "kept")
  m_Taker_read : Meth K (He.ga K "Taker") "read" (He.ma K (He.ga K "Taker") "read")
  m_Taker_take : Meth K (He.ga K "Taker") "take" (He.ma K (He.ga K "Taker") "take")
  m_Taker_told : Meth K (He.ga K "Taker") "told" (He.ma K (He.ga K "Taker") "told")
  n_Taker__kept : NoAttr K (He.ga K "Taker") "_kept"
  n_Taker_expected : NoAttr K (He.ga K "Taker") "expected"
  n_Taker_heard : NoAttr K (He.ga K "Taker") "heard"
  n_Taker_numbers : NoAttr K (He.ga K "Taker") "numbers"
  n_Taker_ready : NoAttr K (He.ga K "Taker") "ready"
  n_Taker_window : NoAttr K (He.ga K "Taker") "window"
  p_Taker_room : PropOf K (He.ga K "Taker") "room" (pa K (He.ga K "Taker") "room") (pg K (He.ga K "Taker") "room")
abbrev N_ring_index : List Str := ["low", "number", "size"]
theorem sc_ring_index : FnScope N_ring_index ["low", "number", "size"] (defScope s_ring_index) := ⟨rfl, rfl, rfl, by decide +kernel, rfl, by decide +kernel, by decide +kernel⟩
def rd_ring_index (K : PySem.W.Frag)  (E : XK) : TS := (tRet (tOp (uAdd K) (cVar 0) (tOp uMod (tOp uSub (cVar 1) (cVar 0)) (cVar 2))))
theorem der_ring_index {P : Program} {w : World} {K : PySem.W.Frag} {mg : Str → Option Value} {base : Heap} {sp : Sp3}  (e : Txt K mg) 
    (h : ∀ a0 a1 a2 H Q E, sp a0 a1 a2 H Q E → rd_ring_index K  E { nx := fun _ H' => Q .non H', rt := Q } [some a0, some a1, some a2] H) : Fok P w K mg base 1 (He.ga K "ring_index") ["low", "number", "size"] (mk3 sp) := by
  obtain ⟨fd, F⟩ := e.F_ring_index
  refine ⟨fd, F.ok sc_ring_index (fun _ _ _ _ z => mk3_len z) (fun cdv A outer s H vs Q E hr hsp => ?_), fun_lk F⟩
  have hu := hr.units
  obtain ⟨a0, a1, a2, rfl, hs⟩ := mk3_at hsp
  refine ⟨rd_ring_index K  E, ?_, h a0 a1 a2 H Q E hs⟩
  exact (pss_one (ps_ret (pe_op oAdd (pn 0) (pe_op oMod (pe_op oSub (pn 1) (pn 0)) (pn 2)))))
abbrev N_Taker___init__ : List Str := ["self", "window", "numbers"]
theorem sc_Taker___init__ : FnScope N_Taker___init__ ["self", "window", "numbers"] (defScope s_Taker___init__) := ⟨rfl, rfl, rfl, by decide +kernel, rfl, by decide +kernel, by decide +kernel⟩
def rd_Taker___init__ (K : PySem.W.Frag)  (E : XK) : TS := (tSeq (cPutFl (He.ga K "Taker") "window" (cVar 0) (cVar 1))
  (tSeq (cPutFl (He.ga K "Taker") "numbers" (cVar 0) (cVar 2))
  (tSeq (cPutFl (He.ga K "Taker") "expected" (cVar 0) (tC (.int 0)))
  (tSeq (cPutFl (He.ga K "Taker") "ready" (cVar 0) (cLst tNil))
  (tSeq (cPutFl (He.ga K "Taker") "heard" (cVar 0) (tC (.bl false)))
  (cPutFl (He.ga K "Taker") "_kept" (cVar 0) cNewK))))))
theorem der_Taker___init__ {P : Program} {w : World} {K : PySem.W.Frag} {mg : Str → Option Value} {base : Heap} {sp : Sp3}  (e : Txt K mg) 
    (h : ∀ a0 a1 a2 H Q E, sp a0 a1 a2 H Q E → rd_Taker___init__ K  E { nx := fun _ H' => Q .non H', rt := Q } [some a0, some a1, some a2] H) : Fok P w K mg base 1 (He.ma K (He.ga K "Taker") "__init__") ["self", "window", "numbers"] (mk3 sp) := by
  obtain ⟨fd, F⟩ := e.F_Taker___init__
  refine ⟨fd, F.ok sc_Taker___init__ (fun _ _ _ _ z => mk3_len z) (fun cdv A outer s H vs Q E hr hsp => ?_), fun_lk F⟩
  have hu := hr.units
  obtain ⟨a0, a1, a2, rfl, hs⟩ := mk3_at hsp
  refine ⟨rd_Taker___init__ K  E, ?_, h a0 a1 a2 H Q E hs⟩
  exact (pss_cons (sPutFl (pn 0) (pn 1) e.k_Taker e.n_Taker_window)
  (pss_cons (sPutFl (pn 0) (pn 2) e.k_Taker e.n_Taker_numbers)
  (pss_cons (sPutFl (pn 0) pe_int e.k_Taker e.n_Taker_expected)
  (pss_cons (sPutFl (pn 0) (eLst pa_nil) e.k_Taker e.n_Taker_ready)
  (pss_cons (sPutFl (pn 0) pe_bl e.k_Taker e.n_Taker_heard)
  (pss_one (sPutFl (pn 0) eNewK e.k_Taker e.n_Taker__kept)))))))
abbrev N_Taker_room : List Str := ["self"]
theorem sc_Taker_room : FnScope N_Taker_room ["self"] (defScope s_Taker_room) := ⟨rfl, rfl, rfl, by decide +kernel, rfl, by decide +kernel, by decide +kernel⟩
def rd_Taker_room (K : PySem.W.Frag)  (E : XK) : TS := (tRet (tOp uSub (cFl (He.ga K "Taker") "window" (cVar 0)) (tCB (uLen K) (tCons (cFl (He.ga K "Taker") "ready" (cVar 0)) tNil))))
theorem der_Taker_room {P : Program} {w : World} {K : PySem.W.Frag} {mg : Str → Option Value} {base : Heap} {sp : Sp1}  (e : Txt K mg) 
    (h : ∀ a0 H Q E, sp a0 H Q E → rd_Taker_room K  E { nx := fun _ H' => Q .non H', rt := Q } [some a0] H) : Fok P w K mg base 1 (pg K (He.ga K "Taker") "room") ["self"] (mk1 sp) := by
  obtain ⟨fd, F⟩ := e.F_Taker_room
  refine ⟨fd, F.ok sc_Taker_room (fun _ _ _ _ z => mk1_len z) (fun cdv A outer s H vs Q E hr hsp => ?_), fun_lk F⟩
  have hu := hr.units
  obtain ⟨a0, rfl, hs⟩ := mk1_at hsp
  refine ⟨rd_Taker_room K  E, ?_, h a0 H Q E hs⟩
  exact (pss_one (ps_ret (pe_op oSub (eFl (pn 0) e.k_Taker e.n_Taker_window) (pe_callB bLen rfl e.b_len (by decide +kernel) (pa_cons (eFl (pn 0) e.k_Taker e.n_Taker_ready) pa_nil)))))
abbrev N_Taker_take : List Str := ["self", "number", "item", "index"]
theorem sc_Taker_take : FnScope N_Taker_take ["self", "number", "item"] (defScope s_Taker_take) := ⟨rfl, rfl, rfl, by decide +kernel, rfl, by decide +kernel, by decide +kernel⟩
def rd_Taker_take (K : PySem.W.Frag) (S_ring_index : Sp3) (S_Taker__move : Sp1) (S_Taker_room : Sp1) (E : XK) : TS := (tSeq (tIfS (cTru K (cFl (He.ga K "Taker") "heard" (cVar 0)))
  (tRet (tC (.bl false)))
  tNext)
  (tSeq (tIfS (cTest (tOp uGe (tOp uMod (tOp uSub (cVar 1) (cFl (He.ga K "Taker") "expected" (cVar 0))) (cFl (He.ga K "Taker") "numbers" (cVar 0))) (cPr (He.ga K "Taker") (mk1 S_Taker_room) [] E0 (cVar 0))))
  (tRet (tC (.bl false)))
  tNext)
  (tSeq (tAsg (tCall (mk3 S_ring_index) [] E (tCons (cFl (He.ga K "Taker") "expected" (cVar 0)) (tCons (cVar 1) (tCons (cFl (He.ga K "Taker") "numbers" (cVar 0)) tNil)))) (gNm 3))
  (tSeq (tIfS (cTest (tOp (uIn K) (cVar 3) (cFl (He.ga K "Taker") "_kept" (cVar 0))))
  (tRet (tC (.bl false)))
  tNext)
  (tSeq (tAsg (cVar 2) (gSub (cFl (He.ga K "Taker") "_kept" (cVar 0)) (cVar 3) uSet))
  (tSeq (tDrop (cMe (He.ga K "Taker") "_move" (mk1 S_Taker__move) [] E (cVar 0) tNil))
  (tRet (tC (.bl true)))))))))
theorem der_Taker_take {P : Program} {w : World} {K : PySem.W.Frag} {mg : Str → Option Value} {base : Heap} {sp : Sp3} {S_ring_index : Sp3} {S_Taker__move : Sp1} {S_Taker_room : Sp1} (e : Txt K mg) (O_ring_index : Fok P w K mg base 1 (He.ga K "ring_index") ["low", "number", "size"] (mk3 S_ring_index)) (O_Taker__move : Fok P w K mg base 1 (He.ma K (He.ga K "Taker") "_move") ["self"] (mk1 S_Taker__move)) (O_Taker_room : Fok P w K mg base 1 (pg K (He.ga K "Taker") "room") ["self"] (mk1 S_Taker_room))
    (h : ∀ a0 a1 a2 H Q E, sp a0 a1 a2 H Q E → rd_Taker_take K S_ring_index S_Taker__move S_Taker_room E { nx := fun _ H' => Q .non H', rt := Q } [some a0, some a1, some a2, none] H) : Fok P w K mg base 3 (He.ma K (He.ga K "Taker") "take") ["self", "number", "item"] (mk3 sp) := by
  obtain ⟨fd_ring_index, F_ring_index⟩ := e.F_ring_index
  have G_ring_index := fok_same F_ring_index O_ring_index
  have k_ring_index := F_ring_index.kp
  obtain ⟨fd_Taker__move, F_Taker__move⟩ := e.F_Taker__move
  have G_Taker__move := fok_same F_Taker__move O_Taker__move
  have k_Taker__move := F_Taker__move.kp
  obtain ⟨fd_Taker_room, F_Taker_room⟩ := e.F_Taker_room
  have G_Taker_room := fok_same F_Taker_room O_Taker_room
  have k_Taker_room := F_Taker_room.kp
  have b_Taker_room := FunD.bindsN (ps := ["self"]) F_Taker_room fun _ _ _ _ _ _ us hl => match us, hl with | [_], _ => rfl
  have b_ring_index := FunD.bindsN (ps := ["low", "number", "size"]) F_ring_index fun _ _ _ _ _ _ us hl => match us, hl with | [_, _, _], _ => rfl
  have b_Taker__move := FunD.bindsN (ps := ["self"]) F_Taker__move fun _ _ _ _ _ _ us hl => match us, hl with | [_], _ => rfl
  obtain ⟨fd, F⟩ := e.F_Taker_take
  refine ⟨fd, F.ok sc_Taker_take (fun _ _ _ _ z => mk3_len z) (fun cdv A outer s H vs Q E hr hsp => ?_), fun_lk F⟩
  have hu := hr.units
  obtain ⟨a0, a1, a2, rfl, hs⟩ := mk3_at hsp
  refine ⟨rd_Taker_take K S_ring_index S_Taker__move S_Taker_room E, ?_, h a0 a1 a2 H Q E hs⟩
  exact (pss_cons (ps_if (tt_ (eFl (pn 0) e.k_Taker e.n_Taker_heard))
  (pss_one (ps_ret pe_bl))
  pss_nil)
  (pss_cons (ps_if (ct oGe (pe_op oMod (pe_op oSub (pn 1) (eFl (pn 0) e.k_Taker e.n_Taker_expected)) (eFl (pn 0) e.k_Taker e.n_Taker_numbers)) (ePr (pn 0) e.p_Taker_room G_Taker_room (hr.mono (by decide)) e.k_Taker b_Taker_room .nil passL))
  (pss_one (ps_ret pe_bl))
  pss_nil)
  (pss_cons (sSet (i := 3) sc_Taker_take.nd rfl (by first | exact .inl rfl | exact .inr rfl) (pe_call G_ring_index (hr.mono (by decide)) rfl e.g_ring_index k_ring_index b_ring_index .nil (passes_call (takes_of rfl rfl rfl rfl) fun _ _ _ _ h => h) (pa_cons (eFl (pn 0) e.k_Taker e.n_Taker_expected) (pa_cons (pn 1) (pa_cons (eFl (pn 0) e.k_Taker e.n_Taker_numbers) pa_nil)))))
  (pss_cons (ps_if (ct (oIn hu) (pn 3) (eFl (pn 0) e.k_Taker e.n_Taker__kept))
  (pss_one (ps_ret pe_bl))
  pss_nil)
  (pss_cons (ps_asg (pn 2) (pg_sub (eFl (pn 0) e.k_Taker e.n_Taker__kept) (pn 3) (setU hu)))
  (pss_cons (ps_expr (eMe0 (pn 0) e.m_Taker__move G_Taker__move (hr.mono (by decide)) e.k_Taker b_Taker__move .nil (passes_call (takes_of rfl rfl rfl rfl) fun _ _ _ _ h => h) ))
  (pss_one (ps_ret pe_bl))))))))
abbrev N_Taker__move : List Str := ["self", "item"]
theorem sc_Taker__move : FnScope N_Taker__move ["self"] (defScope s_Taker__move) := ⟨rfl, rfl, rfl, by decide +kernel, rfl, by decide +kernel, by decide +kernel⟩
def rd_Taker__move (K : PySem.W.Frag)  (E : XK) : TS := (tWhile (cTest (tOp (uIn K) (cFl (He.ga K "Taker") "expected" (cVar 0)) (cFl (He.ga K "Taker") "_kept" (cVar 0))))
  (tSeq (tAsg (cPop1 (cFl (He.ga K "Taker") "_kept" (cVar 0)) (cFl (He.ga K "Taker") "expected" (cVar 0))) (gNm 1))
  (tSeq (cAugFl (He.ga K "Taker") "expected" (cVar 0) (tC (.int 1)) uAddI)
  (tIfS (cTest (tOp uIs (cVar 1) (tC .non)))
  (tSeq (cPutFl (He.ga K "Taker") "heard" (cVar 0) (tC (.bl true)))
  (cPutFl (He.ga K "Taker") "_kept" (cVar 0) cNewK))
  (tDrop (tBM K "list" aAppend (cFl (He.ga K "Taker") "ready" (cVar 0)) (tCons (cVar 1) tNil)))))))
theorem der_Taker__move {P : Program} {w : World} {K : PySem.W.Frag} {mg : Str → Option Value} {base : Heap} {sp : Sp1}  (e : Txt K mg) 
    (h : ∀ a0 H Q E, sp a0 H Q E → rd_Taker__move K  E { nx := fun _ H' => Q .non H', rt := Q } [some a0, none] H) : Fok P w K mg base 1 (He.ma K (He.ga K "Taker") "_move") ["self"] (mk1 sp) := by
  obtain ⟨fd, F⟩ := e.F_Taker__move
  refine ⟨fd, F.ok sc_Taker__move (fun _ _ _ _ z => mk1_len z) (fun cdv A outer s H vs Q E hr hsp => ?_), fun_lk F⟩
  have hu := hr.units
  obtain ⟨a0, rfl, hs⟩ := mk1_at hsp
  refine ⟨rd_Taker__move K  E, ?_, h a0 H Q E hs⟩
  exact (pss_one (ps_while (passes_of rfl) (ct (oIn hu) (eFl (pn 0) e.k_Taker e.n_Taker_expected) (eFl (pn 0) e.k_Taker e.n_Taker__kept))
  (pss_cons (sSet (i := 1) sc_Taker__move.nd rfl (by first | exact .inl rfl | exact .inr rfl) (ePopK (eFl (pn 0) e.k_Taker e.n_Taker__kept) (eFl (pn 0) e.k_Taker e.n_Taker_expected)))
  (pss_cons (sAugFl (pn 0) pe_int inAdd e.k_Taker e.n_Taker_expected)
  (pss_one (ps_if (ct oIs (pn 1) pe_non)
  (pss_cons (sPutFl (pn 0) pe_bl e.k_Taker e.n_Taker_heard)
  (pss_one (sPutFl (pn 0) eNewK e.k_Taker e.n_Taker__kept)))
  (pss_one (ps_expr (pe_bm PySem.F.plainAttrs_list PySem.F.slot_list_append PySem.F.type_list_append mAppend (eFl (pn 0) e.k_Taker e.n_Taker_ready) (pa_cons (pn 1) pa_nil))))))))))
abbrev N_Taker_read : List Str := ["self", "count", "items"]
theorem sc_Taker_read : FnScope N_Taker_read ["self", "count"] (defScope s_Taker_read) := ⟨rfl, rfl, rfl, by decide +kernel, rfl, by decide +kernel, by decide +kernel⟩
def rd_Taker_read (K : PySem.W.Frag)  (E : XK) : TS := (tSeq (tIfS (cTest (tOp uIs (cVar 1) (tC .non)))
  (tAsg (tCB (uLen K) (tCons (cFl (He.ga K "Taker") "ready" (cVar 0)) tNil)) (gNm 1))
  tNext)
  (tSeq (tAsg (tSl (uSl K) (cFl (He.ga K "Taker") "ready" (cVar 0)) tNoPart (cPart (cVar 1))) (gNm 2))
  (tSeq (cDelF (cFl (He.ga K "Taker") "ready" (cVar 0)) (cPart (cVar 1)))
  (tRet (cVar 2)))))
theorem der_Taker_read {P : Program} {w : World} {K : PySem.W.Frag} {mg : Str → Option Value} {base : Heap} {sp : Sp2}  (e : Txt K mg) 
    (h : ∀ a0 a1 H Q E, sp a0 a1 H Q E → rd_Taker_read K  E { nx := fun _ H' => Q .non H', rt := Q } [some a0, some a1, none] H) : Fok P w K mg base 1 (He.ma K (He.ga K "Taker") "read") ["self", "count"] (mk2 sp) := by
  obtain ⟨fd, F⟩ := e.F_Taker_read
  refine ⟨fd, F.ok sc_Taker_read (fun _ _ _ _ z => mk2_len z) (fun cdv A outer s H vs Q E hr hsp => ?_), fun_lk F⟩
  have hu := hr.units
  obtain ⟨a0, a1, rfl, hs⟩ := mk2_at hsp
  refine ⟨rd_Taker_read K  E, ?_, h a0 a1 H Q E hs⟩
  exact (pss_cons (ps_if (ct oIs (pn 1) pe_non)
  (pss_one (sSet (i := 1) sc_Taker_read.nd rfl (by first | exact .inl rfl | exact .inr rfl) (pe_callB bLen rfl e.b_len (by decide +kernel) (pa_cons (eFl (pn 0) e.k_Taker e.n_Taker_ready) pa_nil))))
  pss_nil)
  (pss_cons (sSet (i := 2) sc_Taker_read.nd rfl (by first | exact .inl rfl | exact .inr rfl) (eSl (eFl (pn 0) e.k_Taker e.n_Taker_ready) po_none (eSome (pn 1))))
  (pss_cons (sDelF (eFl (pn 0) e.k_Taker e.n_Taker_ready) (eSome (pn 1)))
  (pss_one (ps_ret (pn 2))))))
abbrev N_Taker_told : List Str := ["self"]
theorem sc_Taker_told : FnScope N_Taker_told ["self"] (defScope s_Taker_told) := ⟨rfl, rfl, rfl, by decide +kernel, rfl, by decide +kernel, by decide +kernel⟩
def rd_Taker_told (K : PySem.W.Frag) (S_Taker_room : Sp1) (E : XK) : TS := (tRet (cTup (tCons (tOp uMod (cFl (He.ga K "Taker") "expected" (cVar 0)) (cFl (He.ga K "Taker") "numbers" (cVar 0))) (tCons (cPr (He.ga K "Taker") (mk1 S_Taker_room) [] E0 (cVar 0)) tNil))))
theorem der_Taker_told {P : Program} {w : World} {K : PySem.W.Frag} {mg : Str → Option Value} {base : Heap} {sp : Sp1} {S_Taker_room : Sp1} (e : Txt K mg) (O_Taker_room : Fok P w K mg base 1 (pg K (He.ga K "Taker") "room") ["self"] (mk1 S_Taker_room))
    (h : ∀ a0 H Q E, sp a0 H Q E → rd_Taker_told K S_Taker_room E { nx := fun _ H' => Q .non H', rt := Q } [some a0] H) : Fok P w K mg base 3 (He.ma K (He.ga K "Taker") "told") ["self"] (mk1 sp) := by
  obtain ⟨fd_Taker_room, F_Taker_room⟩ := e.F_Taker_room
  have G_Taker_room := fok_same F_Taker_room O_Taker_room
  have k_Taker_room := F_Taker_room.kp
  have b_Taker_room := FunD.bindsN (ps := ["self"]) F_Taker_room fun _ _ _ _ _ _ us hl => match us, hl with | [_], _ => rfl
  obtain ⟨fd, F⟩ := e.F_Taker_told
  refine ⟨fd, F.ok sc_Taker_told (fun _ _ _ _ z => mk1_len z) (fun cdv A outer s H vs Q E hr hsp => ?_), fun_lk F⟩
  have hu := hr.units
  obtain ⟨a0, rfl, hs⟩ := mk1_at hsp
  refine ⟨rd_Taker_told K S_Taker_room E, ?_, h a0 H Q E hs⟩
  exact (pss_one (ps_ret (eTup (pa_cons (pe_op oMod (eFl (pn 0) e.k_Taker e.n_Taker_expected) (eFl (pn 0) e.k_Taker e.n_Taker_numbers)) (pa_cons (ePr (pn 0) e.p_Taker_room G_Taker_room (hr.mono (by decide)) e.k_Taker b_Taker_room .nil passL) pa_nil)))))
abbrev N_Taker_kept : List Str := ["self", "index"]
theorem sc_Taker_kept : FnScope N_Taker_kept ["self"] (defScope s_Taker_kept) := ⟨rfl, rfl, rfl, by decide +kernel, rfl, by decide +kernel, by decide +kernel⟩
def rd_Taker_kept (K : PySem.W.Frag)  (E : XK) : TS := (tRet (cLc (iSeq K (tCB (uSorted K) (tCons (cFl (He.ga K "Taker") "_kept" (cVar 0)) tNil))) (gNm 1) tYes (cTup (tCons (cVar 1) (tCons (tOp (uIx K) (cFl (He.ga K "Taker") "_kept" (cVar 0)) (cVar 1)) tNil))) [1]))
theorem der_Taker_kept {P : Program} {w : World} {K : PySem.W.Frag} {mg : Str → Option Value} {base : Heap} {sp : Sp1}  (e : Txt K mg) 
    (h : ∀ a0 H Q E, sp a0 H Q E → rd_Taker_kept K  E { nx := fun _ H' => Q .non H', rt := Q } [some a0, none] H) : Fok P w K mg base 1 (He.ma K (He.ga K "Taker") "kept") ["self"] (mk1 sp) := by
  obtain ⟨fd, F⟩ := e.F_Taker_kept
  refine ⟨fd, F.ok sc_Taker_kept (fun _ _ _ _ z => mk1_len z) (fun cdv A outer s H vs Q E hr hsp => ?_), fun_lk F⟩
  have hu := hr.units
  obtain ⟨a0, rfl, hs⟩ := mk1_at hsp
  refine ⟨rd_Taker_kept K  E, ?_, h a0 H Q E hs⟩
  exact (pss_one (ps_ret (eLc (own := [("index", 1)]) rfl sc_Taker_kept.nd (fSeq (pe_callB (bSorted rfl) rfl e.b_sorted (by decide +kernel) (pa_cons (eFl (pn 0) e.k_Taker e.n_Taker__kept) pa_nil))) (blkOk_by (N := N_Taker_kept) (sc := defScope s_Taker_kept) (own := [("index", 1)]) (by decide +kernel)) (fun _ _ _ _ _ => (tNm (i := 1) sc_Taker_kept.nd rfl (by first | exact .inl rfl | exact .inr rfl))) (fun _ _ _ _ _ => pts_nil) (fun _ _ _ _ _ => (eTup (pa_cons (pn 1) (pa_cons (eIx hu (eFl (pn 0) e.k_Taker e.n_Taker__kept) (pn 1)) pa_nil)))))))
abbrev N__law_is_number : List Str := ["value"]
theorem sc__law_is_number : FnScope N__law_is_number ["value"] (defScope s__law_is_number) := ⟨rfl, rfl, rfl, by decide +kernel, rfl, by decide +kernel, by decide +kernel⟩
def rd__law_is_number (K : PySem.W.Frag)  (E : XK) : TS := (tRet (cAnd K (cIsi K isiInt (cVar 0)) (cNot K (cIsi K isiBool (cVar 0)))))
theorem der__law_is_number {P : Program} {w : World} {K : PySem.W.Frag} {mg : Str → Option Value} {base : Heap} {sp : Sp1}  (e : Txt K mg) 
    (h : ∀ a0 H Q E, sp a0 H Q E → rd__law_is_number K  E { nx := fun _ H' => Q .non H', rt := Q } [some a0] H) : Fok P w K mg base 1 (He.ga K "_law_is_number") ["value"] (mk1 sp) := by
  obtain ⟨fd, F⟩ := e.F__law_is_number
  refine ⟨fd, F.ok sc__law_is_number (fun _ _ _ _ z => mk1_len z) (fun cdv A outer s H vs Q E hr hsp => ?_), fun_lk F⟩
  have hu := hr.units
  obtain ⟨a0, rfl, hs⟩ := mk1_at hsp
  refine ⟨rd__law_is_number K  E, ?_, h a0 H Q E hs⟩
  exact (pss_one (ps_ret (eAnd (eIsi (t := isiInt) isiInt_ok rfl e.b_isinstance (pn 0) rfl e.b_int (by decide +kernel)) (pe_one (eNot (eIsi (t := isiBool) isiBool_ok rfl e.b_isinstance (pn 0) rfl e.b_bool (by decide +kernel)))))))
abbrev N__law_purse : List Str := ["script", "cell"]
theorem sc__law_purse : FnScope N__law_purse ["script"] (defScope s__law_purse) := ⟨rfl, rfl, rfl, by decide +kernel, rfl, by decide +kernel, by decide +kernel⟩
def rd__law_purse (K : PySem.W.Frag)  (E : XK) : TS := (tRet (cDisp (((tC (.str "cells")), (cLc (iSeq K (tSl (uSl K) (cVar 0) tNoPart (cPart (tC (.int 63))))) (gNm 1) tYes (tCB uInt (tCons (cVar 1) tNil)) [1])) :: (((tC (.str "place")), (tC (.int 0))) :: (((tC (.str "rest")), (tC (.int 0))) :: (((tC (.str "seed")), (tC (.int 4929))) :: (((tC (.str "count")), (tC (.int 0))) :: [])))))))
theorem der__law_purse {P : Program} {w : World} {K : PySem.W.Frag} {mg : Str → Option Value} {base : Heap} {sp : Sp1}  (e : Txt K mg) 
    (h : ∀ a0 H Q E, sp a0 H Q E → rd__law_purse K  E { nx := fun _ H' => Q .non H', rt := Q } [some a0, none] H) : Fok P w K mg base 1 (He.ga K "_law_purse") ["script"] (mk1 sp) := by
  obtain ⟨fd, F⟩ := e.F__law_purse
  refine ⟨fd, F.ok sc__law_purse (fun _ _ _ _ z => mk1_len z) (fun cdv A outer s H vs Q E hr hsp => ?_), fun_lk F⟩
  have hu := hr.units
  obtain ⟨a0, rfl, hs⟩ := mk1_at hsp
  refine ⟨rd__law_purse K  E, ?_, h a0 H Q E hs⟩
  exact (pss_one (ps_ret (eDisp (pps_cons pe_str (eLc (own := [("cell", 1)]) rfl sc__law_purse.nd (fSeq (eSl (pn 0) po_none (eSome pe_int))) (blkOk_by (N := N__law_purse) (sc := defScope s__law_purse) (own := [("cell", 1)]) (by decide +kernel)) (fun _ _ _ _ _ => (tNm (i := 1) sc__law_purse.nd rfl (by first | exact .inl rfl | exact .inr rfl))) (fun _ _ _ _ _ => pts_nil) (fun _ _ _ _ _ => (pe_callTy bInt rfl e.b_int (by decide +kernel) (pa_cons (pn 1) pa_nil)))) (pps_cons pe_str pe_int (pps_cons pe_str pe_int (pps_cons pe_str pe_int (pps_cons pe_str pe_int pps_nil))))))))
abbrev N__law_mixed : List Str := ["seed", "count", "size", "number", "other"]
theorem sc__law_mixed : FnScope N__law_mixed ["seed", "count", "size"] (defScope s__law_mixed) := ⟨rfl, rfl, rfl, by decide +kernel, rfl, by decide +kernel, by decide +kernel⟩
def rd__law_mixed (K : PySem.W.Frag)  (E : XK) : TS := (tSeq (tAsg (tOp uMod (tCB uInt (tCons (tOp (uAdd K) (tOp (uAdd K) (tOp uMul (cVar 0) (tC (.int 48271))) (tOp uMul (cVar 1) (tC (.int 69621)))) (tC (.int 11))) tNil)) (tC (.int 2147483647))) (gNm 3))
  (tSeq (tAsg (tOp uMod (tCB uInt (tCons (tOp (uAdd K) (tOp (uAdd K) (tOp uMul (cVar 3) (cVar 3)) (tOp uMul (cVar 1) (tC (.int 7919)))) (tC (.int 5))) tNil)) (tC (.int 2147483629))) (gNm 4))
  (tSeq (tAsg (tOp uMod (tCB uInt (tCons (tOp (uAdd K) (tOp uMul (cVar 4) (tOp (uAdd K) (tOp uMod (tCB uInt (tCons (cVar 3) tNil)) (tC (.int 4099))) (tC (.int 3)))) (tC (.int 17))) tNil)) (tC (.int 2147483587))) (gNm 3))
  (tRet (tOp uMod (tOp uDiv (cVar 3) (tC (.int 16))) (cVar 2))))))
theorem der__law_mixed {P : Program} {w : World} {K : PySem.W.Frag} {mg : Str → Option Value} {base : Heap} {sp : Sp3}  (e : Txt K mg) 
    (h : ∀ a0 a1 a2 H Q E, sp a0 a1 a2 H Q E → rd__law_mixed K  E { nx := fun _ H' => Q .non H', rt := Q } [some a0, some a1, some a2, none, none] H) : Fok P w K mg base 1 (He.ga K "_law_mixed") ["seed", "count", "size"] (mk3 sp) := by
  obtain ⟨fd, F⟩ := e.F__law_mixed
  refine ⟨fd, F.ok sc__law_mixed (fun _ _ _ _ z => mk3_len z) (fun cdv A outer s H vs Q E hr hsp => ?_), fun_lk F⟩
  have hu := hr.units
  obtain ⟨a0, a1, a2, rfl, hs⟩ := mk3_at hsp
  refine ⟨rd__law_mixed K  E, ?_, h a0 a1 a2 H Q E hs⟩
  exact (pss_cons (sSet (i := 3) sc__law_mixed.nd rfl (by first | exact .inl rfl | exact .inr rfl) (pe_op oMod (pe_callTy bInt rfl e.b_int (by decide +kernel) (pa_cons (pe_op oAdd (pe_op oAdd (pe_op oMul (pn 0) pe_int) (pe_op oMul (pn 1) pe_int)) pe_int) pa_nil)) pe_int))
  (pss_cons (sSet (i := 4) sc__law_mixed.nd rfl (by first | exact .inl rfl | exact .inr rfl) (pe_op oMod (pe_callTy bInt rfl e.b_int (by decide +kernel) (pa_cons (pe_op oAdd (pe_op oAdd (pe_op oMul (pn 3) (pn 3)) (pe_op oMul (pn 1) pe_int)) pe_int) pa_nil)) pe_int))
  (pss_cons (sSet (i := 3) sc__law_mixed.nd rfl (by first | exact .inl rfl | exact .inr rfl) (pe_op oMod (pe_callTy bInt rfl e.b_int (by decide +kernel) (pa_cons (pe_op oAdd (pe_op oMul (pn 4) (pe_op oAdd (pe_op oMod (pe_callTy bInt rfl e.b_int (by decide +kernel) (pa_cons (pn 3) pa_nil)) pe_int) pe_int)) pe_int) pa_nil)) pe_int))
  (pss_one (ps_ret (pe_op oMod (pe_op oDiv (pn 3) pe_int) (pn 2)))))))
abbrev N__law_draw : List Str := ["purse", "size", "cell", "digit"]
theorem sc__law_draw : FnScope N__law_draw ["purse", "size"] (defScope s__law_draw) := ⟨rfl, rfl, rfl, by decide +kernel, rfl, by decide +kernel, by decide +kernel⟩
def rd__law_draw (K : PySem.W.Frag) (S__law_mixed : Sp3) (E : XK) : TS := (tSeq (tAsg (tOp (uAdd K) (tOp (uIx K) (cVar 0) (tC (.str "count"))) (tC (.int 1))) (gSub (cVar 0) (tC (.str "count")) uSet))
  (tSeq (tIfS (tAnd (cTest (tOp (uEq K) (tOp (uIx K) (cVar 0) (tC (.str "rest"))) (tC (.int 0)))) (cTest (tOp (uLt K) (tOp (uIx K) (cVar 0) (tC (.str "place"))) (tCB (uLen K) (tCons (tOp (uIx K) (cVar 0) (tC (.str "cells"))) tNil)))))
  (tSeq (tAsg (tOp (uIx K) (tOp (uIx K) (cVar 0) (tC (.str "cells"))) (tOp (uIx K) (cVar 0) (tC (.str "place")))) (gNm 2))
  (tSeq (tAsg (tOp (uAdd K) (tOp (uIx K) (cVar 0) (tC (.str "place"))) (tC (.int 1))) (gSub (cVar 0) (tC (.str "place")) uSet))
  (tIfS (cTest (tOp uGe (cVar 2) (tOp uPow (tC (.int 10)) (tC (.int 18)))))
  (tAsg (tOp uMod (tCB uInt (tCons (cVar 2) tNil)) (tOp uPow (tOp uPow (tC (.int 10)) (tC (.int 60))) (tC (.int 15)))) (gSub (cVar 0) (tC (.str "rest")) uSet))
  (tAsg (tOp uMod (tCB uInt (tCons (tOp (uAdd K) (tOp uMul (tOp (uIx K) (cVar 0) (tC (.str "seed"))) (tC (.int 131))) (cVar 2)) tNil)) (tC (.int 2147483647))) (gSub (cVar 0) (tC (.str "seed")) uSet)))))
  tNext)
  (tSeq (tIfS (cTest (tOp uGt (tOp (uIx K) (cVar 0) (tC (.str "rest"))) (tC (.int 0))))
  (tSeq (tAsg (tOp uMod (tCB uInt (tCons (tOp (uIx K) (cVar 0) (tC (.str "rest"))) tNil)) (cVar 1)) (gNm 3))
  (tSeq (tAsg (tOp uDiv (tOp (uIx K) (cVar 0) (tC (.str "rest"))) (cVar 1)) (gSub (cVar 0) (tC (.str "rest")) uSet))
  (tRet (cVar 3))))
  tNext)
  (tRet (tCall (mk3 S__law_mixed) [] E (tCons (tOp (uIx K) (cVar 0) (tC (.str "seed"))) (tCons (tOp (uIx K) (cVar 0) (tC (.str "count"))) (tCons (cVar 1) tNil))))))))
theorem der__law_draw {P : Program} {w : World} {K : PySem.W.Frag} {mg : Str → Option Value} {base : Heap} {sp : Sp2} {S__law_mixed : Sp3} (e : Txt K mg) (O__law_mixed : Fok P w K mg base 1 (He.ga K "_law_mixed") ["seed", "count", "size"] (mk3 S__law_mixed))
    (h : ∀ a0 a1 H Q E, sp a0 a1 H Q E → rd__law_draw K S__law_mixed E { nx := fun _ H' => Q .non H', rt := Q } [some a0, some a1, none, none] H) : Fok P w K mg base 2 (He.ga K "_law_draw") ["purse", "size"] (mk2 sp) := by
  obtain ⟨fd__law_mixed, F__law_mixed⟩ := e.F__law_mixed
  have G__law_mixed := fok_same F__law_mixed O__law_mixed
  have k__law_mixed := F__law_mixed.kp
  have b__law_mixed := FunD.bindsN (ps := ["seed", "count", "size"]) F__law_mixed fun _ _ _ _ _ _ us hl => match us, hl with | [_, _, _], _ => rfl
  obtain ⟨fd, F⟩ := e.F__law_draw
  refine ⟨fd, F.ok sc__law_draw (fun _ _ _ _ z => mk2_len z) (fun cdv A outer s H vs Q E hr hsp => ?_), fun_lk F⟩
  have hu := hr.units
  obtain ⟨a0, a1, rfl, hs⟩ := mk2_at hsp
  refine ⟨rd__law_draw K S__law_mixed E, ?_, h a0 a1 H Q E hs⟩
  exact (pss_cons (ps_asg (pe_op oAdd (eIx hu (pn 0) pe_str) pe_int) (pg_sub (pn 0) pe_str (setU hu)))
  (pss_cons (ps_if (PW.pt (pw_and (ct (oEq hu) (eIx hu (pn 0) pe_str) pe_int) (pw_and1 (ct (oLt (Nat.lt_of_le_of_lt (Nat.le_add_right _ 64) hu)) (eIx hu (pn 0) pe_str) (pe_callB bLen rfl e.b_len (by decide +kernel) (pa_cons (eIx hu (pn 0) pe_str) pa_nil))))))
  (pss_cons (sSet (i := 2) sc__law_draw.nd rfl (by first | exact .inl rfl | exact .inr rfl) (eIx hu (eIx hu (pn 0) pe_str) (eIx hu (pn 0) pe_str)))
  (pss_cons (ps_asg (pe_op oAdd (eIx hu (pn 0) pe_str) pe_int) (pg_sub (pn 0) pe_str (setU hu)))
  (pss_one (ps_if (ct oGe (pn 2) (pe_op oPow pe_int pe_int))
  (pss_one (ps_asg (pe_op oMod (pe_callTy bInt rfl e.b_int (by decide +kernel) (pa_cons (pn 2) pa_nil)) (pe_op oPow (pe_op oPow pe_int pe_int) pe_int)) (pg_sub (pn 0) pe_str (setU hu))))
  (pss_one (ps_asg (pe_op oMod (pe_callTy bInt rfl e.b_int (by decide +kernel) (pa_cons (pe_op oAdd (pe_op oMul (eIx hu (pn 0) pe_str) pe_int) (pn 2)) pa_nil)) pe_int) (pg_sub (pn 0) pe_str (setU hu))))))))
  pss_nil)
  (pss_cons (ps_if (ct oGt (eIx hu (pn 0) pe_str) pe_int)
  (pss_cons (sSet (i := 3) sc__law_draw.nd rfl (by first | exact .inl rfl | exact .inr rfl) (pe_op oMod (pe_callTy bInt rfl e.b_int (by decide +kernel) (pa_cons (eIx hu (pn 0) pe_str) pa_nil)) (pn 1)))
  (pss_cons (ps_asg (pe_op oDiv (eIx hu (pn 0) pe_str) (pn 1)) (pg_sub (pn 0) pe_str (setU hu)))
  (pss_one (ps_ret (pn 3)))))
  pss_nil)
  (pss_one (ps_ret (pe_call G__law_mixed (hr.mono (by decide)) rfl e.g__law_mixed k__law_mixed b__law_mixed .nil (passes_call (takes_of rfl rfl rfl rfl) fun _ _ _ _ h => h) (pa_cons (eIx hu (pn 0) pe_str) (pa_cons (eIx hu (pn 0) pe_str) (pa_cons (pn 1) pa_nil)))))))))
abbrev N__law_table : List Str := ["window", "numbers", "table"]
theorem sc__law_table : FnScope N__law_table ["window", "numbers"] (defScope s__law_table) := ⟨rfl, rfl, rfl, by decide +kernel, rfl, by decide +kernel, by decide +kernel⟩
def rd__law_table (K : PySem.W.Frag)  (E : XK) : TS := (tSeq (tAsg (cDisp (((tC (.str "window")), (cVar 0)) :: (((tC (.str "numbers")), (cVar 1)) :: (((tC (.str "expected")), (tC (.int 0))) :: (((tC (.str "ready")), (cLst tNil)) :: (((tC (.str "heard")), (tC (.bl false))) :: [])))))) (gNm 2))
  (tSeq (tAsg cNewK (gSub (cVar 2) (tC (.str "held")) uSet))
  (tSeq (tAsg (cVar 0) (gSub (cVar 2) (tC (.str "level")) uSet))
  (tSeq (tAsg (cLst tNil) (gSub (cVar 2) (tC (.str "lists")) uSet))
  (tRet (cVar 2))))))
theorem der__law_table {P : Program} {w : World} {K : PySem.W.Frag} {mg : Str → Option Value} {base : Heap} {sp : Sp2}  (e : Txt K mg) 
    (h : ∀ a0 a1 H Q E, sp a0 a1 H Q E → rd__law_table K  E { nx := fun _ H' => Q .non H', rt := Q } [some a0, some a1, none] H) : Fok P w K mg base 1 (He.ga K "_law_table") ["window", "numbers"] (mk2 sp) := by
  obtain ⟨fd, F⟩ := e.F__law_table
  refine ⟨fd, F.ok sc__law_table (fun _ _ _ _ z => mk2_len z) (fun cdv A outer s H vs Q E hr hsp => ?_), fun_lk F⟩
  have hu := hr.units
  obtain ⟨a0, a1, rfl, hs⟩ := mk2_at hsp
  refine ⟨rd__law_table K  E, ?_, h a0 a1 H Q E hs⟩
  exact (pss_cons (sSet (i := 2) sc__law_table.nd rfl (by first | exact .inl rfl | exact .inr rfl) (eDisp (pps_cons pe_str (pn 0) (pps_cons pe_str (pn 1) (pps_cons pe_str pe_int (pps_cons pe_str (eLst pa_nil) (pps_cons pe_str pe_bl pps_nil)))))))
  (pss_cons (ps_asg eNewK (pg_sub (pn 2) pe_str (setU hu)))
  (pss_cons (ps_asg (pn 0) (pg_sub (pn 2) pe_str (setU hu)))
  (pss_cons (ps_asg (eLst pa_nil) (pg_sub (pn 2) pe_str (setU hu)))
  (pss_one (ps_ret (pn 2)))))))
abbrev N__law_taken : List Str := ["table", "number", "item", "held", "ahead", "place", "k", "got"]
theorem sc__law_taken : FnScope N__law_taken ["table", "number", "item"] (defScope s__law_taken) := ⟨rfl, rfl, rfl, by decide +kernel, rfl, by decide +kernel, by decide +kernel⟩
def rd__law_taken (K : PySem.W.Frag)  (E : XK) : TS := (tSeq (tAsg (tOp (uIx K) (cVar 0) (tC (.str "held"))) (gNm 3))
  (tSeq (tAsg (tOp uMod (tCB uInt (tCons (tOp uSub (cVar 1) (tOp (uIx K) (cVar 0) (tC (.str "expected")))) tNil)) (tOp (uIx K) (cVar 0) (tC (.str "numbers")))) (gNm 4))
  (tSeq (tAsg (tOp (uAdd K) (tOp (uIx K) (cVar 0) (tC (.str "expected"))) (cVar 4)) (gNm 5))
  (tSeq (tIfS (tOr (cTru K (tOp (uIx K) (cVar 0) (tC (.str "heard")))) (tOr (cTest (tOp uGe (cVar 4) (tOp uSub (tOp (uIx K) (cVar 0) (tC (.str "window"))) (tCB (uLen K) (tCons (tOp (uIx K) (cVar 0) (tC (.str "ready"))) tNil))))) (cTest (tOp (uIn K) (cVar 5) (cVar 3)))))
  (tRet (tC (.bl false)))
  tNext)
  (tSeq (tAsg (cVar 2) (gSub (cVar 3) (cVar 5) uSet))
  (tSeq (cFor (iR1 (tCons (tC (.int 6)) tNil)) (gNm 6)
  (tSeq (tIfS (tOr (cTru K (tOp (uIx K) (cVar 0) (tC (.str "heard")))) (cTest (tOp (uNotIn K) (tOp (uIx K) (cVar 0) (tC (.str "expected"))) (cVar 3))))
  tBreak
  tNext)
  (tSeq (tAsg (cPop1 (cVar 3) (tOp (uIx K) (cVar 0) (tC (.str "expected")))) (gNm 7))
  (tSeq (tAsg (tOp (uAdd K) (tOp (uIx K) (cVar 0) (tC (.str "expected"))) (tC (.int 1))) (gSub (cVar 0) (tC (.str "expected")) uSet))
  (tIfS (cTest (tOp uIs (cVar 7) (tC .non)))
  (tSeq (tAsg (tC (.bl true)) (gSub (cVar 0) (tC (.str "heard")) uSet))
  (tAsg cNewK (gSub (cVar 0) (tC (.str "held")) uSet)))
  (tAsg (tOp (uAdd K) (tOp (uIx K) (cVar 0) (tC (.str "ready"))) (cLst (tCons (cVar 7) tNil))) (gSub (cVar 0) (tC (.str "ready")) uSet)))))))
  (tRet (tC (.bl true)))))))))
theorem der__law_taken {P : Program} {w : World} {K : PySem.W.Frag} {mg : Str → Option Value} {base : Heap} {sp : Sp3}  (e : Txt K mg) 
    (h : ∀ a0 a1 a2 H Q E, sp a0 a1 a2 H Q E → rd__law_taken K  E { nx := fun _ H' => Q .non H', rt := Q } [some a0, some a1, some a2, none, none, none, none, none] H) : Fok P w K mg base 1 (He.ga K "_law_taken") ["table", "number", "item"] (mk3 sp) := by
  obtain ⟨fd, F⟩ := e.F__law_taken
  refine ⟨fd, F.ok sc__law_taken (fun _ _ _ _ z => mk3_len z) (fun cdv A outer s H vs Q E hr hsp => ?_), fun_lk F⟩
  have hu := hr.units
  obtain ⟨a0, a1, a2, rfl, hs⟩ := mk3_at hsp
  refine ⟨rd__law_taken K  E, ?_, h a0 a1 a2 H Q E hs⟩
  exact (pss_cons (sSet (i := 3) sc__law_taken.nd rfl (by first | exact .inl rfl | exact .inr rfl) (eIx hu (pn 0) pe_str))
  (pss_cons (sSet (i := 4) sc__law_taken.nd rfl (by first | exact .inl rfl | exact .inr rfl) (pe_op oMod (pe_callTy bInt rfl e.b_int (by decide +kernel) (pa_cons (pe_op oSub (pn 1) (eIx hu (pn 0) pe_str)) pa_nil)) (eIx hu (pn 0) pe_str)))
  (pss_cons (sSet (i := 5) sc__law_taken.nd rfl (by first | exact .inl rfl | exact .inr rfl) (pe_op oAdd (eIx hu (pn 0) pe_str) (pn 4)))
  (pss_cons (ps_if (PW.pt (pw_or (tt_ (eIx hu (pn 0) pe_str)) (pw_or (ct oGe (pn 4) (pe_op oSub (eIx hu (pn 0) pe_str) (pe_callB bLen rfl e.b_len (by decide +kernel) (pa_cons (eIx hu (pn 0) pe_str) pa_nil)))) (pw_or1 (ct (oIn hu) (pn 5) (pn 3))))))
  (pss_one (ps_ret pe_bl))
  pss_nil)
  (pss_cons (ps_asg (pn 2) (pg_sub (pn 3) (pn 5) (setU hu)))
  (pss_cons (sFor (passes_of rfl) rfl (fR1 rfl e.b_range (pa_cons pe_int pa_nil)) (tNm (i := 6) sc__law_taken.nd rfl (by first | exact .inl rfl | exact .inr rfl))
  (pss_cons (ps_if (PW.pt (pw_or (tt_ (eIx hu (pn 0) pe_str)) (pw_or1 (ct (oNotIn hu) (eIx hu (pn 0) pe_str) (pn 3)))))
  (pss_one ps_break)
  pss_nil)
  (pss_cons (sSet (i := 7) sc__law_taken.nd rfl (by first | exact .inl rfl | exact .inr rfl) (ePopK (pn 3) (eIx hu (pn 0) pe_str)))
  (pss_cons (ps_asg (pe_op oAdd (eIx hu (pn 0) pe_str) pe_int) (pg_sub (pn 0) pe_str (setU hu)))
  (pss_one (ps_if (ct oIs (pn 7) pe_non)
  (pss_cons (ps_asg pe_bl (pg_sub (pn 0) pe_str (setU hu)))
  (pss_one (ps_asg eNewK (pg_sub (pn 0) pe_str (setU hu)))))
  (pss_one (ps_asg (pe_op oAdd (eIx hu (pn 0) pe_str) (eLst (pa_cons (pn 7) pa_nil))) (pg_sub (pn 0) pe_str (setU hu))))))))))
  (pss_one (ps_ret pe_bl))))))))
abbrev N__law_same_list : List Str := ["actual", "want", "k"]
theorem sc__law_same_list : FnScope N__law_same_list ["actual", "want"] (defScope s__law_same_list) := ⟨rfl, rfl, rfl, by decide +kernel, rfl, by decide +kernel, by decide +kernel⟩
def rd__law_same_list (K : PySem.W.Frag) (S__law_is_number : Sp1) (E : XK) : TS := (tSeq (tIfS (tOr (tNot (cTru K (cIsi K isiList (cVar 0)))) (cTest (tOp (uNe K) (tCB (uLen K) (tCons (cVar 0) tNil)) (tCB (uLen K) (tCons (cVar 1) tNil)))))
  (tRet (tC (.bl false)))
  tNext)
  (tSeq (cFor (iR1 (tCons (tCB (uLen K) (tCons (cVar 1) tNil)) tNil)) (gNm 2)
  (tIfS (tOr (tNot (cTru K (tCall (mk1 S__law_is_number) [] E (tCons (tOp (uIx K) (cVar 0) (cVar 2)) tNil)))) (cTest (tOp (uNe K) (tOp (uIx K) (cVar 0) (cVar 2)) (tOp (uIx K) (cVar 1) (cVar 2)))))
  (tRet (tC (.bl false)))
  tNext))
  (tRet (tC (.bl true)))))
theorem der__law_same_list {P : Program} {w : World} {K : PySem.W.Frag} {mg : Str → Option Value} {base : Heap} {sp : Sp2} {S__law_is_number : Sp1} (e : Txt K mg) (O__law_is_number : Fok P w K mg base 1 (He.ga K "_law_is_number") ["value"] (mk1 S__law_is_number))
    (h : ∀ a0 a1 H Q E, sp a0 a1 H Q E → rd__law_same_list K S__law_is_number E { nx := fun _ H' => Q .non H', rt := Q } [some a0, some a1, none] H) : Fok P w K mg base 2 (He.ga K "_law_same_list") ["actual", "want"] (mk2 sp) := by
  obtain ⟨fd__law_is_number, F__law_is_number⟩ := e.F__law_is_number
  have G__law_is_number := fok_same F__law_is_number O__law_is_number
  have k__law_is_number := F__law_is_number.kp
  have b__law_is_number := FunD.bindsN (ps := ["value"]) F__law_is_number fun _ _ _ _ _ _ us hl => match us, hl with | [_], _ => rfl
  obtain ⟨fd, F⟩ := e.F__law_same_list
  refine ⟨fd, F.ok sc__law_same_list (fun _ _ _ _ z => mk2_len z) (fun cdv A outer s H vs Q E hr hsp => ?_), fun_lk F⟩
  have hu := hr.units
  obtain ⟨a0, a1, rfl, hs⟩ := mk2_at hsp
  refine ⟨rd__law_same_list K S__law_is_number E, ?_, h a0 a1 H Q E hs⟩
  exact (pss_cons (ps_if (PW.pt (pw_or (pt_not (tt_ (eIsi (t := isiList) isiList_ok rfl e.b_isinstance (pn 0) rfl e.b_list (by decide +kernel)))) (pw_or1 (ct (oNe hu) (pe_callB bLen rfl e.b_len (by decide +kernel) (pa_cons (pn 0) pa_nil)) (pe_callB bLen rfl e.b_len (by decide +kernel) (pa_cons (pn 1) pa_nil))))))
  (pss_one (ps_ret pe_bl))
  pss_nil)
  (pss_cons (sFor (passes_of rfl) rfl (fR1 rfl e.b_range (pa_cons (pe_callB bLen rfl e.b_len (by decide +kernel) (pa_cons (pn 1) pa_nil)) pa_nil)) (tNm (i := 2) sc__law_same_list.nd rfl (by first | exact .inl rfl | exact .inr rfl))
  (pss_one (ps_if (PW.pt (pw_or (pt_not (tt_ (pe_call G__law_is_number (hr.mono (by decide)) rfl e.g__law_is_number k__law_is_number b__law_is_number .nil (passes_call (takes_of rfl rfl rfl rfl) fun _ _ _ _ h => h) (pa_cons (eIx hu (pn 0) (pn 2)) pa_nil)))) (pw_or1 (ct (oNe hu) (eIx hu (pn 0) (pn 2)) (eIx hu (pn 1) (pn 2))))))
  (pss_one (ps_ret pe_bl))
  pss_nil)))
  (pss_one (ps_ret pe_bl))))
abbrev N__law_same_pair : List Str := ["actual", "want"]
theorem sc__law_same_pair : FnScope N__law_same_pair ["actual", "want"] (defScope s__law_same_pair) := ⟨rfl, rfl, rfl, by decide +kernel, rfl, by decide +kernel, by decide +kernel⟩
def rd__law_same_pair (K : PySem.W.Frag) (S__law_is_number : Sp1) (E : XK) : TS := (tSeq (tIfS (tOr (tNot (cTru K (cIsi K isiTuple (cVar 0)))) (tOr (cTest (tOp (uNe K) (tCB (uLen K) (tCons (cVar 0) tNil)) (tC (.int 2)))) (tNot (cTru K (tCall (mk1 S__law_is_number) [] E (tCons (tOp (uIx K) (cVar 0) (tC (.int 0))) tNil))))))
  (tRet (tC (.bl false)))
  tNext)
  (tSeq (tIfS (cTest (tOp uIs (tOp (uIx K) (cVar 1) (tC (.int 1))) (tC .non)))
  (tRet (cAnd K (tOp (uEq K) (tOp (uIx K) (cVar 0) (tC (.int 0))) (tOp (uIx K) (cVar 1) (tC (.int 0)))) (tOp uIs (tOp (uIx K) (cVar 0) (tC (.int 1))) (tC .non))))
  tNext)
  (tRet (cAnd K (tCall (mk1 S__law_is_number) [] E (tCons (tOp (uIx K) (cVar 0) (tC (.int 1))) tNil)) (cAnd K (tOp (uEq K) (tOp (uIx K) (cVar 0) (tC (.int 0))) (tOp (uIx K) (cVar 1) (tC (.int 0)))) (tOp (uEq K) (tOp (uIx K) (cVar 0) (tC (.int 1))) (tOp (uIx K) (cVar 1) (tC (.int 1)))))))))
theorem der__law_same_pair {P : Program} {w : World} {K : PySem.W.Frag} {mg : Str → Option Value} {base : Heap} {sp : Sp2} {S__law_is_number : Sp1} (e : Txt K mg) (O__law_is_number : Fok P w K mg base 1 (He.ga K "_law_is_number") ["value"] (mk1 S__law_is_number))
    (h : ∀ a0 a1 H Q E, sp a0 a1 H Q E → rd__law_same_pair K S__law_is_number E { nx := fun _ H' => Q .non H', rt := Q } [some a0, some a1] H) : Fok P w K mg base 2 (He.ga K "_law_same_pair") ["actual", "want"] (mk2 sp) := by
  obtain ⟨fd__law_is_number, F__law_is_number⟩ := e.F__law_is_number
  have G__law_is_number := fok_same F__law_is_number O__law_is_number
  have k__law_is_number := F__law_is_number.kp
  have b__law_is_number := FunD.bindsN (ps := ["value"]) F__law_is_number fun _ _ _ _ _ _ us hl => match us, hl with | [_], _ => rfl
  obtain ⟨fd, F⟩ := e.F__law_same_pair
  refine ⟨fd, F.ok sc__law_same_pair (fun _ _ _ _ z => mk2_len z) (fun cdv A outer s H vs Q E hr hsp => ?_), fun_lk F⟩
  have hu := hr.units
  obtain ⟨a0, a1, rfl, hs⟩ := mk2_at hsp
  refine ⟨rd__law_same_pair K S__law_is_number E, ?_, h a0 a1 H Q E hs⟩
  exact (pss_cons (ps_if (PW.pt (pw_or (pt_not (tt_ (eIsi (t := isiTuple) isiTuple_ok rfl e.b_isinstance (pn 0) rfl e.b_tuple (by decide +kernel)))) (pw_or (ct (oNe hu) (pe_callB bLen rfl e.b_len (by decide +kernel) (pa_cons (pn 0) pa_nil)) pe_int) (pw_or1 (pt_not (tt_ (pe_call G__law_is_number (hr.mono (by decide)) rfl e.g__law_is_number k__law_is_number b__law_is_number .nil (passes_call (takes_of rfl rfl rfl rfl) fun _ _ _ _ h => h) (pa_cons (eIx hu (pn 0) pe_int) pa_nil))))))))
  (pss_one (ps_ret pe_bl))
  pss_nil)
  (pss_cons (ps_if (ct oIs (eIx hu (pn 1) pe_int) pe_non)
  (pss_one (ps_ret (eAnd (ce (oEq hu) (eIx hu (pn 0) pe_int) (eIx hu (pn 1) pe_int)) (pe_one (ce oIs (eIx hu (pn 0) pe_int) pe_non)))))
  pss_nil)
  (pss_one (ps_ret (eAnd (pe_call G__law_is_number (hr.mono (by decide)) rfl e.g__law_is_number k__law_is_number b__law_is_number .nil (passes_call (takes_of rfl rfl rfl rfl) fun _ _ _ _ h => h) (pa_cons (eIx hu (pn 0) pe_int) pa_nil)) (eAnd (ce (oEq hu) (eIx hu (pn 0) pe_int) (eIx hu (pn 1) pe_int)) (pe_one (ce (oEq hu) (eIx hu (pn 0) pe_int) (eIx hu (pn 1) pe_int)))))))))
abbrev N__law_same_kept : List Str := ["taker", "table", "held", "want", "k", "rows", "j", "place"]
theorem sc__law_same_kept : FnScope N__law_same_kept ["taker", "table"] (defScope s__law_same_kept) := ⟨rfl, rfl, rfl, by decide +kernel, rfl, by decide +kernel, by decide +kernel⟩
def rd__law_same_kept (K : PySem.W.Frag) (S_Taker_kept : Sp1) (S__law_same_pair : Sp2) (E : XK) : TS := (tSeq (tAsg (tOp (uIx K) (cVar 1) (tC (.str "held"))) (gNm 2))
  (tSeq (tAsg (cLc (iSeq K (tCB (uSorted K) (tCons (cVar 2) tNil))) (gNm 7) tYes (cTup (tCons (cVar 7) (tCons (tOp (uIx K) (cVar 2) (cVar 7)) tNil))) [7]) (gNm 3))
  (tSeq (cFor (iR1 (tCons (tC (.int 2)) tNil)) (gNm 4)
  (tSeq (tAsg (cMe (He.ga K "Taker") "kept" (mk1 S_Taker_kept) [] E (cVar 0) tNil) (gNm 5))
  (tSeq (tIfS (tOr (tNot (cTru K (cIsi K isiList (cVar 5)))) (cTest (tOp (uNe K) (tCB (uLen K) (tCons (cVar 5) tNil)) (tCB (uLen K) (tCons (cVar 3) tNil)))))
  (tRet (tC (.bl false)))
  tNext)
  (tSeq (cFor (iR1 (tCons (tCB (uLen K) (tCons (cVar 3) tNil)) tNil)) (gNm 6)
  (tIfS (tNot (cTru K (tCall (mk2 S__law_same_pair) [] E (tCons (tOp (uIx K) (cVar 5) (cVar 6)) (tCons (tOp (uIx K) (cVar 3) (cVar 6)) tNil)))))
  (tRet (tC (.bl false)))
  tNext))
  (tDrop (tBM K "list" aAppend (cVar 5) (tCons (cTup (tCons (tC (.int 70000)) (tCons (tC .non) tNil))) tNil)))))))
  (tRet (tC (.bl true))))))
theorem der__law_same_kept {P : Program} {w : World} {K : PySem.W.Frag} {mg : Str → Option Value} {base : Heap} {sp : Sp2} {S_Taker_kept : Sp1} {S__law_same_pair : Sp2} (e : Txt K mg) (O_Taker_kept : Fok P w K mg base 1 (He.ma K (He.ga K "Taker") "kept") ["self"] (mk1 S_Taker_kept)) (O__law_same_pair : Fok P w K mg base 2 (He.ga K "_law_same_pair") ["actual", "want"] (mk2 S__law_same_pair))
    (h : ∀ a0 a1 H Q E, sp a0 a1 H Q E → rd__law_same_kept K S_Taker_kept S__law_same_pair E { nx := fun _ H' => Q .non H', rt := Q } [some a0, some a1, none, none, none, none, none, none] H) : Fok P w K mg base 3 (He.ga K "_law_same_kept") ["taker", "table"] (mk2 sp) := by
  obtain ⟨fd_Taker_kept, F_Taker_kept⟩ := e.F_Taker_kept
  have G_Taker_kept := fok_same F_Taker_kept O_Taker_kept
  have k_Taker_kept := F_Taker_kept.kp
  obtain ⟨fd__law_same_pair, F__law_same_pair⟩ := e.F__law_same_pair
  have G__law_same_pair := fok_same F__law_same_pair O__law_same_pair
  have k__law_same_pair := F__law_same_pair.kp
  have b_Taker_kept := FunD.bindsN (ps := ["self"]) F_Taker_kept fun _ _ _ _ _ _ us hl => match us, hl with | [_], _ => rfl
  have b__law_same_pair := FunD.bindsN (ps := ["actual", "want"]) F__law_same_pair fun _ _ _ _ _ _ us hl => match us, hl with | [_, _], _ => rfl
  obtain ⟨fd, F⟩ := e.F__law_same_kept
  refine ⟨fd, F.ok sc__law_same_kept (fun _ _ _ _ z => mk2_len z) (fun cdv A outer s H vs Q E hr hsp => ?_), fun_lk F⟩
  have hu := hr.units
  obtain ⟨a0, a1, rfl, hs⟩ := mk2_at hsp
  refine ⟨rd__law_same_kept K S_Taker_kept S__law_same_pair E, ?_, h a0 a1 H Q E hs⟩
  exact (pss_cons (sSet (i := 2) sc__law_same_kept.nd rfl (by first | exact .inl rfl | exact .inr rfl) (eIx hu (pn 1) pe_str))
  (pss_cons (sSetLc (i := 3) (own := [("place", 7)]) rfl sc__law_same_kept.nd rfl rfl (sw_true rfl rfl rfl (by decide +kernel)) (fSeq (pe_callB (bSorted rfl) rfl e.b_sorted (by decide +kernel) (pa_cons (pn 2) pa_nil))) (blkOk_by (N := N__law_same_kept) (sc := defScope s__law_same_kept) (own := [("place", 7)]) (by decide +kernel)) (fun _ _ _ _ _ => (tNm (i := 7) sc__law_same_kept.nd rfl (by first | exact .inl rfl | exact .inr rfl))) (fun _ _ _ _ _ => pts_nil) (fun _ _ _ _ _ => (eTup (pa_cons (pn 7) (pa_cons (eIx hu (pn 2) (pn 7)) pa_nil)))))
  (pss_cons (sFor (passes_of rfl) rfl (fR1 rfl e.b_range (pa_cons pe_int pa_nil)) (tNm (i := 4) sc__law_same_kept.nd rfl (by first | exact .inl rfl | exact .inr rfl))
  (pss_cons (sSet (i := 5) sc__law_same_kept.nd rfl (by first | exact .inl rfl | exact .inr rfl) (eMe0 (pn 0) e.m_Taker_kept G_Taker_kept (hr.mono (by decide)) e.k_Taker b_Taker_kept .nil (passes_call (takes_of rfl rfl rfl rfl) fun _ _ _ _ h => h) ))
  (pss_cons (ps_if (PW.pt (pw_or (pt_not (tt_ (eIsi (t := isiList) isiList_ok rfl e.b_isinstance (pn 5) rfl e.b_list (by decide +kernel)))) (pw_or1 (ct (oNe hu) (pe_callB bLen rfl e.b_len (by decide +kernel) (pa_cons (pn 5) pa_nil)) (pe_callB bLen rfl e.b_len (by decide +kernel) (pa_cons (pn 3) pa_nil))))))
  (pss_one (ps_ret pe_bl))
  pss_nil)
  (pss_cons (sFor (passes_of rfl) rfl (fR1 rfl e.b_range (pa_cons (pe_callB bLen rfl e.b_len (by decide +kernel) (pa_cons (pn 3) pa_nil)) pa_nil)) (tNm (i := 6) sc__law_same_kept.nd rfl (by first | exact .inl rfl | exact .inr rfl))
  (pss_one (ps_if (pt_not (tt_ (pe_call G__law_same_pair (hr.mono (by decide)) rfl e.g__law_same_pair k__law_same_pair b__law_same_pair .nil (passes_call (takes_of rfl rfl rfl rfl) fun _ _ _ _ h => h) (pa_cons (eIx hu (pn 5) (pn 6)) (pa_cons (eIx hu (pn 3) (pn 6)) pa_nil)))))
  (pss_one (ps_ret pe_bl))
  pss_nil)))
  (pss_one (ps_expr (pe_bm PySem.F.plainAttrs_list PySem.F.slot_list_append PySem.F.type_list_append mAppend (pn 5) (pa_cons (eTup (pa_cons pe_int (pa_cons pe_non pa_nil))) pa_nil))))))))
  (pss_one (ps_ret pe_bl)))))
abbrev N__law_shown : List Str := ["taker", "table", "free", "fields"]
theorem sc__law_shown : FnScope N__law_shown ["taker", "table"] (defScope s__law_shown) := ⟨rfl, rfl, rfl, by decide +kernel, rfl, by decide +kernel, by decide +kernel⟩
def rd__law_shown (K : PySem.W.Frag) (S__law_same_kept : Sp2) (S_Taker_room : Sp1) (S__law_same_list : Sp2) (S__law_same_pair : Sp2) (S_Taker_told : Sp1) (E : XK) : TS := (tSeq (tAsg (tOp uSub (tOp (uIx K) (cVar 1) (tC (.str "window"))) (tCB (uLen K) (tCons (tOp (uIx K) (cVar 1) (tC (.str "ready"))) tNil))) (gNm 2))
  (tSeq (tAsg (cLst (tCons (cFl (He.ga K "Taker") "window" (cVar 0)) (tCons (cFl (He.ga K "Taker") "numbers" (cVar 0)) (tCons (cFl (He.ga K "Taker") "expected" (cVar 0)) (tCons (cPr (He.ga K "Taker") (mk1 S_Taker_room) [] E0 (cVar 0)) tNil))))) (gNm 3))
  (tSeq (tIfS (tNot (cTru K (tCall (mk2 S__law_same_list) [] E (tCons (cVar 3) (tCons (cLst (tCons (tOp (uIx K) (cVar 1) (tC (.str "window"))) (tCons (tOp (uIx K) (cVar 1) (tC (.str "numbers"))) (tCons (tOp (uIx K) (cVar 1) (tC (.str "expected"))) (tCons (cVar 2) tNil))))) tNil)))))
  (tRet (tC (.bl false)))
  tNext)
  (tSeq (tIfS (tOr (tNot (cTru K (cIsi K isiBool (cFl (He.ga K "Taker") "heard" (cVar 0))))) (cTest (tOp (uNe K) (cFl (He.ga K "Taker") "heard" (cVar 0)) (tOp (uIx K) (cVar 1) (tC (.str "heard"))))))
  (tRet (tC (.bl false)))
  tNext)
  (tSeq (tIfS (tNot (cTru K (tCall (mk2 S__law_same_list) [] E (tCons (cFl (He.ga K "Taker") "ready" (cVar 0)) (tCons (tOp (uIx K) (cVar 1) (tC (.str "ready"))) tNil)))))
  (tRet (tC (.bl false)))
  tNext)
  (tSeq (tIfS (tNot (cTru K (tCall (mk2 S__law_same_pair) [] E (tCons (cMe (He.ga K "Taker") "told" (mk1 S_Taker_told) [] E (cVar 0) tNil) (tCons (cTup (tCons (tOp uMod (tCB uInt (tCons (tOp (uIx K) (cVar 1) (tC (.str "expected"))) tNil)) (tOp (uIx K) (cVar 1) (tC (.str "numbers")))) (tCons (cVar 2) tNil))) tNil)))))
  (tRet (tC (.bl false)))
  tNext)
  (tRet (tCall (mk2 S__law_same_kept) [] E (tCons (cVar 0) (tCons (cVar 1) tNil))))))))))
theorem der__law_shown {P : Program} {w : World} {K : PySem.W.Frag} {mg : Str → Option Value} {base : Heap} {sp : Sp2} {S__law_same_kept : Sp2} {S_Taker_room : Sp1} {S__law_same_list : Sp2} {S__law_same_pair : Sp2} {S_Taker_told : Sp1} (e : Txt K mg) (O__law_same_kept : Fok P w K mg base 3 (He.ga K "_law_same_kept") ["taker", "table"] (mk2 S__law_same_kept)) (O_Taker_room : Fok P w K mg base 1 (pg K (He.ga K "Taker") "room") ["self"] (mk1 S_Taker_room)) (O__law_same_list : Fok P w K mg base 2 (He.ga K "_law_same_list") ["actual", "want"] (mk2 S__law_same_list)) (O__law_same_pair : Fok P w K mg base 2 (He.ga K "_law_same_pair") ["actual", "want"] (mk2 S__law_same_pair)) (O_Taker_told : Fok P w K mg base 3 (He.ma K (He.ga K "Taker") "told") ["self"] (mk1 S_Taker_told))
    (h : ∀ a0 a1 H Q E, sp a0 a1 H Q E → rd__law_shown K S__law_same_kept S_Taker_room S__law_same_list S__law_same_pair S_Taker_told E { nx := fun _ H' => Q .non H', rt := Q } [some a0, some a1, none, none] H) : Fok P w K mg base 4 (He.ga K "_law_shown") ["taker", "table"] (mk2 sp) := by
  obtain ⟨fd__law_same_kept, F__law_same_kept⟩ := e.F__law_same_kept
  have G__law_same_kept := fok_same F__law_same_kept O__law_same_kept
  have k__law_same_kept := F__law_same_kept.kp
  obtain ⟨fd_Taker_room, F_Taker_room⟩ := e.F_Taker_room
  have G_Taker_room := fok_same F_Taker_room O_Taker_room
  have k_Taker_room := F_Taker_room.kp
  obtain ⟨fd__law_same_list, F__law_same_list⟩ := e.F__law_same_list
  have G__law_same_list := fok_same F__law_same_list O__law_same_list
  have k__law_same_list := F__law_same_list.kp
  obtain ⟨fd__law_same_pair, F__law_same_pair⟩ := e.F__law_same_pair
  have G__law_same_pair := fok_same F__law_same_pair O__law_same_pair
  have k__law_same_pair := F__law_same_pair.kp
  obtain ⟨fd_Taker_told, F_Taker_told⟩ := e.F_Taker_told
  have G_Taker_told := fok_same F_Taker_told O_Taker_told
  have k_Taker_told := F_Taker_told.kp
  have b_Taker_room := FunD.bindsN (ps := ["self"]) F_Taker_room fun _ _ _ _ _ _ us hl => match us, hl with | [_], _ => rfl
  have b__law_same_list := FunD.bindsN (ps := ["actual", "want"]) F__law_same_list fun _ _ _ _ _ _ us hl => match us, hl with | [_, _], _ => rfl
  have b_Taker_told := FunD.bindsN (ps := ["self"]) F_Taker_told fun _ _ _ _ _ _ us hl => match us, hl with | [_], _ => rfl
  have b__law_same_pair := FunD.bindsN (ps := ["actual", "want"]) F__law_same_pair fun _ _ _ _ _ _ us hl => match us, hl with | [_, _], _ => rfl
  have b__law_same_kept := FunD.bindsN (ps := ["taker", "table"]) F__law_same_kept fun _ _ _ _ _ _ us hl => match us, hl with | [_, _], _ => rfl
  obtain ⟨fd, F⟩ := e.F__law_shown
  refine ⟨fd, F.ok sc__law_shown (fun _ _ _ _ z => mk2_len z) (fun cdv A outer s H vs Q E hr hsp => ?_), fun_lk F⟩
  have hu := hr.units
  obtain ⟨a0, a1, rfl, hs⟩ := mk2_at hsp
  refine ⟨rd__law_shown K S__law_same_kept S_Taker_room S__law_same_list S__law_same_pair S_Taker_told E, ?_, h a0 a1 H Q E hs⟩
  exact (pss_cons (sSet (i := 2) sc__law_shown.nd rfl (by first | exact .inl rfl | exact .inr rfl) (pe_op oSub (eIx hu (pn 1) pe_str) (pe_callB bLen rfl e.b_len (by decide +kernel) (pa_cons (eIx hu (pn 1) pe_str) pa_nil))))
  (pss_cons (sSet (i := 3) sc__law_shown.nd rfl (by first | exact .inl rfl | exact .inr rfl) (eLst (pa_cons (eFl (pn 0) e.k_Taker e.n_Taker_window) (pa_cons (eFl (pn 0) e.k_Taker e.n_Taker_numbers) (pa_cons (eFl (pn 0) e.k_Taker e.n_Taker_expected) (pa_cons (ePr (pn 0) e.p_Taker_room G_Taker_room (hr.mono (by decide)) e.k_Taker b_Taker_room .nil passL) pa_nil))))))
  (pss_cons (ps_if (pt_not (tt_ (pe_call G__law_same_list (hr.mono (by decide)) rfl e.g__law_same_list k__law_same_list b__law_same_list .nil (passes_call (takes_of rfl rfl rfl rfl) fun _ _ _ _ h => h) (pa_cons (pn 3) (pa_cons (eLst (pa_cons (eIx hu (pn 1) pe_str) (pa_cons (eIx hu (pn 1) pe_str) (pa_cons (eIx hu (pn 1) pe_str) (pa_cons (pn 2) pa_nil))))) pa_nil)))))
  (pss_one (ps_ret pe_bl))
  pss_nil)
  (pss_cons (ps_if (PW.pt (pw_or (pt_not (tt_ (eIsi (t := isiBool) isiBool_ok rfl e.b_isinstance (eFl (pn 0) e.k_Taker e.n_Taker_heard) rfl e.b_bool (by decide +kernel)))) (pw_or1 (ct (oNe hu) (eFl (pn 0) e.k_Taker e.n_Taker_heard) (eIx hu (pn 1) pe_str)))))
  (pss_one (ps_ret pe_bl))
  pss_nil)
  (pss_cons (ps_if (pt_not (tt_ (pe_call G__law_same_list (hr.mono (by decide)) rfl e.g__law_same_list k__law_same_list b__law_same_list .nil (passes_call (takes_of rfl rfl rfl rfl) fun _ _ _ _ h => h) (pa_cons (eFl (pn 0) e.k_Taker e.n_Taker_ready) (pa_cons (eIx hu (pn 1) pe_str) pa_nil)))))
  (pss_one (ps_ret pe_bl))
  pss_nil)
  (pss_cons (ps_if (pt_not (tt_ (pe_call G__law_same_pair (hr.mono (by decide)) rfl e.g__law_same_pair k__law_same_pair b__law_same_pair .nil (passes_call (takes_of rfl rfl rfl rfl) fun _ _ _ _ h => h) (pa_cons (eMe0 (pn 0) e.m_Taker_told G_Taker_told (hr.mono (by decide)) e.k_Taker b_Taker_told .nil (passes_call (takes_of rfl rfl rfl rfl) fun _ _ _ _ h => h) ) (pa_cons (eTup (pa_cons (pe_op oMod (pe_callTy bInt rfl e.b_int (by decide +kernel) (pa_cons (eIx hu (pn 1) pe_str) pa_nil)) (eIx hu (pn 1) pe_str)) (pa_cons (pn 2) pa_nil))) pa_nil)))))
  (pss_one (ps_ret pe_bl))
  pss_nil)
  (pss_one (ps_ret (pe_call G__law_same_kept (hr.mono (by decide)) rfl e.g__law_same_kept k__law_same_kept b__law_same_kept .nil (passes_call (takes_of rfl rfl rfl rfl) fun _ _ _ _ h => h) (pa_cons (pn 0) (pa_cons (pn 1) pa_nil)))))))))))
abbrev N__law_number : List Str := ["purse", "table", "choice", "index", "number"]
theorem sc__law_number : FnScope N__law_number ["purse", "table"] (defScope s__law_number) := ⟨rfl, rfl, rfl, by decide +kernel, rfl, by decide +kernel, by decide +kernel⟩
def rd__law_number (K : PySem.W.Frag) (S__law_draw : Sp2) (E : XK) : TS := (tSeq (tAsg (tCall (mk2 S__law_draw) [] E (tCons (cVar 0) (tCons (tC (.int 8)) tNil))) (gNm 2))
  (tSeq (tIfS (cTest (tOp (uEq K) (cVar 2) (tC (.int 7))))
  (tRet (tCall (mk2 S__law_draw) [] E (tCons (cVar 0) (tCons (tC (.int 256)) tNil))))
  tNext)
  (tSeq (tAsg (tOp (uIx K) (cVar 1) (tC (.str "expected"))) (gNm 3))
  (tSeq (tIfS (tOr (cTest (tOp (uEq K) (cVar 2) (tC (.int 3)))) (cTest (tOp (uEq K) (cVar 2) (tC (.int 4)))))
  (tAsg (tOp (uAdd K) (cVar 3) (tCall (mk2 S__law_draw) [] E (tCons (cVar 0) (tCons (tOp (uAdd K) (tOp (uIx K) (cVar 1) (tC (.str "window"))) (tC (.int 1))) tNil)))) (gNm 3))
  tNext)
  (tSeq (tIfS (cTest (tOp (uEq K) (cVar 2) (tC (.int 5))))
  (tAsg (tOp uSub (tOp (uAdd K) (cVar 3) (tOp (uIx K) (cVar 1) (tC (.str "window")))) (tCB (uLen K) (tCons (tOp (uIx K) (cVar 1) (tC (.str "ready"))) tNil))) (gNm 3))
  tNext)
  (tSeq (tIfS (cTest (tOp (uEq K) (cVar 2) (tC (.int 6))))
  (tAsg (tCB uMax2 (tCons (tC (.int 0)) (tCons (tOp uSub (tOp uSub (cVar 3) (tC (.int 1))) (tCall (mk2 S__law_draw) [] E (tCons (cVar 0) (tCons (tOp (uIx K) (cVar 1) (tC (.str "window"))) tNil)))) tNil))) (gNm 3))
  tNext)
  (tSeq (tAsg (tOp uMod (tCB uInt (tCons (cVar 3) tNil)) (tOp (uIx K) (cVar 1) (tC (.str "numbers")))) (gNm 4))
  (tSeq (tIfS (tAnd (cTest (tOp (uEq K) (tCall (mk2 S__law_draw) [] E (tCons (cVar 0) (tCons (tC (.int 4)) tNil))) (tC (.int 0)))) (cTest (tOp (uLt K) (tOp (uAdd K) (cVar 4) (tOp (uIx K) (cVar 1) (tC (.str "numbers")))) (tC (.int 256)))))
  (tRet (tOp (uAdd K) (cVar 4) (tOp (uIx K) (cVar 1) (tC (.str "numbers")))))
  tNext)
  (tRet (cVar 4))))))))))
theorem der__law_number {P : Program} {w : World} {K : PySem.W.Frag} {mg : Str → Option Value} {base : Heap} {sp : Sp2} {S__law_draw : Sp2} (e : Txt K mg) (O__law_draw : Fok P w K mg base 2 (He.ga K "_law_draw") ["purse", "size"] (mk2 S__law_draw))
    (h : ∀ a0 a1 H Q E, sp a0 a1 H Q E → rd__law_number K S__law_draw E { nx := fun _ H' => Q .non H', rt := Q } [some a0, some a1, none, none, none] H) : Fok P w K mg base 3 (He.ga K "_law_number") ["purse", "table"] (mk2 sp) := by
  obtain ⟨fd__law_draw, F__law_draw⟩ := e.F__law_draw
  have G__law_draw := fok_same F__law_draw O__law_draw
  have k__law_draw := F__law_draw.kp
  have b__law_draw := FunD.bindsN (ps := ["purse", "size"]) F__law_draw fun _ _ _ _ _ _ us hl => match us, hl with | [_, _], _ => rfl
  obtain ⟨fd, F⟩ := e.F__law_number
  refine ⟨fd, F.ok sc__law_number (fun _ _ _ _ z => mk2_len z) (fun cdv A outer s H vs Q E hr hsp => ?_), fun_lk F⟩
  have hu := hr.units
  obtain ⟨a0, a1, rfl, hs⟩ := mk2_at hsp
  refine ⟨rd__law_number K S__law_draw E, ?_, h a0 a1 H Q E hs⟩
  exact (pss_cons (sSet (i := 2) sc__law_number.nd rfl (by first | exact .inl rfl | exact .inr rfl) (pe_call G__law_draw (hr.mono (by decide)) rfl e.g__law_draw k__law_draw b__law_draw .nil (passes_call (takes_of rfl rfl rfl rfl) fun _ _ _ _ h => h) (pa_cons (pn 0) (pa_cons pe_int pa_nil))))
  (pss_cons (ps_if (ct (oEq hu) (pn 2) pe_int)
  (pss_one (ps_ret (pe_call G__law_draw (hr.mono (by decide)) rfl e.g__law_draw k__law_draw b__law_draw .nil (passes_call (takes_of rfl rfl rfl rfl) fun _ _ _ _ h => h) (pa_cons (pn 0) (pa_cons pe_int pa_nil)))))
  pss_nil)
  (pss_cons (sSet (i := 3) sc__law_number.nd rfl (by first | exact .inl rfl | exact .inr rfl) (eIx hu (pn 1) pe_str))
  (pss_cons (ps_if (PW.pt (pw_or (ct (oEq hu) (pn 2) pe_int) (pw_or1 (ct (oEq hu) (pn 2) pe_int))))
  (pss_one (sSet (i := 3) sc__law_number.nd rfl (by first | exact .inl rfl | exact .inr rfl) (pe_op oAdd (pn 3) (pe_call G__law_draw (hr.mono (by decide)) rfl e.g__law_draw k__law_draw b__law_draw .nil (passes_call (takes_of rfl rfl rfl rfl) fun _ _ _ _ h => h) (pa_cons (pn 0) (pa_cons (pe_op oAdd (eIx hu (pn 1) pe_str) pe_int) pa_nil))))))
  pss_nil)
  (pss_cons (ps_if (ct (oEq hu) (pn 2) pe_int)
  (pss_one (sSet (i := 3) sc__law_number.nd rfl (by first | exact .inl rfl | exact .inr rfl) (pe_op oSub (pe_op oAdd (pn 3) (eIx hu (pn 1) pe_str)) (pe_callB bLen rfl e.b_len (by decide +kernel) (pa_cons (eIx hu (pn 1) pe_str) pa_nil)))))
  pss_nil)
  (pss_cons (ps_if (ct (oEq hu) (pn 2) pe_int)
  (pss_one (sSet (i := 3) sc__law_number.nd rfl (by first | exact .inl rfl | exact .inr rfl) (pe_callB (bMax2 rfl) rfl e.b_max (by decide +kernel) (pa_cons pe_int (pa_cons (pe_op oSub (pe_op oSub (pn 3) pe_int) (pe_call G__law_draw (hr.mono (by decide)) rfl e.g__law_draw k__law_draw b__law_draw .nil (passes_call (takes_of rfl rfl rfl rfl) fun _ _ _ _ h => h) (pa_cons (pn 0) (pa_cons (eIx hu (pn 1) pe_str) pa_nil)))) pa_nil)))))
  pss_nil)
  (pss_cons (sSet (i := 4) sc__law_number.nd rfl (by first | exact .inl rfl | exact .inr rfl) (pe_op oMod (pe_callTy bInt rfl e.b_int (by decide +kernel) (pa_cons (pn 3) pa_nil)) (eIx hu (pn 1) pe_str)))
  (pss_cons (ps_if (PW.pt (pw_and (ct (oEq hu) (pe_call G__law_draw (hr.mono (by decide)) rfl e.g__law_draw k__law_draw b__law_draw .nil (passes_call (takes_of rfl rfl rfl rfl) fun _ _ _ _ h => h) (pa_cons (pn 0) (pa_cons pe_int pa_nil))) pe_int) (pw_and1 (ct (oLt (Nat.lt_of_le_of_lt (Nat.le_add_right _ 64) hu)) (pe_op oAdd (pn 4) (eIx hu (pn 1) pe_str)) pe_int))))
  (pss_one (ps_ret (pe_op oAdd (pn 4) (eIx hu (pn 1) pe_str))))
  pss_nil)
  (pss_one (ps_ret (pn 4)))))))))))
abbrev N__law_item : List Str := ["purse", "share", "choice"]
theorem sc__law_item : FnScope N__law_item ["purse", "share"] (defScope s__law_item) := ⟨rfl, rfl, rfl, by decide +kernel, rfl, by decide +kernel, by decide +kernel⟩
def rd__law_item (K : PySem.W.Frag) (S__law_draw : Sp2) (E : XK) : TS := (tSeq (tIfS (cTest (tOp (uEq K) (tCall (mk2 S__law_draw) [] E (tCons (cVar 0) (tCons (cVar 1) tNil))) (tC (.int 0))))
  (tRet (tC .non))
  tNext)
  (tSeq (tAsg (tCall (mk2 S__law_draw) [] E (tCons (cVar 0) (tCons (tC (.int 8)) tNil))) (gNm 2))
  (tSeq (tIfS (cTest (tOp (uEq K) (cVar 2) (tC (.int 0))))
  (tRet (tC (.int 0)))
  tNext)
  (tSeq (tIfS (cTest (tOp (uEq K) (cVar 2) (tC (.int 1))))
  (tRet (tC (.int 65535)))
  tNext)
  (tRet (tCall (mk2 S__law_draw) [] E (tCons (cVar 0) (tCons (tC (.int 65536)) tNil))))))))
theorem der__law_item {P : Program} {w : World} {K : PySem.W.Frag} {mg : Str → Option Value} {base : Heap} {sp : Sp2} {S__law_draw : Sp2} (e : Txt K mg) (O__law_draw : Fok P w K mg base 2 (He.ga K "_law_draw") ["purse", "size"] (mk2 S__law_draw))
    (h : ∀ a0 a1 H Q E, sp a0 a1 H Q E → rd__law_item K S__law_draw E { nx := fun _ H' => Q .non H', rt := Q } [some a0, some a1, none] H) : Fok P w K mg base 3 (He.ga K "_law_item") ["purse", "share"] (mk2 sp) := by
  obtain ⟨fd__law_draw, F__law_draw⟩ := e.F__law_draw
  have G__law_draw := fok_same F__law_draw O__law_draw
  have k__law_draw := F__law_draw.kp
  have b__law_draw := FunD.bindsN (ps := ["purse", "size"]) F__law_draw fun _ _ _ _ _ _ us hl => match us, hl with | [_, _], _ => rfl
  obtain ⟨fd, F⟩ := e.F__law_item
  refine ⟨fd, F.ok sc__law_item (fun _ _ _ _ z => mk2_len z) (fun cdv A outer s H vs Q E hr hsp => ?_), fun_lk F⟩
  have hu := hr.units
  obtain ⟨a0, a1, rfl, hs⟩ := mk2_at hsp
  refine ⟨rd__law_item K S__law_draw E, ?_, h a0 a1 H Q E hs⟩
  exact (pss_cons (ps_if (ct (oEq hu) (pe_call G__law_draw (hr.mono (by decide)) rfl e.g__law_draw k__law_draw b__law_draw .nil (passes_call (takes_of rfl rfl rfl rfl) fun _ _ _ _ h => h) (pa_cons (pn 0) (pa_cons (pn 1) pa_nil))) pe_int)
  (pss_one (ps_ret pe_non))
  pss_nil)
  (pss_cons (sSet (i := 2) sc__law_item.nd rfl (by first | exact .inl rfl | exact .inr rfl) (pe_call G__law_draw (hr.mono (by decide)) rfl e.g__law_draw k__law_draw b__law_draw .nil (passes_call (takes_of rfl rfl rfl rfl) fun _ _ _ _ h => h) (pa_cons (pn 0) (pa_cons pe_int pa_nil))))
  (pss_cons (ps_if (ct (oEq hu) (pn 2) pe_int)
  (pss_one (ps_ret pe_int))
  pss_nil)
  (pss_cons (ps_if (ct (oEq hu) (pn 2) pe_int)
  (pss_one (ps_ret pe_int))
  pss_nil)
  (pss_one (ps_ret (pe_call G__law_draw (hr.mono (by decide)) rfl e.g__law_draw k__law_draw b__law_draw .nil (passes_call (takes_of rfl rfl rfl rfl) fun _ _ _ _ h => h) (pa_cons (pn 0) (pa_cons pe_int pa_nil)))))))))
abbrev N__law_ring : List Str := ["low", "number", "size", "index"]
theorem sc__law_ring : FnScope N__law_ring ["low", "number", "size"] (defScope s__law_ring) := ⟨rfl, rfl, rfl, by decide +kernel, rfl, by decide +kernel, by decide +kernel⟩
def rd__law_ring (K : PySem.W.Frag) (S_ring_index : Sp3) (S__law_is_number : Sp1) (E : XK) : TS := (tSeq (tAsg (tCall (mk3 S_ring_index) [] E (tCons (cVar 0) (tCons (cVar 1) (tCons (cVar 2) tNil)))) (gNm 3))
  (tSeq (tIfS (tOr (tNot (cTru K (tCall (mk1 S__law_is_number) [] E (tCons (cVar 3) tNil)))) (tOr (cTest (tOp (uLt K) (cVar 3) (cVar 0))) (cTest (tOp uGe (cVar 3) (tOp (uAdd K) (cVar 0) (cVar 2))))))
  (tRet (tC (.bl false)))
  tNext)
  (tRet (tOp (uEq K) (tOp uMod (tCB uInt (tCons (tOp uSub (cVar 3) (cVar 1)) tNil)) (cVar 2)) (tC (.int 0))))))
theorem der__law_ring {P : Program} {w : World} {K : PySem.W.Frag} {mg : Str → Option Value} {base : Heap} {sp : Sp3} {S_ring_index : Sp3} {S__law_is_number : Sp1} (e : Txt K mg) (O_ring_index : Fok P w K mg base 1 (He.ga K "ring_index") ["low", "number", "size"] (mk3 S_ring_index)) (O__law_is_number : Fok P w K mg base 1 (He.ga K "_law_is_number") ["value"] (mk1 S__law_is_number))
    (h : ∀ a0 a1 a2 H Q E, sp a0 a1 a2 H Q E → rd__law_ring K S_ring_index S__law_is_number E { nx := fun _ H' => Q .non H', rt := Q } [some a0, some a1, some a2, none] H) : Fok P w K mg base 2 (He.ga K "_law_ring") ["low", "number", "size"] (mk3 sp) := by
  obtain ⟨fd_ring_index, F_ring_index⟩ := e.F_ring_index
  have G_ring_index := fok_same F_ring_index O_ring_index
  have k_ring_index := F_ring_index.kp
  obtain ⟨fd__law_is_number, F__law_is_number⟩ := e.F__law_is_number
  have G__law_is_number := fok_same F__law_is_number O__law_is_number
  have k__law_is_number := F__law_is_number.kp
  have b_ring_index := FunD.bindsN (ps := ["low", "number", "size"]) F_ring_index fun _ _ _ _ _ _ us hl => match us, hl with | [_, _, _], _ => rfl
  have b__law_is_number := FunD.bindsN (ps := ["value"]) F__law_is_number fun _ _ _ _ _ _ us hl => match us, hl with | [_], _ => rfl
  obtain ⟨fd, F⟩ := e.F__law_ring
  refine ⟨fd, F.ok sc__law_ring (fun _ _ _ _ z => mk3_len z) (fun cdv A outer s H vs Q E hr hsp => ?_), fun_lk F⟩
  have hu := hr.units
  obtain ⟨a0, a1, a2, rfl, hs⟩ := mk3_at hsp
  refine ⟨rd__law_ring K S_ring_index S__law_is_number E, ?_, h a0 a1 a2 H Q E hs⟩
  exact (pss_cons (sSet (i := 3) sc__law_ring.nd rfl (by first | exact .inl rfl | exact .inr rfl) (pe_call G_ring_index (hr.mono (by decide)) rfl e.g_ring_index k_ring_index b_ring_index .nil (passes_call (takes_of rfl rfl rfl rfl) fun _ _ _ _ h => h) (pa_cons (pn 0) (pa_cons (pn 1) (pa_cons (pn 2) pa_nil)))))
  (pss_cons (ps_if (PW.pt (pw_or (pt_not (tt_ (pe_call G__law_is_number (hr.mono (by decide)) rfl e.g__law_is_number k__law_is_number b__law_is_number .nil (passes_call (takes_of rfl rfl rfl rfl) fun _ _ _ _ h => h) (pa_cons (pn 3) pa_nil)))) (pw_or (ct (oLt (Nat.lt_of_le_of_lt (Nat.le_add_right _ 64) hu)) (pn 3) (pn 0)) (pw_or1 (ct oGe (pn 3) (pe_op oAdd (pn 0) (pn 2)))))))
  (pss_one (ps_ret pe_bl))
  pss_nil)
  (pss_one (ps_ret (ce (oEq hu) (pe_op oMod (pe_callTy bInt rfl e.b_int (by decide +kernel) (pa_cons (pe_op oSub (pn 3) (pn 1)) pa_nil)) (pn 2)) pe_int)))))
abbrev N__law_reading : List Str := ["taker", "table", "purse", "choice", "want", "got", "many"]
theorem sc__law_reading : FnScope N__law_reading ["taker", "table", "purse"] (defScope s__law_reading) := ⟨rfl, rfl, rfl, by decide +kernel, rfl, by decide +kernel, by decide +kernel⟩
def rd__law_reading (K : PySem.W.Frag) (S__law_draw : Sp2) (S_Taker_read : Sp2) (S__law_same_list : Sp2) (E : XK) : TS := (tSeq (tAsg (tCall (mk2 S__law_draw) [] E (tCons (cVar 2) (tCons (tC (.int 4)) tNil))) (gNm 3))
  (tSeq (tAsg (tOp (uIx K) (cVar 1) (tC (.str "ready"))) (gNm 4))
  (tSeq (tIfS (cTest (tOp (uEq K) (cVar 3) (tC (.int 0))))
  (tAsg (cMe (He.ga K "Taker") "read" (mk2 S_Taker_read) [V.non] E (cVar 0) tNil) (gNm 5))
  (tIfS (cTest (tOp (uEq K) (cVar 3) (tC (.int 1))))
  (tAsg (cMe (He.ga K "Taker") "read" (mk2 S_Taker_read) [] E (cVar 0) (tCons (tC .non) tNil)) (gNm 5))
  (tSeq (tAsg (tCall (mk2 S__law_draw) [] E (tCons (cVar 2) (tCons (tC (.int 6)) tNil))) (gNm 6))
  (tSeq (tAsg (tSl (uSl K) (cVar 4) tNoPart (cPart (cVar 6))) (gNm 4))
  (tAsg (cMe (He.ga K "Taker") "read" (mk2 S_Taker_read) [] E (cVar 0) (tCons (cVar 6) tNil)) (gNm 5))))))
  (tSeq (tAsg (tSl (uSl K) (tOp (uIx K) (cVar 1) (tC (.str "ready"))) (cPart (tCB (uLen K) (tCons (cVar 4) tNil))) tNoPart) (gSub (cVar 1) (tC (.str "ready")) uSet))
  (tSeq (tIfS (tNot (cTru K (tCall (mk2 S__law_same_list) [] E (tCons (cVar 5) (tCons (cVar 4) tNil)))))
  (tRet (tC (.bl false)))
  tNext)
  (tSeq (tDrop (tBM K "list" aAppend (cVar 5) (tCons (tC (.int 70000)) tNil)))
  (tSeq (tAsg (tOp (uAdd K) (tOp (uIx K) (cVar 1) (tC (.str "lists"))) (cLst (tCons (cLst (tCons (cVar 5) (tCons (tOp (uAdd K) (cVar 4) (cLst (tCons (tC (.int 70000)) tNil))) tNil))) tNil))) (gSub (cVar 1) (tC (.str "lists")) uSet))
  (tRet (tC (.bl true))))))))))
theorem der__law_reading {P : Program} {w : World} {K : PySem.W.Frag} {mg : Str → Option Value} {base : Heap} {sp : Sp3} {S__law_draw : Sp2} {S_Taker_read : Sp2} {S__law_same_list : Sp2} (e : Txt K mg) (O__law_draw : Fok P w K mg base 2 (He.ga K "_law_draw") ["purse", "size"] (mk2 S__law_draw)) (O_Taker_read : Fok P w K mg base 1 (He.ma K (He.ga K "Taker") "read") ["self", "count"] (mk2 S_Taker_read)) (O__law_same_list : Fok P w K mg base 2 (He.ga K "_law_same_list") ["actual", "want"] (mk2 S__law_same_list))
    (h : ∀ a0 a1 a2 H Q E, sp a0 a1 a2 H Q E → rd__law_reading K S__law_draw S_Taker_read S__law_same_list E { nx := fun _ H' => Q .non H', rt := Q } [some a0, some a1, some a2, none, none, none, none] H) : Fok P w K mg base 3 (He.ga K "_law_reading") ["taker", "table", "purse"] (mk3 sp) := by
  obtain ⟨fd__law_draw, F__law_draw⟩ := e.F__law_draw
  have G__law_draw := fok_same F__law_draw O__law_draw
  have k__law_draw := F__law_draw.kp
  obtain ⟨fd_Taker_read, F_Taker_read⟩ := e.F_Taker_read
  have G_Taker_read := fok_same F_Taker_read O_Taker_read
  have k_Taker_read := F_Taker_read.kp
  obtain ⟨fd__law_same_list, F__law_same_list⟩ := e.F__law_same_list
  have G__law_same_list := fok_same F__law_same_list O__law_same_list
  have k__law_same_list := F__law_same_list.kp
  have b__law_draw := FunD.bindsN (ps := ["purse", "size"]) F__law_draw fun _ _ _ _ _ _ us hl => match us, hl with | [_, _], _ => rfl
  obtain ⟨ds_Taker_read_1, d_Taker_read_1, b_Taker_read_1⟩ := FunD.binds1 (ps := ["self", "count"]) F_Taker_read 1 0 (List.cons_ne_nil _ _) (by rfl) fun _ _ _ _ _ _ _ us its hl hi => match us, its, hl, hi with | [_], [_], _, _ => ⟨_, rfl, rfl⟩
  obtain ⟨ds_Taker_read_2, d_Taker_read_2, b_Taker_read_2⟩ := FunD.binds1 (ps := ["self", "count"]) F_Taker_read 2 1 (List.cons_ne_nil _ _) (by rfl) fun _ _ _ _ _ _ _ us its hl hi => match us, its, hl, hi with | [_, _], [_], _, _ => ⟨_, rfl, rfl⟩
  have b__law_same_list := FunD.bindsN (ps := ["actual", "want"]) F__law_same_list fun _ _ _ _ _ _ us hl => match us, hl with | [_, _], _ => rfl
  obtain ⟨fd, F⟩ := e.F__law_reading
  refine ⟨fd, F.ok sc__law_reading (fun _ _ _ _ z => mk3_len z) (fun cdv A outer s H vs Q E hr hsp => ?_), fun_lk F⟩
  have hu := hr.units
  obtain ⟨a0, a1, a2, rfl, hs⟩ := mk3_at hsp
  refine ⟨rd__law_reading K S__law_draw S_Taker_read S__law_same_list E, ?_, h a0 a1 a2 H Q E hs⟩
  exact (pss_cons (sSet (i := 3) sc__law_reading.nd rfl (by first | exact .inl rfl | exact .inr rfl) (pe_call G__law_draw (hr.mono (by decide)) rfl e.g__law_draw k__law_draw b__law_draw .nil (passes_call (takes_of rfl rfl rfl rfl) fun _ _ _ _ h => h) (pa_cons (pn 2) (pa_cons pe_int pa_nil))))
  (pss_cons (sSet (i := 4) sc__law_reading.nd rfl (by first | exact .inl rfl | exact .inr rfl) (eIx hu (pn 1) pe_str))
  (pss_cons (ps_if (ct (oEq hu) (pn 3) pe_int)
  (pss_one (sSet (i := 5) sc__law_reading.nd rfl (by first | exact .inl rfl | exact .inr rfl) (eMe0 (pn 0) e.m_Taker_read G_Taker_read (hr.mono (by decide)) e.k_Taker b_Taker_read_1 d_Taker_read_1 (passes_call (takes_of rfl rfl rfl rfl) fun _ _ _ _ h => h) )))
  (pss_one (ps_if (ct (oEq hu) (pn 3) pe_int)
  (pss_one (sSet (i := 5) sc__law_reading.nd rfl (by first | exact .inl rfl | exact .inr rfl) (eMe (pn 0) e.m_Taker_read G_Taker_read (hr.mono (by decide)) e.k_Taker b_Taker_read_2 d_Taker_read_2 (passes_call (takes_of rfl rfl rfl rfl) fun _ _ _ _ h => h) (pa_cons pe_non pa_nil))))
  (pss_cons (sSet (i := 6) sc__law_reading.nd rfl (by first | exact .inl rfl | exact .inr rfl) (pe_call G__law_draw (hr.mono (by decide)) rfl e.g__law_draw k__law_draw b__law_draw .nil (passes_call (takes_of rfl rfl rfl rfl) fun _ _ _ _ h => h) (pa_cons (pn 2) (pa_cons pe_int pa_nil))))
  (pss_cons (sSet (i := 4) sc__law_reading.nd rfl (by first | exact .inl rfl | exact .inr rfl) (eSl (pn 4) po_none (eSome (pn 6))))
  (pss_one (sSet (i := 5) sc__law_reading.nd rfl (by first | exact .inl rfl | exact .inr rfl) (eMe (pn 0) e.m_Taker_read G_Taker_read (hr.mono (by decide)) e.k_Taker b_Taker_read_2 d_Taker_read_2 (passes_call (takes_of rfl rfl rfl rfl) fun _ _ _ _ h => h) (pa_cons (pn 6) pa_nil)))))))))
  (pss_cons (ps_asg (eSl (eIx hu (pn 1) pe_str) (eSome (pe_callB bLen rfl e.b_len (by decide +kernel) (pa_cons (pn 4) pa_nil))) po_none) (pg_sub (pn 1) pe_str (setU hu)))
  (pss_cons (ps_if (pt_not (tt_ (pe_call G__law_same_list (hr.mono (by decide)) rfl e.g__law_same_list k__law_same_list b__law_same_list .nil (passes_call (takes_of rfl rfl rfl rfl) fun _ _ _ _ h => h) (pa_cons (pn 5) (pa_cons (pn 4) pa_nil)))))
  (pss_one (ps_ret pe_bl))
  pss_nil)
  (pss_cons (ps_expr (pe_bm PySem.F.plainAttrs_list PySem.F.slot_list_append PySem.F.type_list_append mAppend (pn 5) (pa_cons pe_int pa_nil)))
  (pss_cons (ps_asg (pe_op oAdd (eIx hu (pn 1) pe_str) (eLst (pa_cons (eLst (pa_cons (pn 5) (pa_cons (pe_op oAdd (pn 4) (eLst (pa_cons pe_int pa_nil))) pa_nil))) pa_nil))) (pg_sub (pn 1) pe_str (setU hu)))
  (pss_one (ps_ret pe_bl)))))))))
abbrev N__law_given : List Str := ["taker", "table", "number", "item", "want", "answer"]
theorem sc__law_given : FnScope N__law_given ["taker", "table", "number", "item"] (defScope s__law_given) := ⟨rfl, rfl, rfl, by decide +kernel, rfl, by decide +kernel, by decide +kernel⟩
def rd__law_given (K : PySem.W.Frag) (S__law_taken : Sp3) (S_Taker_take : Sp3) (S__law_ring : Sp3) (E : XK) : TS := (tSeq (tIfS (tNot (cTru K (tCall (mk3 S__law_ring) [] E (tCons (tOp (uIx K) (cVar 1) (tC (.str "expected"))) (tCons (cVar 2) (tCons (tOp (uIx K) (cVar 1) (tC (.str "numbers"))) tNil))))))
  (tRet (tC (.bl false)))
  tNext)
  (tSeq (tAsg (tCall (mk3 S__law_taken) [] E (tCons (cVar 1) (tCons (cVar 2) (tCons (cVar 3) tNil)))) (gNm 4))
  (tSeq (tAsg (cMe (He.ga K "Taker") "take" (mk3 S_Taker_take) [] E (cVar 0) (tCons (cVar 2) (tCons (cVar 3) tNil))) (gNm 5))
  (tRet (cAnd K (cIsi K isiBool (cVar 5)) (tOp (uEq K) (cVar 5) (cVar 4)))))))
theorem der__law_given {P : Program} {w : World} {K : PySem.W.Frag} {mg : Str → Option Value} {base : Heap} {sp : Sp4} {S__law_taken : Sp3} {S_Taker_take : Sp3} {S__law_ring : Sp3} (e : Txt K mg) (O__law_taken : Fok P w K mg base 1 (He.ga K "_law_taken") ["table", "number", "item"] (mk3 S__law_taken)) (O_Taker_take : Fok P w K mg base 3 (He.ma K (He.ga K "Taker") "take") ["self", "number", "item"] (mk3 S_Taker_take)) (O__law_ring : Fok P w K mg base 2 (He.ga K "_law_ring") ["low", "number", "size"] (mk3 S__law_ring))
    (h : ∀ a0 a1 a2 a3 H Q E, sp a0 a1 a2 a3 H Q E → rd__law_given K S__law_taken S_Taker_take S__law_ring E { nx := fun _ H' => Q .non H', rt := Q } [some a0, some a1, some a2, some a3, none, none] H) : Fok P w K mg base 4 (He.ga K "_law_given") ["taker", "table", "number", "item"] (mk4 sp) := by
  obtain ⟨fd__law_taken, F__law_taken⟩ := e.F__law_taken
  have G__law_taken := fok_same F__law_taken O__law_taken
  have k__law_taken := F__law_taken.kp
  obtain ⟨fd_Taker_take, F_Taker_take⟩ := e.F_Taker_take
  have G_Taker_take := fok_same F_Taker_take O_Taker_take
  have k_Taker_take := F_Taker_take.kp
  obtain ⟨fd__law_ring, F__law_ring⟩ := e.F__law_ring
  have G__law_ring := fok_same F__law_ring O__law_ring
  have k__law_ring := F__law_ring.kp
  have b__law_ring := FunD.bindsN (ps := ["low", "number", "size"]) F__law_ring fun _ _ _ _ _ _ us hl => match us, hl with | [_, _, _], _ => rfl
  have b__law_taken := FunD.bindsN (ps := ["table", "number", "item"]) F__law_taken fun _ _ _ _ _ _ us hl => match us, hl with | [_, _, _], _ => rfl
  have b_Taker_take := FunD.bindsN (ps := ["self", "number", "item"]) F_Taker_take fun _ _ _ _ _ _ us hl => match us, hl with | [_, _, _], _ => rfl
  obtain ⟨fd, F⟩ := e.F__law_given
  refine ⟨fd, F.ok sc__law_given (fun _ _ _ _ z => mk4_len z) (fun cdv A outer s H vs Q E hr hsp => ?_), fun_lk F⟩
  have hu := hr.units
  obtain ⟨a0, a1, a2, a3, rfl, hs⟩ := mk4_at hsp
  refine ⟨rd__law_given K S__law_taken S_Taker_take S__law_ring E, ?_, h a0 a1 a2 a3 H Q E hs⟩
  exact (pss_cons (ps_if (pt_not (tt_ (pe_call G__law_ring (hr.mono (by decide)) rfl e.g__law_ring k__law_ring b__law_ring .nil (passes_call (takes_of rfl rfl rfl rfl) fun _ _ _ _ h => h) (pa_cons (eIx hu (pn 1) pe_str) (pa_cons (pn 2) (pa_cons (eIx hu (pn 1) pe_str) pa_nil))))))
  (pss_one (ps_ret pe_bl))
  pss_nil)
  (pss_cons (sSet (i := 4) sc__law_given.nd rfl (by first | exact .inl rfl | exact .inr rfl) (pe_call G__law_taken (hr.mono (by decide)) rfl e.g__law_taken k__law_taken b__law_taken .nil (passes_call (takes_of rfl rfl rfl rfl) fun _ _ _ _ h => h) (pa_cons (pn 1) (pa_cons (pn 2) (pa_cons (pn 3) pa_nil)))))
  (pss_cons (sSet (i := 5) sc__law_given.nd rfl (by first | exact .inl rfl | exact .inr rfl) (eMe (pn 0) e.m_Taker_take G_Taker_take (hr.mono (by decide)) e.k_Taker b_Taker_take .nil (passes_call (takes_of rfl rfl rfl rfl) fun _ _ _ _ h => h) (pa_cons (pn 2) (pa_cons (pn 3) pa_nil))))
  (pss_one (ps_ret (eAnd (eIsi (t := isiBool) isiBool_ok rfl e.b_isinstance (pn 5) rfl e.b_bool (by decide +kernel)) (pe_one (ce (oEq hu) (pn 5) (pn 4)))))))))
abbrev N__law_three : List Str := ["taker", "table", "purse", "share", "base", "mark", "ahead", "item"]
theorem sc__law_three : FnScope N__law_three ["taker", "table", "purse", "share"] (defScope s__law_three) := ⟨rfl, rfl, rfl, by decide +kernel, rfl, by decide +kernel, by decide +kernel⟩
def rd__law_three (K : PySem.W.Frag) (S__law_draw : Sp2) (S__law_given : Sp4) (E : XK) : TS := (tSeq (tAsg (tOp (uIx K) (cVar 1) (tC (.str "expected"))) (gNm 4))
  (tSeq (tAsg (tCall (mk2 S__law_draw) [] E (tCons (cVar 2) (tCons (cVar 3) tNil))) (gNm 5))
  (tSeq (cFor (iSeq K (cTup (tCons (tC (.int 2)) (tCons (tC (.int 1)) (tCons (tC (.int 0)) tNil))))) (gNm 6)
  (tSeq (tAsg (tC .non) (gNm 7))
  (tSeq (tIfS (cTest (tOp (uNe K) (cVar 6) (cVar 5)))
  (tAsg (tCall (mk2 S__law_draw) [] E (tCons (cVar 2) (tCons (tC (.int 65536)) tNil))) (gNm 7))
  tNext)
  (tIfS (tNot (cTru K (tCall (mk4 S__law_given) [] E (tCons (cVar 0) (tCons (cVar 1) (tCons (tOp uMod (tCB uInt (tCons (tOp (uAdd K) (cVar 4) (cVar 6)) tNil)) (tOp (uIx K) (cVar 1) (tC (.str "numbers")))) (tCons (cVar 7) tNil)))))))
  (tRet (tC (.bl false)))
  tNext))))
  (tRet (tC (.bl true))))))
theorem der__law_three {P : Program} {w : World} {K : PySem.W.Frag} {mg : Str → Option Value} {base : Heap} {sp : Sp4} {S__law_draw : Sp2} {S__law_given : Sp4} (e : Txt K mg) (O__law_draw : Fok P w K mg base 2 (He.ga K "_law_draw") ["purse", "size"] (mk2 S__law_draw)) (O__law_given : Fok P w K mg base 4 (He.ga K "_law_given") ["taker", "table", "number", "item"] (mk4 S__law_given))
    (h : ∀ a0 a1 a2 a3 H Q E, sp a0 a1 a2 a3 H Q E → rd__law_three K S__law_draw S__law_given E { nx := fun _ H' => Q .non H', rt := Q } [some a0, some a1, some a2, some a3, none, none, none, none] H) : Fok P w K mg base 5 (He.ga K "_law_three") ["taker", "table", "purse", "share"] (mk4 sp) := by
  obtain ⟨fd__law_draw, F__law_draw⟩ := e.F__law_draw
  have G__law_draw := fok_same F__law_draw O__law_draw
  have k__law_draw := F__law_draw.kp
  obtain ⟨fd__law_given, F__law_given⟩ := e.F__law_given
  have G__law_given := fok_same F__law_given O__law_given
  have k__law_given := F__law_given.kp
  have b__law_draw := FunD.bindsN (ps := ["purse", "size"]) F__law_draw fun _ _ _ _ _ _ us hl => match us, hl with | [_, _], _ => rfl
  have b__law_given := FunD.bindsN (ps := ["taker", "table", "number", "item"]) F__law_given fun _ _ _ _ _ _ us hl => match us, hl with | [_, _, _, _], _ => rfl
  obtain ⟨fd, F⟩ := e.F__law_three
  refine ⟨fd, F.ok sc__law_three (fun _ _ _ _ z => mk4_len z) (fun cdv A outer s H vs Q E hr hsp => ?_), fun_lk F⟩
  have hu := hr.units
  obtain ⟨a0, a1, a2, a3, rfl, hs⟩ := mk4_at hsp
  refine ⟨rd__law_three K S__law_draw S__law_given E, ?_, h a0 a1 a2 a3 H Q E hs⟩
  exact (pss_cons (sSet (i := 4) sc__law_three.nd rfl (by first | exact .inl rfl | exact .inr rfl) (eIx hu (pn 1) pe_str))
  (pss_cons (sSet (i := 5) sc__law_three.nd rfl (by first | exact .inl rfl | exact .inr rfl) (pe_call G__law_draw (hr.mono (by decide)) rfl e.g__law_draw k__law_draw b__law_draw .nil (passes_call (takes_of rfl rfl rfl rfl) fun _ _ _ _ h => h) (pa_cons (pn 2) (pa_cons (pn 3) pa_nil))))
  (pss_cons (sFor (passes_of rfl) rfl (fSeq (eTup (pa_cons pe_int (pa_cons pe_int (pa_cons pe_int pa_nil))))) (tNm (i := 6) sc__law_three.nd rfl (by first | exact .inl rfl | exact .inr rfl))
  (pss_cons (sSet (i := 7) sc__law_three.nd rfl (by first | exact .inl rfl | exact .inr rfl) pe_non)
  (pss_cons (ps_if (ct (oNe hu) (pn 6) (pn 5))
  (pss_one (sSet (i := 7) sc__law_three.nd rfl (by first | exact .inl rfl | exact .inr rfl) (pe_call G__law_draw (hr.mono (by decide)) rfl e.g__law_draw k__law_draw b__law_draw .nil (passes_call (takes_of rfl rfl rfl rfl) fun _ _ _ _ h => h) (pa_cons (pn 2) (pa_cons pe_int pa_nil)))))
  pss_nil)
  (pss_one (ps_if (pt_not (tt_ (pe_call G__law_given (hr.mono (by decide)) rfl e.g__law_given k__law_given b__law_given .nil (passes_call (takes_of rfl rfl rfl rfl) fun _ _ _ _ h => h) (pa_cons (pn 0) (pa_cons (pn 1) (pa_cons (pe_op oMod (pe_callTy bInt rfl e.b_int (by decide +kernel) (pa_cons (pe_op oAdd (pn 4) (pn 6)) pa_nil)) (eIx hu (pn 1) pe_str)) (pa_cons (pn 7) pa_nil)))))))
  (pss_one (ps_ret pe_bl))
  pss_nil)))))
  (pss_one (ps_ret pe_bl)))))
abbrev N__law_deed : List Str := ["taker", "table", "purse", "share", "choice", "number", "level"]
theorem sc__law_deed : FnScope N__law_deed ["taker", "table", "purse", "share"] (defScope s__law_deed) := ⟨rfl, rfl, rfl, by decide +kernel, rfl, by decide +kernel, by decide +kernel⟩
def rd__law_deed (K : PySem.W.Frag) (S__law_draw : Sp2) (S__law_number : Sp2) (S_Taker_room : Sp1) (S__law_given : Sp4) (S__law_item : Sp2) (S__law_three : Sp4) (S__law_reading : Sp3) (E : XK) : TS := (tSeq (tAsg (tCall (mk2 S__law_draw) [] E (tCons (cVar 2) (tCons (tC (.int 8)) tNil))) (gNm 4))
  (tSeq (tIfS (cTest (tOp (uLt K) (cVar 4) (tC (.int 4))))
  (tSeq (tAsg (tCall (mk2 S__law_number) [] E (tCons (cVar 2) (tCons (cVar 1) tNil))) (gNm 5))
  (tIfS (tNot (cTru K (tCall (mk4 S__law_given) [] E (tCons (cVar 0) (tCons (cVar 1) (tCons (cVar 5) (tCons (tCall (mk2 S__law_item) [] E (tCons (cVar 2) (tCons (cVar 3) tNil))) tNil)))))))
  (tRet (tC (.bl false)))
  tNext))
  (tIfS (cTest (tOp (uEq K) (cVar 4) (tC (.int 4))))
  (tIfS (tNot (cTru K (tCall (mk4 S__law_three) [] E (tCons (cVar 0) (tCons (cVar 1) (tCons (cVar 2) (tCons (cVar 3) tNil)))))))
  (tRet (tC (.bl false)))
  tNext)
  (tIfS (tNot (cTru K (tCall (mk3 S__law_reading) [] E (tCons (cVar 0) (tCons (cVar 1) (tCons (cVar 2) tNil))))))
  (tRet (tC (.bl false)))
  tNext)))
  (tSeq (tAsg (tOp (uAdd K) (cFl (He.ga K "Taker") "expected" (cVar 0)) (cPr (He.ga K "Taker") (mk1 S_Taker_room) [] E0 (cVar 0))) (gNm 6))
  (tSeq (tIfS (cTest (tOp (uLt K) (cVar 6) (tOp (uIx K) (cVar 1) (tC (.str "level")))))
  (tRet (tC (.bl false)))
  tNext)
  (tSeq (tAsg (cVar 6) (gSub (cVar 1) (tC (.str "level")) uSet))
  (tRet (tC (.bl true))))))))
theorem der__law_deed {P : Program} {w : World} {K : PySem.W.Frag} {mg : Str → Option Value} {base : Heap} {sp : Sp4} {S__law_draw : Sp2} {S__law_number : Sp2} {S_Taker_room : Sp1} {S__law_given : Sp4} {S__law_item : Sp2} {S__law_three : Sp4} {S__law_reading : Sp3} (e : Txt K mg) (O__law_draw : Fok P w K mg base 2 (He.ga K "_law_draw") ["purse", "size"] (mk2 S__law_draw)) (O__law_number : Fok P w K mg base 3 (He.ga K "_law_number") ["purse", "table"] (mk2 S__law_number)) (O_Taker_room : Fok P w K mg base 1 (pg K (He.ga K "Taker") "room") ["self"] (mk1 S_Taker_room)) (O__law_given : Fok P w K mg base 4 (He.ga K "_law_given") ["taker", "table", "number", "item"] (mk4 S__law_given)) (O__law_item : Fok P w K mg base 3 (He.ga K "_law_item") ["purse", "share"] (mk2 S__law_item)) (O__law_three : Fok P w K mg base 5 (He.ga K "_law_three") ["taker", "table", "purse", "share"] (mk4 S__law_three)) (O__law_reading : Fok P w K mg base 3 (He.ga K "_law_reading") ["taker", "table", "purse"] (mk3 S__law_reading))
    (h : ∀ a0 a1 a2 a3 H Q E, sp a0 a1 a2 a3 H Q E → rd__law_deed K S__law_draw S__law_number S_Taker_room S__law_given S__law_item S__law_three S__law_reading E { nx := fun _ H' => Q .non H', rt := Q } [some a0, some a1, some a2, some a3, none, none, none] H) : Fok P w K mg base 6 (He.ga K "_law_deed") ["taker", "table", "purse", "share"] (mk4 sp) := by
  obtain ⟨fd__law_draw, F__law_draw⟩ := e.F__law_draw
  have G__law_draw := fok_same F__law_draw O__law_draw
  have k__law_draw := F__law_draw.kp
  obtain ⟨fd__law_number, F__law_number⟩ := e.F__law_number
  have G__law_number := fok_same F__law_number O__law_number
  have k__law_number := F__law_number.kp
  obtain ⟨fd_Taker_room, F_Taker_room⟩ := e.F_Taker_room
  have G_Taker_room := fok_same F_Taker_room O_Taker_room
  have k_Taker_room := F_Taker_room.kp
  obtain ⟨fd__law_given, F__law_given⟩ := e.F__law_given
  have G__law_given := fok_same F__law_given O__law_given
  have k__law_given := F__law_given.kp
  obtain ⟨fd__law_item, F__law_item⟩ := e.F__law_item
  have G__law_item := fok_same F__law_item O__law_item
  have k__law_item := F__law_item.kp
  obtain ⟨fd__law_three, F__law_three⟩ := e.F__law_three
  have G__law_three := fok_same F__law_three O__law_three
  have k__law_three := F__law_three.kp
  obtain ⟨fd__law_reading, F__law_reading⟩ := e.F__law_reading
  have G__law_reading := fok_same F__law_reading O__law_reading
  have k__law_reading := F__law_reading.kp
  have b__law_draw := FunD.bindsN (ps := ["purse", "size"]) F__law_draw fun _ _ _ _ _ _ us hl => match us, hl with | [_, _], _ => rfl
  have b__law_number := FunD.bindsN (ps := ["purse", "table"]) F__law_number fun _ _ _ _ _ _ us hl => match us, hl with | [_, _], _ => rfl
  have b__law_item := FunD.bindsN (ps := ["purse", "share"]) F__law_item fun _ _ _ _ _ _ us hl => match us, hl with | [_, _], _ => rfl
  have b__law_given := FunD.bindsN (ps := ["taker", "table", "number", "item"]) F__law_given fun _ _ _ _ _ _ us hl => match us, hl with | [_, _, _, _], _ => rfl
  have b__law_three := FunD.bindsN (ps := ["taker", "table", "purse", "share"]) F__law_three fun _ _ _ _ _ _ us hl => match us, hl with | [_, _, _, _], _ => rfl
  have b__law_reading := FunD.bindsN (ps := ["taker", "table", "purse"]) F__law_reading fun _ _ _ _ _ _ us hl => match us, hl with | [_, _, _], _ => rfl
  have b_Taker_room := FunD.bindsN (ps := ["self"]) F_Taker_room fun _ _ _ _ _ _ us hl => match us, hl with | [_], _ => rfl
  obtain ⟨fd, F⟩ := e.F__law_deed
  refine ⟨fd, F.ok sc__law_deed (fun _ _ _ _ z => mk4_len z) (fun cdv A outer s H vs Q E hr hsp => ?_), fun_lk F⟩
  have hu := hr.units
  obtain ⟨a0, a1, a2, a3, rfl, hs⟩ := mk4_at hsp
  refine ⟨rd__law_deed K S__law_draw S__law_number S_Taker_room S__law_given S__law_item S__law_three S__law_reading E, ?_, h a0 a1 a2 a3 H Q E hs⟩
  exact (pss_cons (sSet (i := 4) sc__law_deed.nd rfl (by first | exact .inl rfl | exact .inr rfl) (pe_call G__law_draw (hr.mono (by decide)) rfl e.g__law_draw k__law_draw b__law_draw .nil (passes_call (takes_of rfl rfl rfl rfl) fun _ _ _ _ h => h) (pa_cons (pn 2) (pa_cons pe_int pa_nil))))
  (pss_cons (ps_if (ct (oLt (Nat.lt_of_le_of_lt (Nat.le_add_right _ 64) hu)) (pn 4) pe_int)
  (pss_cons (sSet (i := 5) sc__law_deed.nd rfl (by first | exact .inl rfl | exact .inr rfl) (pe_call G__law_number (hr.mono (by decide)) rfl e.g__law_number k__law_number b__law_number .nil (passes_call (takes_of rfl rfl rfl rfl) fun _ _ _ _ h => h) (pa_cons (pn 2) (pa_cons (pn 1) pa_nil))))
  (pss_one (ps_if (pt_not (tt_ (pe_call G__law_given (hr.mono (by decide)) rfl e.g__law_given k__law_given b__law_given .nil (passes_call (takes_of rfl rfl rfl rfl) fun _ _ _ _ h => h) (pa_cons (pn 0) (pa_cons (pn 1) (pa_cons (pn 5) (pa_cons (pe_call G__law_item (hr.mono (by decide)) rfl e.g__law_item k__law_item b__law_item .nil (passes_call (takes_of rfl rfl rfl rfl) fun _ _ _ _ h => h) (pa_cons (pn 2) (pa_cons (pn 3) pa_nil))) pa_nil)))))))
  (pss_one (ps_ret pe_bl))
  pss_nil)))
  (pss_one (ps_if (ct (oEq hu) (pn 4) pe_int)
  (pss_one (ps_if (pt_not (tt_ (pe_call G__law_three (hr.mono (by decide)) rfl e.g__law_three k__law_three b__law_three .nil (passes_call (takes_of rfl rfl rfl rfl) fun _ _ _ _ h => h) (pa_cons (pn 0) (pa_cons (pn 1) (pa_cons (pn 2) (pa_cons (pn 3) pa_nil)))))))
  (pss_one (ps_ret pe_bl))
  pss_nil))
  (pss_one (ps_if (pt_not (tt_ (pe_call G__law_reading (hr.mono (by decide)) rfl e.g__law_reading k__law_reading b__law_reading .nil (passes_call (takes_of rfl rfl rfl rfl) fun _ _ _ _ h => h) (pa_cons (pn 0) (pa_cons (pn 1) (pa_cons (pn 2) pa_nil))))))
  (pss_one (ps_ret pe_bl))
  pss_nil)))))
  (pss_cons (sSet (i := 6) sc__law_deed.nd rfl (by first | exact .inl rfl | exact .inr rfl) (pe_op oAdd (eFl (pn 0) e.k_Taker e.n_Taker_expected) (ePr (pn 0) e.p_Taker_room G_Taker_room (hr.mono (by decide)) e.k_Taker b_Taker_room .nil passL)))
  (pss_cons (ps_if (ct (oLt (Nat.lt_of_le_of_lt (Nat.le_add_right _ 64) hu)) (pn 6) (eIx hu (pn 1) pe_str))
  (pss_one (ps_ret pe_bl))
  pss_nil)
  (pss_cons (ps_asg (pn 6) (pg_sub (pn 1) pe_str (setU hu)))
  (pss_one (ps_ret pe_bl)))))))
abbrev N_law : List Str := ["script", "purse", "takers", "tables", "k", "window", "numbers", "choice", "share", "many", "which", "pair", "low", "number"]
theorem sc_law : FnScope N_law ["script"] (defScope s_law) := ⟨rfl, rfl, rfl, by decide +kernel, rfl, by decide +kernel, by decide +kernel⟩
def rd_law (K : PySem.W.Frag) (S__law_purse : Sp1) (S__law_draw : Sp2) (S_Taker___init__ : Sp3) (S__law_table : Sp2) (S__law_deed : Sp4) (S__law_shown : Sp2) (S__law_ring : Sp3) (S__law_same_list : Sp2) (E : XK) : TS := (tSeq (tAsg (tCall (mk1 S__law_purse) [] E (tCons (cVar 0) tNil)) (gNm 1))
  (tSeq (tAsg (cLst tNil) (gNm 2))
  (tSeq (tAsg (cLst tNil) (gNm 3))
  (tSeq (cFor (iR1 (tCons (tC (.int 2)) tNil)) (gNm 4)
  (tSeq (tAsg (tOp (uAdd K) (tC (.int 2)) (tCall (mk2 S__law_draw) [] E (tCons (cVar 1) (tCons (tC (.int 3)) tNil)))) (gNm 5))
  (tSeq (tAsg (tC (.int 8)) (gNm 6))
  (tSeq (tAsg (tCall (mk2 S__law_draw) [] E (tCons (cVar 1) (tCons (tC (.int 3)) tNil))) (gNm 7))
  (tSeq (tIfS (cTest (tOp (uEq K) (cVar 7) (tC (.int 1))))
  (tAsg (tOp (uAdd K) (tC (.int 8)) (tCall (mk2 S__law_draw) [] E (tCons (cVar 1) (tCons (tC (.int 9)) tNil)))) (gNm 6))
  tNext)
  (tSeq (tIfS (cTest (tOp (uEq K) (cVar 7) (tC (.int 2))))
  (tAsg (tOp (uAdd K) (tC (.int 8)) (tCall (mk2 S__law_draw) [] E (tCons (cVar 1) (tCons (tC (.int 249)) tNil)))) (gNm 6))
  tNext)
  (tSeq (tDrop (tBM K "list" aAppend (cVar 2) (tCons (cMk (He.ga K "Taker") (mk3 S_Taker___init__) [] E (tCons (cVar 5) (tCons (cVar 6) tNil))) tNil)))
  (tDrop (tBM K "list" aAppend (cVar 3) (tCons (tCall (mk2 S__law_table) [] E (tCons (cVar 5) (tCons (cVar 6) tNil))) tNil))))))))))
  (tSeq (tAsg (tOp (uIx K) (cLst (tCons (tC (.int 8)) (tCons (tC (.int 30)) (tCons (tC (.int 200)) tNil)))) (tCall (mk2 S__law_draw) [] E (tCons (cVar 1) (tCons (tC (.int 3)) tNil)))) (gNm 8))
  (tSeq (tAsg (tOp (uAdd K) (tC (.int 8)) (tCall (mk2 S__law_draw) [] E (tCons (cVar 1) (tCons (tC (.int 93)) tNil)))) (gNm 9))
  (tSeq (cFor (iR1 (tCons (cVar 9) tNil)) (gNm 4)
  (tSeq (tAsg (tOp (uIx K) (cLst (tCons (tC (.int 0)) (tCons (tC (.int 0)) (tCons (tC (.int 1)) tNil)))) (tCall (mk2 S__law_draw) [] E (tCons (cVar 1) (tCons (tC (.int 3)) tNil)))) (gNm 10))
  (tSeq (tIfS (tNot (cTru K (tCall (mk4 S__law_deed) [] E (tCons (tOp (uIx K) (cVar 2) (cVar 10)) (tCons (tOp (uIx K) (cVar 3) (cVar 10)) (tCons (cVar 1) (tCons (cVar 8) tNil)))))))
  (tRet (tC (.bl false)))
  tNext)
  (tIfS (tAnd (cTest (tOp uGt (tCall (mk2 S__law_draw) [] E (tCons (cVar 1) (tCons (tC (.int 3)) tNil))) (tC (.int 0)))) (tNot (cTru K (tCall (mk2 S__law_shown) [] E (tCons (tOp (uIx K) (cVar 2) (cVar 10)) (tCons (tOp (uIx K) (cVar 3) (cVar 10)) tNil))))))
  (tRet (tC (.bl false)))
  tNext))))
  (tSeq (cFor (iR1 (tCons (tC (.int 2)) tNil)) (gNm 4)
  (tSeq (tIfS (tNot (cTru K (tCall (mk2 S__law_shown) [] E (tCons (tOp (uIx K) (cVar 2) (cVar 4)) (tCons (tOp (uIx K) (cVar 3) (cVar 4)) tNil)))))
  (tRet (tC (.bl false)))
  tNext)
  (tSeq (cFor (iSeq K (tOp (uIx K) (tOp (uIx K) (cVar 3) (cVar 4)) (tC (.str "lists")))) (gNm 11)
  (tIfS (tNot (cTru K (tCall (mk2 S__law_same_list) [] E (tCons (tOp (uIx K) (cVar 11) (tC (.int 0))) (tCons (tOp (uIx K) (cVar 11) (tC (.int 1))) tNil)))))
  (tRet (tC (.bl false)))
  tNext))
  (tSeq (tAsg (tCall (mk2 S__law_draw) [] E (tCons (cVar 1) (tCons (tC (.int 5000)) tNil))) (gNm 12))
  (tSeq (tAsg (tCall (mk2 S__law_draw) [] E (tCons (cVar 1) (tCons (tC (.int 256)) tNil))) (gNm 13))
  (tIfS (tNot (cTru K (tCall (mk3 S__law_ring) [] E (tCons (cVar 12) (tCons (cVar 13) (tCons (tOp (uAdd K) (tC (.int 2)) (tCall (mk2 S__law_draw) [] E (tCons (cVar 1) (tCons (tC (.int 255)) tNil)))) tNil))))))
  (tRet (tC (.bl false)))
  tNext))))))
  (tRet (tC (.bl true)))))))))))
theorem der_law {P : Program} {w : World} {K : PySem.W.Frag} {mg : Str → Option Value} {base : Heap} {sp : Sp1} {S__law_purse : Sp1} {S__law_draw : Sp2} {S_Taker___init__ : Sp3} {S__law_table : Sp2} {S__law_deed : Sp4} {S__law_shown : Sp2} {S__law_ring : Sp3} {S__law_same_list : Sp2} (e : Txt K mg) (O__law_purse : Fok P w K mg base 1 (He.ga K "_law_purse") ["script"] (mk1 S__law_purse)) (O__law_draw : Fok P w K mg base 2 (He.ga K "_law_draw") ["purse", "size"] (mk2 S__law_draw)) (O_Taker___init__ : Fok P w K mg base 1 (He.ma K (He.ga K "Taker") "__init__") ["self", "window", "numbers"] (mk3 S_Taker___init__)) (O__law_table : Fok P w K mg base 1 (He.ga K "_law_table") ["window", "numbers"] (mk2 S__law_table)) (O__law_deed : Fok P w K mg base 6 (He.ga K "_law_deed") ["taker", "table", "purse", "share"] (mk4 S__law_deed)) (O__law_shown : Fok P w K mg base 4 (He.ga K "_law_shown") ["taker", "table"] (mk2 S__law_shown)) (O__law_ring : Fok P w K mg base 2 (He.ga K "_law_ring") ["low", "number", "size"] (mk3 S__law_ring)) (O__law_same_list : Fok P w K mg base 2 (He.ga K "_law_same_list") ["actual", "want"] (mk2 S__law_same_list))
    (h : ∀ a0 H Q E, sp a0 H Q E → rd_law K S__law_purse S__law_draw S_Taker___init__ S__law_table S__law_deed S__law_shown S__law_ring S__law_same_list E { nx := fun _ H' => Q .non H', rt := Q } [some a0, none, none, none, none, none, none, none, none, none, none, none, none, none] H) : Fok P w K mg base 7 (He.ga K "law") ["script"] (mk1 sp) := by
  obtain ⟨fd__law_purse, F__law_purse⟩ := e.F__law_purse
  have G__law_purse := fok_same F__law_purse O__law_purse
  have k__law_purse := F__law_purse.kp
  obtain ⟨fd__law_draw, F__law_draw⟩ := e.F__law_draw
  have G__law_draw := fok_same F__law_draw O__law_draw
  have k__law_draw := F__law_draw.kp
  obtain ⟨fd_Taker___init__, F_Taker___init__⟩ := e.F_Taker___init__
  have G_Taker___init__ := fok_same F_Taker___init__ O_Taker___init__
  have k_Taker___init__ := F_Taker___init__.kp
  obtain ⟨fd__law_table, F__law_table⟩ := e.F__law_table
  have G__law_table := fok_same F__law_table O__law_table
  have k__law_table := F__law_table.kp
  obtain ⟨fd__law_deed, F__law_deed⟩ := e.F__law_deed
  have G__law_deed := fok_same F__law_deed O__law_deed
  have k__law_deed := F__law_deed.kp
  obtain ⟨fd__law_shown, F__law_shown⟩ := e.F__law_shown
  have G__law_shown := fok_same F__law_shown O__law_shown
  have k__law_shown := F__law_shown.kp
  obtain ⟨fd__law_ring, F__law_ring⟩ := e.F__law_ring
  have G__law_ring := fok_same F__law_ring O__law_ring
  have k__law_ring := F__law_ring.kp
  obtain ⟨fd__law_same_list, F__law_same_list⟩ := e.F__law_same_list
  have G__law_same_list := fok_same F__law_same_list O__law_same_list
  have k__law_same_list := F__law_same_list.kp
  have b__law_purse := FunD.bindsN (ps := ["script"]) F__law_purse fun _ _ _ _ _ _ us hl => match us, hl with | [_], _ => rfl
  have b__law_draw := FunD.bindsN (ps := ["purse", "size"]) F__law_draw fun _ _ _ _ _ _ us hl => match us, hl with | [_, _], _ => rfl
  have b_Taker___init__ := FunD.bindsN (ps := ["self", "window", "numbers"]) F_Taker___init__ fun _ _ _ _ _ _ us hl => match us, hl with | [_, _, _], _ => rfl
  have b__law_table := FunD.bindsN (ps := ["window", "numbers"]) F__law_table fun _ _ _ _ _ _ us hl => match us, hl with | [_, _], _ => rfl
  have b__law_deed := FunD.bindsN (ps := ["taker", "table", "purse", "share"]) F__law_deed fun _ _ _ _ _ _ us hl => match us, hl with | [_, _, _, _], _ => rfl
  have b__law_shown := FunD.bindsN (ps := ["taker", "table"]) F__law_shown fun _ _ _ _ _ _ us hl => match us, hl with | [_, _], _ => rfl
  have b__law_same_list := FunD.bindsN (ps := ["actual", "want"]) F__law_same_list fun _ _ _ _ _ _ us hl => match us, hl with | [_, _], _ => rfl
  have b__law_ring := FunD.bindsN (ps := ["low", "number", "size"]) F__law_ring fun _ _ _ _ _ _ us hl => match us, hl with | [_, _, _], _ => rfl
  obtain ⟨fd, F⟩ := e.F_law
  refine ⟨fd, F.ok sc_law (fun _ _ _ _ z => mk1_len z) (fun cdv A outer s H vs Q E hr hsp => ?_), fun_lk F⟩
  have hu := hr.units
  obtain ⟨a0, rfl, hs⟩ := mk1_at hsp
  refine ⟨rd_law K S__law_purse S__law_draw S_Taker___init__ S__law_table S__law_deed S__law_shown S__law_ring S__law_same_list E, ?_, h a0 H Q E hs⟩
  exact (pss_cons (sSet (i := 1) sc_law.nd rfl (by first | exact .inl rfl | exact .inr rfl) (pe_call G__law_purse (hr.mono (by decide)) rfl e.g__law_purse k__law_purse b__law_purse .nil (passes_call (takes_of rfl rfl rfl rfl) fun _ _ _ _ h => h) (pa_cons (pn 0) pa_nil)))
  (pss_cons (sSet (i := 2) sc_law.nd rfl (by first | exact .inl rfl | exact .inr rfl) (eLst pa_nil))
  (pss_cons (sSet (i := 3) sc_law.nd rfl (by first | exact .inl rfl | exact .inr rfl) (eLst pa_nil))
  (pss_cons (sFor (passes_of rfl) rfl (fR1 rfl e.b_range (pa_cons pe_int pa_nil)) (tNm (i := 4) sc_law.nd rfl (by first | exact .inl rfl | exact .inr rfl))
  (pss_cons (sSet (i := 5) sc_law.nd rfl (by first | exact .inl rfl | exact .inr rfl) (pe_op oAdd pe_int (pe_call G__law_draw (hr.mono (by decide)) rfl e.g__law_draw k__law_draw b__law_draw .nil (passes_call (takes_of rfl rfl rfl rfl) fun _ _ _ _ h => h) (pa_cons (pn 1) (pa_cons pe_int pa_nil)))))
  (pss_cons (sSet (i := 6) sc_law.nd rfl (by first | exact .inl rfl | exact .inr rfl) pe_int)
  (pss_cons (sSet (i := 7) sc_law.nd rfl (by first | exact .inl rfl | exact .inr rfl) (pe_call G__law_draw (hr.mono (by decide)) rfl e.g__law_draw k__law_draw b__law_draw .nil (passes_call (takes_of rfl rfl rfl rfl) fun _ _ _ _ h => h) (pa_cons (pn 1) (pa_cons pe_int pa_nil))))
  (pss_cons (ps_if (ct (oEq hu) (pn 7) pe_int)
  (pss_one (sSet (i := 6) sc_law.nd rfl (by first | exact .inl rfl | exact .inr rfl) (pe_op oAdd pe_int (pe_call G__law_draw (hr.mono (by decide)) rfl e.g__law_draw k__law_draw b__law_draw .nil (passes_call (takes_of rfl rfl rfl rfl) fun _ _ _ _ h => h) (pa_cons (pn 1) (pa_cons pe_int pa_nil))))))
  pss_nil)
  (pss_cons (ps_if (ct (oEq hu) (pn 7) pe_int)
  (pss_one (sSet (i := 6) sc_law.nd rfl (by first | exact .inl rfl | exact .inr rfl) (pe_op oAdd pe_int (pe_call G__law_draw (hr.mono (by decide)) rfl e.g__law_draw k__law_draw b__law_draw .nil (passes_call (takes_of rfl rfl rfl rfl) fun _ _ _ _ h => h) (pa_cons (pn 1) (pa_cons pe_int pa_nil))))))
  pss_nil)
  (pss_cons (ps_expr (pe_bm PySem.F.plainAttrs_list PySem.F.slot_list_append PySem.F.type_list_append mAppend (pn 2) (pa_cons (eMk e.M_Taker G_Taker___init__ (hr.mono (by decide)) rfl e.g_Taker b_Taker___init__ .nil (passes_call (takes_of rfl rfl rfl rfl) fun _ _ _ _ h => h) (pa_cons (pn 5) (pa_cons (pn 6) pa_nil))) pa_nil)))
  (pss_one (ps_expr (pe_bm PySem.F.plainAttrs_list PySem.F.slot_list_append PySem.F.type_list_append mAppend (pn 3) (pa_cons (pe_call G__law_table (hr.mono (by decide)) rfl e.g__law_table k__law_table b__law_table .nil (passes_call (takes_of rfl rfl rfl rfl) fun _ _ _ _ h => h) (pa_cons (pn 5) (pa_cons (pn 6) pa_nil))) pa_nil)))))))))))
  (pss_cons (sSet (i := 8) sc_law.nd rfl (by first | exact .inl rfl | exact .inr rfl) (eIx hu (eLst (pa_cons pe_int (pa_cons pe_int (pa_cons pe_int pa_nil)))) (pe_call G__law_draw (hr.mono (by decide)) rfl e.g__law_draw k__law_draw b__law_draw .nil (passes_call (takes_of rfl rfl rfl rfl) fun _ _ _ _ h => h) (pa_cons (pn 1) (pa_cons pe_int pa_nil)))))
  (pss_cons (sSet (i := 9) sc_law.nd rfl (by first | exact .inl rfl | exact .inr rfl) (pe_op oAdd pe_int (pe_call G__law_draw (hr.mono (by decide)) rfl e.g__law_draw k__law_draw b__law_draw .nil (passes_call (takes_of rfl rfl rfl rfl) fun _ _ _ _ h => h) (pa_cons (pn 1) (pa_cons pe_int pa_nil)))))
  (pss_cons (sFor (passes_of rfl) rfl (fR1 rfl e.b_range (pa_cons (pn 9) pa_nil)) (tNm (i := 4) sc_law.nd rfl (by first | exact .inl rfl | exact .inr rfl))
  (pss_cons (sSet (i := 10) sc_law.nd rfl (by first | exact .inl rfl | exact .inr rfl) (eIx hu (eLst (pa_cons pe_int (pa_cons pe_int (pa_cons pe_int pa_nil)))) (pe_call G__law_draw (hr.mono (by decide)) rfl e.g__law_draw k__law_draw b__law_draw .nil (passes_call (takes_of rfl rfl rfl rfl) fun _ _ _ _ h => h) (pa_cons (pn 1) (pa_cons pe_int pa_nil)))))
  (pss_cons (ps_if (pt_not (tt_ (pe_call G__law_deed (hr.mono (by decide)) rfl e.g__law_deed k__law_deed b__law_deed .nil (passes_call (takes_of rfl rfl rfl rfl) fun _ _ _ _ h => h) (pa_cons (eIx hu (pn 2) (pn 10)) (pa_cons (eIx hu (pn 3) (pn 10)) (pa_cons (pn 1) (pa_cons (pn 8) pa_nil)))))))
  (pss_one (ps_ret pe_bl))
  pss_nil)
  (pss_one (ps_if (PW.pt (pw_and (ct oGt (pe_call G__law_draw (hr.mono (by decide)) rfl e.g__law_draw k__law_draw b__law_draw .nil (passes_call (takes_of rfl rfl rfl rfl) fun _ _ _ _ h => h) (pa_cons (pn 1) (pa_cons pe_int pa_nil))) pe_int) (pw_and1 (pt_not (tt_ (pe_call G__law_shown (hr.mono (by decide)) rfl e.g__law_shown k__law_shown b__law_shown .nil (passes_call (takes_of rfl rfl rfl rfl) fun _ _ _ _ h => h) (pa_cons (eIx hu (pn 2) (pn 10)) (pa_cons (eIx hu (pn 3) (pn 10)) pa_nil))))))))
  (pss_one (ps_ret pe_bl))
  pss_nil)))))
  (pss_cons (sFor (passes_of rfl) rfl (fR1 rfl e.b_range (pa_cons pe_int pa_nil)) (tNm (i := 4) sc_law.nd rfl (by first | exact .inl rfl | exact .inr rfl))
  (pss_cons (ps_if (pt_not (tt_ (pe_call G__law_shown (hr.mono (by decide)) rfl e.g__law_shown k__law_shown b__law_shown .nil (passes_call (takes_of rfl rfl rfl rfl) fun _ _ _ _ h => h) (pa_cons (eIx hu (pn 2) (pn 4)) (pa_cons (eIx hu (pn 3) (pn 4)) pa_nil)))))
  (pss_one (ps_ret pe_bl))
  pss_nil)
  (pss_cons (sFor (passes_of rfl) rfl (fSeq (eIx hu (eIx hu (pn 3) (pn 4)) pe_str)) (tNm (i := 11) sc_law.nd rfl (by first | exact .inl rfl | exact .inr rfl))
  (pss_one (ps_if (pt_not (tt_ (pe_call G__law_same_list (hr.mono (by decide)) rfl e.g__law_same_list k__law_same_list b__law_same_list .nil (passes_call (takes_of rfl rfl rfl rfl) fun _ _ _ _ h => h) (pa_cons (eIx hu (pn 11) pe_int) (pa_cons (eIx hu (pn 11) pe_int) pa_nil)))))
  (pss_one (ps_ret pe_bl))
  pss_nil)))
  (pss_cons (sSet (i := 12) sc_law.nd rfl (by first | exact .inl rfl | exact .inr rfl) (pe_call G__law_draw (hr.mono (by decide)) rfl e.g__law_draw k__law_draw b__law_draw .nil (passes_call (takes_of rfl rfl rfl rfl) fun _ _ _ _ h => h) (pa_cons (pn 1) (pa_cons pe_int pa_nil))))
  (pss_cons (sSet (i := 13) sc_law.nd rfl (by first | exact .inl rfl | exact .inr rfl) (pe_call G__law_draw (hr.mono (by decide)) rfl e.g__law_draw k__law_draw b__law_draw .nil (passes_call (takes_of rfl rfl rfl rfl) fun _ _ _ _ h => h) (pa_cons (pn 1) (pa_cons pe_int pa_nil))))
  (pss_one (ps_if (pt_not (tt_ (pe_call G__law_ring (hr.mono (by decide)) rfl e.g__law_ring k__law_ring b__law_ring .nil (passes_call (takes_of rfl rfl rfl rfl) fun _ _ _ _ h => h) (pa_cons (pn 12) (pa_cons (pn 13) (pa_cons (pe_op oAdd pe_int (pe_call G__law_draw (hr.mono (by decide)) rfl e.g__law_draw k__law_draw b__law_draw .nil (passes_call (takes_of rfl rfl rfl rfl) fun _ _ _ _ h => h) (pa_cons (pn 1) (pa_cons pe_int pa_nil)))) pa_nil))))))
  (pss_one (ps_ret pe_bl))
  pss_nil)))))))
  (pss_one (ps_ret pe_bl))))))))))
end Wk
namespace Wk
open PySem PySem.Spec PyProof.Rows L2
local macro_rules | `(tactic| walk_at "vk") => `(tactic| repeat (first | exact vk_nil | exact vk_here | refine vk_past ?_))
local macro_rules | `(tactic| walk_at "pk") => `(tactic| repeat (first | exact pk_nil | exact pk_here | refine pk_past ?_))
local macro_rules | `(tactic| walk_at "lk") => `(tactic| repeat (first | exact lk_nil | exact lk_here | refine lk_past ?_))
local macro_rules | `(tactic| walk_at "pf") => `(tactic| repeat (first | exact put_nil | exact put_here | refine put_past ?_))
local macro_rules | `(tactic| walk_at "nm") => `(tactic| try dsimp only [gNm, setK, uAdd, uSub, tNext, Option.getD, tC, uNe, uEq, uLe, uLt, uGe, uGt, uIs, uIsnt])
local macro_rules | `(tactic| walk_at "sub") => `(tactic| repeat first | exact List.nil_sublist _ | exact .slnil | apply List.Sublist.cons₂ | apply List.Sublist.cons)
local macro_rules | `(tactic| walk_at "ar") => `(tactic| first
  | decide
  | exact Nat.le_of_lt (sl_lt (by first | decide | omega))
  | exact .inl (.inr ⟨by first | decide | omega, by first | decide | omega⟩)
  | exact .inl (.inl ⟨by first | decide | omega, by first | decide | omega⟩)
  | exact .inl ⟨by first | decide | omega, by first | decide | omega⟩
  | exact ⟨by first | decide | omega, by first | decide | omega⟩
  | exact ⟨by first | decide | omega, by first | decide | omega, by first | decide | omega⟩
  | exact ⟨by first | decide | omega, by first | decide | omega, by first | decide | omega, by first | decide | omega⟩
  | exact ⟨by first | decide | omega, by first | decide | omega, by first | decide | omega, by first | decide | omega, by first | decide | omega⟩
  | exact .inr ⟨by decide, by decide +kernel⟩
  | omega
  | exact sl_lt (by omega))
local macro_rules | `(tactic| walk_at "g1") => `(tactic| refine And.intro (by walk_at "ar") ?_)
local macro_rules | `(tactic| walk_at "go") => `(tactic| repeat (refine And.intro (by walk_at "ar") ?_))
section
variable {P : Program} {w : World} {K : PySem.W.Frag} {mg : Str → Option Value} {base : Heap}

@[irreducible] def sp_is_number : Sp1 := fun x0 H Q _ => ∃ i : Int, x0 = .int i ∧ Q (.bl true) H
theorem ok_is_number (e : Txt K mg) : Fok P w K mg base 1 (He.ga K "_law_is_number") ["value"] (mk1 sp_is_number) := by
  refine der__law_is_number e fun a0 H Q E h => ?_
  unfold sp_is_number at h
  obtain ⟨i, rfl, q⟩ := h
  exact q
theorem use_is_number {x : V} {i : Int} {H : Hp} {Q : VK} {E : XK} (q : Q (.bl true) H) (e : x = .int i := by rfl) : sp_is_number x H Q E := by
  unfold sp_is_number
  exact ⟨i, e, q⟩
/-! ### the purse -/
structure PD where
  a : Int
  b : Int
  c : Int
  d : Int
def pkF (cl : Addr) (D : PD) : List (Key × V) := [(.inr "cells", .ref cl), (.inr "place", .int D.a), (.inr "rest", .int D.b), (.inr "seed", .int D.c), (.inr "count", .int D.d)]
def px (p cl : Addr) (ns : List Int) (D : PD) : List (Addr × HO) := [(p, .dK (pkF cl D)), (cl, .lst (ns.map V.int))]
@[irreducible] def sp_purse (K : PySem.W.Frag) : Sp1 := fun x0 H Q _ => ∃ (a : Addr) (ns : List Int), x0 = .ref a ∧ SqL K H a (ns.map V.int) ∧ ns.length ≤ 63 ∧
  ∀ H' p cl ns D, 0 ≤ D.a → ns.length ≤ 63 → Sv K H [] H' (px p cl ns D ++ []) [] → Q (.ref p) H'
theorem ok_purse (e : Txt K mg) : Fok P w K mg base 1 (He.ga K "_law_purse") ["script"] (mk1 (sp_purse K)) := by
  refine der__law_purse e fun a0 H Q E h => ?_
  unfold sp_purse at h
  obtain ⟨a, ns, rfl, hS, hl, q⟩ := h
  have st : Sv K H [] H [] [] := Sv.start0
  refine st.nwP fun p H1 st => ?_
  refine st.sl (es := (ns.take 63).map V.int) (st.oldL hS (by simp)) (by rw [cut_hi (by decide), List.map_take]; rfl) fun s H2 st => ?_
  rw [List.take_of_length_le hl] at st
  refine lcS (fun l k H' => Sv K H [] H' ((l, .lst ((ns.take k).map V.int)) :: [(s, .lst (ns.map V.int)), (p, .dK [])]) []) (st.sq 0 rfl) (fun l hl => st.new hl _) (fun l k H' _ st => st.sq 1 rfl) ?_ ?_
  · rintro l k x H3 hx st
    obtain ⟨n, rfl, hn⟩ := map_at hx
    refine st.lcEnd 0 rfl (by simp; omega) ((l, .lst ((ns.take (k + 1)).map V.int)) :: [(s, .lst (ns.map V.int)), (p, .dK [])]) (fun H4 st => st) ?_
    show (l, HO.lst ((ns.take k).map V.int ++ [V.int n])) :: _ = _
    rw [List.take_add_one, hn, List.map_append]
    rfl
  · rintro l H3 st
    rw [List.length_map, List.take_length] at st
    refine st.record 2 (pkF l ⟨0, 0, 4929, 0⟩) [.inr "cells", .inr "place", .inr "rest", .inr "seed", .inr "count"] [(l, .lst (ns.map V.int)), (s, .lst (ns.map V.int)), (p, .dK (pkF l ⟨0, 0, 4929, 0⟩))] fun H4 st => ?_
    exact q _ p l ns ⟨0, 0, 4929, 0⟩ (Int.le_refl _) hl ((st.sub (L' := [(l, .lst (ns.map V.int)), (p, .dK (pkF l ⟨0, 0, 4929, 0⟩))]) (.cons₂ _ (.cons _ (.refl _)))).perm (List.Perm.swap _ _ _))
@[irreducible] def sp_mixed : Sp3 := fun x0 x1 x2 H Q _ => ∃ (i j n : Int), x0 = .int i ∧ x1 = .int j ∧ x2 = .int n ∧ 0 < n ∧ n < 1073741824 ∧ ∀ x, 0 ≤ x → x < n → Q (.int x) H
theorem ok_mixed (e : Txt K mg) : Fok P w K mg base 1 (He.ga K "_law_mixed") ["seed", "count", "size"] (mk3 sp_mixed) := by
  refine der__law_mixed e fun a0 a1 a2 H Q E h => ?_
  unfold sp_mixed at h
  obtain ⟨i, j, n, rfl, rfl, rfl, h0, h1, q⟩ := h
  walk_at "g1"
  walk_at "g1"
  walk_at "g1"
  have a1 := Int.emod_nonneg (i * 48271 + j * 69621 + 11) (show (2147483647 : Int) ≠ 0 by decide)
  have a2 := Int.emod_lt_of_pos (i * 48271 + j * 69621 + 11) (show (0 : Int) < 2147483647 by decide)
  generalize (i * 48271 + j * 69621 + 11) % 2147483647 = u at a1 a2
  walk_at "g1"
  walk_at "g1"
  walk_at "g1"
  have b1 := Int.emod_nonneg (u * u + j * 7919 + 5) (show (2147483629 : Int) ≠ 0 by decide)
  have b2 := Int.emod_lt_of_pos (u * u + j * 7919 + 5) (show (0 : Int) < 2147483629 by decide)
  generalize (u * u + j * 7919 + 5) % 2147483629 = v at b1 b2
  walk_at "g1"
  walk_at "g1"
  walk_at "g1"
  walk_at "g1"
  refine ⟨h0, ?_⟩
  exact q _ (Int.emod_nonneg _ (by omega)) (Int.emod_lt_of_pos _ h0)
theorem use_mixed {x y z : V} {i j n : Int} {H : Hp} {Q : VK} {E : XK} (q : ∀ m, 0 ≤ m → m < n → Q (.int m) H) (h0 : 0 < n) (h1 : n < 1073741824) (e : x = .int i := by rfl) (e2 : y = .int j := by rfl) (e3 : z = .int n := by rfl) : sp_mixed x y z H Q E := by
  unfold sp_mixed
  exact ⟨i, j, n, e, e2, e3, h0, h1, q⟩
@[irreducible] def sp_draw (K : PySem.W.Frag) : Sp2 := fun x0 x1 H Q _ => ∃ (p cl : Addr) (ns : List Int) (D : PD) (n : Int), x0 = .ref p ∧ x1 = .int n ∧ 0 < n ∧ n < 1073741824 ∧ 0 ≤ D.a ∧ ns.length ≤ 63 ∧ Cells H (px p cl ns D) ∧
  ∀ H' D' x, 0 ≤ D'.a → 0 ≤ x → x < n → Sv K H [p, cl] H' (px p cl ns D') [] → Q (.int x) H'
theorem ok_draw (e : Txt K mg) : Fok P w K mg base 2 (He.ga K "_law_draw") ["purse", "size"] (mk2 (sp_draw K)) := by
  refine der__law_draw e (ok_mixed e) fun a0 a1 H Q E h => ?_
  unfold sp_draw at h
  obtain ⟨p, cl, ns, D, n, rfl, rfl, h0, h1, ha, hl, hc, q⟩ := h
  have st : Sv K H [p, cl] H (px p cl ns D) [] := hc.sv
  obtain ⟨a, b, c, d⟩ := D
  have dv : ∀ x : Int, DivOk x n := fun x => .inl ⟨h0, h1⟩
  have ha : 0 ≤ a := ha
  unfold px pkF at st
  refine st.rd 0 ?_
  refine st.wr 0 (px p cl ns ⟨a, b, c, d + 1⟩) fun H1 st => ?_
  unfold px pkF at st
  walk_at "nm"
  refine cut (fun σ H' => ∃ (x2 : Option V) (D : PD), σ = [some (.ref p), some (.int n), x2, none] ∧ 0 ≤ D.a ∧ Sv K H [p, cl] H' (px p cl ns D) []) ?rest (fun fin => ?stm)
  case stm =>
    have no : ∃ (x2 : Option V) (D : PD), [some (V.ref p), some (.int n), none, none] = [some (.ref p), some (.int n), x2, none] ∧ 0 ≤ D.a ∧ Sv K H [p, cl] H1 (px p cl ns D) [] := ⟨none, ⟨a, b, c, d + 1⟩, rfl, ha, st⟩
    refine st.rd 0 ?_
    refine iteD (fun hr => ?_) (fun hr => ?_)
    · refine st.rd 0 ?_
      refine st.rd 0 ?_
      refine len_L (st.sq 1 rfl) ?_
      simp only [List.length_map]
      refine iteD (fun hr2 => ?_) (fun hr2 => ?_)
      · refine st.rd 0 ?_
        refine st.rd 0 ?_
        obtain ⟨x, _, hx⟩ := at_int (ns := ns) (i := a) ha hr2
        refine ix_L (st.sq 1 rfl) ?_ (hv := hx)
        refine st.rd 0 ?_
        refine st.wr 0 (px p cl ns ⟨a + 1, b, c, d + 1⟩) fun H2 st => ?_
        unfold px pkF at st
        walk_at "nm"
        walk_at "g1"
        refine iteD (fun hr3 => ?_) (fun hr3 => ?_)
        · walk_at "g1"
          walk_at "g1"
          walk_at "g1"
          generalize x % ((10 : Int) ^ Int.toNat 60) ^ Int.toNat 15 = r
          refine st.wr 0 (px p cl ns ⟨a + 1, r, c, d + 1⟩) fun H3 st => ?_
          exact fin _ _ ⟨some (.int x), ⟨a + 1, r, c, d + 1⟩, rfl, by show 0 ≤ a + 1; omega, st⟩
        · refine st.rd 0 ?_
          walk_at "g1"
          walk_at "g1"
          refine st.wr 0 (px p cl ns ⟨a + 1, b, (c * 131 + x) % 2147483647, d + 1⟩) fun H3 st => ?_
          exact fin _ _ ⟨some (.int x), ⟨a + 1, b, _, d + 1⟩, rfl, by show 0 ≤ a + 1; omega, st⟩
      · exact fin _ _ no
    · exact fin _ _ no
  case rest =>
    rintro σ H2 ⟨x2, ⟨a, b, c, d⟩, rfl, ha, st⟩
    have ha : 0 ≤ a := ha
    unfold px pkF at st
    refine st.rd 0 ?_
    refine iteD (fun hr => ?_) (fun hr => ?_)
    · refine st.rd 0 ?_
      refine ⟨h0, ?_⟩
      refine st.rd 0 ?_
      refine ⟨dv _, ?_⟩
      refine st.wr 0 (px p cl ns ⟨a, b / n, c, d⟩) fun H3 st => ?_
      exact q _ ⟨a, b / n, c, d⟩ _ ha (Int.emod_nonneg _ (by omega)) (Int.emod_lt_of_pos _ h0) st
    · refine st.rd 0 ?_
      refine st.rd 0 ?_
      refine use_mixed (fun m m0 m1 => ?_) h0 h1
      exact q _ ⟨a, b, c, d⟩ _ ha m0 m1 st
theorem use_draw {H0 H : Hp} {A : List Addr} {p cl : Addr} {ns : List Int} {D : PD} {L : List (Addr × HO)} {T : List (V × PyData)} {x y : V} {n : Int} {Q : VK} {E : XK} (st : Sv K H0 A H (px p cl ns D ++ L) T) (ha : 0 ≤ D.a) (hl : ns.length ≤ 63)
    (k : ∀ H' D' x, 0 ≤ D'.a → 0 ≤ x → x < n → Sv K H0 A H' (px p cl ns D' ++ L) T → Q (.int x) H') (ex : x = .ref p := by rfl) (ey : y = .int n := by rfl) (h1 : 0 < n := by first | decide | omega) (h2 : n < 1073741824 := by first | decide | omega) : sp_draw K x y H Q E := by
  subst ex ey
  unfold sp_draw
  exact ⟨p, cl, ns, D, n, rfl, rfl, h1, h2, ha, hl, st.cellsF, fun H' D' x a1 a2 a3 u => k H' D' x a1 a2 a3 (st.call (T' := []) u)⟩
end
end Wk

namespace Wk
open PySem PySem.Spec PyProof.Rows L2
local macro_rules | `(tactic| walk_at "vk") => `(tactic| repeat (first | exact vk_nil | exact vk_here | refine vk_past ?_))
local macro_rules | `(tactic| walk_at "pk") => `(tactic| repeat (first | exact pk_nil | exact pk_here | refine pk_past ?_))
local macro_rules | `(tactic| walk_at "lk") => `(tactic| repeat (first | exact lk_nil | exact lk_here | refine lk_past ?_))
local macro_rules | `(tactic| walk_at "pf") => `(tactic| repeat (first | exact put_nil | exact put_here | refine put_past ?_))
local macro_rules | `(tactic| walk_at "nm") => `(tactic| try dsimp only [gNm, setK, uAdd, uSub, tNext, Option.getD, tC, uNe, uEq, uLe, uLt, uGe, uGt, uIs, uIsnt])
local macro_rules | `(tactic| walk_at "sub") => `(tactic| repeat first | exact List.nil_sublist _ | exact .slnil | apply List.Sublist.cons₂ | apply List.Sublist.cons)
local macro_rules | `(tactic| walk_at "ar") => `(tactic| first
  | decide
  | exact Nat.le_of_lt (sl_lt (by first | decide | omega))
  | exact .inl (.inr ⟨by first | decide | omega, by first | decide | omega⟩)
  | exact .inl (.inl ⟨by first | decide | omega, by first | decide | omega⟩)
  | exact .inl ⟨by first | decide | omega, by first | decide | omega⟩
  | exact ⟨by first | decide | omega, by first | decide | omega⟩
  | exact ⟨by first | decide | omega, by first | decide | omega, by first | decide | omega⟩
  | exact ⟨by first | decide | omega, by first | decide | omega, by first | decide | omega, by first | decide | omega⟩
  | exact ⟨by first | decide | omega, by first | decide | omega, by first | decide | omega, by first | decide | omega, by first | decide | omega⟩
  | exact .inr ⟨by decide, by decide +kernel⟩
  | omega
  | exact sl_lt (by omega))
local macro_rules | `(tactic| walk_at "g1") => `(tactic| refine And.intro (by walk_at "ar") ?_)
local macro_rules | `(tactic| walk_at "go") => `(tactic| repeat (refine And.intro (by walk_at "ar") ?_))
section
variable {P : Program} {w : World} {K : PySem.W.Frag} {mg : Str → Option Value} {base : Heap}

/-! ### a taker as plain data -/
structure Tk where
  w : Int
  n : Int
  e : Int
  rd : List Int
  hd : Bool
  kp : List (Int × Option Int)
def itV : Option Int → V
  | none => .non
  | some i => .int i
def kpK (kp : List (Int × Option Int)) : List (Key × V) := kp.map fun q => (Sum.inl q.1, itV q.2)
def lkp : List (Int × Option Int) → Int → Option (Option Int)
  | [], _ => none
  | (k, v) :: r, i => if k = i then some v else lkp r i
def dropp (kp : List (Int × Option Int)) (i : Int) : List (Int × Option Int) := kp.filter fun q => decide (q.1 ≠ i)
theorem val_kp (i : Int) : ∀ kp, valV (kpK kp) (.inl i) = (lkp kp i).map itV
  | [] => rfl
  | (k, v) :: r => by
    show valV ((Sum.inl k, itV v) :: kpK r) _ = (if k = i then some v else lkp r i).map itV
    by_cases e : k = i
    · rw [if_pos e, valV_pos (by rw [e])]
      rfl
    · rw [if_neg e, valV_neg (fun x => e (Sum.inl.inj x)), val_kp i r]
theorem drop_kp (i : Int) : ∀ kp, dropK (kpK kp) (.inl i) = kpK (dropp kp i)
  | [] => rfl
  | (k, v) :: r => by
    have ih := drop_kp i r
    unfold dropK dropp kpK at ih ⊢
    rw [List.map_cons, List.filter_cons, List.filter_cons]
    by_cases e : k = i
    · rw [if_neg (by simp [e]), if_neg (by simp [e])]
      exact ih
    · rw [if_pos (by simp [e]), if_pos (by simp [e]), List.map_cons, ih]
theorem put_kp {kp : List (Int × Option Int)} {i : Int} {it : Option Int} (h : lkp kp i = none) : putK (kpK kp) (.inl i) (itV it) = kpK (kp ++ [(i, it)]) := by
  rw [putK_new _ (by rw [val_kp, h]; rfl)]
  unfold kpK
  rw [List.map_append]
  rfl
theorem kpK_len (kp : List (Int × Option Int)) : (kpK kp).length = kp.length := by unfold kpK; simp
theorem lkp_mem {i : Int} {v : Option Int} : ∀ {kp}, lkp kp i = some v → (i, v) ∈ kp
  | (k, x) :: r, h => by
    unfold lkp at h
    by_cases e : k = i
    · rw [if_pos e] at h
      cases h
      rw [e]
      exact List.mem_cons_self ..
    · rw [if_neg e] at h
      exact List.mem_cons_of_mem _ (lkp_mem h)
theorem dropp_lt {i : Int} {v : Option Int} {kp : List (Int × Option Int)} (h : lkp kp i = some v) : (dropp kp i).length < kp.length := by
  unfold dropp
  refine List.length_filter_lt_length_iff_exists.mpr ⟨_, lkp_mem h, by simp⟩
def mv (s : Tk) : Tk := match lkp s.kp s.e with
  | none => s
  | some none => { s with e := s.e + 1, hd := true, kp := [] }
  | some (some i) => { s with e := s.e + 1, rd := s.rd ++ [i], kp := dropp s.kp s.e }
def mvs : Nat → Tk → Tk
  | 0, s => s
  | k + 1, s => match lkp s.kp s.e with
    | none => s
    | some _ => mvs k (mv s)
theorem mv_lt {s : Tk} {v : Option Int} (h : lkp s.kp s.e = some v) : (mv s).kp.length < s.kp.length := by
  have hl := dropp_lt h
  unfold mv
  rw [h]
  cases v with
  | none => exact Nat.lt_of_le_of_lt (Nat.zero_le _) hl
  | some i => exact hl
theorem mvs_none {s : Tk} (h : lkp s.kp s.e = none) : ∀ k, mvs k s = s
  | 0 => rfl
  | k + 1 => by
    unfold mvs
    rw [h]
theorem mvs_some {s : Tk} {v : Option Int} {k : Nat} (h : lkp s.kp s.e = some v) : mvs (k + 1) s = mvs k (mv s) := by
  show (match lkp s.kp s.e with
    | none => s
    | some _ => mvs k (mv s)) = _
  rw [h]
theorem mvs_st : ∀ k s j, s.kp.length ≤ k → s.kp.length ≤ j → mvs k s = mvs j s
  | 0, s, j, h, _ => by
    have e : s.kp = [] := List.eq_nil_of_length_eq_zero (by omega)
    have hn : lkp s.kp s.e = none := by rw [e]; rfl
    rw [mvs_none hn, mvs_none hn]
  | k + 1, s, j, h, hj => by
    cases hn : lkp s.kp s.e with
    | none => rw [mvs_none hn, mvs_none hn]
    | some v =>
      have hl := mv_lt hn
      obtain ⟨j, rfl⟩ : ∃ i, j = i + 1 := ⟨j - 1, by omega⟩
      rw [mvs_some hn, mvs_some hn]
      exact mvs_st k (mv s) j (by omega) (by omega)
/-! ### a taker in the heap -/
abbrev TA (K : PySem.W.Frag) : Addr := He.ga K "Taker"
def tkF (s : Tk) (r kd : Addr) : List (Str × V) := [("window", .int s.w), ("numbers", .int s.n), ("expected", .int s.e), ("ready", .ref r), ("heard", .bl s.hd), ("_kept", .ref kd)]
def tk (K : PySem.W.Frag) (t dx r kd : Addr) (s : Tk) : List (Addr × HO) := [(t, .ins (TA K) dx (tkF s r kd)), (r, .lst (s.rd.map V.int)), (kd, .dK (kpK s.kp))]
@[irreducible] def sp_ring_index : Sp3 := fun x0 x1 x2 H Q _ => ∃ (i j n : Int), x0 = .int i ∧ x1 = .int j ∧ x2 = .int n ∧ 0 < n ∧ Q (.int (i + (j - i) % n)) H
theorem ok_ring_index (e : Txt K mg) : Fok P w K mg base 1 (He.ga K "ring_index") ["low", "number", "size"] (mk3 sp_ring_index) := by
  refine der_ring_index e fun a0 a1 a2 H Q E h => ?_
  unfold sp_ring_index at h
  obtain ⟨i, j, n, rfl, rfl, rfl, h0, q⟩ := h
  refine ⟨h0, ?_⟩
  exact q
theorem use_ring_index {x y z : V} {i j n : Int} {H : Hp} {Q : VK} {E : XK} (q : Q (.int (i + (j - i) % n)) H) (h0 : 0 < n) (e : x = .int i := by rfl) (e2 : y = .int j := by rfl) (e3 : z = .int n := by rfl) : sp_ring_index x y z H Q E := by
  unfold sp_ring_index
  exact ⟨i, j, n, e, e2, e3, h0, q⟩
@[irreducible] def sp_init (K : PySem.W.Frag) : Sp3 := fun x0 x1 x2 H Q _ => ∃ (t dx : Addr) (w n : Int), x0 = .ref t ∧ x1 = .int w ∧ x2 = .int n ∧ Cells H [(t, .ins (TA K) dx [])] ∧
  ∀ H' r kd, Sv K H [t] H' (tk K t dx r kd ⟨w, n, 0, [], false, []⟩) [] → Q .non H'
theorem ok_init (e : Txt K mg) : Fok P w K mg base 1 (He.ma K (He.ga K "Taker") "__init__") ["self", "window", "numbers"] (mk3 (sp_init K)) := by
  refine der_Taker___init__ e fun a0 a1 a2 H Q E h => ?_
  unfold sp_init at h
  obtain ⟨t, dx, w, n, rfl, rfl, rfl, hc, q⟩ := h
  have st : Sv K H [t] H [(t, .ins (TA K) dx [])] [] := hc.sv
  refine st.putFl 0 [(t, .ins (TA K) dx [("window", .int w)])] fun H1 st => ?_
  refine st.putFl 0 [(t, .ins (TA K) dx [("window", .int w), ("numbers", .int n)])] fun H1 st => ?_
  refine st.putFl 0 [(t, .ins (TA K) dx [("window", .int w), ("numbers", .int n), ("expected", .int 0)])] fun H1 st => ?_
  refine st.lst fun r H2 st => ?_
  refine st.putFl 1 [(r, .lst []), (t, .ins (TA K) dx [("window", .int w), ("numbers", .int n), ("expected", .int 0), ("ready", .ref r)])] fun H1 st => ?_
  refine st.putFl 1 [(r, .lst []), (t, .ins (TA K) dx [("window", .int w), ("numbers", .int n), ("expected", .int 0), ("ready", .ref r), ("heard", .bl false)])] fun H1 st => ?_
  refine st.nwK fun kd H2 st => ?_
  refine st.putFl 2 [(kd, .dK []), (r, .lst []), (t, .ins (TA K) dx [("window", .int w), ("numbers", .int n), ("expected", .int 0), ("ready", .ref r), ("heard", .bl false), ("_kept", .ref kd)])] fun H1 st => ?_
  exact q _ r kd (st.ord [2, 1, 0])
@[irreducible] def sp_room (K : PySem.W.Frag) : Sp1 := fun x0 H Q _ => ∃ (t dx r kd : Addr) (s : Tk), x0 = .ref t ∧ H t = some (.ins (TA K) dx (tkF s r kd)) ∧ SqL K H r (s.rd.map V.int) ∧ Q (.int (s.w - s.rd.length)) H
theorem ok_room (e : Txt K mg) : Fok P w K mg base 1 (pg K (He.ga K "Taker") "room") ["self"] (mk1 (sp_room K)) := by
  refine der_Taker_room e fun a0 H Q E h => ?_
  unfold sp_room at h
  obtain ⟨t, dx, r, kd, s, rfl, ht, hr, q⟩ := h
  unfold tkF at ht
  refine fl_H ht ?_
  refine fl_H ht ?_
  refine len_L hr ?_
  simp only [List.length_map]
  exact q
theorem use_room {x : V} {t dx r kd : Addr} {s : Tk} {H : Hp} {Q : VK} {E : XK} (ht : H t = some (.ins (TA K) dx (tkF s r kd))) (hr : SqL K H r (s.rd.map V.int)) (q : Q (.int (s.w - s.rd.length)) H) (e : x = .ref t := by rfl) : sp_room K x H Q E := by
  subst e
  unfold sp_room
  exact ⟨t, dx, r, kd, s, rfl, ht, hr, q⟩
@[irreducible] def sp_move (K : PySem.W.Frag) : Sp1 := fun x0 H Q _ => ∃ (t dx r kd : Addr) (s : Tk), x0 = .ref t ∧ s.rd.length + s.kp.length < 1000 ∧ Cells H (tk K t dx r kd s) ∧
  ∀ H' kd', Sv K H [t, r, kd] H' (tk K t dx r kd' (mvs s.kp.length s)) [] → Q .non H'
theorem ok_move (e : Txt K mg) : Fok P w K mg base 1 (He.ma K (He.ga K "Taker") "_move") ["self"] (mk1 (sp_move K)) := by
  refine der_Taker__move e fun a0 H Q E h => ?_
  unfold sp_move at h
  obtain ⟨t, dx, r, kd, s, rfl, hl, hc, q⟩ := h
  have st : Sv K H [t, r, kd] H (tk K t dx r kd s) [] := hc.sv
  refine ⟨fun m σ H' => ∃ s' kd' x1, σ = [some (.ref t), x1] ∧ m = s'.kp.length ∧ s'.rd.length + s'.kp.length < 1000 ∧ mvs s.kp.length s = mvs s'.kp.length s' ∧ Sv K H [t, r, kd] H' (tk K t dx r kd' s') [], ⟨_, s, kd, none, rfl, rfl, hl, rfl, st⟩, ?_⟩
  rintro m σ H1 ⟨s', kd', x1, rfl, rfl, hl, hm, st⟩
  obtain ⟨w, n, e, rd, hd, kp⟩ := s'
  have hl : rd.length + kp.length < 1000 := hl
  unfold tk tkF at st
  refine st.fl 0 ?_
  refine st.fl 0 ?_
  refine st.inK 2 (.inl e) ?_
  rw [val_kp]
  cases hk : lkp kp e with
  | none =>
    have hn := mvs_none (s := ⟨w, n, e, rd, hd, kp⟩) hk
    rw [hn] at hm
    refine q _ kd' ?_
    rw [hm]
    exact st
  | some v =>
    have hs := mvs_some (s := ⟨w, n, e, rd, hd, kp⟩) (k := kp.length - 1) hk
    have hlt := mv_lt (s := ⟨w, n, e, rd, hd, kp⟩) hk
    have hlt : (mv ⟨w, n, e, rd, hd, kp⟩).kp.length < kp.length := hlt
    have e1 : kp.length - 1 + 1 = kp.length := by omega
    rw [e1] at hs
    have hst := mvs_st (kp.length - 1) (mv ⟨w, n, e, rd, hd, kp⟩) (mv ⟨w, n, e, rd, hd, kp⟩).kp.length (by omega) (by omega)
    rw [hst] at hs
    have hm : mvs s.kp.length s = mvs kp.length ⟨w, n, e, rd, hd, kp⟩ := hm
    rw [hs] at hm
    generalize hs2 : mv ⟨w, n, e, rd, hd, kp⟩ = s2 at hm hlt
    have fin : ∀ {H' : Hp} {kd' : Addr} {x1 : Option V}, s2.rd.length + s2.kp.length < 1000 → Sv K H [t, r, kd] H' (tk K t dx r kd' s2) [] → ∃ m', m' < kp.length ∧ ∃ s' kd' x1', [some (V.ref t), x1] = [some (.ref t), x1'] ∧ m' = s'.kp.length ∧ s'.rd.length + s'.kp.length < 1000 ∧ mvs s.kp.length s = mvs s'.kp.length s' ∧ Sv K H [t, r, kd] H' (tk K t dx r kd' s') [] :=
      fun h st => ⟨_, hlt, s2, _, _, rfl, rfl, h, hm, st⟩
    refine ⟨fun σ' H' => ∃ m', m' < kp.length ∧ ∃ s' kd' x1', σ' = [some (V.ref t), x1'] ∧ m' = s'.kp.length ∧ s'.rd.length + s'.kp.length < 1000 ∧ mvs s.kp.length s = mvs s'.kp.length s' ∧ Sv K H [t, r, kd] H' (tk K t dx r kd' s') [], fun σ' H' h => h, ?_⟩
    refine st.fl 0 ?_
    refine ⟨st.isK 2, ?_⟩
    refine st.fl 0 ?_
    refine st.popK 2 (.inl e) [(t, .ins (TA K) dx (tkF ⟨w, n, e, rd, hd, kp⟩ r kd')), (r, .lst (rd.map V.int)), (kd', .dK (kpK (dropp kp e)))] (v := itV v) (by rw [val_kp, hk]; rfl) (fun H2 st => ?_) (hL := by rw [drop_kp]; rfl)
    unfold tkF at st
    refine st.fl 0 ?_
    refine st.putFl 0 [(t, .ins (TA K) dx (tkF ⟨w, n, e + 1, rd, hd, kp⟩ r kd')), (r, .lst (rd.map V.int)), (kd', .dK (kpK (dropp kp e)))] fun H3 st => ?_
    unfold tkF at st
    cases v with
    | none =>
      have e2 : s2 = ⟨w, n, e + 1, rd, true, []⟩ := by
        rw [← hs2]
        unfold mv
        rw [show lkp (Tk.mk w n e rd hd kp).kp (Tk.mk w n e rd hd kp).e = some none from hk]
      refine st.putFl 0 [(t, .ins (TA K) dx (tkF ⟨w, n, e + 1, rd, true, kp⟩ r kd')), (r, .lst (rd.map V.int)), (kd', .dK (kpK (dropp kp e)))] fun H4 st => ?_
      unfold tkF at st
      refine st.nwK fun kd2 H5 st => ?_
      refine st.putFl 1 [(kd2, .dK []), (t, .ins (TA K) dx (tkF ⟨w, n, e + 1, rd, true, []⟩ r kd2)), (r, .lst (rd.map V.int)), (kd', .dK (kpK (dropp kp e)))] fun H6 st => ?_
      refine fin (kd' := kd2) (by rw [e2]; show rd.length + 0 < 1000; omega) ?_
      rw [e2]
      have st := st.ord [1, 2, 0, 3] (L' := [(t, .ins (TA K) dx (tkF ⟨w, n, e + 1, rd, true, []⟩ r kd2)), (r, .lst (rd.map V.int)), (kd2, .dK []), (kd', .dK (kpK (dropp kp e)))])
      exact st.sub (.cons₂ _ (.cons₂ _ (.cons₂ _ (List.nil_sublist _))))
    | some i =>
      have e2 : s2 = ⟨w, n, e + 1, rd ++ [i], hd, dropp kp e⟩ := by
        rw [← hs2]
        unfold mv
        rw [show lkp (Tk.mk w n e rd hd kp).kp (Tk.mk w n e rd hd kp).e = some (some i) from hk]
      refine st.fl 0 ?_
      refine ⟨st.tyL 1, ?_⟩
      refine st.app 1 [(t, .ins (TA K) dx (tkF ⟨w, n, e + 1, rd, hd, kp⟩ r kd')), (r, .lst (rd.map V.int ++ [V.int i])), (kd', .dK (kpK (dropp kp e)))] (fun H6 st => ?_) (hx := by simp; omega)
      refine fin (kd' := kd') ?_ ?_
      · rw [e2]
        rw [e2] at hlt
        have hlt : (dropp kp e).length < kp.length := hlt
        show (rd ++ [i]).length + (dropp kp e).length < 1000
        simp
        omega
      · rw [e2]
        have e3 : rd.map V.int ++ [V.int i] = (rd ++ [i]).map V.int := by simp
        rw [e3] at st
        exact st
theorem use_move {H0 H : Hp} {A : List Addr} {L : List (Addr × HO)} {T : List (V × PyData)} {x : V} {t dx r kd : Addr} {s : Tk} {Q : VK} {E : XK} (st : Sv K H0 A H (tk K t dx r kd s ++ L) T) (hl : s.rd.length + s.kp.length < 1000)
    (q : ∀ H' kd', Sv K H0 A H' (tk K t dx r kd' (mvs s.kp.length s) ++ L) T → Q .non H') (e : x = .ref t := by rfl) : sp_move K x H Q E := by
  subst e
  unfold sp_move
  exact ⟨t, dx, r, kd, s, rfl, hl, st.cellsF, fun H' kd' u => q H' kd' (st.call (T' := []) u)⟩
/-- what a take does: the taker behind it, the answer -/
def ahd (s : Tk) (number : Int) : Int := (number - s.e) % s.n
def tkt (s : Tk) (number : Int) (it : Option Int) : Tk × Bool :=
  if s.hd = true then (s, false) else if ahd s number ≥ s.w - s.rd.length then (s, false) else if (lkp s.kp (s.e + ahd s number)).isSome = true then (s, false) else
    (mvs (s.kp.length + 1) { s with kp := s.kp ++ [(s.e + ahd s number, it)] }, true)
@[irreducible] def sp_take (K : PySem.W.Frag) : Sp3 := fun x0 x1 x2 H Q _ => ∃ (t dx r kd : Addr) (s : Tk) (j : Int) (it : Option Int), x0 = .ref t ∧ x1 = .int j ∧ x2 = itV it ∧ 0 < s.n ∧ s.rd.length + s.kp.length < 900 ∧ Cells H (tk K t dx r kd s) ∧
  ∀ H' kd', Sv K H [t, r, kd] H' (tk K t dx r kd' (tkt s j it).1) [] → Q (.bl (tkt s j it).2) H'
theorem ok_take (e : Txt K mg) : Fok P w K mg base 3 (He.ma K (He.ga K "Taker") "take") ["self", "number", "item"] (mk3 (sp_take K)) := by
  refine der_Taker_take e (ok_ring_index e) (ok_move e) (ok_room e) fun a0 a1 a2 H Q E h => ?_
  unfold sp_take at h
  obtain ⟨t, dx, r, kd, s, j, it, rfl, rfl, rfl, h0, hl, hc, q⟩ := h
  have st : Sv K H [t, r, kd] H (tk K t dx r kd s) [] := hc.sv
  unfold tk tkF at st
  refine st.fl 0 ?_
  unfold tkt at q
  cases hhd : s.hd with
  | true =>
    rw [if_pos hhd] at q
    exact q _ kd st
  | false =>
    rw [if_neg (by rw [hhd]; exact Bool.false_ne_true)] at q
    refine st.fl 0 ?_
    refine st.fl 0 ?_
    refine ⟨h0, ?_⟩
    refine st.obj 0 ?_
    refine use_room (s := s) (st.at 0 rfl) (st.sq 1 rfl) ?_
    refine iteD (fun hr => ?_) (fun hr => ?_)
    · have hr : ahd s j ≥ s.w - s.rd.length := hr
      rw [if_pos hr] at q
      exact q _ kd st
    · have hr : ¬ ahd s j ≥ s.w - s.rd.length := hr
      rw [if_neg hr] at q
      refine st.fl 0 ?_
      refine st.fl 0 ?_
      refine use_ring_index ?_ h0
      refine st.fl 0 ?_
      refine st.inK 2 (.inl (s.e + ahd s j)) ?_
      rw [val_kp]
      cases hk : lkp s.kp (s.e + ahd s j) with
      | some v =>
        rw [hk] at q
        exact q _ kd st
      | none =>
        rw [hk] at q
        refine st.fl 0 ?_
        refine st.setK 2 (.inl (s.e + ahd s j)) [(t, .ins (TA K) dx (tkF { s with kp := s.kp ++ [(s.e + ahd s j, it)] } r kd)), (r, .lst (s.rd.map V.int)), (kd, .dK (kpK (s.kp ++ [(s.e + ahd s j, it)])))] (fun H2 st => ?_) (hL := by rw [put_kp hk]; rfl) (hn := by rw [kpK_len]; omega)
        have st : Sv K H [t, r, kd] H2 (tk K t dx r kd { s with kp := s.kp ++ [(s.e + ahd s j, it)] } ++ []) [] := st
        refine Sv.ins (m := "_move") st 0 ?_ (by rfl) (by rfl) (by unfold tkF; walk_at "lk")
        refine use_move st (by show s.rd.length + (s.kp ++ [_]).length < 1000; simp; omega) fun H3 kd3 st => ?_
        have e1 : (s.kp ++ [(s.e + ahd s j, it)]).length = s.kp.length + 1 := by simp
        have st : Sv K H [t, r, kd] H3 (tk K t dx r kd3 (mvs (s.kp ++ [(s.e + ahd s j, it)]).length { s with kp := s.kp ++ [(s.e + ahd s j, it)] }) ++ []) [] := st
        rw [e1, List.append_nil] at st
        exact q _ kd3 st
end
end Wk

namespace Wk
open PySem PySem.Spec PyProof.Rows L2
local macro_rules | `(tactic| walk_at "vk") => `(tactic| repeat (first | exact vk_nil | exact vk_here | refine vk_past ?_))
local macro_rules | `(tactic| walk_at "pk") => `(tactic| repeat (first | exact pk_nil | exact pk_here | refine pk_past ?_))
local macro_rules | `(tactic| walk_at "lk") => `(tactic| repeat (first | exact lk_nil | exact lk_here | refine lk_past ?_))
local macro_rules | `(tactic| walk_at "pf") => `(tactic| repeat (first | exact put_nil | exact put_here | refine put_past ?_))
local macro_rules | `(tactic| walk_at "nm") => `(tactic| try dsimp only [gNm, setK, uAdd, uSub, tNext, Option.getD, tC, uNe, uEq, uLe, uLt, uGe, uGt, uIs, uIsnt])
local macro_rules | `(tactic| walk_at "sub") => `(tactic| repeat first | exact List.nil_sublist _ | exact .slnil | apply List.Sublist.cons₂ | apply List.Sublist.cons)
local macro_rules | `(tactic| walk_at "ar") => `(tactic| first
  | decide
  | exact Nat.le_of_lt (sl_lt (by first | decide | omega))
  | exact .inl (.inr ⟨by first | decide | omega, by first | decide | omega⟩)
  | exact .inl (.inl ⟨by first | decide | omega, by first | decide | omega⟩)
  | exact .inl ⟨by first | decide | omega, by first | decide | omega⟩
  | exact ⟨by first | decide | omega, by first | decide | omega⟩
  | exact ⟨by first | decide | omega, by first | decide | omega, by first | decide | omega⟩
  | exact ⟨by first | decide | omega, by first | decide | omega, by first | decide | omega, by first | decide | omega⟩
  | exact ⟨by first | decide | omega, by first | decide | omega, by first | decide | omega, by first | decide | omega, by first | decide | omega⟩
  | exact .inr ⟨by decide, by decide +kernel⟩
  | omega
  | exact sl_lt (by omega))
local macro_rules | `(tactic| walk_at "g1") => `(tactic| refine And.intro (by walk_at "ar") ?_)
local macro_rules | `(tactic| walk_at "go") => `(tactic| repeat (refine And.intro (by walk_at "ar") ?_))
section
variable {P : Program} {w : World} {K : PySem.W.Frag} {mg : Str → Option Value} {base : Heap}

theorem use_take {H0 H : Hp} {A : List Addr} {L : List (Addr × HO)} {T : List (V × PyData)} {x y z : V} {t dx r kd : Addr} {s : Tk} {j : Int} {it : Option Int} {Q : VK} {E : XK} (st : Sv K H0 A H (tk K t dx r kd s ++ L) T) (h0 : 0 < s.n) (hl : s.rd.length + s.kp.length < 900)
    (q : ∀ H' kd', Sv K H0 A H' (tk K t dx r kd' (tkt s j it).1 ++ L) T → Q (.bl (tkt s j it).2) H') (e : x = .ref t := by rfl) (e2 : y = .int j := by rfl) (e3 : z = itV it := by rfl) : sp_take K x y z H Q E := by
  subst e e2 e3
  unfold sp_take
  exact ⟨t, dx, r, kd, s, j, it, rfl, rfl, rfl, h0, hl, st.cellsF, fun H' kd' u => q H' kd' (st.call (T' := []) u)⟩
theorem use_init {H0 H : Hp} {A : List Addr} {L : List (Addr × HO)} {T : List (V × PyData)} {x y z : V} {t dx : Addr} {w n : Int} {Q : VK} {E : XK} (st : Sv K H0 A H ([(t, .ins (TA K) dx [])] ++ L) T)
    (q : ∀ H' r kd, Sv K H0 A H' (tk K t dx r kd ⟨w, n, 0, [], false, []⟩ ++ L) T → Q .non H') (e : x = .ref t := by rfl) (e2 : y = .int w := by rfl) (e3 : z = .int n := by rfl) : sp_init K x y z H Q E := by
  subst e e2 e3
  unfold sp_init
  exact ⟨t, dx, w, n, rfl, rfl, rfl, st.cellsF, fun H' r kd u => q H' r kd (st.call (T' := []) u)⟩
/-! ### read, told, kept -/
@[irreducible] def sp_rd (K : PySem.W.Frag) : Sp2 := fun x0 x1 H Q _ => ∃ (t dx r kd : Addr) (s : Tk) (c : Nat), x0 = .ref t ∧ (x1 = .int c ∨ x1 = .non ∧ c = s.rd.length) ∧ s.rd.length < 1000 ∧ Cells H (tk K t dx r kd s) ∧
  ∀ H' l, Sv K H [t, r, kd] H' (tk K t dx r kd { s with rd := s.rd.drop c } ++ [(l, .lst ((s.rd.take c).map V.int))]) [] → Q (.ref l) H'
theorem ok_rd (e : Txt K mg) : Fok P w K mg base 1 (He.ma K (He.ga K "Taker") "read") ["self", "count"] (mk2 (sp_rd K)) := by
  refine der_Taker_read e fun a0 a1 H Q E h => ?_
  unfold sp_rd at h
  obtain ⟨t, dx, r, kd, s, c, rfl, hx, hl, hc, q⟩ := h
  have st : Sv K H [t, r, kd] H (tk K t dx r kd s) [] := hc.sv
  unfold tk tkF at st
  walk_at "nm"
  refine cut (fun σ H' => σ = [some (.ref t), some (.int c), none] ∧ H' = H) ?rest (fun fin => ?stm)
  case stm =>
    rcases hx with rfl | ⟨rfl, rfl⟩
    · exact fin _ _ ⟨rfl, rfl⟩
    · refine st.fl 0 ?_
      refine len_L (st.sq 1 rfl) ?_
      simp only [List.length_map]
      exact fin _ _ ⟨rfl, rfl⟩
  case rest =>
    rintro σ H1 ⟨rfl, rfl⟩
    refine st.fl 0 ?_
    refine st.sl (es := (s.rd.take c).map V.int) (st.sq 1 rfl) (by rw [cut_hi (by omega), List.map_take]; rfl) fun l H2 st => ?_
    refine st.fl 1 ?_
    refine st.delF 2 ((l, .lst ((s.rd.take c).map V.int)) :: tk K t dx r kd { s with rd := s.rd.drop c }) (fun H3 st => ?_) (hL := by rw [← List.map_drop]; rfl)
    exact q _ l (st.perm (List.perm_append_singleton _ _))
theorem use_rd {H0 H : Hp} {A : List Addr} {L : List (Addr × HO)} {T : List (V × PyData)} {x y : V} {t dx r kd : Addr} {s : Tk} (c : Nat) {Q : VK} {E : XK} (st : Sv K H0 A H (tk K t dx r kd s ++ L) T) (hy : y = .int c ∨ y = .non ∧ c = s.rd.length) (hl : s.rd.length < 1000)
    (q : ∀ H' l, Sv K H0 A H' ((tk K t dx r kd { s with rd := s.rd.drop c } ++ [(l, .lst ((s.rd.take c).map V.int))]) ++ L) T → Q (.ref l) H') (e : x = .ref t := by rfl) : sp_rd K x y H Q E := by
  subst e
  unfold sp_rd
  exact ⟨t, dx, r, kd, s, c, rfl, hy, hl, st.cellsF, fun H' l u => q H' l (st.call (T' := []) u)⟩
@[irreducible] def sp_told (K : PySem.W.Frag) : Sp1 := fun x0 H Q _ => ∃ (t dx r kd : Addr) (s : Tk), x0 = .ref t ∧ 0 < s.n ∧ H t = some (.ins (TA K) dx (tkF s r kd)) ∧ SqL K H r (s.rd.map V.int) ∧
  ∀ H' v, Sv K H [] H' [] [(v, .tuple [.int (s.e % s.n), .int (s.w - s.rd.length)])] → Q v H'
theorem ok_told (e : Txt K mg) : Fok P w K mg base 3 (He.ma K (He.ga K "Taker") "told") ["self"] (mk1 (sp_told K)) := by
  refine der_Taker_told e (ok_room e) fun a0 H Q E h => ?_
  unfold sp_told at h
  obtain ⟨t, dx, r, kd, s, rfl, h0, ht, hr, q⟩ := h
  have st : Sv K H [] H [] [] := Sv.start0
  have ht2 := ht
  unfold tkF at ht
  refine fl_H ht ?_
  refine fl_H ht ?_
  refine ⟨h0, ?_⟩
  refine obj_H ht ?_
  refine use_room ht2 hr ?_
  refine st.tup (.cons (.int _) (.cons (.int _) .nil)) fun v H1 st => ?_
  exact q _ _ st
theorem use_told {H0 H : Hp} {A : List Addr} {L : List (Addr × HO)} {T : List (V × PyData)} {x : V} {t dx r kd : Addr} {s : Tk} {Q : VK} {E : XK} (st : Sv K H0 A H L T) (h0 : 0 < s.n) (ht : H t = some (.ins (TA K) dx (tkF s r kd))) (hr : SqL K H r (s.rd.map V.int))
    (q : ∀ H' v, Sv K H0 A H' L ((v, .tuple [.int (s.e % s.n), .int (s.w - s.rd.length)]) :: T) → Q v H') (e : x = .ref t := by rfl) : sp_told K x H Q E := by
  subst e
  unfold sp_told
  exact ⟨t, dx, r, kd, s, rfl, h0, ht, hr, fun H' v u => q H' v (st.call0 u)⟩
def itD : Option Int → PyData
  | none => .none
  | some i => .int i
theorem dt_it (H : Hp) (a : Option Int) : Dt K H (itV a) (itD a) := by
  cases a with
  | none => exact .non
  | some i => exact .int i
def prD (kp : List (Int × Option Int)) (y : Int) : PyData := .tuple [.int y, itD ((lkp kp y).getD none)]
theorem lkp_some {i : Int} : ∀ {kp : List (Int × Option Int)}, i ∈ kp.map (·.1) → ∃ v, lkp kp i = some v
  | [], h => by cases h
  | (k, x) :: r, h => by
    unfold lkp
    by_cases e : k = i
    · exact ⟨x, if_pos e⟩
    · rw [if_neg e]
      refine lkp_some ?_
      rw [List.map_cons, List.mem_cons] at h
      rcases h with h | h
      · exact absurd h.symm e
      · exact h
def Srt (kp : List (Int × Option Int)) (ys : List Int) : Prop := ys.Perm (kp.map (·.1)) ∧ ys.Pairwise (· ≤ ·)
theorem Srt.eq {kp : List (Int × Option Int)} {ys zs : List Int} (h : Srt kp ys) (h2 : Srt kp zs) : ys = zs :=
  List.Perm.eq_of_pairwise (le := (· ≤ ·)) (fun a b _ _ h1 h2 => Int.le_antisymm h1 h2) h.2 h2.2 (h.1.trans h2.1.symm)
theorem kp_keys (kp : List (Int × Option Int)) : (kpK kp).map (·.1) = (kp.map (·.1)).map Sum.inl := by
  unfold kpK
  rw [List.map_map, List.map_map]
  rfl
@[irreducible] def sp_kept (K : PySem.W.Frag) : Sp1 := fun x0 H Q _ => ∃ (t dx r kd : Addr) (s : Tk), x0 = .ref t ∧ s.kp.length < 60 ∧ H t = some (.ins (TA K) dx (tkF s r kd)) ∧ H kd = some (.dK (kpK s.kp)) ∧
  ∀ H' l vs ys, Srt s.kp ys → vs.length = ys.length → Sv K H [] H' [(l, .lst vs)] (vs.zip (ys.map (prD s.kp))) → Q (.ref l) H'
theorem ok_kept (e : Txt K mg) : Fok P w K mg base 1 (He.ma K (He.ga K "Taker") "kept") ["self"] (mk1 (sp_kept K)) := by
  refine der_Taker_kept e fun a0 H Q E h => ?_
  unfold sp_kept at h
  obtain ⟨t, dx, r, kd, s, rfl, hl, ht, hk, q⟩ := h
  have st : Sv K H [] H [] [] := Sv.start0
  unfold tkF at ht
  refine fl_H ht ?_
  refine st.sortK hk (kp_keys s.kp) (by simp; omega) fun p ys H1 h1 h2 st => ?_
  have hy : ys.length < 60 := by have := h1.length_eq; simp at this; omega
  refine lcS (fun l k H' => ∃ vs : List V, vs.length = k ∧ Sv K H [] H' [(l, .lst vs), (p, .lst (ys.map V.int))] (vs.zip ((ys.take k).map (prD s.kp)))) (st.sq 0 rfl) (fun l hl => ⟨[], rfl, by have := (st.new hl (.lst [])).noT; exact this⟩) (fun l k H' _ h => by obtain ⟨_, _, st⟩ := h; exact st.sq 1 rfl) ?_ ?_
  · rintro l k x H2 hx ⟨vs, hv, st⟩
    obtain ⟨y, rfl, hyk⟩ := map_at hx
    have hkl : k < ys.length := (List.getElem?_eq_some_iff.mp hyk).1
    have hym : y ∈ s.kp.map (·.1) := h1.mem_iff.mp (List.mem_of_getElem? hyk)
    obtain ⟨v, hvv⟩ := lkp_some hym
    refine fl_H (st.old ht (by simp)) ?_
    refine ixK_H (.inl y) (st.old hk (by simp)) (v := itV v) (by rw [val_kp, hvv]; rfl) ?_
    refine st.tup (.cons (.int y) (.cons (dt_it _ v) .nil)) fun z H3 st => ?_
    have st := st.zipEnd (ys := vs) (es := (ys.take k).map (prD s.kp)) (fun q hq => hq) (by simp; omega)
    have e1 : (ys.take k).map (prD s.kp) ++ [.tuple [.int y, itD v]] = (ys.take (k + 1)).map (prD s.kp) := by
      rw [List.take_add_one, hyk, List.map_append]
      show _ = _ ++ [prD s.kp y]
      unfold prD
      rw [hvv]
      rfl
    rw [e1] at st
    refine ⟨vs, st.at 0 rfl, sl_lt (by omega), vs ++ [V.ref z], by simp; exact hv, ?_⟩
    exact st.put 0 rfl trivial _
  · rintro l H2 ⟨vs, hv, st⟩
    rw [List.length_map] at hv
    rw [List.length_map, List.take_length] at st
    exact q _ l vs ys ⟨h1, h2⟩ hv (st.sub (.cons₂ _ (List.nil_sublist _)))
theorem use_kept {H0 H : Hp} {A : List Addr} {L : List (Addr × HO)} {T : List (V × PyData)} {x : V} {t dx r kd : Addr} {s : Tk} {Q : VK} {E : XK} (st : Sv K H0 A H L T) (hl : s.kp.length < 60) (ht : H t = some (.ins (TA K) dx (tkF s r kd))) (hk : H kd = some (.dK (kpK s.kp)))
    (q : ∀ H' l vs ys, Srt s.kp ys → vs.length = ys.length → Sv K H0 A H' ((l, .lst vs) :: L) (vs.zip (ys.map (prD s.kp)) ++ T) → Q (.ref l) H') (e : x = .ref t := by rfl) : sp_kept K x H Q E := by
  subst e
  unfold sp_kept
  exact ⟨t, dx, r, kd, s, rfl, hl, ht, hk, fun H' l vs ys a b u => q H' l vs ys a b (st.call0 u)⟩
end
end Wk

namespace Wk
open PySem PySem.Spec PyProof.Rows L2
local macro_rules | `(tactic| walk_at "vk") => `(tactic| repeat (first | exact vk_nil | exact vk_here | refine vk_past ?_))
local macro_rules | `(tactic| walk_at "pk") => `(tactic| repeat (first | exact pk_nil | exact pk_here | refine pk_past ?_))
local macro_rules | `(tactic| walk_at "lk") => `(tactic| repeat (first | exact lk_nil | exact lk_here | refine lk_past ?_))
local macro_rules | `(tactic| walk_at "pf") => `(tactic| repeat (first | exact put_nil | exact put_here | refine put_past ?_))
local macro_rules | `(tactic| walk_at "nm") => `(tactic| try dsimp only [gNm, setK, uAdd, uSub, tNext, Option.getD, tC, uNe, uEq, uLe, uLt, uGe, uGt, uIs, uIsnt])
local macro_rules | `(tactic| walk_at "sub") => `(tactic| repeat first | exact List.nil_sublist _ | exact .slnil | apply List.Sublist.cons₂ | apply List.Sublist.cons)
local macro_rules | `(tactic| walk_at "ar") => `(tactic| first
  | decide
  | exact Nat.le_of_lt (sl_lt (by first | decide | omega))
  | exact .inl (.inr ⟨by first | decide | omega, by first | decide | omega⟩)
  | exact .inl (.inl ⟨by first | decide | omega, by first | decide | omega⟩)
  | exact .inl ⟨by first | decide | omega, by first | decide | omega⟩
  | exact ⟨by first | decide | omega, by first | decide | omega⟩
  | exact ⟨by first | decide | omega, by first | decide | omega, by first | decide | omega⟩
  | exact ⟨by first | decide | omega, by first | decide | omega, by first | decide | omega, by first | decide | omega⟩
  | exact ⟨by first | decide | omega, by first | decide | omega, by first | decide | omega, by first | decide | omega, by first | decide | omega⟩
  | exact .inr ⟨by decide, by decide +kernel⟩
  | omega
  | exact sl_lt (by omega))
local macro_rules | `(tactic| walk_at "g1") => `(tactic| refine And.intro (by walk_at "ar") ?_)
local macro_rules | `(tactic| walk_at "go") => `(tactic| repeat (refine And.intro (by walk_at "ar") ?_))
section
variable {P : Program} {w : World} {K : PySem.W.Frag} {mg : Str → Option Value} {base : Heap}

/-! ### the law's table -/
def tbF (s : Tk) (r kd : Addr) (lv : Int) (ll : Addr) : List (Key × V) := [(.inr "window", .int s.w), (.inr "numbers", .int s.n), (.inr "expected", .int s.e), (.inr "ready", .ref r), (.inr "heard", .bl s.hd), (.inr "held", .ref kd), (.inr "level", .int lv), (.inr "lists", .ref ll)]
def tc (p r kd : Addr) (s : Tk) (lv : Int) (ll : Addr) : List (Addr × HO) := [(p, .dK (tbF s r kd lv ll)), (r, .lst (s.rd.map V.int)), (kd, .dK (kpK s.kp))]
@[irreducible] def sp_table (K : PySem.W.Frag) : Sp2 := fun x0 x1 H Q _ => ∃ (w n : Int), x0 = .int w ∧ x1 = .int n ∧
  ∀ H' p r kd ll, Sv K H [] H' (tc p r kd ⟨w, n, 0, [], false, []⟩ w ll ++ [(ll, .lst [])]) [] → Q (.ref p) H'
theorem ok_table (e : Txt K mg) : Fok P w K mg base 1 (He.ga K "_law_table") ["window", "numbers"] (mk2 (sp_table K)) := by
  refine der__law_table e fun a0 a1 H Q E h => ?_
  unfold sp_table at h
  obtain ⟨w, n, rfl, rfl, q⟩ := h
  have st : Sv K H [] H [] [] := Sv.start0
  refine st.nwP fun p H1 st => ?_
  refine st.lst fun r H1 st => ?_
  refine st.record 1 [(.inr "window", .int w), (.inr "numbers", .int n), (.inr "expected", .int 0), (.inr "ready", .ref r), (.inr "heard", .bl false)] [.inr "window", .inr "numbers", .inr "expected", .inr "ready", .inr "heard"] [(r, .lst []), (p, .dK [(.inr "window", .int w), (.inr "numbers", .int n), (.inr "expected", .int 0), (.inr "ready", .ref r), (.inr "heard", .bl false)])] fun H2 st => ?_
  refine st.nwK fun kd H3 st => ?_
  refine st.wr 2 [(kd, .dK []), (r, .lst []), (p, .dK [(.inr "window", .int w), (.inr "numbers", .int n), (.inr "expected", .int 0), (.inr "ready", .ref r), (.inr "heard", .bl false), (.inr "held", .ref kd)])] fun H3 st => ?_
  refine st.wr 2 [(kd, .dK []), (r, .lst []), (p, .dK [(.inr "window", .int w), (.inr "numbers", .int n), (.inr "expected", .int 0), (.inr "ready", .ref r), (.inr "heard", .bl false), (.inr "held", .ref kd), (.inr "level", .int w)])] fun H3 st => ?_
  refine st.lst fun ll H4 st => ?_
  refine st.wr 3 [(ll, .lst []), (kd, .dK []), (r, .lst []), (p, .dK (tbF ⟨w, n, 0, [], false, []⟩ r kd w ll))] fun H5 st => ?_
  exact q _ p r kd ll (st.ord [3, 2, 1, 0])
theorem use_table {H0 H : Hp} {A : List Addr} {L : List (Addr × HO)} {T : List (V × PyData)} {x y : V} {w n : Int} {Q : VK} {E : XK} (st : Sv K H0 A H L T)
    (q : ∀ H' p r kd ll, Sv K H0 A H' ((tc p r kd ⟨w, n, 0, [], false, []⟩ w ll ++ [(ll, .lst [])]) ++ L) T → Q (.ref p) H') (e : x = .int w := by rfl) (e2 : y = .int n := by rfl) : sp_table K x y H Q E := by
  subst e e2
  unfold sp_table
  exact ⟨w, n, rfl, rfl, fun H' p r kd ll u => q H' p r kd ll (st.call0 u)⟩
@[irreducible] def sp_taken (K : PySem.W.Frag) : Sp3 := fun x0 x1 x2 H Q _ => ∃ (p r kd ll : Addr) (s : Tk) (lv : Int) (j : Int) (it : Option Int), x0 = .ref p ∧ x1 = .int j ∧ x2 = itV it ∧ 0 < s.n ∧ s.kp.length ≤ 4 ∧ s.rd.length < 900 ∧ (s.hd = true → s.kp = []) ∧ Cells H (tc p r kd s lv ll) ∧
  ∀ H' r' kd', Sv K H [p, r, kd] H' (tc p r' kd' (tkt s j it).1 lv ll) [] → Q (.bl (tkt s j it).2) H'
theorem ok_taken (e : Txt K mg) : Fok P w K mg base 1 (He.ga K "_law_taken") ["table", "number", "item"] (mk3 (sp_taken K)) := by
  refine der__law_taken e fun a0 a1 a2 H Q E h => ?_
  unfold sp_taken at h
  obtain ⟨p, r, kd, ll, s, lv, j, it, rfl, rfl, rfl, h0, hl, hl2, hhk, hc, q⟩ := h
  have st : Sv K H [p, r, kd] H (tc p r kd s lv ll) [] := hc.sv
  unfold tc tbF at st
  refine st.rd 0 ?_
  refine st.rd 0 ?_
  refine st.rd 0 ?_
  refine ⟨h0, ?_⟩
  refine st.rd 0 ?_
  refine st.rd 0 ?_
  unfold tkt at q
  cases hhd : s.hd with
  | true =>
    rw [if_pos hhd] at q
    exact q _ r kd st
  | false =>
    rw [if_neg (by rw [hhd]; exact Bool.false_ne_true)] at q
    refine st.rd 0 ?_
    refine st.rd 0 ?_
    refine len_L (st.sq 1 rfl) ?_
    simp only [List.length_map]
    refine iteD (fun hr => ?_) (fun hr => ?_)
    · have hr : ahd s j ≥ s.w - s.rd.length := hr
      rw [if_pos hr] at q
      exact q _ r kd st
    · have hr : ¬ ahd s j ≥ s.w - s.rd.length := hr
      rw [if_neg hr] at q
      refine st.inK 2 (.inl (s.e + ahd s j)) ?_
      rw [val_kp]
      cases hk : lkp s.kp (s.e + ahd s j) with
      | some v =>
        rw [hk] at q
        exact q _ r kd st
      | none =>
        rw [hk] at q
        refine st.setK 2 (.inl (s.e + ahd s j)) (tc p r kd { s with kp := s.kp ++ [(s.e + ahd s j, it)] } lv ll) (fun H2 st => ?_) (hL := by rw [put_kp hk]; rfl) (hn := by rw [kpK_len]; omega)
        generalize hs1 : ({ s with kp := s.kp ++ [(s.e + ahd s j, it)] } : Tk) = s1 at q st
        have hq : ∀ H' r' kd', Sv K H [p, r, kd] H' (tc p r' kd' (mvs 6 s1) lv ll) [] → Q (.bl true) H' := fun H' r' kd' st => by
          refine q H' r' kd' ?_
          have e1 : s1.kp.length = s.kp.length + 1 := by rw [← hs1]; simp
          rw [mvs_st (s.kp.length + 1) s1 6 (by omega) (by omega)]
          exact st
        have hk1 : s1.rd.length < 900 ∧ s1.hd = false := by rw [← hs1]; exact ⟨hl2, hhd⟩
        refine ⟨by walk_at "ar", ?_⟩
        refine forR0 (fun k σ H' => ∃ (s' : Tk) (r' kd' kh : Addr) (x6 x7 : Option V) (R : List (Addr × HO)), σ = [some (.ref p), some (.int j), some (itV it), some (.ref kh), some (.int (ahd s j)), some (.int (s.e + ahd s j)), x6, x7] ∧ mvs 6 s1 = mvs (6 - k) s' ∧ s'.rd.length < 900 + k ∧ (s'.hd = true → s'.kp = []) ∧ (s'.hd = false → kh = kd') ∧
          Sv K H [p, r, kd] H' (tc p r' kd' s' lv ll ++ R) []) ⟨s1, r, kd, kd, none, none, [], rfl, rfl, by omega, fun h => (by rw [hk1.2] at h; cases h), fun _ => rfl, st⟩ ?_ ?_
        · rintro k σ H3 hk6 ⟨s', r', kd', kh, x6, x7, R, rfl, hm, hr9, hh, hkh, st⟩
          have hk6 : k < 6 := hk6
          have stop : lkp s'.kp s'.e = none → Q (.bl true) H3 := fun hn => by
            refine hq _ r' kd' ?_
            rw [hm, mvs_none hn]
            exact st.sub (List.sublist_append_left _ _)
          obtain ⟨w, n, e, rd, hd, kp⟩ := s'
          have hr9 : rd.length < 900 + k := hr9
          have st0 : Sv K H [p, r, kd] H3 (tc p r' kd' ⟨w, n, e, rd, hd, kp⟩ lv ll ++ R) [] := st
          unfold tc tbF at st
          refine st.rd 0 ?_
          cases hd with
          | true =>
            have hkp : kp = [] := hh rfl
            refine stop ?_
            rw [show (Tk.mk w n e rd true kp).kp = [] from hkp]
            rfl
          | false =>
            have hkh : kh = kd' := hkh rfl
            subst hkh
            refine st.rd 0 ?_
            refine st.notInK 2 (.inl e) ?_
            rw [val_kp]
            cases hv : lkp kp e with
            | none => exact stop hv
            | some v =>
              refine ⟨st.isK 2, ?_⟩
              refine st.rd 0 ?_
              refine st.popK 2 (.inl e) ((p, .dK (tbF ⟨w, n, e, rd, false, kp⟩ r' kh lv ll)) :: (r', .lst (rd.map V.int)) :: (kh, .dK (kpK (dropp kp e))) :: R) (v := itV v) (by rw [val_kp, hv]; rfl) (fun H4 st => ?_) (hL := by rw [drop_kp]; rfl)
              unfold tbF at st
              refine st.rd 0 ?_
              refine st.wr 0 ((p, .dK (tbF ⟨w, n, e + 1, rd, false, kp⟩ r' kh lv ll)) :: (r', .lst (rd.map V.int)) :: (kh, .dK (kpK (dropp kp e))) :: R) fun H5 st => ?_
              unfold tbF at st
              have hk7 : 6 - k = (6 - (k + 1)) + 1 := by omega
              rw [hk7, mvs_some (s := ⟨w, n, e, rd, false, kp⟩) hv] at hm
              generalize hs2 : mv ⟨w, n, e, rd, false, kp⟩ = s2 at hm
              cases v with
              | none =>
                have e2 : s2 = ⟨w, n, e + 1, rd, true, []⟩ := by
                  rw [← hs2]
                  unfold mv
                  rw [show lkp (Tk.mk w n e rd false kp).kp (Tk.mk w n e rd false kp).e = some none from hv]
                refine st.wr 0 ((p, .dK (tbF ⟨w, n, e + 1, rd, true, kp⟩ r' kh lv ll)) :: (r', .lst (rd.map V.int)) :: (kh, .dK (kpK (dropp kp e))) :: R) fun H6 st => ?_
                unfold tbF at st
                refine st.nwK fun kd2 H7 st => ?_
                refine st.wr 1 ((kd2, .dK []) :: (p, .dK (tbF ⟨w, n, e + 1, rd, true, []⟩ r' kd2 lv ll)) :: (r', .lst (rd.map V.int)) :: (kh, .dK (kpK (dropp kp e))) :: R) fun H8 st => ?_
                have st := st.perm (L' := tc p r' kd2 ⟨w, n, e + 1, rd, true, []⟩ lv ll ++ (kh, .dK (kpK (dropp kp e))) :: R) (((List.Perm.swap _ _ _).cons _).trans (List.Perm.swap _ _ _))
                refine ⟨s2, r', kd2, kh, _, _, (kh, .dK (kpK (dropp kp e))) :: R, rfl, hm, (by rw [e2]; show rd.length < _; omega), fun _ => (by rw [e2]), fun h => (by rw [e2] at h; cases h), ?_⟩
                rw [e2]
                exact st
              | some i =>
                have e2 : s2 = ⟨w, n, e + 1, rd ++ [i], false, dropp kp e⟩ := by
                  rw [← hs2]
                  unfold mv
                  rw [show lkp (Tk.mk w n e rd false kp).kp (Tk.mk w n e rd false kp).e = some (some i) from hv]
                refine st.rd 0 ?_
                refine st.lst fun l1 H6 st => ?_
                refine st.cat (st.at 2 rfl) (st.at 0 rfl) (by simp; omega) fun r2 H7 st => ?_
                have e3 : rd.map V.int ++ [itV (some i)] = (rd ++ [i]).map V.int := by
                  rw [List.map_append]
                  rfl
                rw [e3] at st
                refine st.wr 2 ((r2, .lst ((rd ++ [i]).map V.int)) :: (l1, .lst [itV (some i)]) :: (p, .dK (tbF ⟨w, n, e + 1, rd ++ [i], false, kp⟩ r2 kh lv ll)) :: (r', .lst (rd.map V.int)) :: (kh, .dK (kpK (dropp kp e))) :: R) fun H8 st => ?_
                have st := ((st.pull 4 rfl).pull 1 rfl).pull 3 rfl
                have st : Sv K H [p, r, kd] H8 (tc p r2 kh ⟨w, n, e + 1, rd ++ [i], false, dropp kp e⟩ lv ll ++ ((l1, .lst [itV (some i)]) :: (r', .lst (rd.map V.int)) :: R)) [] := st
                refine ⟨s2, r2, kh, kh, _, _, (l1, .lst [itV (some i)]) :: (r', .lst (rd.map V.int)) :: R, rfl, hm, (by rw [e2]; show (rd ++ [i]).length < _; simp; omega), fun h => (by rw [e2] at h; cases h), fun _ => rfl, ?_⟩
                rw [e2]
                exact st
        · rintro σ H3 ⟨s', r', kd', kh, x6, x7, R, rfl, hm, hr9, hh, hkh, st⟩
          have hm : mvs 6 s1 = s' := hm
          refine hq _ r' kd' ?_
          rw [hm]
          exact st.sub (List.sublist_append_left _ _)
end
end Wk

namespace Wk
open PySem PySem.Spec PyProof.Rows L2
local macro_rules | `(tactic| walk_at "vk") => `(tactic| repeat (first | exact vk_nil | exact vk_here | refine vk_past ?_))
local macro_rules | `(tactic| walk_at "pk") => `(tactic| repeat (first | exact pk_nil | exact pk_here | refine pk_past ?_))
local macro_rules | `(tactic| walk_at "lk") => `(tactic| repeat (first | exact lk_nil | exact lk_here | refine lk_past ?_))
local macro_rules | `(tactic| walk_at "pf") => `(tactic| repeat (first | exact put_nil | exact put_here | refine put_past ?_))
local macro_rules | `(tactic| walk_at "nm") => `(tactic| try dsimp only [gNm, setK, uAdd, uSub, tNext, Option.getD, tC, uNe, uEq, uLe, uLt, uGe, uGt, uIs, uIsnt])
local macro_rules | `(tactic| walk_at "sub") => `(tactic| repeat first | exact List.nil_sublist _ | exact .slnil | apply List.Sublist.cons₂ | apply List.Sublist.cons)
local macro_rules | `(tactic| walk_at "ar") => `(tactic| first
  | decide
  | exact Nat.le_of_lt (sl_lt (by first | decide | omega))
  | exact .inl (.inr ⟨by first | decide | omega, by first | decide | omega⟩)
  | exact .inl (.inl ⟨by first | decide | omega, by first | decide | omega⟩)
  | exact .inl ⟨by first | decide | omega, by first | decide | omega⟩
  | exact ⟨by first | decide | omega, by first | decide | omega⟩
  | exact ⟨by first | decide | omega, by first | decide | omega, by first | decide | omega⟩
  | exact ⟨by first | decide | omega, by first | decide | omega, by first | decide | omega, by first | decide | omega⟩
  | exact ⟨by first | decide | omega, by first | decide | omega, by first | decide | omega, by first | decide | omega, by first | decide | omega⟩
  | exact .inr ⟨by decide, by decide +kernel⟩
  | omega
  | exact sl_lt (by omega))
local macro_rules | `(tactic| walk_at "g1") => `(tactic| refine And.intro (by walk_at "ar") ?_)
local macro_rules | `(tactic| walk_at "go") => `(tactic| repeat (refine And.intro (by walk_at "ar") ?_))
section
variable {P : Program} {w : World} {K : PySem.W.Frag} {mg : Str → Option Value} {base : Heap}

theorem use_taken {H0 H : Hp} {A : List Addr} {L : List (Addr × HO)} {T : List (V × PyData)} {x y z : V} {p r kd ll : Addr} {s : Tk} {lv j : Int} {it : Option Int} {Q : VK} {E : XK} (st : Sv K H0 A H (tc p r kd s lv ll ++ L) T) (h0 : 0 < s.n) (hl : s.kp.length ≤ 4) (hl2 : s.rd.length < 900) (hh : s.hd = true → s.kp = [])
    (q : ∀ H' r' kd', Sv K H0 A H' (tc p r' kd' (tkt s j it).1 lv ll ++ L) T → Q (.bl (tkt s j it).2) H') (e : x = .ref p := by rfl) (e2 : y = .int j := by rfl) (e3 : z = itV it := by rfl) : sp_taken K x y z H Q E := by
  subst e e2 e3
  unfold sp_taken
  exact ⟨p, r, kd, ll, s, lv, j, it, rfl, rfl, rfl, h0, hl, hl2, hh, st.cellsF, fun H' r' kd' u => q H' r' kd' (st.call (T' := []) u)⟩
@[irreducible] def sp_same_list (K : PySem.W.Frag) : Sp2 := fun x0 x1 H Q _ => ∃ (a b : Addr) (ns : List Int), x0 = .ref a ∧ x1 = .ref b ∧ ns.length < 10000 ∧ SqL K H a (ns.map V.int) ∧ SqL K H b (ns.map V.int) ∧ Q (.bl true) H
theorem ok_same_list (e : Txt K mg) : Fok P w K mg base 2 (He.ga K "_law_same_list") ["actual", "want"] (mk2 (sp_same_list K)) := by
  refine der__law_same_list e (ok_is_number e) fun a0 a1 H Q E h => ?_
  unfold sp_same_list at h
  obtain ⟨a, b, ns, rfl, rfl, hl, h1, h2, q⟩ := h
  refine isiL h1 ?_
  refine len_L h1 ?_
  refine len_L h2 ?_
  simp only [List.length_map]
  refine iteND (fun hz => absurd rfl hz) (fun _ => ?_)
  refine len_L h2 ?_
  simp only [List.length_map]
  refine ⟨by omega, ?_⟩
  refine forR0 (fun k σ H' => H' = H ∧ ∃ x, σ = [some (.ref a), some (.ref b), x]) ⟨rfl, none, rfl⟩ ?_ ?_
  · rintro k σ H1 hk ⟨rfl, x, rfl⟩
    obtain ⟨n, _, hn⟩ := at_int (ns := ns) (i := (k : Int)) (by omega) (by omega)
    refine ix_L h1 ?_ (hv := hn)
    refine use_is_number ?_
    refine ix_L h1 ?_ (hv := hn)
    refine ix_L h2 ?_ (hv := hn)
    refine iteND (fun hz => absurd rfl hz) (fun _ => ?_)
    exact ⟨rfl, _, rfl⟩
  · rintro σ H1 ⟨rfl, x, rfl⟩
    exact q
theorem use_same_list {x y : V} {a b : Addr} {ns : List Int} {H : Hp} {Q : VK} {E : XK} (h1 : SqL K H a (ns.map V.int)) (h2 : SqL K H b (ns.map V.int)) (hl : ns.length < 10000) (q : Q (.bl true) H) (e : x = .ref a := by rfl) (e2 : y = .ref b := by rfl) : sp_same_list K x y H Q E := by
  subst e e2
  unfold sp_same_list
  exact ⟨a, b, ns, rfl, rfl, hl, h1, h2, q⟩
@[irreducible] def sp_same_pair (K : PySem.W.Frag) : Sp2 := fun x0 x1 H Q _ => ∃ (v u : V) (y : Int) (o : Option Int), x0 = v ∧ x1 = u ∧ Dt K H v (.tuple [.int y, itD o]) ∧ Dt K H u (.tuple [.int y, itD o]) ∧ Q (.bl true) H
theorem ok_same_pair (e : Txt K mg) : Fok P w K mg base 2 (He.ga K "_law_same_pair") ["actual", "want"] (mk2 (sp_same_pair K)) := by
  refine der__law_same_pair e (ok_is_number e) fun a0 a1 H Q E h => ?_
  unfold sp_same_pair at h
  obtain ⟨v, u, y, o, rfl, rfl, h1, h2, q⟩ := h
  obtain ⟨p1, xs1, rfl, _⟩ := h1.eqT
  obtain ⟨p2, xs2, rfl, _⟩ := h2.eqT
  refine h1.isiT ?_
  refine h1.len ?_
  walk_at "nm"
  refine iteND (fun hz => absurd rfl hz) (fun _ => ?_)
  refine h1.ixI ?_
  refine use_is_number ?_
  refine h2.ix fun z hz => ?_
  cases o with
  | none =>
    have := hz.eqN
    subst this
    refine h1.ixI ?_
    refine h2.ixI ?_
    refine iteD (fun _ => ?_) (fun hz => absurd rfl hz)
    refine h1.ix fun z2 hz2 => ?_
    have := hz2.eqN
    subst this
    exact q
  | some i =>
    have := hz.eqI
    subst this
    refine h1.ix fun z2 hz2 => ?_
    have := hz2.eqI
    subst this
    refine use_is_number ?_
    refine h1.ixI ?_
    refine h2.ixI ?_
    refine iteD (fun _ => ?_) (fun hz => absurd rfl hz)
    refine h1.ix fun z2 hz2 => ?_
    have := hz2.eqI
    subst this
    refine h2.ix fun z2 hz2 => ?_
    have := hz2.eqI
    subst this
    show Q (.bl (decide (i = i))) H
    rw [decide_eq_true rfl]
    exact q
theorem use_same_pair {v u : V} {y : Int} {o : Option Int} {H : Hp} {Q : VK} {E : XK} (h1 : Dt K H v (.tuple [.int y, itD o])) (h2 : Dt K H u (.tuple [.int y, itD o])) (q : Q (.bl true) H) : sp_same_pair K v u H Q E := by
  unfold sp_same_pair
  exact ⟨v, u, y, o, rfl, rfl, h1, h2, q⟩
/-- a taker, a table that stand -/
structure HT (K : PySem.W.Frag) (H : Hp) (t dx r kd : Addr) (s : Tk) : Prop where
  t : H t = some (.ins (TA K) dx (tkF s r kd))
  r : SqL K H r (s.rd.map V.int)
  k : H kd = some (.dK (kpK s.kp))
structure HB (K : PySem.W.Frag) (H : Hp) (p r kd ll : Addr) (s : Tk) (lv : Int) : Prop where
  p : H p = some (.dK (tbF s r kd lv ll))
  r : SqL K H r (s.rd.map V.int)
  k : H kd = some (.dK (kpK s.kp))
theorem HT.keep {H0 H : Hp} {L : List (Addr × HO)} {T : List (V × PyData)} {t dx r kd : Addr} {s : Tk} (h : HT K H0 t dx r kd s) (st : Sv K H0 [] H L T) : HT K H t dx r kd s := ⟨st.old h.t (by simp), st.oldL h.r (by simp), st.old h.k (by simp)⟩
theorem HB.keep {H0 H : Hp} {L : List (Addr × HO)} {T : List (V × PyData)} {p r kd ll : Addr} {s : Tk} {lv : Int} (h : HB K H0 p r kd ll s lv) (st : Sv K H0 [] H L T) : HB K H p r kd ll s lv := ⟨st.old h.p (by simp), st.oldL h.r (by simp), st.old h.k (by simp)⟩
@[irreducible] def sp_same_kept (K : PySem.W.Frag) : Sp2 := fun x0 x1 H Q _ => ∃ (t dx r kd p r2 kd2 ll : Addr) (s : Tk) (lv : Int), x0 = .ref t ∧ x1 = .ref p ∧ s.kp.length < 60 ∧ HT K H t dx r kd s ∧ HB K H p r2 kd2 ll s lv ∧ ∀ H', Sv K H [] H' [] [] → Q (.bl true) H'
theorem ok_same_kept (e : Txt K mg) : Fok P w K mg base 3 (He.ga K "_law_same_kept") ["taker", "table"] (mk2 (sp_same_kept K)) := by
  refine der__law_same_kept e (ok_kept e) (ok_same_pair e) fun a0 a1 H Q E h => ?_
  unfold sp_same_kept at h
  obtain ⟨t, dx, r, kd, p, r2, kd2, ll, s, lv, rfl, rfl, hl, ht, hb, q⟩ := h
  have st : Sv K H [] H [] [] := Sv.start0
  have hp := hb.p
  unfold tbF at hp
  refine rd_H hp ?_
  refine st.sortK hb.k (kp_keys s.kp) (by simp; omega) fun sl ys H1 h1 h2 st => ?_
  have hy : ys.length < 60 := by have := h1.length_eq; simp at this; omega
  refine lcS (fun l k H' => ∃ vs : List V, vs.length = k ∧ Sv K H [] H' [(l, .lst vs), (sl, .lst (ys.map V.int))] (vs.zip ((ys.take k).map (prD s.kp)))) (st.sq 0 rfl) (fun l hl => ⟨[], rfl, by have := (st.new hl (.lst [])).noT; exact this⟩) (fun l k H' _ h => by obtain ⟨_, _, st⟩ := h; exact st.sq 1 rfl) ?_ ?_
  · rintro l k x H2 hx ⟨vs, hv, st⟩
    obtain ⟨y, rfl, hyk⟩ := map_at hx
    have hkl : k < ys.length := (List.getElem?_eq_some_iff.mp hyk).1
    have hym : y ∈ s.kp.map (·.1) := h1.mem_iff.mp (List.mem_of_getElem? hyk)
    obtain ⟨v, hvv⟩ := lkp_some hym
    refine ixK_H (.inl y) (st.old hb.k (by simp)) (v := itV v) (by rw [val_kp, hvv]; rfl) ?_
    refine st.tup (.cons (.int y) (.cons (dt_it _ v) .nil)) fun z H3 st => ?_
    have st := st.zipEnd (ys := vs) (es := (ys.take k).map (prD s.kp)) (fun q hq => hq) (by simp; omega)
    have e1 : (ys.take k).map (prD s.kp) ++ [.tuple [.int y, itD v]] = (ys.take (k + 1)).map (prD s.kp) := by
      rw [List.take_add_one, hyk, List.map_append]
      show _ = _ ++ [prD s.kp y]
      unfold prD
      rw [hvv]
      rfl
    rw [e1] at st
    refine ⟨vs, st.at 0 rfl, sl_lt (by omega), vs ++ [V.ref z], by simp; exact hv, ?_⟩
    exact st.put 0 rfl trivial _
  · rintro wl H2 ⟨vs, hv, st⟩
    rw [List.length_map] at hv
    rw [List.length_map, List.take_length] at st
    have st := st.sub (L' := [(wl, .lst vs)]) (.cons₂ _ (List.nil_sublist _))
    refine ⟨by walk_at "ar", ?_⟩
    refine forR0 (fun k σ H' => ∃ (x4 x5 x6 : Option V) (L : List (Addr × HO)), σ = [some (.ref t), some (.ref p), some (.ref kd2), some (.ref wl), x4, x5, x6, none] ∧ Sv K H [] H' ((wl, .lst vs) :: L) (vs.zip (ys.map (prD s.kp)))) ⟨none, none, none, [], rfl, st⟩ ?_ ?_
    · rintro k σ H3 hk ⟨x4, x5, x6, L, rfl, st⟩
      refine ins_H (ht.keep st).t ?_
      refine use_kept st hl (ht.keep st).t (ht.keep st).k fun H4 l vs2 ys2 hs2 hv2 st => ?_
      have e1 : ys2 = ys := hs2.eq ⟨h1, h2⟩
      subst e1
      refine isiL (st.sq 0 rfl) ?_
      refine len_L (st.sq 0 rfl) ?_
      refine len_L (st.sq 1 rfl) ?_
      rw [hv, hv2]
      refine iteND (fun hz => absurd rfl hz) (fun _ => ?_)
      refine len_L (st.sq 1 rfl) ?_
      rw [hv]
      refine ⟨by omega, ?_⟩
      refine forR0 (fun j σ H' => H' = H4 ∧ ∃ x6, σ = [some (.ref t), some (.ref p), some (.ref kd2), some (.ref wl), some (.int k), some (.ref l), x6, none]) ⟨rfl, _, rfl⟩ ?_ ?_
      · rintro j σ H5 hj ⟨rfl, x6, rfl⟩
        have hj : j < ys2.length := by omega
        have g : ∀ (us : List V), us.length = ys2.length → (∀ q ∈ us.zip (ys2.map (prD s.kp)), Dt K H5 q.1 q.2) → ∃ u, us[j]? = some u ∧ Dt K H5 u (prD s.kp ys2[j]) := fun us hu hd => by
          have hj2 : j < us.length := by omega
          refine ⟨us[j], List.getElem?_eq_getElem hj2, hd (us[j], prD s.kp ys2[j]) (List.mem_of_getElem? (i := j) ?_)⟩
          rw [List.getElem?_zip_eq_some]
          exact ⟨List.getElem?_eq_getElem hj2, by simp [hj]⟩
        obtain ⟨u1, hu1, d1⟩ := g vs2 hv2 fun q hq => st.dat q (List.mem_append_left _ hq)
        obtain ⟨u2, hu2, d2⟩ := g vs hv fun q hq => st.dat q (List.mem_append_right _ hq)
        refine ix_L (st.sq 0 rfl) ?_ (hv := at_pos hu1)
        refine ix_L (st.sq 1 rfl) ?_ (hv := at_pos hu2)
        refine use_same_pair d1 d2 ?_
        exact ⟨rfl, _, rfl⟩
      · rintro σ H5 ⟨rfl, x6, rfl⟩
        refine ⟨st.tyL 0, ?_⟩
        refine st.tup (.cons (.int _) (.cons .non .nil)) fun z H6 st => ?_
        refine st.app 0 ((l, .lst (vs2 ++ [.ref z])) :: (wl, .lst vs) :: L) (fun H7 st => ?_) (hx := by omega)
        exact ⟨_, _, _, (l, .lst (vs2 ++ [.ref z])) :: L, rfl, (st.perm (List.Perm.swap _ _ _)).setT _ fun q hq => st.dat q (List.mem_cons_of_mem _ (List.mem_append_right _ hq))⟩
    · rintro σ H3 ⟨x4, x5, x6, L, rfl, st⟩
      exact q _ (st.sub (List.nil_sublist _)).noT
end
end Wk

namespace Wk
open PySem PySem.Spec PyProof.Rows L2
local macro_rules | `(tactic| walk_at "vk") => `(tactic| repeat (first | exact vk_nil | exact vk_here | refine vk_past ?_))
local macro_rules | `(tactic| walk_at "pk") => `(tactic| repeat (first | exact pk_nil | exact pk_here | refine pk_past ?_))
local macro_rules | `(tactic| walk_at "lk") => `(tactic| repeat (first | exact lk_nil | exact lk_here | refine lk_past ?_))
local macro_rules | `(tactic| walk_at "pf") => `(tactic| repeat (first | exact put_nil | exact put_here | refine put_past ?_))
local macro_rules | `(tactic| walk_at "nm") => `(tactic| try dsimp only [gNm, setK, uAdd, uSub, tNext, Option.getD, tC, uNe, uEq, uLe, uLt, uGe, uGt, uIs, uIsnt])
local macro_rules | `(tactic| walk_at "sub") => `(tactic| repeat first | exact List.nil_sublist _ | exact .slnil | apply List.Sublist.cons₂ | apply List.Sublist.cons)
local macro_rules | `(tactic| walk_at "ar") => `(tactic| first
  | decide
  | exact Nat.le_of_lt (sl_lt (by first | decide | omega))
  | exact .inl (.inr ⟨by first | decide | omega, by first | decide | omega⟩)
  | exact .inl (.inl ⟨by first | decide | omega, by first | decide | omega⟩)
  | exact .inl ⟨by first | decide | omega, by first | decide | omega⟩
  | exact ⟨by first | decide | omega, by first | decide | omega⟩
  | exact ⟨by first | decide | omega, by first | decide | omega, by first | decide | omega⟩
  | exact ⟨by first | decide | omega, by first | decide | omega, by first | decide | omega, by first | decide | omega⟩
  | exact ⟨by first | decide | omega, by first | decide | omega, by first | decide | omega, by first | decide | omega, by first | decide | omega⟩
  | exact .inr ⟨by decide, by decide +kernel⟩
  | omega
  | exact sl_lt (by omega))
local macro_rules | `(tactic| walk_at "g1") => `(tactic| refine And.intro (by walk_at "ar") ?_)
local macro_rules | `(tactic| walk_at "go") => `(tactic| repeat (refine And.intro (by walk_at "ar") ?_))
section
variable {P : Program} {w : World} {K : PySem.W.Frag} {mg : Str → Option Value} {base : Heap}

/-! ### what stays true of a taker -/
structure Iv (s : Tk) : Prop where
  w : 2 ≤ s.w ∧ s.w ≤ 4
  n : 8 ≤ s.n ∧ s.n ≤ 256
  e : 0 ≤ s.e
  nd : (s.kp.map (·.1)).Nodup
  rng : ∀ i ∈ s.kp.map (·.1), s.e ≤ i ∧ i < s.e + (s.w - s.rd.length)
  hk : s.hd = true → s.kp = []
  rl : (s.rd.length : Int) ≤ s.w
def upr (s : Tk) : Int := s.e + (s.w - s.rd.length)
theorem int_len : ∀ (n : Nat) (a : Int) (l : List Int), l.Nodup → (∀ i ∈ l, a ≤ i ∧ i < a + n) → l.length ≤ n
  | 0, a, l, _, h => by
    cases l with
    | nil => exact Nat.le_refl _
    | cons i r =>
      have := h i (by simp)
      omega
  | n + 1, a, l, nd, h => by
    by_cases m : a + n ∈ l
    · have h1 := int_len n a (l.erase (a + n)) (nd.erase _) fun i hi => by
        have hne : i ≠ a + n := fun e => by
          subst e
          exact (List.Nodup.not_mem_erase nd) hi
        have := h i (List.mem_of_mem_erase hi)
        omega
      rw [List.length_erase_of_mem m] at h1
      omega
    · have h1 := int_len n a l nd fun i hi => by
        have hne : i ≠ a + n := fun e => by subst e; exact m hi
        have := h i hi
        omega
      omega
theorem Iv.len {s : Tk} (h : Iv s) : s.kp.length ≤ 4 := by
  have h1 := int_len 4 s.e (s.kp.map (·.1)) h.nd fun i hi => by
    have := h.rng i hi
    have := h.w
    omega
  simpa using h1
theorem dropp_keys {kp : List (Int × Option Int)} {e i : Int} (h : i ∈ (dropp kp e).map (·.1)) : i ∈ kp.map (·.1) ∧ i ≠ e := by
  obtain ⟨q, hq, rfl⟩ := List.mem_map.mp h
  unfold dropp at hq
  have := List.mem_filter.mp hq
  exact ⟨List.mem_map_of_mem this.1, by simpa using this.2⟩
theorem dropp_nd {kp : List (Int × Option Int)} {e : Int} (h : (kp.map (·.1)).Nodup) : ((dropp kp e).map (·.1)).Nodup := ((List.filter_sublist).map _).nodup h
theorem lkp_key {kp : List (Int × Option Int)} {i : Int} {v : Option Int} (h : lkp kp i = some v) : i ∈ kp.map (·.1) := List.mem_map.mpr ⟨_, lkp_mem h, rfl⟩
theorem lkp_nokey {kp : List (Int × Option Int)} {i : Int} (h : lkp kp i = none) : i ∉ kp.map (·.1) := fun hm => by
  obtain ⟨v, hv⟩ := lkp_some hm
  rw [h] at hv
  cases hv
theorem Iv.mv {s : Tk} (h : Iv s) : Iv (mv s) ∧ upr s ≤ upr (mv s) ∧ (mv s).w = s.w ∧ (mv s).n = s.n ∧ s.e ≤ (mv s).e := by
  unfold Wk.mv
  cases hv : lkp s.kp s.e with
  | none => exact ⟨h, Int.le_refl _, rfl, rfl, Int.le_refl _⟩
  | some v =>
    cases v with
    | none =>
      refine ⟨⟨h.w, h.n, by show 0 ≤ s.e + 1; have := h.e; omega, List.nodup_nil, fun i hi => (by cases hi), fun _ => rfl, h.rl⟩, ?_, rfl, rfl, ?_⟩
      · show s.e + (s.w - s.rd.length) ≤ s.e + 1 + (s.w - s.rd.length)
        omega
      · show s.e ≤ s.e + 1
        omega
    | some x =>
      have hr := h.rng s.e (lkp_key hv)
      have hl : ((s.rd ++ [x]).length : Int) = s.rd.length + 1 := by simp
      refine ⟨⟨h.w, h.n, by show 0 ≤ s.e + 1; have := h.e; omega, dropp_nd h.nd, fun i hi => ?_, fun hh => ?_, by show ((s.rd ++ [x]).length : Int) ≤ s.w; omega⟩, ?_, rfl, rfl, ?_⟩
      · obtain ⟨h1, h2⟩ := dropp_keys hi
        have := h.rng i h1
        show s.e + 1 ≤ i ∧ i < s.e + 1 + (s.w - ((s.rd ++ [x]).length : Int))
        omega
      · have hh : s.hd = true := hh
        show dropp s.kp s.e = []
        rw [h.hk hh]
        rfl
      · show s.e + (s.w - s.rd.length) ≤ s.e + 1 + (s.w - ((s.rd ++ [x]).length : Int))
        omega
      · show s.e ≤ s.e + 1
        omega
theorem Iv.mvs : ∀ (k : Nat) {s : Tk}, Iv s → Iv (mvs k s) ∧ upr s ≤ upr (mvs k s) ∧ (mvs k s).w = s.w ∧ (mvs k s).n = s.n ∧ s.e ≤ (mvs k s).e
  | 0, s, h => ⟨h, Int.le_refl _, rfl, rfl, Int.le_refl _⟩
  | k + 1, s, h => by
    cases hv : lkp s.kp s.e with
    | none =>
      rw [mvs_none hv]
      exact ⟨h, Int.le_refl _, rfl, rfl, Int.le_refl _⟩
    | some v =>
      rw [mvs_some hv]
      obtain ⟨a1, a2, a3, a4, a5⟩ := h.mv
      obtain ⟨b1, b2, b3, b4, b5⟩ := Iv.mvs k a1
      exact ⟨b1, by omega, b3.trans a3, b4.trans a4, by omega⟩
theorem Iv.tkt {s : Tk} (h : Iv s) (j : Int) (it : Option Int) : Iv (tkt s j it).1 ∧ upr s ≤ upr (tkt s j it).1 ∧ (tkt s j it).1.w = s.w ∧ (tkt s j it).1.n = s.n ∧ s.e ≤ (tkt s j it).1.e := by
  have same : Iv s ∧ upr s ≤ upr s ∧ s.w = s.w ∧ s.n = s.n ∧ s.e ≤ s.e := ⟨h, Int.le_refl _, rfl, rfl, Int.le_refl _⟩
  unfold Wk.tkt
  by_cases c1 : s.hd = true
  · rw [if_pos c1]
    exact same
  rw [if_neg c1]
  by_cases c2 : ahd s j ≥ s.w - s.rd.length
  · rw [if_pos c2]
    exact same
  rw [if_neg c2]
  cases hv : lkp s.kp (s.e + ahd s j) with
  | some v => exact same
  | none =>
    have hn := h.n
    have h0 : 0 ≤ ahd s j := Int.emod_nonneg _ (by omega)
    show Iv (Wk.mvs _ _) ∧ _
    have hs : Iv { s with kp := s.kp ++ [(s.e + ahd s j, it)] } := by
      refine ⟨h.w, h.n, h.e, ?_, fun i hi => ?_, fun hh => absurd hh c1, h.rl⟩
      · show ((s.kp ++ [(s.e + ahd s j, it)]).map (·.1)).Nodup
        rw [List.map_append, List.nodup_append]
        refine ⟨h.nd, by simp, fun a ha b hb => ?_⟩
        have : b = s.e + ahd s j := by simpa using hb
        subst this
        intro e
        subst e
        exact lkp_nokey hv ha
      · have hi : i ∈ (s.kp ++ [(s.e + ahd s j, it)]).map (·.1) := hi
        rw [List.map_append, List.mem_append] at hi
        rcases hi with hi | hi
        · exact h.rng i hi
        · have : i = s.e + ahd s j := by simpa using hi
          show s.e ≤ i ∧ i < s.e + (s.w - s.rd.length)
          omega
    obtain ⟨a1, a2, a3, a4, a5⟩ := Iv.mvs (s.kp.length + 1) hs
    exact ⟨a1, a2, a3, a4, a5⟩
theorem Iv.read {s : Tk} (h : Iv s) (c : Nat) : Iv { s with rd := s.rd.drop c } ∧ upr s ≤ upr { s with rd := s.rd.drop c } := by
  have hl : (s.rd.drop c).length ≤ s.rd.length := by rw [List.length_drop]; omega
  refine ⟨⟨h.w, h.n, h.e, h.nd, fun i hi => ?_, h.hk, by show ((s.rd.drop c).length : Int) ≤ s.w; have := h.rl; omega⟩, ?_⟩
  · have := h.rng i hi
    show s.e ≤ i ∧ i < s.e + (s.w - ((s.rd.drop c).length : Int))
    omega
  · show s.e + (s.w - s.rd.length) ≤ s.e + (s.w - ((s.rd.drop c).length : Int))
    omega
end
end Wk

namespace Wk
open PySem PySem.Spec PyProof.Rows L2
local macro_rules | `(tactic| walk_at "vk") => `(tactic| repeat (first | exact vk_nil | exact vk_here | refine vk_past ?_))
local macro_rules | `(tactic| walk_at "pk") => `(tactic| repeat (first | exact pk_nil | exact pk_here | refine pk_past ?_))
local macro_rules | `(tactic| walk_at "lk") => `(tactic| repeat (first | exact lk_nil | exact lk_here | refine lk_past ?_))
local macro_rules | `(tactic| walk_at "pf") => `(tactic| repeat (first | exact put_nil | exact put_here | refine put_past ?_))
local macro_rules | `(tactic| walk_at "nm") => `(tactic| try dsimp only [gNm, setK, uAdd, uSub, tNext, Option.getD, tC, uNe, uEq, uLe, uLt, uGe, uGt, uIs, uIsnt])
local macro_rules | `(tactic| walk_at "sub") => `(tactic| repeat first | exact List.nil_sublist _ | exact .slnil | apply List.Sublist.cons₂ | apply List.Sublist.cons)
local macro_rules | `(tactic| walk_at "ar") => `(tactic| first
  | decide
  | exact Nat.le_of_lt (sl_lt (by first | decide | omega))
  | exact .inl (.inr ⟨by first | decide | omega, by first | decide | omega⟩)
  | exact .inl (.inl ⟨by first | decide | omega, by first | decide | omega⟩)
  | exact .inl ⟨by first | decide | omega, by first | decide | omega⟩
  | exact ⟨by first | decide | omega, by first | decide | omega⟩
  | exact ⟨by first | decide | omega, by first | decide | omega, by first | decide | omega⟩
  | exact ⟨by first | decide | omega, by first | decide | omega, by first | decide | omega, by first | decide | omega⟩
  | exact ⟨by first | decide | omega, by first | decide | omega, by first | decide | omega, by first | decide | omega, by first | decide | omega⟩
  | exact .inr ⟨by decide, by decide +kernel⟩
  | omega
  | exact sl_lt (by omega))
local macro_rules | `(tactic| walk_at "g1") => `(tactic| refine And.intro (by walk_at "ar") ?_)
local macro_rules | `(tactic| walk_at "go") => `(tactic| repeat (refine And.intro (by walk_at "ar") ?_))
section
variable {P : Program} {w : World} {K : PySem.W.Frag} {mg : Str → Option Value} {base : Heap}

theorem use_same_kept {H0 H : Hp} {A : List Addr} {L : List (Addr × HO)} {T : List (V × PyData)} {x y : V} {t dx r kd p r2 kd2 ll : Addr} {s : Tk} {lv : Int} {Q : VK} {E : XK} (st : Sv K H0 A H L T) (hl : s.kp.length < 60) (ht : HT K H t dx r kd s) (hb : HB K H p r2 kd2 ll s lv)
    (q : ∀ H', Sv K H0 A H' L T → Q (.bl true) H') (e : x = .ref t := by rfl) (e2 : y = .ref p := by rfl) : sp_same_kept K x y H Q E := by
  subst e e2
  unfold sp_same_kept
  exact ⟨t, dx, r, kd, p, r2, kd2, ll, s, lv, rfl, rfl, hl, ht, hb, fun H' u => q H' (st.call0 u)⟩
@[irreducible] def sp_shown (K : PySem.W.Frag) : Sp2 := fun x0 x1 H Q _ => ∃ (t dx r kd p r2 kd2 ll : Addr) (s : Tk) (lv : Int), x0 = .ref t ∧ x1 = .ref p ∧ s.kp.length < 60 ∧ s.rd.length < 1000 ∧ 0 < s.n ∧ HT K H t dx r kd s ∧ HB K H p r2 kd2 ll s lv ∧ ∀ H', Sv K H [] H' [] [] → Q (.bl true) H'
theorem ok_shown (e : Txt K mg) : Fok P w K mg base 4 (He.ga K "_law_shown") ["taker", "table"] (mk2 (sp_shown K)) := by
  refine der__law_shown e (ok_same_kept e) (ok_room e) (ok_same_list e) (ok_same_pair e) (ok_told e) fun a0 a1 H Q E h => ?_
  unfold sp_shown at h
  obtain ⟨t, dx, r, kd, p, r2, kd2, ll, s, lv, rfl, rfl, hl, hr, hn, ht, hb, q⟩ := h
  have st : Sv K H [] H [] [] := Sv.start0
  have hp := hb.p
  have htt := ht.t
  unfold tbF at hp
  unfold tkF at htt
  refine rd_H hp ?_
  refine rd_H hp ?_
  refine len_L hb.r ?_
  simp only [List.length_map]
  refine fl_H htt ?_
  refine fl_H htt ?_
  refine fl_H htt ?_
  refine obj_H ht.t ?_
  refine use_room ht.t ht.r ?_
  refine st.lst fun fl H1 st => ?_
  walk_at "nm"
  refine rd_H (st.old hp (by simp)) ?_
  refine rd_H (st.old hp (by simp)) ?_
  refine rd_H (st.old hp (by simp)) ?_
  refine st.lst fun fl2 H2 st => ?_
  refine use_same_list (ns := [s.w, s.n, s.e, s.w - s.rd.length]) (st.sq 1 rfl) (st.sq 0 rfl) (by simp) ?_
  refine fl_H (st.old htt (by simp)) ?_
  refine fl_H (st.old htt (by simp)) ?_
  refine rd_H (st.old hp (by simp)) ?_
  walk_at "nm"
  refine iteND (fun hz => absurd rfl hz) (fun _ => ?_)
  refine fl_H (st.old htt (by simp)) ?_
  refine rd_H (st.old hp (by simp)) ?_
  refine use_same_list (st.oldL ht.r (by simp)) (st.oldL hb.r (by simp)) (by omega) ?_
  refine ins_H (st.old htt (by simp)) ?_
  refine use_told st hn (ht.keep st).t (ht.keep st).r fun H3 v st => ?_
  refine rd_H (st.old hp (by simp)) ?_
  refine rd_H (st.old hp (by simp)) ?_
  refine ⟨hn, ?_⟩
  refine st.tup (.cons (.int _) (.cons (.int _) .nil)) fun u H4 st => ?_
  refine use_same_pair (y := s.e % s.n) (o := some (s.w - s.rd.length)) (st.d 1 rfl) (st.d 0 rfl) ?_
  refine use_same_kept st hl (ht.keep st) (hb.keep st) fun H5 st => ?_
  exact q _ (st.sub (List.nil_sublist _)).noT
theorem use_shown {H0 H : Hp} {A : List Addr} {L : List (Addr × HO)} {T : List (V × PyData)} {x y : V} {t dx r kd p r2 kd2 ll : Addr} {s : Tk} {lv : Int} {Q : VK} {E : XK} (st : Sv K H0 A H L T) (hl : s.kp.length < 60) (hr : s.rd.length < 1000) (hn : 0 < s.n) (ht : HT K H t dx r kd s) (hb : HB K H p r2 kd2 ll s lv)
    (q : ∀ H', Sv K H0 A H' L T → Q (.bl true) H') (e : x = .ref t := by rfl) (e2 : y = .ref p := by rfl) : sp_shown K x y H Q E := by
  subst e e2
  unfold sp_shown
  exact ⟨t, dx, r, kd, p, r2, kd2, ll, s, lv, rfl, rfl, hl, hr, hn, ht, hb, fun H' u => q H' (st.call0 u)⟩
@[irreducible] def sp_ring : Sp3 := fun x0 x1 x2 H Q _ => ∃ (i j n : Int), x0 = .int i ∧ x1 = .int j ∧ x2 = .int n ∧ 0 < n ∧ Q (.bl true) H
theorem ok_ring (e : Txt K mg) : Fok P w K mg base 2 (He.ga K "_law_ring") ["low", "number", "size"] (mk3 sp_ring) := by
  refine der__law_ring e (ok_ring_index e) (ok_is_number e) fun a0 a1 a2 H Q E h => ?_
  unfold sp_ring at h
  obtain ⟨i, j, n, rfl, rfl, rfl, h0, q⟩ := h
  have h1 := Int.emod_nonneg (j - i) (show n ≠ 0 by omega)
  have h2 := Int.emod_lt_of_pos (j - i) h0
  refine use_ring_index ?_ h0
  refine use_is_number ?_
  refine iteD (fun hz => ?_) (fun _ => ?_)
  · omega
  refine iteD (fun hz => ?_) (fun _ => ?_)
  · omega
  refine ⟨h0, ?_⟩
  have e1 : (i + (j - i) % n - j) % n = 0 := by
    have : i + (j - i) % n - j = -(n * ((j - i) / n)) := by
      have := Int.emod_add_mul_ediv (j - i) n
      omega
    rw [this]
    exact Int.emod_eq_zero_of_dvd ⟨-((j - i) / n), by rw [Int.mul_neg]⟩
  show Q (.bl (decide ((i + (j - i) % n - j) % n = 0))) H
  rw [decide_eq_true e1]
  exact q
theorem use_ring {x y z : V} {i j n : Int} {H : Hp} {Q : VK} {E : XK} (q : Q (.bl true) H) (h0 : 0 < n) (e : x = .int i := by rfl) (e2 : y = .int j := by rfl) (e3 : z = .int n := by rfl) : sp_ring x y z H Q E := by
  unfold sp_ring
  exact ⟨i, j, n, e, e2, e3, h0, q⟩
@[irreducible] def sp_item (K : PySem.W.Frag) : Sp2 := fun x0 x1 H Q _ => ∃ (p cl : Addr) (ns : List Int) (D : PD) (n : Int), x0 = .ref p ∧ x1 = .int n ∧ 0 < n ∧ n < 1000 ∧ 0 ≤ D.a ∧ ns.length ≤ 63 ∧ Cells H (px p cl ns D) ∧
  ∀ H' D' it, 0 ≤ D'.a → Sv K H [p, cl] H' (px p cl ns D') [] → Q (itV it) H'
theorem ok_item (e : Txt K mg) : Fok P w K mg base 3 (He.ga K "_law_item") ["purse", "share"] (mk2 (sp_item K)) := by
  refine der__law_item e (ok_draw e) fun a0 a1 H Q E h => ?_
  unfold sp_item at h
  obtain ⟨p, cl, ns, D, n, rfl, rfl, h0, h1, ha, hl, hc, q⟩ := h
  have st : Sv K H [p, cl] H (px p cl ns D ++ []) [] := hc.sv
  refine use_draw st ha hl (fun H1 D y ha _ _ st => ?_) rfl rfl h0 (by omega)
  refine iteD (fun hz => ?_) (fun _ => ?_)
  · exact q _ D none ha st
  refine use_draw st ha hl (fun H1 D y ha _ _ st => ?_)
  refine iteD (fun hz => ?_) (fun _ => ?_)
  · exact q _ D (some 0) ha st
  refine iteD (fun hz => ?_) (fun _ => ?_)
  · exact q _ D (some 65535) ha st
  refine use_draw st ha hl (fun H1 D y ha _ _ st => ?_)
  exact q _ D (some y) ha st
theorem use_item {H0 H : Hp} {A : List Addr} {L : List (Addr × HO)} {T : List (V × PyData)} {x y : V} {p cl : Addr} {ns : List Int} {D : PD} {n : Int} {Q : VK} {E : XK} (st : Sv K H0 A H (px p cl ns D ++ L) T) (ha : 0 ≤ D.a) (hl : ns.length ≤ 63) (h0 : 0 < n) (h1 : n < 1000)
    (k : ∀ H' D' it, 0 ≤ D'.a → Sv K H0 A H' (px p cl ns D' ++ L) T → Q (itV it) H') (ex : x = .ref p := by rfl) (ey : y = .int n := by rfl) : sp_item K x y H Q E := by
  subst ex ey
  unfold sp_item
  exact ⟨p, cl, ns, D, n, rfl, rfl, h0, h1, ha, hl, st.cellsF, fun H' D' it a1 u => k H' D' it a1 (st.call (T' := []) u)⟩
end
end Wk

namespace Wk
open PySem PySem.Spec PyProof.Rows L2
local macro_rules | `(tactic| walk_at "vk") => `(tactic| repeat (first | exact vk_nil | exact vk_here | refine vk_past ?_))
local macro_rules | `(tactic| walk_at "pk") => `(tactic| repeat (first | exact pk_nil | exact pk_here | refine pk_past ?_))
local macro_rules | `(tactic| walk_at "lk") => `(tactic| repeat (first | exact lk_nil | exact lk_here | refine lk_past ?_))
local macro_rules | `(tactic| walk_at "pf") => `(tactic| repeat (first | exact put_nil | exact put_here | refine put_past ?_))
local macro_rules | `(tactic| walk_at "nm") => `(tactic| try dsimp only [gNm, setK, uAdd, uSub, tNext, Option.getD, tC, uNe, uEq, uLe, uLt, uGe, uGt, uIs, uIsnt])
local macro_rules | `(tactic| walk_at "sub") => `(tactic| repeat first | exact List.nil_sublist _ | exact .slnil | apply List.Sublist.cons₂ | apply List.Sublist.cons)
local macro_rules | `(tactic| walk_at "ar") => `(tactic| first
  | decide
  | exact Nat.le_of_lt (sl_lt (by first | decide | omega))
  | exact .inl (.inr ⟨by first | decide | omega, by first | decide | omega⟩)
  | exact .inl (.inl ⟨by first | decide | omega, by first | decide | omega⟩)
  | exact .inl ⟨by first | decide | omega, by first | decide | omega⟩
  | exact ⟨by first | decide | omega, by first | decide | omega⟩
  | exact ⟨by first | decide | omega, by first | decide | omega, by first | decide | omega⟩
  | exact ⟨by first | decide | omega, by first | decide | omega, by first | decide | omega, by first | decide | omega⟩
  | exact ⟨by first | decide | omega, by first | decide | omega, by first | decide | omega, by first | decide | omega, by first | decide | omega⟩
  | exact .inr ⟨by decide, by decide +kernel⟩
  | omega
  | exact sl_lt (by omega))
local macro_rules | `(tactic| walk_at "g1") => `(tactic| refine And.intro (by walk_at "ar") ?_)
local macro_rules | `(tactic| walk_at "go") => `(tactic| repeat (refine And.intro (by walk_at "ar") ?_))
section
variable {P : Program} {w : World} {K : PySem.W.Frag} {mg : Str → Option Value} {base : Heap}

@[irreducible] def sp_number (K : PySem.W.Frag) : Sp2 := fun x0 x1 H Q _ => ∃ (pp cl p r kd ll : Addr) (ns : List Int) (D : PD) (s : Tk) (lv : Int), x0 = .ref pp ∧ x1 = .ref p ∧ Iv s ∧ 0 ≤ D.a ∧ ns.length ≤ 63 ∧ Cells H (px pp cl ns D ++ tc p r kd s lv ll) ∧
  ∀ H' D' j, 0 ≤ D'.a → Sv K H [pp, cl, p, r, kd] H' (px pp cl ns D' ++ tc p r kd s lv ll) [] → Q (.int j) H'
theorem ok_number (e : Txt K mg) : Fok P w K mg base 3 (He.ga K "_law_number") ["purse", "table"] (mk2 (sp_number K)) := by
  refine der__law_number e (ok_draw e) fun a0 a1 H Q E h => ?_
  unfold sp_number at h
  obtain ⟨pp, cl, p, r, kd, ll, ns, D, s, lv, rfl, rfl, iv, ha, hl, hc, q⟩ := h
  have st : Sv K H [pp, cl, p, r, kd] H (px pp cl ns D ++ tc p r kd s lv ll) [] := hc.sv
  have hw := iv.w
  have hn := iv.n
  refine use_draw st ha hl (fun H1 D c ha _ _ st => ?_)
  refine iteD (fun hz => ?_) (fun _ => ?_)
  · refine use_draw st ha hl (fun H1 D j ha _ _ st => ?_)
    exact q _ D j ha st
  refine st.rd 2 ?_
  walk_at "nm"
  refine cut (fun σ H' => ∃ (i : Int) (D : PD), σ = [some (.ref pp), some (.ref p), some (.int c), some (.int i), none] ∧ 0 ≤ D.a ∧ Sv K H [pp, cl, p, r, kd] H' (px pp cl ns D ++ tc p r kd s lv ll) []) ?rest0 (fun fin => ?stm0)
  case stm0 =>
    have body : ∀ (H1 : Hp) (D : PD), 0 ≤ D.a → Sv K H [pp, cl, p, r, kd] H1 (px pp cl ns D ++ tc p r kd s lv ll) [] → uIx K (.ref p) (.str "window") H1 fun x H2 => uAdd K x (.int 1) H2 fun x H3 => sp_draw K (.ref pp) x H3 (fun y H4 => uAdd K (.int s.e) y H4 fun z H5 => ∃ (i : Int) (D : PD), z = .int i ∧ 0 ≤ D.a ∧ Sv K H [pp, cl, p, r, kd] H5 (px pp cl ns D ++ tc p r kd s lv ll) []) E := fun H1 D ha st => by
      refine st.rd 2 ?_
      refine use_draw st ha hl (fun H1 D j ha _ _ st => ?_) rfl rfl (by omega) (by omega)
      exact ⟨_, D, rfl, ha, st⟩
    refine iteD (fun hz => ?_) (fun _ => ?_)
    · refine st.rd 2 ?_
      refine use_draw st ha hl (fun H1 D j ha _ _ st => ?_) rfl rfl (by omega) (by omega)
      exact fin _ _ ⟨_, D, rfl, ha, st⟩
    · refine iteD (fun hz => ?_) (fun _ => ?_)
      · refine st.rd 2 ?_
        refine use_draw st ha hl (fun H1 D j ha _ _ st => ?_) rfl rfl (by omega) (by omega)
        exact fin _ _ ⟨_, D, rfl, ha, st⟩
      · exact fin _ _ ⟨_, D, rfl, ha, st⟩
  case rest0 =>
    rintro σ H2 ⟨i, D, rfl, ha, st⟩
    walk_at "nm"
    refine cut (fun σ H' => ∃ (i : Int) (D : PD), σ = [some (.ref pp), some (.ref p), some (.int c), some (.int i), none] ∧ 0 ≤ D.a ∧ Sv K H [pp, cl, p, r, kd] H' (px pp cl ns D ++ tc p r kd s lv ll) []) ?rest1 (fun fin => ?stm1)
    case stm1 =>
      refine iteD (fun hz => ?_) (fun _ => ?_)
      · refine st.rd 2 ?_
        refine st.rd 2 ?_
        refine len_L (st.sq 3 rfl) ?_
        exact fin _ _ ⟨_, D, rfl, ha, st⟩
      · exact fin _ _ ⟨_, D, rfl, ha, st⟩
    case rest1 =>
      rintro σ H2 ⟨i, D, rfl, ha, st⟩
      walk_at "nm"
      refine cut (fun σ H' => ∃ (i : Int) (D : PD), σ = [some (.ref pp), some (.ref p), some (.int c), some (.int i), none] ∧ 0 ≤ D.a ∧ Sv K H [pp, cl, p, r, kd] H' (px pp cl ns D ++ tc p r kd s lv ll) []) ?rest2 (fun fin => ?stm2)
      case stm2 =>
        refine iteD (fun hz => ?_) (fun _ => ?_)
        · refine st.rd 2 ?_
          refine use_draw st ha hl (fun H1 D j ha _ _ st => ?_) rfl rfl (by omega) (by omega)
          exact fin _ _ ⟨_, D, rfl, ha, st⟩
        · exact fin _ _ ⟨_, D, rfl, ha, st⟩
      case rest2 =>
        rintro σ H2 ⟨i, D, rfl, ha, st⟩
        refine st.rd 2 ?_
        refine ⟨by omega, ?_⟩
        refine use_draw st ha hl (fun H1 D y ha _ _ st => ?_)
        refine iteD (fun hz => ?_) (fun _ => ?_)
        · refine st.rd 2 ?_
          refine iteD (fun hz => ?_) (fun _ => ?_)
          · refine st.rd 2 ?_
            exact q _ D _ ha st
          · exact q _ D _ ha st
        · exact q _ D _ ha st
theorem use_number {H0 H : Hp} {A : List Addr} {L : List (Addr × HO)} {T : List (V × PyData)} {x y : V} {pp cl p r kd ll : Addr} {ns : List Int} {D : PD} {s : Tk} {lv : Int} {Q : VK} {E : XK} (st : Sv K H0 A H ((px pp cl ns D ++ tc p r kd s lv ll) ++ L) T) (iv : Iv s) (ha : 0 ≤ D.a) (hl : ns.length ≤ 63)
    (k : ∀ H' D' j, 0 ≤ D'.a → Sv K H0 A H' ((px pp cl ns D' ++ tc p r kd s lv ll) ++ L) T → Q (.int j) H') (ex : x = .ref pp := by rfl) (ey : y = .ref p := by rfl) : sp_number K x y H Q E := by
  subst ex ey
  unfold sp_number
  exact ⟨pp, cl, p, r, kd, ll, ns, D, s, lv, rfl, rfl, iv, ha, hl, st.cellsF, fun H' D' j a1 u => k H' D' j a1 (st.call (T' := []) u)⟩
@[irreducible] def sp_given (K : PySem.W.Frag) : Sp4 := fun x0 x1 x2 x3 H Q _ => ∃ (t dx r kd p r2 kd2 ll : Addr) (s : Tk) (lv j : Int) (it : Option Int), x0 = .ref t ∧ x1 = .ref p ∧ x2 = .int j ∧ x3 = itV it ∧ Iv s ∧ Cells H (tk K t dx r kd s ++ tc p r2 kd2 s lv ll) ∧
  ∀ H' kd' r2' kd2', Sv K H [t, r, kd, p, r2, kd2] H' (tk K t dx r kd' (tkt s j it).1 ++ tc p r2' kd2' (tkt s j it).1 lv ll) [] → Q (.bl true) H'
theorem ok_given (e : Txt K mg) : Fok P w K mg base 4 (He.ga K "_law_given") ["taker", "table", "number", "item"] (mk4 (sp_given K)) := by
  refine der__law_given e (ok_taken e) (ok_take e) (ok_ring e) fun a0 a1 a2 a3 H Q E h => ?_
  unfold sp_given at h
  obtain ⟨t, dx, r, kd, p, r2, kd2, ll, s, lv, j, it, rfl, rfl, rfl, rfl, iv, hc, q⟩ := h
  have st : Sv K H [t, r, kd, p, r2, kd2] H (tk K t dx r kd s ++ tc p r2 kd2 s lv ll) [] := hc.sv
  have hw := iv.w
  have hn := iv.n
  have hk := iv.len
  have hrl := iv.rl
  refine st.rd 3 ?_
  refine st.rd 3 ?_
  refine use_ring (n := s.n) ?_ (by omega)
  have st := st.perm (L' := tc p r2 kd2 s lv ll ++ (tk K t dx r kd s ++ [])) (by rw [List.append_nil]; exact List.perm_append_comm)
  refine use_taken (s := s) (it := it) st (by omega) hk (by omega) iv.hk fun H1 r2' kd2' st => ?_
  walk_at "nm"
  have st := st.perm (L' := tk K t dx r kd s ++ (tc p r2' kd2' (tkt s j it).1 lv ll ++ [])) (by rw [List.append_nil, List.append_nil]; exact List.perm_append_comm)
  refine Sv.ins (m := "take") st 0 ?_ (by rfl) (by rfl) (by unfold tkF; walk_at "lk")
  refine use_take (s := s) (it := it) st (by omega) (by omega) (fun H2 kd' st => ?_) (by rfl) (by rfl) (by rfl)
  rw [List.append_nil] at st
  have qq := q _ kd' r2' kd2' st
  cases (tkt s j it).2 <;> exact qq
theorem use_given {H0 H : Hp} {A : List Addr} {L : List (Addr × HO)} {T : List (V × PyData)} {x0 x1 x2 x3 : V} {t dx r kd p r2 kd2 ll : Addr} {s : Tk} {lv j : Int} {it : Option Int} {Q : VK} {E : XK} (st : Sv K H0 A H ((tk K t dx r kd s ++ tc p r2 kd2 s lv ll) ++ L) T) (iv : Iv s)
    (k : ∀ H' kd' r2' kd2', Sv K H0 A H' ((tk K t dx r kd' (tkt s j it).1 ++ tc p r2' kd2' (tkt s j it).1 lv ll) ++ L) T → Q (.bl true) H') (e0 : x0 = .ref t := by rfl) (e1 : x1 = .ref p := by rfl) (e2 : x2 = .int j := by rfl) (e3 : x3 = itV it := by rfl) : sp_given K x0 x1 x2 x3 H Q E := by
  subst e0 e1 e2 e3
  unfold sp_given
  exact ⟨t, dx, r, kd, p, r2, kd2, ll, s, lv, j, it, rfl, rfl, rfl, rfl, iv, st.cellsF, fun H' kd' r2' kd2' u => k H' kd' r2' kd2' (st.call (T' := []) u)⟩
end
end Wk

namespace Wk
open PySem PySem.Spec PyProof.Rows L2
local macro_rules | `(tactic| walk_at "vk") => `(tactic| repeat (first | exact vk_nil | exact vk_here | refine vk_past ?_))
local macro_rules | `(tactic| walk_at "pk") => `(tactic| repeat (first | exact pk_nil | exact pk_here | refine pk_past ?_))
local macro_rules | `(tactic| walk_at "lk") => `(tactic| repeat (first | exact lk_nil | exact lk_here | refine lk_past ?_))
local macro_rules | `(tactic| walk_at "pf") => `(tactic| repeat (first | exact put_nil | exact put_here | refine put_past ?_))
local macro_rules | `(tactic| walk_at "nm") => `(tactic| try dsimp only [gNm, setK, uAdd, uSub, tNext, Option.getD, tC, uNe, uEq, uLe, uLt, uGe, uGt, uIs, uIsnt])
local macro_rules | `(tactic| walk_at "sub") => `(tactic| repeat first | exact List.nil_sublist _ | exact .slnil | apply List.Sublist.cons₂ | apply List.Sublist.cons)
local macro_rules | `(tactic| walk_at "ar") => `(tactic| first
  | decide
  | exact Nat.le_of_lt (sl_lt (by first | decide | omega))
  | exact .inl (.inr ⟨by first | decide | omega, by first | decide | omega⟩)
  | exact .inl (.inl ⟨by first | decide | omega, by first | decide | omega⟩)
  | exact .inl ⟨by first | decide | omega, by first | decide | omega⟩
  | exact ⟨by first | decide | omega, by first | decide | omega⟩
  | exact ⟨by first | decide | omega, by first | decide | omega, by first | decide | omega⟩
  | exact ⟨by first | decide | omega, by first | decide | omega, by first | decide | omega, by first | decide | omega⟩
  | exact ⟨by first | decide | omega, by first | decide | omega, by first | decide | omega, by first | decide | omega, by first | decide | omega⟩
  | exact .inr ⟨by decide, by decide +kernel⟩
  | omega
  | exact sl_lt (by omega))
local macro_rules | `(tactic| walk_at "g1") => `(tactic| refine And.intro (by walk_at "ar") ?_)
local macro_rules | `(tactic| walk_at "go") => `(tactic| repeat (refine And.intro (by walk_at "ar") ?_))
section
variable {P : Program} {w : World} {K : PySem.W.Frag} {mg : Str → Option Value} {base : Heap}

theorem prm1 {α : Type} (X Y S : List α) : (Y ++ (X ++ S)).Perm (X ++ (Y ++ S)) := by
  rw [← List.append_assoc, ← List.append_assoc]
  exact List.perm_append_comm.append_right S
/-- taker and table go on together -/
structure On (s s' : Tk) : Prop where
  iv : Iv s'
  w : s'.w = s.w
  n : s'.n = s.n
  u : upr s ≤ upr s'
theorem On.refl {s : Tk} (h : Iv s) : On s s := ⟨h, rfl, rfl, Int.le_refl _⟩
theorem On.tkt {s s' : Tk} (h : On s s') (j : Int) (it : Option Int) : On s (tkt s' j it).1 := by
  obtain ⟨a1, a2, a3, a4, _⟩ := h.iv.tkt j it
  exact ⟨a1, a3.trans h.w, a4.trans h.n, Int.le_trans h.u a2⟩
def bo (K : PySem.W.Frag) (t dx r kd p r2 kd2 ll : Addr) (s : Tk) (lv : Int) : List (Addr × HO) := tk K t dx r kd s ++ tc p r2 kd2 s lv ll
@[irreducible] def sp_three (K : PySem.W.Frag) : Sp4 := fun x0 x1 x2 x3 H Q _ => ∃ (t dx r kd p r2 kd2 ll pp cl : Addr) (ns : List Int) (D : PD) (s : Tk) (lv n : Int), x0 = .ref t ∧ x1 = .ref p ∧ x2 = .ref pp ∧ x3 = .int n ∧ 0 < n ∧ n < 1000 ∧ 0 ≤ D.a ∧ ns.length ≤ 63 ∧ Iv s ∧ Cells H (px pp cl ns D ++ bo K t dx r kd p r2 kd2 ll s lv) ∧
  ∀ H' D' kd' r2' kd2' s', 0 ≤ D'.a → On s s' → Sv K H ((px pp cl ns D ++ bo K t dx r kd p r2 kd2 ll s lv).map Prod.fst) H' (px pp cl ns D' ++ bo K t dx r kd' p r2' kd2' ll s' lv) [] → Q (.bl true) H'
theorem ok_three (e : Txt K mg) : Fok P w K mg base 5 (He.ga K "_law_three") ["taker", "table", "purse", "share"] (mk4 (sp_three K)) := by
  refine der__law_three e (ok_draw e) (ok_given e) fun a0 a1 a2 a3 H Q E h => ?_
  unfold sp_three at h
  obtain ⟨t, dx, r, kd, p, r2, kd2, ll, pp, cl, ns, D, s, lv, n, rfl, rfl, rfl, rfl, h0, h1, ha, hl, iv, hc, q⟩ := h
  generalize hA : (px pp cl ns D ++ bo K t dx r kd p r2 kd2 ll s lv).map Prod.fst = A at q
  have st : Sv K H A H (px pp cl ns D ++ bo K t dx r kd p r2 kd2 ll s lv) [] := hA ▸ hc.sv
  refine st.rd 5 ?_
  refine use_draw st ha hl (fun H1 D m ha _ _ st => ?_) rfl rfl h0 (by omega)
  walk_at "nm"
  refine st.tup (ds := [.int 2, .int 1, .int 0]) (.cons (.int _) (.cons (.int _) (.cons (.int _) .nil))) fun tp H2 st => ?_
  obtain ⟨a, xs, e1, ht, hx⟩ := (st.d 0 rfl).eqT
  have e1 : tp = a := V.ref.inj e1
  subst e1
  have ex : xs = [2, 1, 0].map V.int := hx.eqInts (ns := [2, 1, 0])
  subst ex
  refine forT (fun i σ H' => ∃ (D : PD) (kd r2 kd2 : Addr) (s' : Tk) (x6 x7 : Option V), σ = [some (.ref t), some (.ref p), some (.ref pp), some (.int n), some (.int s.e), some (.int m), x6, x7] ∧ 0 ≤ D.a ∧ On s s' ∧ Sv K H A H' (px pp cl ns D ++ bo K t dx r kd p r2 kd2 ll s' lv) [(.ref tp, .tuple [.int 2, .int 1, .int 0])]) ht.sq ⟨D, kd, r2, kd2, s, none, none, rfl, ha, .refl iv, st⟩ ?_ ?_ ?_
  · rintro i σ H3 _ ⟨D, kd, r2, kd2, s', x6, x7, rfl, _, _, st⟩
    obtain ⟨a, xs, e1, ht, hx⟩ := (st.d 0 rfl).eqT
    have e1 : tp = a := V.ref.inj e1
    subst e1
    have ex : xs = [2, 1, 0].map V.int := hx.eqInts (ns := [2, 1, 0])
    rw [← ex]
    exact ht.sq
  · rintro i x σ H3 hx ⟨D, kd, r2, kd2, s', x6, x7, rfl, ha, on, st⟩
    obtain ⟨ah, rfl, _⟩ := map_at (ns := [2, 1, 0]) hx
    walk_at "nm"
    refine cut2 (fun σ H' => ∃ (D : PD) (it : Option Int), σ = [some (.ref t), some (.ref p), some (.ref pp), some (.int n), some (.int s.e), some (.int m), some (.int ah), some (itV it)] ∧ 0 ≤ D.a ∧ Sv K H A H' (px pp cl ns D ++ bo K t dx r kd p r2 kd2 ll s' lv) [(.ref tp, .tuple [.int 2, .int 1, .int 0])]) ?rest (fun fin => ?stm)
    case stm =>
      refine iteND (fun hz => ?_) (fun hz => ?_)
      · refine use_draw st ha hl (fun H1 D y ha _ _ st => ?_)
        exact fin _ _ ⟨D, some y, rfl, ha, st⟩
      · exact fin _ _ ⟨D, none, rfl, ha, st⟩
    case rest =>
      rintro σ H4 ⟨D, it, rfl, ha, st⟩
      refine st.rd 5 ?_
      have hn := on.iv.n
      refine ⟨by omega, ?_⟩
      have st : Sv K H A H4 ((tk K t dx r kd s' ++ tc p r2 kd2 s' lv ll) ++ (px pp cl ns D ++ [])) [(.ref tp, .tuple [.int 2, .int 1, .int 0])] := st.perm (by rw [List.append_nil]; exact List.perm_append_comm)
      refine use_given (s := s') (it := it) st on.iv (fun H5 kd' r2' kd2' st => ?_) (by rfl) (by rfl) (by rfl) (by rfl)
      exact ⟨D, kd', r2', kd2', _, _, _, rfl, ha, on.tkt _ _, st.perm (by rw [List.append_nil]; exact List.perm_append_comm)⟩
  · rintro σ H3 ⟨D, kd, r2, kd2, s', x6, x7, rfl, ha, on, st⟩
    exact q _ D kd r2 kd2 s' ha on st.noT
end
end Wk

namespace Wk
open PySem PySem.Spec PyProof.Rows L2
local macro_rules | `(tactic| walk_at "vk") => `(tactic| repeat (first | exact vk_nil | exact vk_here | refine vk_past ?_))
local macro_rules | `(tactic| walk_at "pk") => `(tactic| repeat (first | exact pk_nil | exact pk_here | refine pk_past ?_))
local macro_rules | `(tactic| walk_at "lk") => `(tactic| repeat (first | exact lk_nil | exact lk_here | refine lk_past ?_))
local macro_rules | `(tactic| walk_at "pf") => `(tactic| repeat (first | exact put_nil | exact put_here | refine put_past ?_))
local macro_rules | `(tactic| walk_at "nm") => `(tactic| try dsimp only [gNm, setK, uAdd, uSub, tNext, Option.getD, tC, uNe, uEq, uLe, uLt, uGe, uGt, uIs, uIsnt])
local macro_rules | `(tactic| walk_at "sub") => `(tactic| repeat first | exact List.nil_sublist _ | exact .slnil | apply List.Sublist.cons₂ | apply List.Sublist.cons)
local macro_rules | `(tactic| walk_at "ar") => `(tactic| first
  | decide
  | exact Nat.le_of_lt (sl_lt (by first | decide | omega))
  | exact .inl (.inr ⟨by first | decide | omega, by first | decide | omega⟩)
  | exact .inl (.inl ⟨by first | decide | omega, by first | decide | omega⟩)
  | exact .inl ⟨by first | decide | omega, by first | decide | omega⟩
  | exact ⟨by first | decide | omega, by first | decide | omega⟩
  | exact ⟨by first | decide | omega, by first | decide | omega, by first | decide | omega⟩
  | exact ⟨by first | decide | omega, by first | decide | omega, by first | decide | omega, by first | decide | omega⟩
  | exact ⟨by first | decide | omega, by first | decide | omega, by first | decide | omega, by first | decide | omega, by first | decide | omega⟩
  | exact .inr ⟨by decide, by decide +kernel⟩
  | omega
  | exact sl_lt (by omega))
local macro_rules | `(tactic| walk_at "g1") => `(tactic| refine And.intro (by walk_at "ar") ?_)
local macro_rules | `(tactic| walk_at "go") => `(tactic| repeat (refine And.intro (by walk_at "ar") ?_))
section
variable {P : Program} {w : World} {K : PySem.W.Frag} {mg : Str → Option Value} {base : Heap}

theorem On.read {s s' : Tk} (h : On s s') (c : Nat) : On s { s' with rd := s'.rd.drop c } := ⟨(h.iv.read c).1, h.w, h.n, Int.le_trans h.u (h.iv.read c).2⟩
theorem use_three {H0 H : Hp} {A : List Addr} {L : List (Addr × HO)} {T : List (V × PyData)} {x0 x1 x2 x3 : V} {t dx r kd p r2 kd2 ll pp cl : Addr} {ns : List Int} {D : PD} {s : Tk} {lv n : Int} {Q : VK} {E : XK} (st : Sv K H0 A H ((px pp cl ns D ++ bo K t dx r kd p r2 kd2 ll s lv) ++ L) T) (h0 : 0 < n) (h1 : n < 1000) (ha : 0 ≤ D.a) (hl : ns.length ≤ 63) (iv : Iv s)
    (q : ∀ H' D' kd' r2' kd2' s', 0 ≤ D'.a → On s s' → Sv K H0 A H' ((px pp cl ns D' ++ bo K t dx r kd' p r2' kd2' ll s' lv) ++ L) T → Q (.bl true) H')
    (e0 : x0 = .ref t := by rfl) (e1 : x1 = .ref p := by rfl) (e2 : x2 = .ref pp := by rfl) (e3 : x3 = .int n := by rfl) : sp_three K x0 x1 x2 x3 H Q E := by
  subst e0 e1 e2 e3
  unfold sp_three
  exact ⟨t, dx, r, kd, p, r2, kd2, ll, pp, cl, ns, D, s, lv, n, rfl, rfl, rfl, rfl, h0, h1, ha, hl, iv, st.cellsF, fun H' D' kd' r2' kd2' s' a b u => q H' D' kd' r2' kd2' s' a b (st.call (T' := []) u)⟩
/-- a pair of the lists -/
def pr3 (pr g w : Addr) (ms : List Int) : List (Addr × HO) := [(pr, .lst [.ref g, .ref w]), (g, .lst (ms.map V.int)), (w, .lst (ms.map V.int))]
@[irreducible] def sp_reading (K : PySem.W.Frag) : Sp3 := fun x0 x1 x2 H Q _ => ∃ (t dx r kd p r2 kd2 ll pp cl : Addr) (ns : List Int) (D : PD) (s : Tk) (lv : Int) (ps : List Addr), x0 = .ref t ∧ x1 = .ref p ∧ x2 = .ref pp ∧ 0 ≤ D.a ∧ ns.length ≤ 63 ∧ ps.length < 10000 ∧ Iv s ∧ Cells H (px pp cl ns D ++ (bo K t dx r kd p r2 kd2 ll s lv ++ [(ll, .lst (ps.map V.ref))])) ∧
  ∀ H' D' r2' ll' s' pr g w ms, 0 ≤ D'.a → On s s' → ms.length ≤ 5 → Sv K H ((px pp cl ns D ++ (bo K t dx r kd p r2 kd2 ll s lv ++ [(ll, HO.lst (ps.map V.ref))])).map Prod.fst) H' (px pp cl ns D' ++ (bo K t dx r kd p r2' kd2 ll' s' lv ++ (ll', .lst ((ps ++ [pr]).map V.ref)) :: pr3 pr g w ms)) [] → Q (.bl true) H'
theorem ok_reading (e : Txt K mg) : Fok P w K mg base 3 (He.ga K "_law_reading") ["taker", "table", "purse"] (mk3 (sp_reading K)) := by
  refine der__law_reading e (ok_draw e) (ok_rd e) (ok_same_list e) fun a0 a1 a2 H Q E h => ?_
  unfold sp_reading at h
  obtain ⟨t, dx, r, kd, p, r2, kd2, ll, pp, cl, ns, D, s, lv, ps, rfl, rfl, rfl, ha, hl, hps, iv, hc, q⟩ := h
  generalize hA : (px pp cl ns D ++ (bo K t dx r kd p r2 kd2 ll s lv ++ [(ll, HO.lst (ps.map V.ref))])).map Prod.fst = A at q
  have st : Sv K H A H (px pp cl ns D ++ (bo K t dx r kd p r2 kd2 ll s lv ++ [(ll, .lst (ps.map V.ref))])) [] := hA ▸ hc.sv
  have hw := iv.w
  have hrl := iv.rl
  refine use_draw st ha hl (fun H1 D ch ha _ _ st => ?_)
  walk_at "nm"
  refine st.rd 5 ?_
  walk_at "nm"
  -- behind the reading
  refine cut (fun σ H' => ∃ (c : Nat) (wl g : Addr) (D : PD) (x6 : Option V) (R : List (Addr × HO)), σ = [some (.ref t), some (.ref p), some (.ref pp), some (.int ch), some (.ref wl), some (.ref g), x6] ∧ 0 ≤ D.a ∧ ((wl = r2 ∧ s.rd.take c = s.rd) ∨ ∃ R', R = (wl, .lst ((s.rd.take c).map V.int)) :: R') ∧
    Sv K H A H' (px pp cl ns D ++ (tk K t dx r kd { s with rd := s.rd.drop c } ++ (tc p r2 kd2 s lv ll ++ ((g, .lst ((s.rd.take c).map V.int)) :: (ll, .lst (ps.map V.ref)) :: R)))) []) ?rest (fun fin => ?stm)
  case stm =>
    have mid : ∀ {H1 : Hp} {D : PD} {x : V} (c : Nat) {Q' : VK} {R : List (Addr × HO)}, (x = .int c ∨ x = .non ∧ c = s.rd.length) → Sv K H A H1 (px pp cl ns D ++ (bo K t dx r kd p r2 kd2 ll s lv ++ ((ll, .lst (ps.map V.ref)) :: R))) [] → (∀ H' g, Sv K H A H' (px pp cl ns D ++ (tk K t dx r kd { s with rd := s.rd.drop c } ++ (tc p r2 kd2 s lv ll ++ ((g, .lst ((s.rd.take c).map V.int)) :: (ll, .lst (ps.map V.ref)) :: R)))) [] → Q' (.ref g) H') → uIns (TA K) "read" (.ref t) H1 (sp_rd K (.ref t) x H1 Q' E) := fun {H1 D x} c {Q' R} hx st k => by
      have st : Sv K H A H1 (tk K t dx r kd s ++ (px pp cl ns D ++ (tc p r2 kd2 s lv ll ++ ((ll, .lst (ps.map V.ref)) :: R)))) [] := st.perm (prm1 (px pp cl ns D) (tk K t dx r kd s) (tc p r2 kd2 s lv ll ++ ((ll, .lst (ps.map V.ref)) :: R)))
      refine Sv.ins (m := "read") st 0 ?_ (by rfl) (by rfl) (by unfold tkF; walk_at "lk")
      refine use_rd c st hx (by omega) fun H' g st => ?_
      refine k H' g ?_
      exact st.perm (((List.perm_middle.append_left _).append_left _).trans (prm1 (tk K t dx r kd { s with rd := s.rd.drop c } ++ [(g, .lst ((s.rd.take c).map V.int))]) (px pp cl ns D) (tc p r2 kd2 s lv ll ++ ((ll, .lst (ps.map V.ref)) :: R))))
    refine iteD (fun hz => ?_) (fun _ => ?_)
    · refine mid (D := D) (R := []) s.rd.length (.inr ⟨rfl, rfl⟩) st fun H' g st => ?_
      exact fin _ _ ⟨s.rd.length, r2, g, D, none, [], rfl, ha, .inl ⟨rfl, List.take_length⟩, st⟩
    refine iteD (fun hz => ?_) (fun _ => ?_)
    · refine mid (D := D) (R := []) s.rd.length (.inr ⟨rfl, rfl⟩) st fun H' g st => ?_
      exact fin _ _ ⟨s.rd.length, r2, g, D, none, [], rfl, ha, .inl ⟨rfl, List.take_length⟩, st⟩
    refine use_draw st ha hl (fun H1 D m ha m0 m1 st => ?_)
    obtain ⟨m, rfl⟩ : ∃ k : Nat, m = k := ⟨m.toNat, by omega⟩
    refine st.sl (es := (s.rd.take m).map V.int) (st.sq 6 rfl) (by rw [cut_hi (by omega), List.map_take]; rfl) fun wl H2 st => ?_
    have st := st.ord [1, 2, 3, 4, 5, 6, 7, 8, 9, 0] (L' := px pp cl ns D ++ (bo K t dx r kd p r2 kd2 ll s lv ++ ((ll, .lst (ps.map V.ref)) :: [(wl, .lst ((s.rd.take m).map V.int))])))
    refine mid (D := D) (R := [(wl, .lst ((s.rd.take m).map V.int))]) m (.inl rfl) st fun H' g st => ?_
    exact fin _ _ ⟨m, wl, g, D, some (.int m), [(wl, .lst ((s.rd.take m).map V.int))], rfl, ha, .inr ⟨[], rfl⟩, st⟩
  case rest =>
    rintro σ H1 ⟨c, wl, g, D, x6, R, rfl, ha, hwl, st⟩
    have hwm : (wl, HO.lst ((s.rd.take c).map V.int)) ∈ tc p r2 kd2 s lv ll ++ R := by
      rcases hwl with ⟨rfl, e⟩ | ⟨R', rfl⟩
      · rw [e]
        exact List.mem_append_left _ (by unfold tc; simp)
      · exact List.mem_append_right _ (List.mem_cons_self ..)
    have hlen : (s.rd.take c).length ≤ s.rd.length := by rw [List.length_take]; omega
    have hdr : s.rd.drop (s.rd.take c).length = s.rd.drop c := by
      rw [List.length_take]
      by_cases h : c ≤ s.rd.length
      · rw [Nat.min_eq_left h]
      · rw [Nat.min_eq_right (by omega), List.drop_eq_nil_of_le (Nat.le_refl _), List.drop_eq_nil_of_le (by omega)]
    refine st.rd 5 ?_
    have hw1 : H1 wl = some (.lst ((s.rd.take c).map V.int)) := by
      refine (st.own (wl, _) ?_).1
      rcases List.mem_append.mp hwm with h | h
      · exact List.mem_append_right _ (List.mem_append_right _ (List.mem_append_left _ h))
      · exact List.mem_append_right _ (List.mem_append_right _ (List.mem_append_right _ (List.mem_cons_of_mem _ (List.mem_cons_of_mem _ h))))
    refine len_L (.inl (.inl hw1)) ?_
    simp only [List.length_map]
    refine st.sl (es := (s.rd.drop c).map V.int) (st.sq 6 rfl) (by rw [cut_lo (by omega), Int.toNat_natCast, ← List.map_drop, hdr]) fun r3 H2 st => ?_
    refine st.wr 6 ((r3, .lst ((s.rd.drop c).map V.int)) :: (px pp cl ns D ++ (tk K t dx r kd { s with rd := s.rd.drop c } ++ ((p, .dK (tbF { s with rd := s.rd.drop c } r3 kd2 lv ll)) :: (r2, .lst (s.rd.map V.int)) :: (kd2, .dK (kpK s.kp)) :: ((g, .lst ((s.rd.take c).map V.int)) :: (ll, .lst (ps.map V.ref)) :: R))))) (fun H3 st => ?_) (hn := by unfold tbF; simp)
    have hw3 : H3 wl = some (.lst ((s.rd.take c).map V.int)) := by
      refine (st.own (wl, _) (List.mem_cons_of_mem _ (List.mem_append_right _ (List.mem_append_right _ (List.mem_cons_of_mem _ ?_))))).1
      rcases hwl with ⟨rfl, e⟩ | ⟨R', rfl⟩
      · rw [e]
        exact List.mem_cons_self ..
      · simp
    refine use_same_list (ns := s.rd.take c) (st.sq 9 rfl) (.inl (.inl hw3)) (by omega) ?_
    refine ⟨st.tyL 9, ?_⟩
    refine st.app 9 ((r3, .lst ((s.rd.drop c).map V.int)) :: (px pp cl ns D ++ (tk K t dx r kd { s with rd := s.rd.drop c } ++ ((p, .dK (tbF { s with rd := s.rd.drop c } r3 kd2 lv ll)) :: (r2, .lst (s.rd.map V.int)) :: (kd2, .dK (kpK s.kp)) :: ((g, .lst ((s.rd.take c).map V.int ++ [V.int 70000])) :: (ll, .lst (ps.map V.ref)) :: R))))) (fun H4 st => ?_) (hx := by simp; omega)
    have hw4 : H4 wl = some (.lst ((s.rd.take c).map V.int)) := by
      refine (st.own (wl, _) (List.mem_cons_of_mem _ (List.mem_append_right _ (List.mem_append_right _ (List.mem_cons_of_mem _ ?_))))).1
      rcases hwl with ⟨rfl, e⟩ | ⟨R', rfl⟩
      · rw [e]
        exact List.mem_cons_self ..
      · simp
    refine st.rd 6 ?_
    refine st.lst fun l7 H5 st => ?_
    have hw5 : H5 wl = some (.lst ((s.rd.take c).map V.int)) := by
      refine (st.own (wl, _) (List.mem_cons_of_mem _ (List.mem_cons_of_mem _ (List.mem_append_right _ (List.mem_append_right _ (List.mem_cons_of_mem _ ?_)))))).1
      rcases hwl with ⟨rfl, e⟩ | ⟨R', rfl⟩
      · rw [e]
        exact List.mem_cons_self ..
      · exact List.mem_cons_of_mem _ (List.mem_cons_of_mem _ (List.mem_cons_of_mem _ (List.mem_cons_of_mem _ (List.mem_cons_self ..))))
    refine st.cat (a := wl) (xs := (s.rd.take c).map V.int) hw5 (st.at 0 rfl) (by simp only [List.length_map, List.length_cons, List.length_nil]; omega) fun w2 H6 st => ?_
    refine st.lst fun pr H7 st => ?_
    refine st.lst fun l8 H8 st => ?_
    refine st.cat (st.at 14 rfl) (st.at 0 rfl) (by simp; omega) fun ll2 H9 st => ?_
    refine st.wr 11 ((ll2, .lst (ps.map V.ref ++ [V.ref pr])) :: (l8, .lst [V.ref pr]) :: (pr, .lst [V.ref g, V.ref w2]) :: (w2, .lst ((s.rd.take c).map V.int ++ [V.int 70000])) :: (l7, .lst [V.int 70000]) :: (r3, .lst ((s.rd.drop c).map V.int)) :: (px pp cl ns D ++ (tk K t dx r kd { s with rd := s.rd.drop c } ++ ((p, .dK (tbF { s with rd := s.rd.drop c } r3 kd2 lv ll2)) :: (r2, .lst (s.rd.map V.int)) :: (kd2, .dK (kpK s.kp)) :: ((g, .lst ((s.rd.take c).map V.int ++ [V.int 70000])) :: (ll, .lst (ps.map V.ref)) :: R))))) (fun H10 st => ?_) (hn := by unfold tbF; simp)
    have st : Sv K H A H10 ((ll2, .lst (ps.map V.ref ++ [V.ref pr])) :: (pr, .lst [V.ref g, V.ref w2]) :: (w2, .lst ((s.rd.take c).map V.int ++ [V.int 70000])) :: (r3, .lst ((s.rd.drop c).map V.int)) :: (px pp cl ns D ++ (tk K t dx r kd { s with rd := s.rd.drop c } ++ ((p, .dK (tbF { s with rd := s.rd.drop c } r3 kd2 lv ll2)) :: (kd2, .dK (kpK s.kp)) :: [(g, .lst ((s.rd.take c).map V.int ++ [V.int 70000]))])))) [] := by
      refine st.sub ?_
      unfold px tk
      refine .cons₂ _ (.cons _ (.cons₂ _ (.cons₂ _ (.cons _ (.cons₂ _ (.cons₂ _ (.cons₂ _ (.cons₂ _ (.cons₂ _ (.cons₂ _ (.cons₂ _ (.cons _ (.cons₂ _ (.cons₂ _ ?_))))))))))))))
      exact List.nil_sublist _
    have st := st.ord [4, 5, 6, 7, 8, 9, 3, 10, 0, 1, 11, 2] (L' := px pp cl ns D ++ (bo K t dx r kd p r3 kd2 ll2 { s with rd := s.rd.drop c } lv ++ (ll2, .lst (ps.map V.ref ++ [V.ref pr])) :: [(pr, .lst [V.ref g, V.ref w2]), (g, .lst ((s.rd.take c).map V.int ++ [V.int 70000])), (w2, .lst ((s.rd.take c).map V.int ++ [V.int 70000]))]))
    refine q H10 D r3 ll2 { s with rd := s.rd.drop c } pr g w2 (s.rd.take c ++ [70000]) ha (On.read (.refl iv) c) (by rw [List.length_append]; simp only [List.length_cons, List.length_nil]; omega) ?_
    rw [List.map_append]
    unfold pr3
    rw [List.map_append]
    exact st
end
end Wk

namespace Wk
open PySem PySem.Spec PyProof.Rows L2
local macro_rules | `(tactic| walk_at "vk") => `(tactic| repeat (first | exact vk_nil | exact vk_here | refine vk_past ?_))
local macro_rules | `(tactic| walk_at "pk") => `(tactic| repeat (first | exact pk_nil | exact pk_here | refine pk_past ?_))
local macro_rules | `(tactic| walk_at "lk") => `(tactic| repeat (first | exact lk_nil | exact lk_here | refine lk_past ?_))
local macro_rules | `(tactic| walk_at "pf") => `(tactic| repeat (first | exact put_nil | exact put_here | refine put_past ?_))
local macro_rules | `(tactic| walk_at "nm") => `(tactic| try dsimp only [gNm, setK, uAdd, uSub, tNext, Option.getD, tC, uNe, uEq, uLe, uLt, uGe, uGt, uIs, uIsnt])
local macro_rules | `(tactic| walk_at "sub") => `(tactic| repeat first | exact List.nil_sublist _ | exact .slnil | apply List.Sublist.cons₂ | apply List.Sublist.cons)
local macro_rules | `(tactic| walk_at "ar") => `(tactic| first
  | decide
  | exact Nat.le_of_lt (sl_lt (by first | decide | omega))
  | exact .inl (.inr ⟨by first | decide | omega, by first | decide | omega⟩)
  | exact .inl (.inl ⟨by first | decide | omega, by first | decide | omega⟩)
  | exact .inl ⟨by first | decide | omega, by first | decide | omega⟩
  | exact ⟨by first | decide | omega, by first | decide | omega⟩
  | exact ⟨by first | decide | omega, by first | decide | omega, by first | decide | omega⟩
  | exact ⟨by first | decide | omega, by first | decide | omega, by first | decide | omega, by first | decide | omega⟩
  | exact ⟨by first | decide | omega, by first | decide | omega, by first | decide | omega, by first | decide | omega, by first | decide | omega⟩
  | exact .inr ⟨by decide, by decide +kernel⟩
  | omega
  | exact sl_lt (by omega))
local macro_rules | `(tactic| walk_at "g1") => `(tactic| refine And.intro (by walk_at "ar") ?_)
local macro_rules | `(tactic| walk_at "go") => `(tactic| repeat (refine And.intro (by walk_at "ar") ?_))
section
variable {P : Program} {w : World} {K : PySem.W.Frag} {mg : Str → Option Value} {base : Heap}

theorem use_reading {H0 H : Hp} {A : List Addr} {L : List (Addr × HO)} {T : List (V × PyData)} {x0 x1 x2 : V} {t dx r kd p r2 kd2 ll pp cl : Addr} {ns : List Int} {D : PD} {s : Tk} {lv : Int} {ps : List Addr} {Q : VK} {E : XK} (st : Sv K H0 A H ((px pp cl ns D ++ (bo K t dx r kd p r2 kd2 ll s lv ++ [(ll, .lst (ps.map V.ref))])) ++ L) T) (ha : 0 ≤ D.a) (hl : ns.length ≤ 63) (hps : ps.length < 10000) (iv : Iv s)
    (q : ∀ H' D' r2' ll' s' pr g w ms, 0 ≤ D'.a → On s s' → ms.length ≤ 5 → Sv K H0 A H' ((px pp cl ns D' ++ (bo K t dx r kd p r2' kd2 ll' s' lv ++ (ll', .lst ((ps ++ [pr]).map V.ref)) :: pr3 pr g w ms)) ++ L) T → Q (.bl true) H')
    (e0 : x0 = .ref t := by rfl) (e1 : x1 = .ref p := by rfl) (e2 : x2 = .ref pp := by rfl) : sp_reading K x0 x1 x2 H Q E := by
  subst e0 e1 e2
  unfold sp_reading
  exact ⟨t, dx, r, kd, p, r2, kd2, ll, pp, cl, ns, D, s, lv, ps, rfl, rfl, rfl, ha, hl, hps, iv, st.cellsF, fun H' D' r2' ll' s' pr g w ms a b c u => q H' D' r2' ll' s' pr g w ms a b c (st.call (T' := []) u)⟩
theorem prm2 {α : Type} (X Y S Z : List α) : ((X ++ Y) ++ (S ++ Z)).Perm (S ++ (Y ++ (X ++ Z))) := by
  rw [List.append_assoc]
  have h1 : (X ++ (Y ++ (S ++ Z))).Perm (X ++ (S ++ (Y ++ Z))) := (prm1 S Y Z).append_left X
  have h2 : (X ++ (S ++ (Y ++ Z))).Perm (S ++ (X ++ (Y ++ Z))) := prm1 S X (Y ++ Z)
  have h3 : (S ++ (X ++ (Y ++ Z))).Perm (S ++ (Y ++ (X ++ Z))) := (prm1 Y X Z).append_left S
  exact h1.trans (h2.trans h3)
theorem prm3 {α : Type} (X Y S Z : List α) : (X ++ ((S ++ Y) ++ Z)).Perm ((S ++ Y) ++ (X ++ Z)) := prm1 _ _ _
/-- the pairs of the lists -/
structure Pr3 where
  p : Addr
  g : Addr
  w : Addr
  ms : List Int
def prs (G : List Pr3) : List (Addr × HO) := G.flatMap fun q => pr3 q.p q.g q.w q.ms
theorem prs_snoc (G : List Pr3) (q : Pr3) : prs (G ++ [q]) = prs G ++ pr3 q.p q.g q.w q.ms := by
  unfold prs
  rw [List.flatMap_append]
  simp
def lsC (ll : Addr) (G : List Pr3) : List (Addr × HO) := (ll, .lst ((G.map (·.p)).map V.ref)) :: prs G
@[irreducible] def sp_deed (K : PySem.W.Frag) : Sp4 := fun x0 x1 x2 x3 H Q _ => ∃ (t dx r kd p r2 kd2 ll pp cl : Addr) (ns : List Int) (D : PD) (s : Tk) (lv n : Int) (G : List Pr3), x0 = .ref t ∧ x1 = .ref p ∧ x2 = .ref pp ∧ x3 = .int n ∧ 0 < n ∧ n < 1000 ∧ 0 ≤ D.a ∧ ns.length ≤ 63 ∧ G.length < 10000 ∧ (∀ q ∈ G, q.ms.length ≤ 5) ∧ Iv s ∧ lv ≤ upr s ∧ Cells H (px pp cl ns D ++ (bo K t dx r kd p r2 kd2 ll s lv ++ lsC ll G)) ∧
  ∀ H' D' kd' r2' kd2' ll' s' G', 0 ≤ D'.a → On s s' → G'.length ≤ G.length + 1 → (∀ q ∈ G', q.ms.length ≤ 5) → Sv K H ((px pp cl ns D ++ (bo K t dx r kd p r2 kd2 ll s lv ++ lsC ll G)).map Prod.fst) H' (px pp cl ns D' ++ (bo K t dx r kd' p r2' kd2' ll' s' (upr s') ++ lsC ll' G')) [] → Q (.bl true) H'
theorem ok_deed (e : Txt K mg) : Fok P w K mg base 6 (He.ga K "_law_deed") ["taker", "table", "purse", "share"] (mk4 (sp_deed K)) := by
  refine der__law_deed e (ok_draw e) (ok_number e) (ok_room e) (ok_given e) (ok_item e) (ok_three e) (ok_reading e) fun a0 a1 a2 a3 H Q E h => ?_
  unfold sp_deed at h
  obtain ⟨t, dx, r, kd, p, r2, kd2, ll, pp, cl, ns, D, s, lv, n, G, rfl, rfl, rfl, rfl, h0, h1, ha, hl, hG, hms, iv, hlv, hc, q⟩ := h
  generalize hA : (px pp cl ns D ++ (bo K t dx r kd p r2 kd2 ll s lv ++ lsC ll G)).map Prod.fst = A at q
  have st : Sv K H A H (px pp cl ns D ++ (bo K t dx r kd p r2 kd2 ll s lv ++ lsC ll G)) [] := hA ▸ hc.sv
  refine use_draw st ha hl (fun H1 D c ha _ _ st => ?_)
  walk_at "nm"
  refine cut (fun σ H' => ∃ (D : PD) (kd r2 kd2 ll : Addr) (s' : Tk) (G' : List Pr3) (x5 : Option V), σ = [some (.ref t), some (.ref p), some (.ref pp), some (.int n), some (.int c), x5, none] ∧ 0 ≤ D.a ∧ On s s' ∧ G'.length ≤ G.length + 1 ∧ (∀ q ∈ G', q.ms.length ≤ 5) ∧ Sv K H A H' (px pp cl ns D ++ (bo K t dx r kd p r2 kd2 ll s' lv ++ lsC ll G')) []) ?rest (fun fin => ?stm)
  case stm =>
    refine iteD (fun hz => ?_) (fun _ => ?_)
    · have st : Sv K H A H1 ((px pp cl ns D ++ tc p r2 kd2 s lv ll) ++ (tk K t dx r kd s ++ lsC ll G)) [] := st.perm (by
        unfold bo
        simp only [List.append_assoc]
        exact (prm1 _ _ _).append_left _)
      refine use_number st iv ha hl fun H2 D j ha st => ?_
      have st : Sv K H A H2 (px pp cl ns D ++ (tc p r2 kd2 s lv ll ++ (tk K t dx r kd s ++ lsC ll G))) [] := st.perm (by simp only [List.append_assoc]; exact .refl _)
      walk_at "nm"
      refine use_item st ha hl h0 h1 fun H3 D it ha st => ?_
      have st : Sv K H A H3 ((tk K t dx r kd s ++ tc p r2 kd2 s lv ll) ++ (px pp cl ns D ++ lsC ll G)) [] := st.perm (prm2 _ _ _ _)
      refine use_given (s := s) (it := it) st iv (fun H4 kd r2 kd2 st => ?_) (by rfl) (by rfl) (by rfl) (by rfl)
      walk_at "nm"
      exact fin _ _ ⟨D, kd, r2, kd2, ll, _, G, some (.int j), rfl, ha, (On.refl iv).tkt j it, by omega, hms, st.perm (prm3 _ _ _ _)⟩
    refine iteD (fun hz => ?_) (fun _ => ?_)
    · have st : Sv K H A H1 ((px pp cl ns D ++ bo K t dx r kd p r2 kd2 ll s lv) ++ lsC ll G) [] := st.perm (by rw [List.append_assoc])
      refine use_three st h0 h1 ha hl iv fun H2 D kd r2 kd2 s' ha on st => ?_
      exact fin _ _ ⟨D, kd, r2, kd2, ll, s', G, none, rfl, ha, on, by omega, hms, st.perm (by rw [List.append_assoc])⟩
    have st : Sv K H A H1 ((px pp cl ns D ++ (bo K t dx r kd p r2 kd2 ll s lv ++ [(ll, .lst ((G.map (·.p)).map V.ref))])) ++ prs G) [] := st.perm (by
      simp only [List.append_assoc]
      exact .refl _)
    refine use_reading st ha hl (by rw [List.length_map]; exact hG) iv fun H2 D r2 ll s' pr g w ms ha on hm st => ?_
    refine fin _ _ ⟨D, kd, r2, kd2, ll, s', G ++ [⟨pr, g, w, ms⟩], none, rfl, ha, on, by simp, fun q hq => ?_, st.perm ?_⟩
    · rcases List.mem_append.mp hq with h | h
      · exact hms q h
      · rw [List.mem_singleton.mp h]
        exact hm
    · unfold lsC
      rw [prs_snoc, List.map_append, List.append_assoc, List.append_assoc]
      refine List.Perm.append_left _ (.append_left _ ?_)
      rw [List.cons_append]
      exact .cons _ List.perm_append_comm
  case rest =>
    rintro σ H2 ⟨D, kd, r2, kd2, ll, s', G', x5, rfl, ha, on, hG', hms, st⟩
    have st : Sv K H A H2 (tk K t dx r kd s' ++ (px pp cl ns D ++ (tc p r2 kd2 s' lv ll ++ lsC ll G'))) [] := st.perm (by
      unfold bo
      simp only [List.append_assoc]
      exact prm1 _ _ _)
    have ht := st.at 0 rfl
    have ht2 := ht
    unfold tkF at ht2
    refine fl_H ht2 ?_
    refine obj_H ht ?_
    refine use_room ht (st.sq 1 rfl) ?_
    walk_at "nm"
    refine st.rd 5 ?_
    have hu := on.u
    refine iteD (fun hz => ?_) (fun _ => ?_)
    · have hz : s'.e + (s'.w - s'.rd.length) < lv := hz
      unfold upr at hu hlv
      omega
    walk_at "nm"
    refine st.wr 5 (tk K t dx r kd s' ++ (px pp cl ns D ++ (tc p r2 kd2 s' (upr s') ll ++ lsC ll G'))) (fun H3 st => ?_) (hn := by show 8 < 1000000; decide)
    refine q _ D kd r2 kd2 ll s' G' ha on hG' hms (st.perm ?_)
    unfold bo
    simp only [List.append_assoc]
    exact prm1 _ _ _
/-- a taker, its table, the lists read -/
structure Bx where
  t : Addr
  dx : Addr
  r : Addr
  kd : Addr
  p : Addr
  r2 : Addr
  kd2 : Addr
  ll : Addr
  s : Tk
  lv : Int
  G : List Pr3
def bx (K : PySem.W.Frag) (b : Bx) : List (Addr × HO) := bo K b.t b.dx b.r b.kd b.p b.r2 b.kd2 b.ll b.s b.lv ++ lsC b.ll b.G
structure BOk (b : Bx) : Prop where
  iv : Iv b.s
  lv : b.lv ≤ upr b.s
  ms : ∀ q ∈ b.G, q.ms.length ≤ 5
theorem use_deed {H0 H : Hp} {A : List Addr} {L : List (Addr × HO)} {T : List (V × PyData)} {x0 x1 x2 x3 : V} {pp cl : Addr} {ns : List Int} {D : PD} {n : Int} {Q : VK} {E : XK} (b : Bx) (st : Sv K H0 A H ((px pp cl ns D ++ bx K b) ++ L) T) (h0 : 0 < n) (h1 : n < 1000) (ha : 0 ≤ D.a) (hl : ns.length ≤ 63) (ok : BOk b) (hG : b.G.length < 10000)
    (q : ∀ H' D' b', 0 ≤ D'.a → BOk b' → b'.t = b.t → b'.p = b.p → b'.G.length ≤ b.G.length + 1 → Sv K H0 A H' ((px pp cl ns D' ++ bx K b') ++ L) T → Q (.bl true) H')
    (e0 : x0 = .ref b.t := by rfl) (e1 : x1 = .ref b.p := by rfl) (e2 : x2 = .ref pp := by rfl) (e3 : x3 = .int n := by rfl) : sp_deed K x0 x1 x2 x3 H Q E := by
  subst e0 e1 e2 e3
  obtain ⟨t, dx, r, kd, p, r2, kd2, ll, s, lv, G⟩ := b
  unfold sp_deed
  exact ⟨t, dx, r, kd, p, r2, kd2, ll, pp, cl, ns, D, s, lv, n, G, rfl, rfl, rfl, rfl, h0, h1, ha, hl, hG, ok.ms, ok.iv, ok.lv, st.cellsF, fun H' D' kd' r2' kd2' ll' s' G' a on b c u => q H' D' ⟨t, dx, r, kd', p, r2', kd2', ll', s', upr s', G'⟩ a ⟨on.iv, Int.le_refl _, c⟩ rfl rfl b (st.call (T' := []) u)⟩
theorem bx_HT {H : Hp} {b : Bx} (h : ∀ c ∈ bx K b, H c.1 = some c.2) : HT K H b.t b.dx b.r b.kd b.s :=
  ⟨h (b.t, _) (by simp [bx, bo, tk]), .inl (.inl (h (b.r, .lst (b.s.rd.map V.int)) (by simp [bx, bo, tk]))), h (b.kd, .dK (kpK b.s.kp)) (by simp [bx, bo, tk])⟩
theorem bx_HB {H : Hp} {b : Bx} (h : ∀ c ∈ bx K b, H c.1 = some c.2) : HB K H b.p b.r2 b.kd2 b.ll b.s b.lv :=
  ⟨h (b.p, _) (by simp [bx, bo, tc]), .inl (.inl (h (b.r2, .lst (b.s.rd.map V.int)) (by simp [bx, bo, tc]))), h (b.kd2, .dK (kpK b.s.kp)) (by simp [bx, bo, tc])⟩
theorem bx_ll {H : Hp} {b : Bx} (h : ∀ c ∈ bx K b, H c.1 = some c.2) : SqL K H b.ll ((b.G.map (·.p)).map V.ref) := .inl (.inl (h (b.ll, _) (by simp [bx, lsC])))
theorem bx_pr {H : Hp} {b : Bx} (h : ∀ c ∈ bx K b, H c.1 = some c.2) {q : Pr3} (hq : q ∈ b.G) : SqL K H q.p [.ref q.g, .ref q.w] ∧ SqL K H q.g (q.ms.map V.int) ∧ SqL K H q.w (q.ms.map V.int) := by
  have hm : ∀ c ∈ pr3 q.p q.g q.w q.ms, H c.1 = some c.2 := fun c hc => h c (by
    unfold bx lsC
    refine List.mem_append_right _ (List.mem_cons_of_mem _ ?_)
    unfold prs
    exact List.mem_flatMap.mpr ⟨q, hq, hc⟩)
  exact ⟨.inl (.inl (hm (q.p, _) (by simp [pr3]))), .inl (.inl (hm (q.g, .lst (q.ms.map V.int)) (by simp [pr3]))), .inl (.inl (hm (q.w, .lst (q.ms.map V.int)) (by simp [pr3])))⟩
end
end Wk

namespace Wk
open PySem PySem.Spec PyProof.Rows L2
local macro_rules | `(tactic| walk_at "vk") => `(tactic| repeat (first | exact vk_nil | exact vk_here | refine vk_past ?_))
local macro_rules | `(tactic| walk_at "pk") => `(tactic| repeat (first | exact pk_nil | exact pk_here | refine pk_past ?_))
local macro_rules | `(tactic| walk_at "lk") => `(tactic| repeat (first | exact lk_nil | exact lk_here | refine lk_past ?_))
local macro_rules | `(tactic| walk_at "pf") => `(tactic| repeat (first | exact put_nil | exact put_here | refine put_past ?_))
local macro_rules | `(tactic| walk_at "nm") => `(tactic| try dsimp only [gNm, setK, uAdd, uSub, tNext, Option.getD, tC, uNe, uEq, uLe, uLt, uGe, uGt, uIs, uIsnt])
local macro_rules | `(tactic| walk_at "sub") => `(tactic| repeat first | exact List.nil_sublist _ | exact .slnil | apply List.Sublist.cons₂ | apply List.Sublist.cons)
local macro_rules | `(tactic| walk_at "ar") => `(tactic| first
  | decide
  | exact Nat.le_of_lt (sl_lt (by first | decide | omega))
  | exact .inl (.inr ⟨by first | decide | omega, by first | decide | omega⟩)
  | exact .inl (.inl ⟨by first | decide | omega, by first | decide | omega⟩)
  | exact .inl ⟨by first | decide | omega, by first | decide | omega⟩
  | exact ⟨by first | decide | omega, by first | decide | omega⟩
  | exact ⟨by first | decide | omega, by first | decide | omega, by first | decide | omega⟩
  | exact ⟨by first | decide | omega, by first | decide | omega, by first | decide | omega, by first | decide | omega⟩
  | exact ⟨by first | decide | omega, by first | decide | omega, by first | decide | omega, by first | decide | omega, by first | decide | omega⟩
  | exact .inr ⟨by decide, by decide +kernel⟩
  | omega
  | exact sl_lt (by omega))
local macro_rules | `(tactic| walk_at "g1") => `(tactic| refine And.intro (by walk_at "ar") ?_)
local macro_rules | `(tactic| walk_at "go") => `(tactic| repeat (refine And.intro (by walk_at "ar") ?_))
section
variable {P : Program} {w : World} {K : PySem.W.Frag} {mg : Str → Option Value} {base : Heap}

theorem use_purse {H0 H : Hp} {A : List Addr} {L : List (Addr × HO)} {T : List (V × PyData)} {x : V} {a : Addr} {ns : List Int} {Q : VK} {E : XK} (st : Sv K H0 A H L T) (h : SqL K H a (ns.map V.int)) (hl : ns.length ≤ 63)
    (q : ∀ H' p cl ns D, 0 ≤ D.a → ns.length ≤ 63 → Sv K H0 A H' (px p cl ns D ++ L) T → Q (.ref p) H') (e : x = .ref a := by rfl) : sp_purse K x H Q E := by
  subst e
  unfold sp_purse
  exact ⟨a, ns, rfl, h, hl, fun H' p cl ns D a1 a2 u => q H' p cl ns D a1 a2 (by
    have := st.call0 u
    rw [List.append_nil] at this
    exact this)⟩
def hd2 (ta tb : Addr) (bs : List Bx) : List (Addr × HO) := [(ta, .lst (bs.map fun b => V.ref b.t)), (tb, .lst (bs.map fun b => V.ref b.p))]
theorem end_perm {α : Type} (X Y Z : List α) : (Z ++ (Y ++ X)).Perm (X ++ (Y ++ Z)) :=
  List.perm_append_comm.trans ((List.perm_append_comm.append_right _).trans (by rw [List.append_assoc]))
theorem end_perm2 {α : Type} (X Y Z : List α) : (Y ++ (Z ++ X)).Perm (Z ++ (X ++ Y)) := (prm1 Z Y X).trans (List.perm_append_comm.append_left _)
@[irreducible] def sp_law (K : PySem.W.Frag) : Sp1 := fun x0 H Q _ => ∃ (a : Addr) (ns : List Int), x0 = .ref a ∧ SqL K H a (ns.map V.int) ∧ ns.length ≤ 63 ∧ ∀ H', Q (.bl true) H'
theorem ok_law (e : Txt K mg) : Fok P w K mg base 7 (He.ga K "law") ["script"] (mk1 (sp_law K)) := by
  refine der_law e (ok_purse e) (ok_draw e) (ok_init e) (ok_table e) (ok_deed e) (ok_shown e) (ok_ring e) (ok_same_list e) fun a0 H Q E h => ?_
  unfold sp_law at h
  obtain ⟨a, ns0, rfl, hS, hl0, q⟩ := h
  have st : Sv K H [] H [] [] := Sv.start0
  refine use_purse st hS hl0 fun H1 pp cl ns D ha hl st => ?_
  refine st.lst fun ta H2 st => ?_
  refine st.lst fun tb H3 st => ?_
  walk_at "nm"
  have st := st.ord [2, 3, 1, 0] (L' := px pp cl ns D ++ (hd2 ta tb [] ++ ([] : List Bx).flatMap (bx K)))
  refine ⟨by decide, ?_⟩
  refine forR0 (fun k σ H' => ∃ (D : PD) (bs : List Bx) (x4 x5 x6 x7 : Option V), σ = [some (.ref a), some (.ref pp), some (.ref ta), some (.ref tb), x4, x5, x6, x7, none, none, none, none, none, none] ∧ 0 ≤ D.a ∧ bs.length = k ∧ (∀ b ∈ bs, BOk b ∧ b.G = []) ∧ Sv K H [] H' (px pp cl ns D ++ (hd2 ta tb bs ++ bs.flatMap (bx K))) []) ⟨D, [], none, none, none, none, rfl, ha, rfl, (fun _ h => nomatch h), st⟩ ?_ ?_
  · rintro k σ H4 hk ⟨D, bs, x4, x5, x6, x7, rfl, ha, hbs, hok, st⟩
    walk_at "nm"
    refine use_draw st ha hl fun H1 D m ha m0 m1 st => ?_
    walk_at "nm"
    refine use_draw st ha hl fun H1 D ch ha _ _ st => ?_
    walk_at "nm"
    refine cut (fun σ H' => ∃ (D : PD) (n : Int), σ = [some (.ref a), some (.ref pp), some (.ref ta), some (.ref tb), some (.int k), some (.int (2 + m)), some (.int n), some (.int ch), none, none, none, none, none, none] ∧ 0 ≤ D.a ∧ 8 ≤ n ∧ n ≤ 256 ∧ Sv K H [] H' (px pp cl ns D ++ (hd2 ta tb bs ++ bs.flatMap (bx K))) []) ?r1 (fun fin => ?s1)
    case s1 =>
      refine iteD (fun hz => ?_) (fun _ => ?_)
      · refine use_draw st ha hl fun H1 D j ha j0 j1 st => ?_
        exact fin _ _ ⟨D, 8 + j, rfl, ha, by omega, by omega, st⟩
      · exact fin _ _ ⟨D, 8, rfl, ha, by omega, by omega, st⟩
    case r1 =>
    rintro σ H5 ⟨D, n, rfl, ha, n0, n1, st⟩
    walk_at "nm"
    refine cut (fun σ H' => ∃ (D : PD) (n : Int), σ = [some (.ref a), some (.ref pp), some (.ref ta), some (.ref tb), some (.int k), some (.int (2 + m)), some (.int n), some (.int ch), none, none, none, none, none, none] ∧ 0 ≤ D.a ∧ 8 ≤ n ∧ n ≤ 256 ∧ Sv K H [] H' (px pp cl ns D ++ (hd2 ta tb bs ++ bs.flatMap (bx K))) []) ?r2 (fun fin => ?s2)
    case s2 =>
      refine iteD (fun hz => ?_) (fun _ => ?_)
      · refine use_draw st ha hl fun H1 D j ha j0 j1 st => ?_
        exact fin _ _ ⟨D, 8 + j, rfl, ha, by omega, by omega, st⟩
      · exact fin _ _ ⟨D, n, rfl, ha, by omega, by omega, st⟩
    case r2 =>
    rintro σ H6 ⟨D, n, rfl, ha, n0, n1, st⟩
    refine ⟨st.tyL 2, ?_⟩
    refine st.make fun x dx H5 st => ?_
    refine use_init st fun H6 r kd st => ?_
    refine ⟨rfl, ?_⟩
    have st := st.sub (L' := tk K x dx r kd ⟨2 + m, n, 0, [], false, []⟩ ++ (px pp cl ns D ++ (hd2 ta tb bs ++ bs.flatMap (bx K)))) ((List.sublist_cons_self _ _).append_left _)
    refine st.app 5 (tk K x dx r kd ⟨2 + m, n, 0, [], false, []⟩ ++ (px pp cl ns D ++ ([(ta, .lst ((bs.map fun b => V.ref b.t) ++ [V.ref x])), (tb, .lst (bs.map fun b => V.ref b.p))] ++ bs.flatMap (bx K)))) (fun H7 st => ?_) (hx := by rw [List.length_map]; omega)
    refine ⟨st.tyL 6, ?_⟩
    refine use_table st fun H8 p r2 kd2 ll st => ?_
    refine st.app 10 ((tc p r2 kd2 ⟨2 + m, n, 0, [], false, []⟩ (2 + m) ll ++ [(ll, .lst [])]) ++ (tk K x dx r kd ⟨2 + m, n, 0, [], false, []⟩ ++ (px pp cl ns D ++ ([(ta, .lst ((bs.map fun b => V.ref b.t) ++ [V.ref x])), (tb, .lst ((bs.map fun b => V.ref b.p) ++ [V.ref p]))] ++ bs.flatMap (bx K))))) (fun H9 st => ?_) (hx := by rw [List.length_map]; omega)
    refine ⟨D, bs ++ [⟨x, dx, r, kd, p, r2, kd2, ll, ⟨2 + m, n, 0, [], false, []⟩, 2 + m, []⟩], _, _, _, _, rfl, ha, by simp [hbs], fun b hb => ?_, st.perm ?_⟩
    · rcases List.mem_append.mp hb with h | h
      · exact hok b h
      · rw [List.mem_singleton.mp h]
        exact ⟨⟨⟨⟨by show 2 ≤ 2 + m; omega, by show 2 + m ≤ 4; omega⟩, ⟨n0, n1⟩, Int.le_refl _, List.nodup_nil, (fun _ h => nomatch h), (fun h => nomatch h), by show (0 : Int) ≤ 2 + m; omega⟩, by show 2 + m ≤ 0 + (2 + m - 0); omega, (fun _ h => nomatch h)⟩, rfl⟩
    · unfold hd2
      rw [List.map_append, List.map_append, List.flatMap_append, List.flatMap_singleton, ← List.append_assoc (_ :: _), ← List.append_assoc (px pp cl ns D)]
      have := end_perm (tc p r2 kd2 ⟨2 + m, n, 0, [], false, []⟩ (2 + m) ll ++ [(ll, .lst [])]) (tk K x dx r kd ⟨2 + m, n, 0, [], false, []⟩) (px pp cl ns D ++ ([(ta, .lst ((bs.map fun b => V.ref b.t) ++ [V.ref x])), (tb, .lst ((bs.map fun b => V.ref b.p) ++ [V.ref p]))] ++ bs.flatMap (bx K)))
      exact this
  · rintro σ H4 ⟨D, bs, x4, x5, x6, x7, rfl, ha, hbs, hok, st⟩
    match bs, hbs, hok, st with
    | [b1, b2], _, hok, st =>
    obtain ⟨ok1, g1⟩ := hok b1 (by simp)
    obtain ⟨ok2, g2⟩ := hok b2 (by simp)
    have st : Sv K H [] H4 (px pp cl ns D ++ (hd2 ta tb [b1, b2] ++ (bx K b1 ++ bx K b2))) [] := by
      have e1 : [b1, b2].flatMap (bx K) = bx K b1 ++ bx K b2 := by simp
      rw [e1] at st
      exact st
    clear hok
    refine st.lst fun sl H5 st => ?_
    refine use_draw (st.perm (L' := px pp cl ns D ++ ((sl, .lst [.int 8, .int 30, .int 200]) :: (hd2 ta tb [b1, b2] ++ (bx K b1 ++ bx K b2)))) List.perm_middle) ha hl fun H1 D m ha m0 m1 st => ?_
    obtain ⟨sh, hsh, s0, s1⟩ : ∃ sh : Int, atI [V.int 8, .int 30, .int 200] m = some (.int sh) ∧ 0 < sh ∧ sh < 1000 := by
      rcases (by omega : m = 0 ∨ m = 1 ∨ m = 2) with rfl | rfl | rfl
      · exact ⟨8, rfl, by decide, by decide⟩
      · exact ⟨30, rfl, by decide, by decide⟩
      · exact ⟨200, rfl, by decide, by decide⟩
    refine ix_L (st.sq 2 rfl) ?_ (hv := hsh)
    have st := st.sub (L' := px pp cl ns D ++ (hd2 ta tb [b1, b2] ++ (bx K b1 ++ bx K b2))) ((List.sublist_cons_self _ _).append_left _)
    walk_at "nm"
    refine use_draw st ha hl fun H1 D n ha n0 n1 st => ?_
    walk_at "nm"
    refine ⟨by omega, ?_⟩
    generalize ht1 : b1.t = t1
    generalize ht2 : b2.t = t2
    generalize hp1 : b1.p = p1
    generalize hp2 : b2.p = p2
    have st : Sv K H [] H1 (px pp cl ns D ++ ([(ta, .lst [.ref t1, .ref t2]), (tb, .lst [.ref p1, .ref p2])] ++ (bx K b1 ++ bx K b2))) [] := by
      subst ht1 ht2 hp1 hp2
      exact st
    refine forR0 (fun k σ H' => ∃ (D : PD) (b1 b2 : Bx) (x4 x10 : Option V), σ = [some (.ref a), some (.ref pp), some (.ref ta), some (.ref tb), x4, x5, x6, x7, some (.int sh), some (.int (8 + n)), x10, none, none, none] ∧ 0 ≤ D.a ∧ BOk b1 ∧ BOk b2 ∧ b1.t = t1 ∧ b2.t = t2 ∧ b1.p = p1 ∧ b2.p = p2 ∧ b1.G.length ≤ k ∧ b2.G.length ≤ k ∧ Sv K H [] H' (px pp cl ns D ++ ([(ta, .lst [.ref t1, .ref t2]), (tb, .lst [.ref p1, .ref p2])] ++ (bx K b1 ++ bx K b2))) []) ⟨D, b1, b2, _, none, rfl, ha, ok1, ok2, ht1, ht2, hp1, hp2, by rw [g1]; exact Nat.le_refl _, by rw [g2]; exact Nat.le_refl _, st⟩ ?_ ?_
    · clear st ok1 ok2 g1 g2 ht1 ht2 hp1 hp2
      rintro k σ H6 hk ⟨D, b1, b2, x4, x10, rfl, ha, ok1, ok2, ht1, ht2, hp1, hp2, g1, g2, st⟩
      walk_at "nm"
      refine st.lst fun wl H7 st => ?_
      refine use_draw (st.perm (L' := px pp cl ns D ++ ((wl, .lst [.int 0, .int 0, .int 1]) :: ([(ta, .lst [.ref t1, .ref t2]), (tb, .lst [.ref p1, .ref p2])] ++ (bx K b1 ++ bx K b2)))) List.perm_middle) ha hl fun H1 D m ha m0 m1 st => ?_
      obtain ⟨wh, hwh, hw⟩ : ∃ wh : Int, atI [V.int 0, .int 0, .int 1] m = some (.int wh) ∧ (wh = 0 ∨ wh = 1) := by
        rcases (by omega : m = 0 ∨ m = 1 ∨ m = 2) with rfl | rfl | rfl
        · exact ⟨0, rfl, .inl rfl⟩
        · exact ⟨0, rfl, .inl rfl⟩
        · exact ⟨1, rfl, .inr rfl⟩
      refine ix_L (st.sq 2 rfl) ?_ (hv := hwh)
      have st := st.sub (L' := px pp cl ns D ++ ([(ta, .lst [.ref t1, .ref t2]), (tb, .lst [.ref p1, .ref p2])] ++ (bx K b1 ++ bx K b2))) ((List.sublist_cons_self _ _).append_left _)
      walk_at "nm"
      obtain ⟨b, o, okb, hgb, e1, e2, st, back⟩ : ∃ b o : Bx, BOk b ∧ b.G.length ≤ k ∧ atI [V.ref t1, .ref t2] wh = some (.ref b.t) ∧ atI [V.ref p1, .ref p2] wh = some (.ref b.p) ∧ Sv K H [] H1 ((px pp cl ns D ++ bx K b) ++ ([(ta, .lst [.ref t1, .ref t2]), (tb, .lst [.ref p1, .ref p2])] ++ bx K o)) [] ∧
          (∀ (b' : Bx) (D : PD) (H' : Hp), b'.t = b.t → b'.p = b.p → BOk b' → b'.G.length ≤ k + 1 → Sv K H [] H' ((px pp cl ns D ++ bx K b') ++ ([(ta, .lst [.ref t1, .ref t2]), (tb, .lst [.ref p1, .ref p2])] ++ bx K o)) [] →
            ∃ b1 b2 : Bx, BOk b1 ∧ BOk b2 ∧ b1.t = t1 ∧ b2.t = t2 ∧ b1.p = p1 ∧ b2.p = p2 ∧ b1.G.length ≤ k + 1 ∧ b2.G.length ≤ k + 1 ∧ Sv K H [] H' (px pp cl ns D ++ ([(ta, .lst [.ref t1, .ref t2]), (tb, .lst [.ref p1, .ref p2])] ++ (bx K b1 ++ bx K b2))) []) := by
        rcases hw with rfl | rfl
        · refine ⟨b1, b2, ok1, g1, by rw [ht1]; rfl, by rw [hp1]; rfl, st.perm ?_, fun b' D H' a1 a2 a3 a4 u => ⟨b', b2, a3, ok2, a1.trans ht1, ht2, a2.trans hp1, hp2, a4, by omega, u.perm ?_⟩⟩
          · rw [List.append_assoc]
            exact (prm1 _ _ _).append_left _
          · rw [List.append_assoc]
            exact (prm1 _ _ _).append_left _
        · refine ⟨b2, b1, ok2, g2, by rw [ht2]; rfl, by rw [hp2]; rfl, st.perm ?_, fun b' D H' a1 a2 a3 a4 u => ⟨b1, b', ok1, a3, ht1, a1.trans ht2, hp1, a2.trans hp2, by omega, a4, u.perm ?_⟩⟩
          · rw [List.append_assoc]
            exact (end_perm2 _ _ _).append_left _
          · rw [List.append_assoc]
            exact (end_perm2 _ _ _).symm.append_left _
      clear ok1 ok2 g1 g2 ht1 ht2 hp1 hp2
      have hta : ∀ {H' : Hp} {D : PD} {b : Bx}, Sv K H [] H' ((px pp cl ns D ++ bx K b) ++ ([(ta, .lst [.ref t1, .ref t2]), (tb, .lst [.ref p1, .ref p2])] ++ bx K o)) [] → SqL K H' ta [.ref t1, .ref t2] ∧ SqL K H' tb [.ref p1, .ref p2] ∧ ∀ c ∈ bx K b, H' c.1 = some c.2 := fun u =>
        ⟨.inl (.inl (u.own (ta, _) (by simp)).1), .inl (.inl (u.own (tb, .lst [.ref p1, .ref p2]) (by simp)).1), fun c hc => (u.own c (by simp [hc])).1⟩
      refine ix_L (hta st).1 ?_ (hv := e1)
      refine ix_L (hta st).2.1 ?_ (hv := e2)
      refine use_deed b st s0 s1 ha hl okb (by omega) fun H8 D b' ha ok' et ep hG st => ?_
      walk_at "nm"
      rw [← et] at e1
      rw [← ep] at e2
      have nxt : ∀ {H' : Hp} {D : PD}, 0 ≤ D.a → Sv K H [] H' ((px pp cl ns D ++ bx K b') ++ ([(ta, .lst [.ref t1, .ref t2]), (tb, .lst [.ref p1, .ref p2])] ++ bx K o)) [] → ∃ (D : PD) (b1 b2 : Bx) (x4' x10' : Option V), [some (V.ref a), some (.ref pp), some (.ref ta), some (.ref tb), some (.int (k : Nat)), x5, x6, x7, some (.int sh), some (.int (8 + n)), some (.int wh), none, none, none] = [some (.ref a), some (.ref pp), some (.ref ta), some (.ref tb), x4', x5, x6, x7, some (.int sh), some (.int (8 + n)), x10', none, none, none] ∧ 0 ≤ D.a ∧ BOk b1 ∧ BOk b2 ∧ b1.t = t1 ∧ b2.t = t2 ∧ b1.p = p1 ∧ b2.p = p2 ∧ b1.G.length ≤ k + 1 ∧ b2.G.length ≤ k + 1 ∧ Sv K H [] H' (px pp cl ns D ++ ([(ta, .lst [.ref t1, .ref t2]), (tb, .lst [.ref p1, .ref p2])] ++ (bx K b1 ++ bx K b2))) [] := fun ha u => by
        obtain ⟨b1, b2, c1, c2, c3, c4, c5, c6, c7, c8, c9⟩ := back b' _ _ et ep ok' (by omega) u
        exact ⟨_, b1, b2, _, _, rfl, ha, c1, c2, c3, c4, c5, c6, c7, c8, c9⟩
      have st2 : Sv K H [] H8 (px pp cl ns D ++ (bx K b' ++ ([(ta, .lst [.ref t1, .ref t2]), (tb, .lst [.ref p1, .ref p2])] ++ bx K o))) [] := st.perm (by rw [List.append_assoc])
      refine use_draw st2 ha hl fun H1 D m ha m0 m1 st2 => ?_
      have st : Sv K H [] H1 ((px pp cl ns D ++ bx K b') ++ ([(ta, .lst [.ref t1, .ref t2]), (tb, .lst [.ref p1, .ref p2])] ++ bx K o)) [] := st2.perm (by rw [List.append_assoc])
      refine iteD (fun hz => ?_) (fun _ => ?_)
      · refine ix_L (hta st).1 ?_ (hv := e1)
        refine ix_L (hta st).2.1 ?_ (hv := e2)
        refine use_shown st (by have := ok'.iv.len; omega) (by have := ok'.iv.rl; have := ok'.iv.w; omega) (by have := ok'.iv.n; omega) (bx_HT (hta st).2.2) (bx_HB (hta st).2.2) fun H9 st => ?_
        exact nxt ha st
      · exact nxt ha st
    · clear st ok1 ok2 g1 g2 ht1 ht2 hp1 hp2
      rintro σ H6 ⟨D, b1, b2, x4, x10, rfl, ha, ok1, ok2, ht1, ht2, hp1, hp2, g1, g2, st⟩
      have hn : (8 + n).toNat ≤ 101 := by omega
      refine ⟨by decide, ?_⟩
      refine forR0 (fun k σ H' => ∃ (D : PD) (x4 x11 x12 x13 : Option V), σ = [some (.ref a), some (.ref pp), some (.ref ta), some (.ref tb), x4, x5, x6, x7, some (.int sh), some (.int (8 + n)), x10, x11, x12, x13] ∧ 0 ≤ D.a ∧ Sv K H [] H' (px pp cl ns D ++ ([(ta, .lst [.ref t1, .ref t2]), (tb, .lst [.ref p1, .ref p2])] ++ (bx K b1 ++ bx K b2))) []) ⟨D, _, _, _, _, rfl, ha, st⟩ ?_ ?_
      · clear st ha
        rintro k σ H7 hk ⟨D, x4, x11, x12, x13, rfl, ha, st⟩
        walk_at "nm"
        obtain ⟨b, okb, hgb, e1, e2, hin⟩ : ∃ b : Bx, BOk b ∧ b.G.length < 10000 ∧ atI [V.ref t1, .ref t2] (k : Nat) = some (.ref b.t) ∧ atI [V.ref p1, .ref p2] (k : Nat) = some (.ref b.p) ∧ ∀ c ∈ bx K b, c ∈ bx K b1 ++ bx K b2 := by
          rcases (by have : k < 2 := hk; omega : k = 0 ∨ k = 1) with rfl | rfl
          · exact ⟨b1, ok1, by omega, by rw [ht1]; rfl, by rw [hp1]; rfl, fun c hc => List.mem_append_left _ hc⟩
          · exact ⟨b2, ok2, by omega, by rw [ht2]; rfl, by rw [hp2]; rfl, fun c hc => List.mem_append_right _ hc⟩
        have hta : ∀ {H' : Hp} {D : PD}, Sv K H [] H' (px pp cl ns D ++ ([(ta, .lst [.ref t1, .ref t2]), (tb, .lst [.ref p1, .ref p2])] ++ (bx K b1 ++ bx K b2))) [] → SqL K H' ta [.ref t1, .ref t2] ∧ SqL K H' tb [.ref p1, .ref p2] ∧ ∀ c ∈ bx K b, H' c.1 = some c.2 := fun u =>
          ⟨.inl (.inl (u.own (ta, _) (by simp)).1), .inl (.inl (u.own (tb, .lst [.ref p1, .ref p2]) (by simp)).1), fun c hc => (u.own c (List.mem_append_right _ (List.mem_append_right _ (hin c hc)))).1⟩
        refine ix_L (hta st).1 ?_ (hv := e1)
        refine ix_L (hta st).2.1 ?_ (hv := e2)
        refine use_shown st (by have := okb.iv.len; omega) (by have := okb.iv.rl; have := okb.iv.w; omega) (by have := okb.iv.n; omega) (bx_HT (hta st).2.2) (bx_HB (hta st).2.2) fun H9 st => ?_
        refine ix_L (hta st).2.1 ?_ (hv := e2)
        have hb := (bx_HB (hta st).2.2).p
        unfold tbF at hb
        refine rd_H hb ?_
        refine forL (fun i σ H' => H' = H9 ∧ ∃ x11, σ = [some (.ref a), some (.ref pp), some (.ref ta), some (.ref tb), some (.int (k : Nat)), x5, x6, x7, some (.int sh), some (.int (8 + n)), x10, x11, x12, x13]) (bx_ll (hta st).2.2) ⟨rfl, _, rfl⟩ ?_ ?_ ?_
        · rintro i σ H10 _ ⟨rfl, _⟩
          exact bx_ll (hta st).2.2
        · rintro i x σ H10 hx ⟨rfl, x11, rfl⟩
          rw [List.map_map, List.getElem?_map] at hx
          cases hq : b.G[i]? with
          | none => rw [hq] at hx; cases hx
          | some z =>
            rw [hq] at hx
            have := (Option.some.inj hx).symm
            subst this
            obtain ⟨y1, y2, y3⟩ := bx_pr (hta st).2.2 (List.mem_of_getElem? hq)
            walk_at "nm"
            refine ix_L y1 ?_
            refine ix_L y1 ?_
            refine use_same_list y2 y3 (by have := okb.ms z (List.mem_of_getElem? hq); omega) ?_
            exact ⟨rfl, _, rfl⟩
        · rintro σ H10 ⟨rfl, x11, rfl⟩
          refine use_draw st ha hl fun H1 D lo ha _ _ st => ?_
          walk_at "nm"
          refine use_draw st ha hl fun H1 D nu ha _ _ st => ?_
          walk_at "nm"
          refine use_draw st ha hl fun H1 D sz ha _ _ st => ?_
          walk_at "nm"
          refine use_ring ?_ (n := 2 + sz) (by omega)
          exact ⟨D, _, _, _, _, rfl, ha, st⟩
      · rintro σ H7 _
        exact q _
end
end Wk

namespace Wk
open PySem PySem.Spec PyProof.Rows L2
def d_ring_index : DefX := ⟨fun K => (He.ga K "ring_index"), "ring_index", "ring_index", defArgs s_ring_index, defBody s_ring_index, defScope s_ring_index, [], []⟩
def d_Taker___init__ : DefX := ⟨fun K => (He.ma K (He.ga K "Taker") "__init__"), "__init__", "Taker.__init__", defArgs s_Taker___init__, defBody s_Taker___init__, defScope s_Taker___init__, [], []⟩
def d_Taker_room : DefX := ⟨fun K => (pg K (He.ga K "Taker") "room"), "room", "Taker.room", defArgs s_Taker_room, defBody s_Taker_room, defScope s_Taker_room, [], []⟩
def d_Taker_take : DefX := ⟨fun K => (He.ma K (He.ga K "Taker") "take"), "take", "Taker.take", defArgs s_Taker_take, defBody s_Taker_take, defScope s_Taker_take, [], []⟩
def d_Taker__move : DefX := ⟨fun K => (He.ma K (He.ga K "Taker") "_move"), "_move", "Taker._move", defArgs s_Taker__move, defBody s_Taker__move, defScope s_Taker__move, [], []⟩
def d_Taker_read : DefX := ⟨fun K => (He.ma K (He.ga K "Taker") "read"), "read", "Taker.read", defArgs s_Taker_read, defBody s_Taker_read, defScope s_Taker_read, [.non], []⟩
def d_Taker_told : DefX := ⟨fun K => (He.ma K (He.ga K "Taker") "told"), "told", "Taker.told", defArgs s_Taker_told, defBody s_Taker_told, defScope s_Taker_told, [], []⟩
def d_Taker_kept : DefX := ⟨fun K => (He.ma K (He.ga K "Taker") "kept"), "kept", "Taker.kept", defArgs s_Taker_kept, defBody s_Taker_kept, defScope s_Taker_kept, [], []⟩
def d__law_is_number : DefX := ⟨fun K => (He.ga K "_law_is_number"), "_law_is_number", "_law_is_number", defArgs s__law_is_number, defBody s__law_is_number, defScope s__law_is_number, [], []⟩
def d__law_purse : DefX := ⟨fun K => (He.ga K "_law_purse"), "_law_purse", "_law_purse", defArgs s__law_purse, defBody s__law_purse, defScope s__law_purse, [], []⟩
def d__law_mixed : DefX := ⟨fun K => (He.ga K "_law_mixed"), "_law_mixed", "_law_mixed", defArgs s__law_mixed, defBody s__law_mixed, defScope s__law_mixed, [], []⟩
def d__law_draw : DefX := ⟨fun K => (He.ga K "_law_draw"), "_law_draw", "_law_draw", defArgs s__law_draw, defBody s__law_draw, defScope s__law_draw, [], []⟩
def d__law_table : DefX := ⟨fun K => (He.ga K "_law_table"), "_law_table", "_law_table", defArgs s__law_table, defBody s__law_table, defScope s__law_table, [], []⟩
def d__law_taken : DefX := ⟨fun K => (He.ga K "_law_taken"), "_law_taken", "_law_taken", defArgs s__law_taken, defBody s__law_taken, defScope s__law_taken, [], []⟩
def d__law_same_list : DefX := ⟨fun K => (He.ga K "_law_same_list"), "_law_same_list", "_law_same_list", defArgs s__law_same_list, defBody s__law_same_list, defScope s__law_same_list, [], []⟩
def d__law_same_pair : DefX := ⟨fun K => (He.ga K "_law_same_pair"), "_law_same_pair", "_law_same_pair", defArgs s__law_same_pair, defBody s__law_same_pair, defScope s__law_same_pair, [], []⟩
def d__law_same_kept : DefX := ⟨fun K => (He.ga K "_law_same_kept"), "_law_same_kept", "_law_same_kept", defArgs s__law_same_kept, defBody s__law_same_kept, defScope s__law_same_kept, [], []⟩
def d__law_shown : DefX := ⟨fun K => (He.ga K "_law_shown"), "_law_shown", "_law_shown", defArgs s__law_shown, defBody s__law_shown, defScope s__law_shown, [], []⟩
def d__law_number : DefX := ⟨fun K => (He.ga K "_law_number"), "_law_number", "_law_number", defArgs s__law_number, defBody s__law_number, defScope s__law_number, [], []⟩
def d__law_item : DefX := ⟨fun K => (He.ga K "_law_item"), "_law_item", "_law_item", defArgs s__law_item, defBody s__law_item, defScope s__law_item, [], []⟩
def d__law_ring : DefX := ⟨fun K => (He.ga K "_law_ring"), "_law_ring", "_law_ring", defArgs s__law_ring, defBody s__law_ring, defScope s__law_ring, [], []⟩
def d__law_reading : DefX := ⟨fun K => (He.ga K "_law_reading"), "_law_reading", "_law_reading", defArgs s__law_reading, defBody s__law_reading, defScope s__law_reading, [], []⟩
def d__law_given : DefX := ⟨fun K => (He.ga K "_law_given"), "_law_given", "_law_given", defArgs s__law_given, defBody s__law_given, defScope s__law_given, [], []⟩
def d__law_three : DefX := ⟨fun K => (He.ga K "_law_three"), "_law_three", "_law_three", defArgs s__law_three, defBody s__law_three, defScope s__law_three, [], []⟩
def d__law_deed : DefX := ⟨fun K => (He.ga K "_law_deed"), "_law_deed", "_law_deed", defArgs s__law_deed, defBody s__law_deed, defScope s__law_deed, [], []⟩
def d_law : DefX := ⟨fun K => (He.ga K "law"), "law", "law", defArgs s_law, defBody s_law, defScope s_law, [], []⟩
def fnL : List DefX := [d_ring_index, d_Taker___init__, d_Taker_room, d_Taker_take, d_Taker__move, d_Taker_read, d_Taker_told, d_Taker_kept, d__law_is_number, d__law_purse, d__law_mixed, d__law_draw, d__law_table, d__law_taken, d__law_same_list, d__law_same_pair, d__law_same_kept, d__law_shown, d__law_number, d__law_item, d__law_ring, d__law_reading, d__law_given, d__law_three, d__law_deed, d_law]
def faL : List Fx := [(fun K => (He.Fa.glo "Taker").ok K), (fun K => (He.Fa.glo "_law_deed").ok K), (fun K => (He.Fa.glo "_law_draw").ok K), (fun K => (He.Fa.glo "_law_given").ok K), (fun K => (He.Fa.glo "_law_is_number").ok K), (fun K => (He.Fa.glo "_law_item").ok K), (fun K => (He.Fa.glo "_law_mixed").ok K), (fun K => (He.Fa.glo "_law_number").ok K), (fun K => (He.Fa.glo "_law_purse").ok K), (fun K => (He.Fa.glo "_law_reading").ok K), (fun K => (He.Fa.glo "_law_ring").ok K), (fun K => (He.Fa.glo "_law_same_kept").ok K), (fun K => (He.Fa.glo "_law_same_list").ok K), (fun K => (He.Fa.glo "_law_same_pair").ok K), (fun K => (He.Fa.glo "_law_shown").ok K), (fun K => (He.Fa.glo "_law_table").ok K), (fun K => (He.Fa.glo "_law_taken").ok K), (fun K => (He.Fa.glo "_law_three").ok K), (fun K => (He.Fa.free "bool").ok K), (fun K => (He.Fa.free "int").ok K), (fun K => (He.Fa.free "isinstance").ok K), (fun K => (He.Fa.glo "law").ok K), (fun K => (He.Fa.free "len").ok K), (fun K => (He.Fa.free "list").ok K), (fun K => (He.Fa.free "max").ok K), (fun K => (He.Fa.free "range").ok K), (fun K => (He.Fa.glo "ring_index").ok K), (fun K => (He.Fa.free "sorted").ok K), (fun K => (He.Fa.free "tuple").ok K), (fun K => (He.Fa.mkr "Taker").ok K), (fun K => (He.Fa.cls "Taker").ok K), (fun K => (He.Fa.meth "Taker" "_move").ok K), (fun K => (He.Fa.meth "Taker" "kept").ok K), (fun K => (He.Fa.meth "Taker" "read").ok K), (fun K => (He.Fa.meth "Taker" "take").ok K), (fun K => (He.Fa.meth "Taker" "told").ok K), (fun K => (He.Fa.noat "Taker" "_kept").ok K), (fun K => (He.Fa.noat "Taker" "expected").ok K), (fun K => (He.Fa.noat "Taker" "heard").ok K), (fun K => (He.Fa.noat "Taker" "numbers").ok K), (fun K => (He.Fa.noat "Taker" "ready").ok K), (fun K => (He.Fa.noat "Taker" "window").ok K), (prB "Taker" "room")]
def loose : List Str := (["ring_index", "Taker", "_law_is_number", "_law_purse", "_law_mixed", "_law_draw", "_law_table", "_law_taken", "_law_same_list", "_law_same_pair", "_law_same_kept", "_law_shown", "_law_number", "_law_item", "_law_ring", "_law_reading", "_law_given", "_law_three", "_law_deed"] : List Str)
abbrev R : PySem.W.OpenRow := PySem.W.OpenLaw.row PySem.Challenge.rw_wirespan_k20_taker_in_order
abbrev hk : PySem.W.Hook := hookX 6 faL fnL
def ob (s : PySem.W.SharedT) : He.AlD := obsXG 6 faL fnL (HandSHeadRun.getT s)
theorem ob_eq (s : PySem.W.SharedT) : ob s = hk.obs s.abs := obsXG_eq (HandSHeadRun.getT_eq s)
theorem run (w : World) : HandSHeadRun.RunEq R (PySem.W.view R.prog [21]) hk ob 20000 loose w := by
  intro os
  kernel_rfl
theorem txt_ok {K : PySem.W.Frag} {h : Heap} {mg : Str → Option Value} (X : K.In h) (G : h.Ns mainGlobals mg) (c : SaysX faL fnL K) : Txt K mg where
  g_Taker := He.glo_ok X G (c.fact 0 (f := (fun K => (He.Fa.glo "Taker").ok K)) rfl)
  g__law_deed := He.glo_ok X G (c.fact 1 (f := (fun K => (He.Fa.glo "_law_deed").ok K)) rfl)
  g__law_draw := He.glo_ok X G (c.fact 2 (f := (fun K => (He.Fa.glo "_law_draw").ok K)) rfl)
  g__law_given := He.glo_ok X G (c.fact 3 (f := (fun K => (He.Fa.glo "_law_given").ok K)) rfl)
  g__law_is_number := He.glo_ok X G (c.fact 4 (f := (fun K => (He.Fa.glo "_law_is_number").ok K)) rfl)
  g__law_item := He.glo_ok X G (c.fact 5 (f := (fun K => (He.Fa.glo "_law_item").ok K)) rfl)
  g__law_mixed := He.glo_ok X G (c.fact 6 (f := (fun K => (He.Fa.glo "_law_mixed").ok K)) rfl)
  g__law_number := He.glo_ok X G (c.fact 7 (f := (fun K => (He.Fa.glo "_law_number").ok K)) rfl)
  g__law_purse := He.glo_ok X G (c.fact 8 (f := (fun K => (He.Fa.glo "_law_purse").ok K)) rfl)
  g__law_reading := He.glo_ok X G (c.fact 9 (f := (fun K => (He.Fa.glo "_law_reading").ok K)) rfl)
  g__law_ring := He.glo_ok X G (c.fact 10 (f := (fun K => (He.Fa.glo "_law_ring").ok K)) rfl)
  g__law_same_kept := He.glo_ok X G (c.fact 11 (f := (fun K => (He.Fa.glo "_law_same_kept").ok K)) rfl)
  g__law_same_list := He.glo_ok X G (c.fact 12 (f := (fun K => (He.Fa.glo "_law_same_list").ok K)) rfl)
  g__law_same_pair := He.glo_ok X G (c.fact 13 (f := (fun K => (He.Fa.glo "_law_same_pair").ok K)) rfl)
  g__law_shown := He.glo_ok X G (c.fact 14 (f := (fun K => (He.Fa.glo "_law_shown").ok K)) rfl)
  g__law_table := He.glo_ok X G (c.fact 15 (f := (fun K => (He.Fa.glo "_law_table").ok K)) rfl)
  g__law_taken := He.glo_ok X G (c.fact 16 (f := (fun K => (He.Fa.glo "_law_taken").ok K)) rfl)
  g__law_three := He.glo_ok X G (c.fact 17 (f := (fun K => (He.Fa.glo "_law_three").ok K)) rfl)
  b_bool := He.free_ok X G (c.fact 18 (f := (fun K => (He.Fa.free "bool").ok K)) rfl)
  b_int := He.free_ok X G (c.fact 19 (f := (fun K => (He.Fa.free "int").ok K)) rfl)
  b_isinstance := He.free_ok X G (c.fact 20 (f := (fun K => (He.Fa.free "isinstance").ok K)) rfl)
  g_law := He.glo_ok X G (c.fact 21 (f := (fun K => (He.Fa.glo "law").ok K)) rfl)
  b_len := He.free_ok X G (c.fact 22 (f := (fun K => (He.Fa.free "len").ok K)) rfl)
  b_list := He.free_ok X G (c.fact 23 (f := (fun K => (He.Fa.free "list").ok K)) rfl)
  b_max := He.free_ok X G (c.fact 24 (f := (fun K => (He.Fa.free "max").ok K)) rfl)
  b_range := He.free_ok X G (c.fact 25 (f := (fun K => (He.Fa.free "range").ok K)) rfl)
  g_ring_index := He.glo_ok X G (c.fact 26 (f := (fun K => (He.Fa.glo "ring_index").ok K)) rfl)
  b_sorted := He.free_ok X G (c.fact 27 (f := (fun K => (He.Fa.free "sorted").ok K)) rfl)
  b_tuple := He.free_ok X G (c.fact 28 (f := (fun K => (He.Fa.free "tuple").ok K)) rfl)
  M_Taker := He.mkr_ok (c.fact 29 (f := (fun K => (He.Fa.mkr "Taker").ok K)) rfl)
  k_Taker := He.cls_ok (c.fact 30 (f := (fun K => (He.Fa.cls "Taker").ok K)) rfl)
  m_Taker__move := He.meth_ok (c.fact 31 (f := (fun K => (He.Fa.meth "Taker" "_move").ok K)) rfl)
  m_Taker_kept := He.meth_ok (c.fact 32 (f := (fun K => (He.Fa.meth "Taker" "kept").ok K)) rfl)
  m_Taker_read := He.meth_ok (c.fact 33 (f := (fun K => (He.Fa.meth "Taker" "read").ok K)) rfl)
  m_Taker_take := He.meth_ok (c.fact 34 (f := (fun K => (He.Fa.meth "Taker" "take").ok K)) rfl)
  m_Taker_told := He.meth_ok (c.fact 35 (f := (fun K => (He.Fa.meth "Taker" "told").ok K)) rfl)
  n_Taker__kept := He.noat_ok (c.fact 36 (f := (fun K => (He.Fa.noat "Taker" "_kept").ok K)) rfl)
  n_Taker_expected := He.noat_ok (c.fact 37 (f := (fun K => (He.Fa.noat "Taker" "expected").ok K)) rfl)
  n_Taker_heard := He.noat_ok (c.fact 38 (f := (fun K => (He.Fa.noat "Taker" "heard").ok K)) rfl)
  n_Taker_numbers := He.noat_ok (c.fact 39 (f := (fun K => (He.Fa.noat "Taker" "numbers").ok K)) rfl)
  n_Taker_ready := He.noat_ok (c.fact 40 (f := (fun K => (He.Fa.noat "Taker" "ready").ok K)) rfl)
  n_Taker_window := He.noat_ok (c.fact 41 (f := (fun K => (He.Fa.noat "Taker" "window").ok K)) rfl)
  p_Taker_room := pr_ok (c.fact 42 (f := (prB "Taker" "room")) rfl)
  F_ring_index := c.def_ 0 (d := d_ring_index) rfl
  F_Taker___init__ := c.def_ 1 (d := d_Taker___init__) rfl
  F_Taker_room := c.def_ 2 (d := d_Taker_room) rfl
  F_Taker_take := c.def_ 3 (d := d_Taker_take) rfl
  F_Taker__move := c.def_ 4 (d := d_Taker__move) rfl
  F_Taker_read := c.def_ 5 (d := d_Taker_read) rfl
  F_Taker_told := c.def_ 6 (d := d_Taker_told) rfl
  F_Taker_kept := c.def_ 7 (d := d_Taker_kept) rfl
  F__law_is_number := c.def_ 8 (d := d__law_is_number) rfl
  F__law_purse := c.def_ 9 (d := d__law_purse) rfl
  F__law_mixed := c.def_ 10 (d := d__law_mixed) rfl
  F__law_draw := c.def_ 11 (d := d__law_draw) rfl
  F__law_table := c.def_ 12 (d := d__law_table) rfl
  F__law_taken := c.def_ 13 (d := d__law_taken) rfl
  F__law_same_list := c.def_ 14 (d := d__law_same_list) rfl
  F__law_same_pair := c.def_ 15 (d := d__law_same_pair) rfl
  F__law_same_kept := c.def_ 16 (d := d__law_same_kept) rfl
  F__law_shown := c.def_ 17 (d := d__law_shown) rfl
  F__law_number := c.def_ 18 (d := d__law_number) rfl
  F__law_item := c.def_ 19 (d := d__law_item) rfl
  F__law_ring := c.def_ 20 (d := d__law_ring) rfl
  F__law_reading := c.def_ 21 (d := d__law_reading) rfl
  F__law_given := c.def_ 22 (d := d__law_given) rfl
  F__law_three := c.def_ 23 (d := d__law_three) rfl
  F__law_deed := c.def_ 24 (d := d__law_deed) rfl
  F_law := c.def_ 25 (d := d_law) rfl
end Wk
open PySem PySem.W PySem.Calls PyProof.Rows
theorem PySem.Challenge.cw_wirespan_k20_taker_in_order_holds : PySem.Challenge.rw_wirespan_k20_taker_in_order.Holds := by
  w_on; o_law
  refine HandSHeadRun.head_any (r := OpenLaw.row PySem.Challenge.rw_wirespan_k20_taker_in_order) (q := view (OpenLaw.row PySem.Challenge.rw_wirespan_k20_taker_in_order).prog [21]) (H := Wk.hk) (ob := Wk.ob) (M := 20000) (loose := Wk.loose) (d := HandSHeadRun.topDef (OpenLaw.row PySem.Challenge.rw_wirespan_k20_taker_in_order).prog 21) (kwd := []) Wk.ob_eq
    (by kernel_rfl) (fun s => by kernel_rfl) Wk.run (by kernel_rfl) (by kernel_rfl) (by kernel_rfl) (by rfl) (by first | assumption | decide +kernel) (by decide +kernel) ⟨rfl, rfl, rfl, rfl, rfl, by decide +kernel⟩ ?hw ?hc
  case hw => w_witness2
  case hc =>
    refine Wk.walk_ofE2 (l := PySem.Challenge.rw_wirespan_k20_taker_in_order) (n := 63) (k := 7) (x := "script") rfl (by decide) (by kernel_rfl) ⟨rfl, by decide, by decide⟩ ?F
    intro w mg fa h Y G hmg0
    obtain ⟨K, KX, c⟩ := Y
    have e := Wk.txt_ok KX G c
    have hmg : mg ("law" : PySem.Str) = some (.ref fa) := by
      have e : (HandSHeadRun.topDef (OpenLaw.row PySem.Challenge.rw_wirespan_k20_taker_in_order).prog 21).name = ("law" : PySem.Str) := by kernel_rfl
      rw [← e]
      exact hmg0
    have ea : fa = He.ga K "law" := by
      have q := hmg.symm.trans e.g_law
      cases q
      rfl
    subst ea
    obtain ⟨fd, F⟩ := e.F_law
    refine ⟨K, fd, Wk.mk1 (Wk.sp_law K), KX, fun s v => L2.FunD.bindsA (ps := ["script"]) F (fun _ _ _ _ _ _ us hl => match us, hl with | [_], _ => rfl) s [v] rfl, fun H a ns hl _ hS => ?_, fun base _ _ => Wk.fok_same F (Wk.ok_law (P := (PySem.Challenge.rw_wirespan_k20_taker_in_order).prog) (w := w) (base := base) e)⟩
    show Wk.sp_law K _ _ _ _
    unfold Wk.sp_law
    exact ⟨a, ns, rfl, hS, hl, fun _ => rfl⟩


import PyProof.Rows.All
import Wide.All
import OpenK.AllK
import Wide.FinOn
import KE.KStateDown
import HandS.ForMost
import HandS.Defaults
import HandS.MakeKw
import HandS.IsInst
import HandS.StrMore
import HandS.FStr
import HandS.Flow
import HandS.Style
import HandS.Wide
import HandS.WideBits
import HandS.Codes
import HandS.TupAny
import HandS.Conv
import KE.LtData
import HandS.Head0
import HandS.Head1
import HandS.Head2
import HandS.HeadEnd
import HandS.HeadHook1
import HandS.HeadHook2
import HandS.HeadHook3
import HandS.HeadHook4
import PySem.Challenge.RW_spinemarks_k13_order_of_two
set_option Elab.async false
set_option linter.all false
set_option maxRecDepth 100000
set_option maxHeartbeats 4000000

namespace U
open PySem PySem.Spec PyProof.Rows L2

/-- a text by its signs -/
abbrev sv (l : List Nat) : V := .str ⟨l.toArray⟩
theorem sv_of (x : Str) : V.str x = sv x.cps.toList := by cases x; rfl
theorem cps_mk (l : List Nat) : (Str.mk l.toArray).cps.toList = l := rfl
theorem len_mk (l : List Nat) : (Str.mk l.toArray).length = l.length := by simp [Str.length]
theorem len_cps (x : Str) : x.length = x.cps.toList.length := by simp [Str.length]
theorem sv_inj {a b : List Nat} : (sv a = sv b) = (a = b) := by
  apply propext; constructor
  · intro h; exact congrArg (fun v => match v with | V.str x => x.cps.toList | _ => []) h
  · rintro rfl; rfl
theorem line : (sizeLine : Nat) = 16777216 := sizeLine_eq

section
variable {X : Cx}
theorem OpR.imp {f : Value → Value → Sem Value} {r r' : R2} (h : OpR X f r) (hi : ∀ x y H Q, r' x y H Q → r x y H Q) : OpR X f r' :=
  fun pins s σ H x y v u Q I rx ry q => h pins s σ H x y v u Q I rx ry (hi x y H Q q)
theorem CallR.imp {f : Value} {r r' : List V → Hp → VK → Prop} (h : CallR X f r) (hi : ∀ xs H Q, r' xs H Q → r xs H Q) : CallR X f r' :=
  fun pins s σ H xs us Q I r q => h pins s σ H xs us Q I r (hi xs H Q q)
theorem MtR.imp {id : String} {r r' : V → List V → Hp → VK → Prop} (h : MtR X id r) (hi : ∀ x xs H Q, r' x xs H Q → r x xs H Q) : MtR X id r' :=
  fun pins s σ H x xs v us Q I rx rs q => h pins s σ H x xs v us Q I rx rs (hi x xs H Q q)

/-- what is read at a -/
def at_ (H : Hp) (a : Addr) : Option HO := match H a with | some (.frz _ u) => some u | o => o
theorem at_lst {H : Hp} {a : Addr} {xs : List V} (h : at_ H a = some (.lst xs)) : Rd H a (.lst xs) := by
  unfold at_ at h
  split at h
  · rename_i o u e; injection h with h; subst h; exact .inr ⟨o, e⟩
  · exact .inl h
theorem at_tup {H : Hp} {a : Addr} {xs : List V} (h : at_ H a = some (.tup xs)) : Rd H a (.tup xs) := by
  unfold at_ at h
  split at h
  · rename_i o u e; injection h with h; subst h; exact .inr ⟨o, e⟩
  · exact .inl h
theorem at_of_lst {H : Hp} {a : Addr} {xs : List V} (h : H a = some (.lst xs)) : at_ H a = some (.lst xs) := by unfold at_; rw [h]
theorem at_of_tup {H : Hp} {a : Addr} {xs : List V} (h : H a = some (.tup xs)) : at_ H a = some (.tup xs) := by unfold at_; rw [h]
theorem at_of_ins {H : Hp} {a C dx : Addr} {fs : List (Str × V)} (h : H a = some (.ins C dx fs)) : at_ H a = some (.ins C dx fs) := by unfold at_; rw [h]
theorem at_of_frz {H : Hp} {a : Addr} {o : Obj} {u : HO} (h : H a = some (.frz o u)) : at_ H a = some u := by unfold at_; rw [h]
theorem upd_old {H : Hp} {a b : Addr} {o : HO} (h : H a = none) (hb : (H b).isSome = true) : upd H a o b = H b := upd_ne (by rintro rfl; rw [h] at hb; cases hb)

/-! ### + -/
def rAdd : R2 := fun x y H Q => match x, y with
  | .int i, .int j => Q (.int (i + j)) H
  | .str a, .str b => a.cps.toList.length + b.cps.toList.length ≤ 16777216 ∧ Q (sv (a.cps.toList ++ b.cps.toList)) H
  | .ref a, .ref b => ∃ xs ys, H a = some (.lst xs) ∧ H b = some (.lst ys) ∧ xs.length + ys.length ≤ 16777216 ∧ ∀ p, H p = none → Q (.ref p) (upd H p (.lst (xs ++ ys)))
  | _, _ => False
theorem cat_sv (a b : Str) : V.str (a ++ b) = sv (a.cps.toList ++ b.cps.toList) := by
  rw [sv_of]
  show sv (TL.tl (a ++ b)) = _
  rw [TL.tl_append]
theorem add : OpR X (binaryOp .Add) rAdd := OpR.imp ((op_add.or op_add_str).or op_cat) (fun x y H Q h => by
  unfold rAdd at h
  split at h
  · exact .inl (.inl ⟨_, _, rfl, rfl, h⟩)
  · refine .inl (.inr ⟨_, _, rfl, rfl, ?_, ?_⟩)
    · rw [len_cps, len_cps, line]; exact h.1
    · rw [cat_sv]; exact h.2
  · obtain ⟨xs, ys, h1, h2, h3, h4⟩ := h
    exact .inr ⟨_, _, xs, ys, rfl, rfl, h1, h2, by rw [line]; exact h3, h4⟩
  · exact h.elim)
def rSub : R2 := fun x y H Q => match x, y with
  | .int i, .int j => Q (.int (i - j)) H
  | _, _ => False
theorem sub : OpR X (binaryOp .Sub) rSub := OpR.imp op_sub (fun x y H Q h => by
  unfold rSub at h
  split at h
  · exact ⟨_, _, rfl, rfl, h⟩
  · exact h.elim)
/-- one factor below 2 ^ 64, or both together small -/
def MulOk (i j : Int) : Prop := CMul i j ∨ CMulW i j
def rMul : R2 := fun x y H Q => match x, y with
  | .int i, .int j => MulOk i j ∧ Q (.int (i * j)) H
  | .ref a, .int k => ∃ xs, H a = some (.lst xs) ∧ 0 ≤ k ∧ k < 2 ^ 63 ∧ xs.length * k.toNat ≤ 16777216 ∧ ∀ p, H p = none → Q (.ref p) (upd H p (.lst (List.replicate k.toNat xs).flatten))
  | _, _ => False
theorem mul : OpR X (binaryOp .Mult) rMul := OpR.imp ((op_mul.or op_mulW).or op_rep) (fun x y H Q h => by
  unfold rMul at h
  split at h
  · obtain ⟨h1, h2⟩ := h
    rcases h1 with h1 | h1
    · exact .inl (.inl ⟨_, _, rfl, rfl, h1, h2⟩)
    · exact .inl (.inr ⟨_, _, rfl, rfl, h1, h2⟩)
  · obtain ⟨xs, h1, h2, h3, h4, h5⟩ := h
    exact .inr ⟨_, _, xs, rfl, rfl, h1, by omega, h3, by rw [line]; exact h4, h5⟩
  · exact h.elim)
/-- a positive divisor below 2 ^ 9000 -/
def rDiv : R2 := fun x y H Q => match x, y with
  | .int i, .int j => (0 < j ∧ j < 2 ^ 8000) ∧ Q (.int (i / j)) H
  | _, _ => False
theorem div : OpR X (binaryOp .FloorDiv) rDiv := OpR.imp op_fdivW (fun x y H Q h => by
  unfold rDiv at h
  split at h
  · refine ⟨_, _, rfl, rfl, ?_, h.2⟩
    refine wide_div (b := 8000) h.1.1 ?_ (by decide) (by decide)
    have := h.1.2
    have h0 := h.1.1
    omega
  · exact h.elim)
def rMod : R2 := fun x y H Q => match x, y with
  | .int i, .int j => 0 < j ∧ Q (.int (i % j)) H
  | _, _ => False
theorem mod : OpR X (binaryOp .Mod) rMod := OpR.imp op_mod (fun x y H Q h => by
  unfold rMod at h
  split at h
  · exact ⟨_, _, rfl, rfl, h.1, h.2⟩
  · exact h.elim)
def rPow : R2 := fun x y H Q => match x, y with
  | .int i, .int j => CPow i j ∧ Q (.int (i ^ j.toNat)) H
  | _, _ => False
theorem pow : OpR X (binaryOp .Pow) rPow := OpR.imp op_pow (fun x y H Q h => by
  unfold rPow at h
  split at h
  · exact ⟨_, _, rfl, rfl, h.1, h.2⟩
  · exact h.elim)
end
end U

namespace U
open PySem PySem.Spec PyProof.Rows L2
section
variable {X : Cx}
/-! ### comparisons -/
def strLt (a b : List Nat) : Bool := decide (a < b)
def rLt : R2 := fun x y H Q => match x, y with
  | .int i, .int j => Q (.bl (decide (i < j))) H
  | .str a, .str b => Q (.bl (strLt a.cps.toList b.cps.toList)) H
  | _, _ => False
theorem lt : OpR X (compareOp .Lt) rLt := OpR.imp (op_lt.or op_lt_str) (fun x y H Q h => by
  unfold rLt at h
  split at h
  · exact .inl ⟨_, _, rfl, rfl, h⟩
  · exact .inr ⟨_, _, rfl, rfl, h⟩
  · exact h.elim)
def rLe : R2 := fun x y H Q => match x, y with
  | .int i, .int j => Q (.bl (decide (i ≤ j))) H
  | .str a, .str b => Q (.bl (!strLt b.cps.toList a.cps.toList)) H
  | _, _ => False
theorem le : OpR X (compareOp .LtE) rLe := OpR.imp (op_le.or op_le_str) (fun x y H Q h => by
  unfold rLe at h
  split at h
  · exact .inl ⟨_, _, rfl, rfl, h⟩
  · exact .inr ⟨_, _, rfl, rfl, h⟩
  · exact h.elim)
def rGt : R2 := fun x y H Q => match x, y with
  | .int i, .int j => Q (.bl (decide (j < i))) H
  | .str a, .str b => Q (.bl (strLt b.cps.toList a.cps.toList)) H
  | _, _ => False
theorem gt : OpR X (compareOp .Gt) rGt := OpR.imp (op_gt.or op_gt_str) (fun x y H Q h => by
  unfold rGt at h
  split at h
  · exact .inl ⟨_, _, rfl, rfl, h⟩
  · exact .inr ⟨_, _, rfl, rfl, h⟩
  · exact h.elim)
def rGe : R2 := fun x y H Q => match x, y with
  | .int i, .int j => Q (.bl (decide (j ≤ i))) H
  | .str a, .str b => Q (.bl (!strLt a.cps.toList b.cps.toList)) H
  | _, _ => False
theorem ge : OpR X (compareOp .GtE) rGe := OpR.imp (op_ge.or op_ge_str) (fun x y H Q h => by
  unfold rGe at h
  split at h
  · exact .inl ⟨_, _, rfl, rfl, h⟩
  · exact .inr ⟨_, _, rfl, rfl, h⟩
  · exact h.elim)
/-- == of scalars -/
def eqS : V → V → Option Bool
  | .non, .non => some true | .non, .int _ => some false | .int _, .non => some false | .non, .bl _ => some false | .bl _, .non => some false | .non, .str _ => some false | .str _, .non => some false
  | .int i, .int j => some (decide (i = j)) | .bl b, .bl c => some (b == c) | .str a, .str b => some (decide (a.cps.toList = b.cps.toList))
  | .int _, .str _ => some false | .str _, .int _ => some false | .bl _, .str _ => some false | .str _, .bl _ => some false
  | _, _ => none
theorem eqS_scal {x y : V} {b : Bool} (h : eqS x y = some b) : scal x y = true ∧ decide (x = y) = b := by
  unfold eqS at h
  split at h <;> cases h <;> refine ⟨rfl, ?_⟩
  all_goals first
    | rfl
    | exact decide_eq_false (fun z => by cases z)
    | (rename_i i j; simp; done)
    | (rename_i a b
       by_cases e : a.cps.toList = b.cps.toList
       · have : a = b := TL.ext_tl e
         subst this; simp
       · have : ¬ a = b := fun z => e (by rw [z])
         simp [e, this])
    | (rename_i b c; cases b <;> cases c <;> rfl)
def rEq : R2 := fun x y H Q => ∃ b, eqS x y = some b ∧ Q (.bl b) H
def rNe : R2 := fun x y H Q => ∃ b, eqS x y = some b ∧ Q (.bl (!b)) H
theorem eq : OpR X (compareOp .Eq) rEq := OpR.imp op_eq (fun x y H Q ⟨b, h, q⟩ => by
  obtain ⟨h1, h2⟩ := eqS_scal h
  exact ⟨h1, by rw [h2]; exact q⟩)
theorem ne : OpR X (compareOp .NotEq) rNe := OpR.imp op_ne (fun x y H Q ⟨b, h, q⟩ => by
  obtain ⟨h1, h2⟩ := eqS_scal h
  exact ⟨h1, by rw [h2]; exact q⟩)
/-- is None -/
def rIs : R2 := fun x y H Q => y = .non ∧ Q (.bl (decide (x = .non))) H
def rIsNot : R2 := fun x y H Q => y = .non ∧ Q (.bl (!decide (x = .non))) H
theorem is_ : OpR X (compareOp .Is) rIs := op_isN
theorem isNot : OpR X (compareOp .IsNot) rIsNot := op_notN
/-! ### sequences -/
def seqOf : HO → Option (List V)
  | .lst xs => some xs
  | .tup xs => some xs
  | .frz _ (.lst xs) => some xs
  | .frz _ (.tup xs) => some xs
  | _ => none
theorem seqOf_sq {K : PySem.W.Frag} {H : Hp} {p : Addr} {xs : List V} (h : (H p).bind seqOf = some xs) : SqL K H p xs ∨ SqT K H p xs := by
  cases e : H p with
  | none => rw [e] at h; cases h
  | some o =>
    rw [e] at h
    have h : seqOf o = some xs := h
    unfold seqOf at h
    split at h
    · cases h; exact .inl (.inl (.inl e))
    · cases h; exact .inr (.inl (.inl e))
    · cases h; exact .inl (.inl (.inr ⟨_, e⟩))
    · cases h; exact .inr (.inl (.inr ⟨_, e⟩))
    · cases h
/-- a one-sign text in a text; a flat value in a list or tuple -/
def rIn : R2 := fun x y H Q => match x, y with
  | .str a, .str z => ∃ c, a.cps.toList = [c] ∧ Q (.bl (decide (c ∈ z.cps.toList))) H
  | x, .ref p => ∃ xs, (H p).bind seqOf = some xs ∧ flatV x = true ∧ xs.all flatV = true ∧ Q (.bl (inV x xs)) H
  | _, _ => False
theorem one_of {a : Str} {c : Nat} (h : a.cps.toList = [c]) : a = ⟨#[c]⟩ := TL.ext_tl h
theorem in_ : OpR X (compareOp .In) rIn := OpR.imp (op_in_sign.or op_in_seq) (fun x y H Q h => by
  unfold rIn at h
  split at h
  · obtain ⟨c, e, q⟩ := h
    exact .inl ⟨c, _, by rw [one_of e], rfl, q⟩
  · obtain ⟨xs, e, h1, h2, q⟩ := h
    exact .inr ⟨_, xs, rfl, seqOf_sq e, h1, h2, q⟩
  · exact h.elim)
def rNotIn : R2 := fun x y H Q => match x, y with
  | .str a, .str z => ∃ c, a.cps.toList = [c] ∧ Q (.bl (!decide (c ∈ z.cps.toList))) H
  | x, .ref p => ∃ xs, (H p).bind seqOf = some xs ∧ flatV x = true ∧ xs.all flatV = true ∧ Q (.bl (!inV x xs)) H
  | _, _ => False
theorem notIn : OpR X (compareOp .NotIn) rNotIn := OpR.imp (op_notIn_sign.or op_notIn_seq) (fun x y H Q h => by
  unfold rNotIn at h
  split at h
  · obtain ⟨c, e, q⟩ := h
    exact .inl ⟨c, _, by rw [one_of e], rfl, q⟩
  · obtain ⟨xs, e, h1, h2, q⟩ := h
    exact .inr ⟨_, xs, rfl, seqOf_sq e, h1, h2, q⟩
  · exact h.elim)
theorem IxR.imp {r r' : R2} (h : IxR X r) (hi : ∀ x y H Q, r' x y H Q → r x y H Q) : IxR X r' := by
  intro va sl pins s σ H x y v u Q I rx ry q e
  exact h va sl pins s σ H x y v u Q I rx ry (hi _ _ _ _ q) e
theorem SlR.imp {r r' : V → Option Int → Option Int → Hp → VK → Prop} (h : SlR X r) (hi : ∀ x lo hi H Q, r' x lo hi H Q → r x lo hi H Q) : SlR X r' :=
  fun pins s σ H x v vl vu lo hi' sl Q I rx hs pl pu q => h pins s σ H x v vl vu lo hi' sl Q I rx hs pl pu (hi _ _ _ _ _ q)
def rIx : R2 := fun x y H Q => match x, y with
  | .str z, .int i => z.cps.toList.length ≤ 16777216 ∧ ∃ c, atI z.cps.toList i = some c ∧ Q (sv [c]) H
  | .ref p, .int i => ∃ xs, (H p).bind seqOf = some xs ∧ ∃ v, atI xs i = some v ∧ Q v H
  | _, _ => False
theorem ix : IxR X rIx := IxR.imp ix_seq (fun x y H Q h => by
  unfold rIx at h
  split at h
  · obtain ⟨h1, c, h2, q⟩ := h
    exact .inr (.inr ⟨_, _, c, rfl, rfl, by rw [line, len_cps]; exact h1, h2, q⟩)
  · obtain ⟨xs, e, v, h2, q⟩ := h
    rcases seqOf_sq e with e | e
    · exact .inl ⟨_, xs, _, v, rfl, rfl, e, h2, q⟩
    · exact .inr (.inl ⟨_, xs, _, v, rfl, rfl, e, h2, q⟩)
  · exact h.elim)
def cutL {α : Type} (xs : List α) (lo hi : Option Int) : List α := (xs.drop (HT.sIx xs.length 0 lo)).take (HT.sIx xs.length xs.length hi - HT.sIx xs.length 0 lo)
/-- a cut of a text, a list; of a tuple: the whole is the same object -/
def rSl : V → Option Int → Option Int → Hp → VK → Prop := fun x lo hi H Q => match x with
  | .str z => z.cps.toList.length ≤ 16777216 ∧ Q (sv (cutL z.cps.toList lo hi)) H
  | .ref a => (∃ xs, ((H a = some (.lst xs)) ∨ (∃ o, H a = some (.frz o (.lst xs)))) ∧ ∀ p, H p = none → Q (.ref p) (upd H p (.lst (cutL xs lo hi)))) ∨
      (∃ xs, H a = some (.tup xs) ∧ (cutL xs lo hi = xs → Q (.ref a) H) ∧ ∀ p, H p = none → Q (.ref p) (upd H p (.tup (cutL xs lo hi))))
  | _ => False
theorem cut_whole {α : Type} {xs : List α} {lo hi : Option Int} (h : HT.sIx xs.length 0 lo = 0 ∧ HT.sIx xs.length xs.length hi = xs.length) : cutL xs lo hi = xs := by
  unfold cutL
  rw [h.1, h.2]
  simp
theorem sl : SlR X rSl := SlR.imp (sl_str.or (sl_list.or sl_tupA)) (fun x lo hi H Q h => by
  unfold rSl at h
  split at h
  · rename_i z
    refine .inl ⟨_, rfl, by rw [line, len_cps]; exact h.1, ?_⟩
    have e : cutS z lo hi = ⟨(cutL z.cps.toList lo hi).toArray⟩ := by
      unfold cutS cutL
      rw [len_cps]
    rw [e]
    exact h.2
  · rcases h with ⟨xs, h1, q⟩ | ⟨xs, h1, q1, q2⟩
    · refine .inr (.inl ⟨_, xs, rfl, ?_, q⟩)
      rcases h1 with h1 | ⟨o, h1⟩
      · exact .inl (.inl h1)
      · exact .inl (.inr ⟨o, h1⟩)
    · exact .inr (.inr ⟨_, xs, rfl, .inl (.inl h1), fun w => q1 (cut_whole w), fun _ => q2⟩)
  · exact h.elim)
/-! ### built-in functions -/
def rLen : List V → Hp → VK → Prop := fun vs H Q => match vs with
  | [.str z] => z.cps.toList.length ≤ 16777216 ∧ Q (.int z.cps.toList.length) H
  | [.ref p] => ∃ xs, (H p).bind seqOf = some xs ∧ Q (.int xs.length) H
  | _ => False
theorem c_len : CallR X (.builtin "len") rLen := CallR.imp call_len (fun vs H Q h => by
  unfold rLen at h
  split at h
  · refine ⟨_, _, rfl, ⟨?_, rfl⟩, ?_⟩
    · rw [line, len_cps]; exact h.1
    · rw [len_cps]; exact h.2
  · obtain ⟨xs, e, q⟩ := h
    refine ⟨_, _, rfl, ?_, q⟩
    rcases seqOf_sq e with e | e
    · exact .inl ⟨xs, e, rfl⟩
    · exact .inr ⟨xs, e, rfl⟩
  · exact h.elim)
/-- the name of a value's built-in type -/
def tyB (H : Hp) : V → Option String
  | .non => some "NoneType"
  | .bl _ => some "bool"
  | .int _ => some "int"
  | .str _ => some "str"
  | .ref a => (match H a with
    | some (.lst _) => some "list"
    | some (.tup _) => some "tuple"
    | some (.dK _) => some "dict"
    | some (.dT _) => some "dict"
    | some (.frz _ (.lst _)) => some "list"
    | _ => none)
  | _ => none
theorem tyB_ok {K : PySem.W.Frag} {H : Hp} {x : V} {t : String} (h : tyB H x = some t) : TyOf K H x (.type t) := by
  unfold tyB at h
  split at h
  · cases h; exact .non
  · cases h; exact .bl _
  · cases h; exact .int _
  · cases h; exact .str _
  · split at h <;> cases h
    · exact .lst (by assumption)
    · exact .tup (by assumption)
    · exact .dK (by assumption)
    · exact .dT (by assumption)
    · exact .frz (by assumption)
  · cases h
def isB (t c : String) : Option Bool := if ["NoneType", "bool", "int", "str", "list", "tuple", "dict"].contains t && ["bool", "int", "str", "list", "tuple", "dict"].contains c then some (t == c || (t == "bool" && c == "int")) else none
theorem isB_ok {K : PySem.W.Frag} {t c : String} {b : Bool} (h : isB t c = some b) : PySem.W.kitOne K (.type t) (.type c) = some b := by
  refine kit_ty ?_
  unfold isB at h
  split at h
  · rename_i hh
    simp only [List.contains_cons, List.contains_nil, Bool.or_false, Bool.and_eq_true, Bool.or_eq_true, beq_iff_eq] at hh
    obtain ⟨h1, h2⟩ := hh
    cases h
    rcases h1 with rfl | rfl | rfl | rfl | rfl | rfl | rfl <;> rcases h2 with rfl | rfl | rfl | rfl | rfl | rfl <;> decide +kernel
  · cases h
/-- isinstance(x, T), T a built-in type, or a new tuple of these -/
def isAny (t : String) : List V → Option Bool
  | [] => some false
  | .ty c :: cs => (match isB t c, isAny t cs with
    | some a, some b => some (a || b)
    | _, _ => none)
  | _ => none
theorem isAny_ok {K : PySem.W.Frag} {t : String} : ∀ {cs : List V} {b : Bool}, isAny t cs = some b → ∃ us, Paired ClsV cs us ∧ PySem.W.kitAny K (.type t) us = some b
  | [], b, h => by cases h; exact ⟨[], .nil, rfl⟩
  | v :: cs, b, h => by
    cases v with
    | ty c =>
      have h' : (match isB t c, isAny t cs with
        | some a, some b => some (a || b)
        | _, _ => none) = some b := h
      split at h'
      · rename_i a b' e1 e2
        cases h'
        obtain ⟨us, p, k⟩ := isAny_ok (K := K) e2
        refine ⟨.type c :: us, .cons (.ty c) p, kitAny_cons (isB_ok e1) (fun z => ?_) (fun z => ?_)⟩
        · subst z; simpa using k
        · subst z; rfl
      · cases h'
    | _ => cases h
def rIsi : List V → Hp → VK → Prop := fun vs H Q => match vs with
  | [x, .ty c] => ∃ t, tyB H x = some t ∧ ∃ b, isB t c = some b ∧ Q (.bl b) H
  | [x, .ref p] => ∃ cs, H p = some (.tup cs) ∧ ∃ t, tyB H x = some t ∧ ∃ b, isAny t cs = some b ∧ Q (.bl b) H
  | _ => False
theorem c_isinstance : CallR X (.builtin "isinstance") rIsi := CallR.imp (CallR.or call_isi call_isiT) (fun vs H Q h => by
  unfold rIsi at h
  split at h
  · obtain ⟨t, e, b, e2, q⟩ := h
    exact .inl ⟨_, _, _, _, b, rfl, .ty _, .base (tyB_ok e), isB_ok e2, q⟩
  · obtain ⟨cs, e0, t, e, b, e2, q⟩ := h
    obtain ⟨us, p, k⟩ := isAny_ok (K := X.K) e2
    exact .inr ⟨_, _, cs, _, us, b, rfl, e0, p, .base (tyB_ok e), k, q⟩
  · exact h.elim)
def rAll : List V → Hp → VK → Prop := fun vs H Q => match vs with
  | [.ref a] => ∃ bs : List Bool, H a = some (.lst (bs.map V.bl)) ∧ Q (.bl (bs.all id)) H
  | _ => False
theorem c_all (hc : X.calm = true) : CallR X (.builtin "all") rAll := CallR.imp (cr_all hc) (fun vs H Q h => by
  unfold rAll at h
  split at h
  · obtain ⟨bs, e, q⟩ := h
    exact ⟨_, bs, rfl, .inl (.inl e), q⟩
  · exact h.elim)
def rAny : List V → Hp → VK → Prop := fun vs H Q => match vs with
  | [.ref a] => ∃ bs : List Bool, H a = some (.lst (bs.map V.bl)) ∧ Q (.bl (bs.any id)) H
  | _ => False
theorem c_any (hc : X.calm = true) : CallR X (.builtin "any") rAny := CallR.imp (cr_any hc) (fun vs H Q h => by
  unfold rAny at h
  split at h
  · obtain ⟨bs, e, q⟩ := h
    exact ⟨_, bs, rfl, .inl (.inl e), q⟩
  · exact h.elim)
def rMax : List V → Hp → VK → Prop := fun vs H Q => match vs with
  | [.int i, .int j] => Q (.int (max i j)) H
  | _ => False
theorem c_max (hc : X.calm = true) : CallR X (.builtin "max") rMax := CallR.imp (call_max2 hc) (fun vs H Q h => by
  unfold rMax at h
  split at h
  · rename_i i j
    refine ⟨i, j, rfl, ?_⟩
    have e : (if j > i then j else i) = max i j := by split <;> omega
    rw [e]; exact h
  · exact h.elim)
def rMin : List V → Hp → VK → Prop := fun vs H Q => match vs with
  | [.int i, .int j] => Q (.int (min i j)) H
  | _ => False
theorem c_min (hc : X.calm = true) : CallR X (.builtin "min") rMin := CallR.imp (call_min2 hc) (fun vs H Q h => by
  unfold rMin at h
  split at h
  · rename_i i j
    refine ⟨i, j, rfl, ?_⟩
    have e : (if j < i then j else i) = min i j := by split <;> omega
    rw [e]; exact h
  · exact h.elim)
/-- the figures of a number from 0 on -/
abbrev numL (n : Nat) : List Nat := TL.numL n
theorem log2_ok {i : Int} (h0 : 0 ≤ i) (h : i < 2 ^ 1900) : i.natAbs.log2 < 1920 := by
  have h1 : i.natAbs < 2 ^ 1900 := by omega
  exact Nat.lt_trans (PySem.Flt.log2_lt_of (by decide) h1) (by decide)
theorem toStr_num {i : Int} (h0 : 0 ≤ i) : V.str (toString i) = sv (numL i.toNat) := by
  obtain ⟨n, rfl⟩ := Int.eq_ofNat_of_zero_le h0
  show V.str (Str.ofString (toString ((n : Nat) : Int))) = _
  rw [SX.num_S]
  rfl
def rStr : List V → Hp → VK → Prop := fun vs H Q => match vs with
  | [.int i] => (0 ≤ i ∧ i < 2 ^ 1900) ∧ Q (sv (numL i.toNat)) H
  | _ => False
theorem c_str : CallR X (.type "str") rStr := CallR.imp call_str_int (fun vs H Q h => by
  unfold rStr at h
  split at h
  · refine ⟨_, rfl, log2_ok h.1.1 h.1.2, ?_⟩
    rw [toStr_num h.1.1]; exact h.2
  · exact h.elim)
/-- the number that figures write -/
abbrev valL (l : List Nat) : Nat := NumText.digitsVal l
def digs (l : List Nat) : Bool := l.all fun c => decide (48 ≤ c) && decide (c ≤ 57)
def rInt : List V → Hp → VK → Prop := fun vs H Q => match vs with
  | [.int i] => Q (.int i) H
  | [.bl b] => Q (.int (if b then 1 else 0)) H
  | [.str z] => (digs z.cps.toList = true ∧ z.cps.toList ≠ [] ∧ z.cps.toList.length ≤ 640) ∧ Q (.int (valL z.cps.toList)) H
  | _ => False
theorem c_int : CallR X (.type "int") rInt := CallR.imp (CallR.or call_int1 call_int_str) (fun vs H Q h => by
  unfold rInt at h
  split at h
  · exact .inl (.inl ⟨_, rfl, h⟩)
  · exact .inl (.inr ⟨_, rfl, h⟩)
  · rename_i z
    obtain ⟨⟨h1, h2, h3⟩, q⟩ := h
    refine .inr ⟨z, _, rfl, ?_, by rw [len_cps]; exact h3, q⟩
    have e : z = SX.S z.cps.toList := (SX.S_tl z).symm
    rw [e]
    exact SX.int_S h1 h2 (Nat.le_trans h3 (by decide))
  · exact h.elim)
def rList : List V → Hp → VK → Prop := fun vs H Q => match vs with
  | [.ref p] => ∃ xs, (H p).bind seqOf = some xs ∧ ∀ l, H l = none → Q (.ref l) (upd H l (.lst xs))
  | _ => False
theorem c_list : CallR X (.type "list") rList := CallR.imp call_list_of (fun vs H Q h => by
  unfold rList at h
  split at h
  · obtain ⟨xs, e, q⟩ := h
    exact ⟨_, xs, rfl, seqOf_sq e, q⟩
  · exact h.elim)
def rTuple : List V → Hp → VK → Prop := fun vs H Q => match vs with
  | [.ref p] => (∃ xs, H p = some (.lst xs) ∧ ∀ l, H l = none → Q (.ref l) (upd H l (.tup xs))) ∨ (∃ xs, H p = some (.tup xs) ∧ Q (.ref p) H)
  | _ => False
theorem c_tuple : CallR X (.type "tuple") rTuple := CallR.imp call_tuple_of (fun vs H Q h => by
  unfold rTuple at h
  split at h
  · rcases h with ⟨xs, e, q⟩ | ⟨xs, e, q⟩
    · exact ⟨_, xs, rfl, .inl ⟨.inl (.inl e), q⟩⟩
    · exact ⟨_, xs, rfl, .inr ⟨.inl (.inl e), q⟩⟩
  · exact h.elim)
def rDivmod : List V → Hp → VK → Prop := fun vs H Q => match vs with
  | [.int i, .int j] => (0 < j ∧ j < 2 ^ 8000) ∧ ∀ p, H p = none → Q (.ref p) (upd H p (.tup [.int (i / j), .int (i % j)]))
  | _ => False
theorem divp {i j : Int} (h0 : 0 < j) (h1 : j < 2 ^ 8000) : CDivP i j := by
  refine ⟨h0, ?_⟩
  show (decide ((if j == 0 then 0 else j.natAbs.log2 / 30 + 1) > 300) && decide ((if i == 0 then 0 else i.natAbs.log2 / 30 + 1) > (if j == 0 then 0 else j.natAbs.log2 / 30 + 1) + 150)) = false
  have h2 : j.natAbs < 2 ^ 8000 := by omega
  have h3 : j.natAbs.log2 < 8000 := PySem.Flt.log2_lt_of (by decide) h2
  rw [if_neg (show ¬ (j == 0) = true by simpa using (show j ≠ 0 by omega))]
  rw [decide_eq_false (show ¬ (j.natAbs.log2 / 30 + 1 > 300) by omega), Bool.false_and]
theorem c_divmod : CallR X (.builtin "divmod") rDivmod := CallR.imp call_divmodW (fun vs H Q h => by
  unfold rDivmod at h
  split at h
  · exact ⟨_, _, rfl, divp h.1.1 h.1.2, h.2⟩
  · exact h.elim)
end
end U

namespace U
open PySem PySem.Spec PyProof.Rows L2
/-! ### list.extend(tuple) -/

theorem list_extend_tup (l : Addr) (items : Array Value) (n : Nat) (b : Addr) (items2 : Array Value) (n2 : Nat) (dd2 : Option Addr) (sl2 : Array (Option Value)) (hs0 : ¬(!items.isEmpty && Builtin.List.listTooLong (items.size + items2.size)) = true) (hs1 : items.size ≤ sizeLine) (hs2 : items.size + items2.size ≤ sizeLine + 1) :
    Meets (Builtin.«list.extend» ⟨[.ref l, .ref b], []⟩) (fun _ R s => s.heap.get? l = some { cls := .type "list", dict := none, data := .seq items n, slots := #[] } ∧ s.heap.get? b = some { cls := .type "tuple", dict := dd2, data := .seq items2 n2, slots := sl2 } ∧ R (.ok (.ret Value.none)) { s with heap := s.heap.update l (Obj.mapSeq fun x => x ++ items2), toks := s.toks }) :=
  .of_wp fun prog w A R s h => by
    obtain ⟨hp, g, d, tk, os⟩ := s; obtain ⟨hl, hb, h⟩ := h; have f1 := AutoSeq1.idx_int; have f2 := AutoSeq1.sub_tuple_tuple; have f3 := AutoSeq1.sub_list_list; have f4 := AutoSeq1.sub_tuple_list; have f5 := AutoSeq1.sub_list_tuple;
    have hz' : (items ++ items2).size ≤ sizeLine + 1 := by rw [Array.size_append]; exact hs2
    wp_walk using (wpAny_updateSeq hl rfl (hz := hs1) (_hz' := hz')), AutoSeq1.wpAny_loadPart' hl, AutoSeq1.wpAny_loadPart' hb; exact ⟨_, rfl, h⟩
section
variable {X : Cx}
def rExtT (K : PySem.W.Frag) : V → List V → Hp → VK → Prop := fun x vs H Q => ∃ l b xs zs, x = .ref l ∧ vs = [.ref b] ∧ H l = some (.lst xs) ∧ SqT K H b zs ∧ xs.length + zs.length ≤ sizeLine ∧ Q .non (upd H l (.lst (xs ++ zs)))
theorem mt_extT : MtR X "list.extend" (rExtT X.K) := by
  intro pins s σ H x vs v us Q I rx rv h
  obtain ⟨l, b, xs, zs, rfl, rfl, hH, hB, hz, q⟩ := h
  cases rx
  obtain ⟨u, rfl, ru⟩ := rv.one
  cases ru
  obtain ⟨z, its, n, r, hl, e⟩ := I.lstM hH
  obtain ⟨its2, r2, ⟨⟨c2, dd2, dt2, sl2⟩, e2, hc2, n2, hd2⟩, _⟩ := I.tuple hB
  simp only at hc2 hd2
  subst hc2 hd2
  have hl2 := r2.length
  have hsz : its.toArray.size + its2.toArray.size ≤ sizeLine := by rw [List.size_toArray, List.size_toArray]; omega
  have hlong : ¬ (!its.toArray.isEmpty && Builtin.List.listTooLong (its.toArray.size + its2.toArray.size)) = true := by
    rw [notLongL hsz, Bool.and_false]
    exact Bool.false_ne_true
  refine call_meets F.slot_list_extend ⟨_, e, rfl⟩ F.entry_list_extend (F.args_list_extend_2 _ _)
    (list_extend_tup l its.toArray n b its2.toArray n2 dd2 sl2 hlong (by rw [List.size_toArray]; omega) (by omega)) ⟨e, e2, ?_⟩
  refine ⟨.non, _, I.lset (its' := its ++ its2) hH e (by simp) (r.append r2) ?_, rfl, q⟩
  rw [List.length_append]
  omega
/-! ### methods of lists -/
def tAppend (to te : TE) : TE := fun σ H Q => to σ H fun x H1 => ∃ l xs0, x = .ref l ∧ H1 l = some (.lst xs0) ∧ te σ H1 fun y H2 => ∃ xs, H2 l = some (.lst xs) ∧ xs.length < 16777216 ∧ Q .non (upd H2 l (.lst (xs ++ [y])))
theorem PE.imp {e : Expr} {t t' : TE} (h : PE X e t) (hi : ∀ σ H Q, t' σ H Q → t σ H Q) : PE X e t' := ⟨fun pins s σ H Q I q => h.run pins s σ H Q I (hi _ _ _ q)⟩
def Mono (t : TE) : Prop := ∀ σ H (Q Q' : VK), (∀ v H1, Q v H1 → Q' v H1) → t σ H Q → t σ H Q'
/-- as the rule for a method, with a reading that hands the receiver on -/
def tM (T : String) (K : PySem.W.Frag) (r : V → List V → Hp → VK → Prop) (to : TE) (ta : TA) : TE := fun σ H Q => to σ H fun x H1 => tyV K T x H1 ∧ ta σ H1 fun vs H2 => r x vs H2 Q
def rAppend : V → List V → Hp → VK → Prop := fun x vs H Q => match x, vs with
  | .ref l, [y] => ∃ xs, H l = some (.lst xs) ∧ xs.length < 16777216 ∧ Q .non (upd H l (.lst (xs ++ [y])))
  | _, _ => False
theorem m_append : MtR X "list.append" rAppend := MtR.imp mt_append (fun x vs H Q h => by
  unfold rAppend at h
  split at h
  · obtain ⟨xs, e, hz, q⟩ := h
    exact ⟨_, xs, _, rfl, rfl, e, by rw [line]; exact hz, q⟩
  · exact h.elim)
def rExtend : V → List V → Hp → VK → Prop := fun x vs H Q => match x, vs with
  | .ref l, [.ref b] => ∃ xs ys, H l = some (.lst xs) ∧ (H b = some (.lst ys) ∨ H b = some (.tup ys)) ∧ xs.length + ys.length ≤ 16777216 ∧ Q .non (upd H l (.lst (xs ++ ys)))
  | _, _ => False
theorem m_extend : MtR X "list.extend" rExtend := MtR.imp (MtR.or mt_extend mt_extT) (fun x vs H Q h => by
  unfold rExtend at h
  split at h
  · obtain ⟨xs, ys, e, e2, hz, q⟩ := h
    rcases e2 with e2 | e2
    · exact .inl ⟨_, _, xs, ys, rfl, rfl, e, e2, by rw [line]; exact hz, q⟩
    · exact .inr ⟨_, _, xs, ys, rfl, rfl, e, .inl (.inl e2), by rw [line]; exact hz, q⟩
  · exact h.elim)
def rPop : V → List V → Hp → VK → Prop := fun x vs H Q => match x, vs with
  | .ref l, [] => ∃ xs y, H l = some (.lst xs) ∧ xs.getLast? = some y ∧ Q y (upd H l (.lst xs.dropLast))
  | _, _ => False
theorem m_pop : MtR X "list.pop" rPop := MtR.imp mt_pop (fun x vs H Q h => by
  unfold rPop at h
  split at h
  · obtain ⟨xs, y, e, e2, q⟩ := h
    exact ⟨_, xs, y, rfl, rfl, e, by rw [← List.getLast?_eq_getElem?]; exact e2, q⟩
  · exact h.elim)
/-- a list's own type, read off H -/
theorem tyV_list {K : PySem.W.Frag} {H : Hp} {p : Addr} {xs : List V} (h : H p = some (.lst xs)) : tyV K "list" (.ref p) H := .inl ⟨rfl, xs, .inl (.inl h)⟩
def isL (x : V) (H : Hp) : Prop := match x with
  | .ref p => ∃ xs, H p = some (.lst xs)
  | _ => False
def isS (x : V) : Prop := match x with
  | .str _ => True
  | _ => False
def tBL0 (r : V → List V → Hp → VK → Prop) (to : TE) : TE := fun σ H Q => to σ H fun x H1 => isL x H1 ∧ r x [] H1 Q
def tBL (r : V → List V → Hp → VK → Prop) (to : TE) (t : TA) : TE := fun σ H Q => to σ H fun x H1 => isL x H1 ∧ t σ H1 fun xs H2 => r x xs H2 Q
def tBS0 (r : V → List V → Hp → VK → Prop) (to : TE) : TE := fun σ H Q => to σ H fun x H1 => isS x ∧ r x [] H1 Q
def tBS (r : V → List V → Hp → VK → Prop) (to : TE) (t : TA) : TE := fun σ H Q => to σ H fun x H1 => isS x ∧ t σ H1 fun xs H2 => r x xs H2 Q
theorem isL_ty {K : PySem.W.Frag} {x : V} {H : Hp} (h : isL x H) : tyV K "list" x H := by
  unfold isL at h
  split at h
  · obtain ⟨xs, e⟩ := h; exact tyV_list e
  · exact h.elim
theorem isS_ty {K : PySem.W.Frag} {x : V} {H : Hp} (h : isS x) : tyV K "str" x H := by
  unfold isS at h
  split at h
  · rfl
  · exact h.elim
variable {o e : Expr} {es : List Expr} {to : TE} {t : TA} {name : Str} {apos cpos : Pos} {id : String} {r : V → List V → Hp → VK → Prop}
theorem pe_l0 (slot : Slot "list" name id) (hty : typeOf (.builtin id) = pure (.type "method_descriptor")) (hm : MtR X id r) (ho : PE X o to)
    (hbase : attributeBase o name X.env (eval o X.env) = eval o X.env := by rfl) (hline : (apos.endLine == cpos.line) = true := by rfl) : PE X (.Call (.Attribute o name apos) [] [] cpos) (tBL0 r to) := by
  refine ⟨fun pins s σ H Q I h => ?_⟩
  refine wpAny_Call_method0_late hbase hline (thn (ho.run pins s σ H _ I h) fun v s1 ⟨x, H1, I1, r1, ty, q1⟩ => ?_)
  obtain ⟨h1, h2⟩ := tyV_is I1 r1 (isL_ty ty)
  exact ⟨"list", id, PySem.F.plainAttrs_list, slot, hty, h1, h2, Calls.callWith_builtin rfl (PySem.evalArgs_none (hm pins s1 σ H1 x [] v [] Q I1 r1 .nil q1))⟩
theorem pe_s0 (slot : Slot "str" name id) (hty : typeOf (.builtin id) = pure (.type "method_descriptor")) (hm : MtR X id r) (ho : PE X o to)
    (hbase : attributeBase o name X.env (eval o X.env) = eval o X.env := by rfl) (hline : (apos.endLine == cpos.line) = true := by rfl) : PE X (.Call (.Attribute o name apos) [] [] cpos) (tBS0 r to) := by
  refine ⟨fun pins s σ H Q I h => ?_⟩
  refine wpAny_Call_method0_late hbase hline (thn (ho.run pins s σ H _ I h) fun v s1 ⟨x, H1, I1, r1, ty, q1⟩ => ?_)
  obtain ⟨h1, h2⟩ := tyV_is I1 r1 (isS_ty (K := X.K) (H := H1) ty)
  exact ⟨"str", id, PySem.F.plainAttrs_str, slot, hty, h1, h2, Calls.callWith_builtin rfl (PySem.evalArgs_none (hm pins s1 σ H1 x [] v [] Q I1 r1 .nil q1))⟩
theorem pe_l (slot : Slot "list" name id) (hty : typeOf (.builtin id) = pure (.type "method_descriptor")) (hm : MtR X id r) (ho : PE X o to) (ha : PA X (e :: es) t)
    (hbase : attributeBase o name X.env (eval o X.env) = eval o X.env := by rfl)
    (hfew : ((backTo cpos (starEach (e :: es) X.env)).all (fun x => !x.1) && (backToKw cpos (keywordEach [] X.env)).all (fun x => x.1.isSome)
      && decide ((e :: es).length + ([] : List Keyword).length + (if ([] : List Keyword).isEmpty then 0 else 1) < 30)) = true := by rfl)
    (hline : (apos.endLine == cpos.line) = true := by rfl) (hs : starEach (e :: es) X.env = (false, eval e X.env) :: starEach es X.env := by rfl) (hplain : (backTo cpos (starEach es X.env)).any (·.1) = false := by rfl) :
    PE X (.Call (.Attribute o name apos) (e :: es) [] cpos) (tBL r to t) := by
  refine ⟨fun pins s σ H Q I h => ?_⟩
  refine wpAny_Call_method_late hbase hfew hline rfl (thn (ho.run pins s σ H _ I h) fun v s1 ⟨x, H1, I1, r1, ty, q1⟩ => ?_)
  obtain ⟨h1, h2⟩ := tyV_is I1 r1 (isL_ty ty)
  refine ⟨"list", id, PySem.F.plainAttrs_list, slot, hty, h1, h2, ?_⟩
  have hA := ha.run cpos pins s1 σ H1 _ I1 q1
  rw [hs] at hA ⊢
  refine Calls.callWith_builtin (by show (false || (backTo cpos (starEach es X.env)).any (·.1)) = false; rw [hplain] <;> rfl) (Calls.evalArgs_plain ?_)
  exact thn hA fun us s2 ⟨vs, H2, I2, r2, q2⟩ => hm pins s2 σ H2 x vs v us Q I2 r1 r2 q2
theorem pe_s (slot : Slot "str" name id) (hty : typeOf (.builtin id) = pure (.type "method_descriptor")) (hm : MtR X id r) (ho : PE X o to) (ha : PA X (e :: es) t)
    (hbase : attributeBase o name X.env (eval o X.env) = eval o X.env := by rfl)
    (hfew : ((backTo cpos (starEach (e :: es) X.env)).all (fun x => !x.1) && (backToKw cpos (keywordEach [] X.env)).all (fun x => x.1.isSome)
      && decide ((e :: es).length + ([] : List Keyword).length + (if ([] : List Keyword).isEmpty then 0 else 1) < 30)) = true := by rfl)
    (hline : (apos.endLine == cpos.line) = true := by rfl) (hs : starEach (e :: es) X.env = (false, eval e X.env) :: starEach es X.env := by rfl) (hplain : (backTo cpos (starEach es X.env)).any (·.1) = false := by rfl) :
    PE X (.Call (.Attribute o name apos) (e :: es) [] cpos) (tBS r to t) := by
  refine ⟨fun pins s σ H Q I h => ?_⟩
  refine wpAny_Call_method_late hbase hfew hline rfl (thn (ho.run pins s σ H _ I h) fun v s1 ⟨x, H1, I1, r1, ty, q1⟩ => ?_)
  obtain ⟨h1, h2⟩ := tyV_is I1 r1 (isS_ty (K := X.K) (H := H1) ty)
  refine ⟨"str", id, PySem.F.plainAttrs_str, slot, hty, h1, h2, ?_⟩
  have hA := ha.run cpos pins s1 σ H1 _ I1 q1
  rw [hs] at hA ⊢
  refine Calls.callWith_builtin (by show (false || (backTo cpos (starEach es X.env)).any (·.1)) = false; rw [hplain] <;> rfl) (Calls.evalArgs_plain ?_)
  exact thn hA fun us s2 ⟨vs, H2, I2, r2, q2⟩ => hm pins s2 σ H2 x vs v us Q I2 r1 r2 q2
end
/-! ### methods of texts -/
section
variable {X : Cx}
def joinT (sep : List Nat) : List (List Nat) → List Nat := TL.joinL sep
def rJoin : V → List V → Hp → VK → Prop := fun x vs H Q => match x, vs with
  | .str a, [.ref p] => ∃ ys : List (List Nat), (H p = some (.lst (ys.map sv)) ∨ H p = some (.tup (ys.map sv))) ∧ (ys.map List.length).sum + ys.length * a.cps.toList.length ≤ 16777216 ∧ Q (sv (TL.joinL a.cps.toList ys)) H
  | _, _ => False
theorem mapS_len (ys : List (List Nat)) : (ys.map fun l => (⟨l.toArray⟩ : Str)).map (·.length) = ys.map List.length := by
  rw [List.map_map]; apply List.map_congr_left; intro l _; exact len_mk l
theorem mapS_V (ys : List (List Nat)) : ys.map sv = (ys.map fun l => (⟨l.toArray⟩ : Str)).map V.str := by rw [List.map_map]; rfl
theorem m_join : MtR X "str.join" rJoin := MtR.imp mt_join (fun x vs H Q h => by
  unfold rJoin at h
  split at h
  · rename_i a p
    obtain ⟨ys, e, hz, q⟩ := h
    refine ⟨a, _, ys.map fun l => (⟨l.toArray⟩ : Str), rfl, rfl, ?_, ?_, ?_⟩
    · rw [← mapS_V]
      rcases e with e | e
      · exact .inl (.inl (.inl e))
      · exact .inr (.inl (.inl e))
    · rw [mapS_len, List.length_map, len_cps]; exact hz
    · have e2 : Txt.join a (ys.map fun l => (⟨l.toArray⟩ : Str)) = ⟨(TL.joinL a.cps.toList ys).toArray⟩ := by
        have := SX.join_S a.cps.toList ys
        rw [SX.S_tl] at this
        exact this
      rw [e2]; exact q
  · exact h.elim)
def rstripL (cs l : List Nat) : List Nat := (l.reverse.dropWhile (fun c => cs.contains c)).reverse
def rRstrip : V → List V → Hp → VK → Prop := fun x vs H Q => match x, vs with
  | .str a, [.str b] => a.cps.toList.length ≤ 16777216 ∧ Q (.str (Txt.rstripChars a b)) H
  | _, _ => False
theorem m_rstrip : MtR X "str.rstrip" rRstrip := MtR.imp mt_rstripChars (fun x vs H Q h => by
  unfold rRstrip at h
  split at h
  · exact ⟨_, _, rfl, rfl, by rw [line, len_cps]; exact h.1, h.2⟩
  · exact h.elim)
def rZfill : V → List V → Hp → VK → Prop := fun x vs H Q => match x, vs with
  | .str a, [.int i] => PadOk i = true ∧ Q (.str (Txt.zfill a i)) H
  | _, _ => False
theorem m_zfill : MtR X "str.zfill" rZfill := MtR.imp mt_zfill (fun x vs H Q h => by
  unfold rZfill at h
  split at h
  · exact ⟨_, _, rfl, rfl, h.1, h.2⟩
  · exact h.elim)
/-! ### f-strings -/
def rFmt : V → Hp → VK → Prop := fun x H Q => match x with
  | .str y => y.cps.toList.length ≤ 16777216 ∧ Q (sv y.cps.toList) H
  | .int i => (0 ≤ i ∧ i < 2 ^ 1900) ∧ Q (sv (numL i.toNat)) H
  | _ => False
end
end U

namespace U
open PySem PySem.Spec PyProof.Rows L2
section
variable {X : Cx}
/-! ### constants -/
theorem pe_s' {x : Str} {j pos} (l : List Nat) (h : x.cps.toList = l) : PE X (.Constant (.str x) j pos) (tC (sv l)) := by
  have e : x = ⟨l.toArray⟩ := TL.ext_tl h
  subst e
  exact pe_str
/-- a module's constant -/
structure GStr (mg : Str → Option Value) (x : Str) (l : List Nat) : Prop where
  ex : ∃ t, mg x = some (.str ⟨l.toArray⟩ t)
structure GInt (mg : Str → Option Value) (x : Str) (i : Int) : Prop where
  ex : ∃ t, mg x = some (.int i t)
theorem pe_gs {x : Str} {l : List Nat} {pos : Pos} (hg : Gl X x) (h : GStr X.mg x l) (hd : (x == ("__debug__" : Str)) = false := by decide) : PE X (.Name x pos) (tC (sv l)) := by
  obtain ⟨t, e⟩ := h.ex
  exact pe_glob hg e ⟨t, rfl⟩ hd
theorem pe_gi {x : Str} {i : Int} {pos : Pos} (hg : Gl X x) (h : GInt X.mg x i) (hd : (x == ("__debug__" : Str)) = false := by decide) : PE X (.Name x pos) (tC (.int i)) := by
  obtain ⟨t, e⟩ := h.ex
  exact pe_glob hg e ⟨t, rfl⟩ hd
/-- a built-in type by its name, as a value -/
theorem pe_ty {x : Str} {n : String} {pos : Pos} (hg : Gl X x) (hm : X.mg x = none) (hv : bootBuiltins x = some (.type n)) (hn : x ≠ "__name__" := by decide) (hd : (x == ("__debug__" : Str)) = false := by decide) : PE X (.Name x pos) (tC (.ty n)) :=
  pe_bltn hg hm hv rfl hn hd
/-! ### comparisons of data, of instances -/
/-- < of data at any depth -/
def rLtD (K : PySem.W.Frag) : R2 := fun x y H Q => ∃ d e, Dp K H x d ∧ Dp K H y e ∧ PySem.W.alike d e = true ∧ d ≠ .none ∧ min d.depth e.depth ≤ 60 ∧ Q (.bl (PySem.W.dataLt d e)) H
theorem ltD (hu : X.A.units + 64 < cLine) : OpR X (compareOp .Lt) (rLtD X.K) := by
  intro pins s σ H x y v u Q I rx ry h
  obtain ⟨d, e, hd, he, ha, hn, hz, q⟩ := h
  obtain ⟨as, r1⟩ := Dp.reads I d x v hd rx
  obtain ⟨bs, r2⟩ := Dp.reads I e y u he ry
  show wpAny (model X.prog X.w) X.A (richCompare .Lt v u) (EP X pins σ Q) X.xe s
  exact PySem.W.rcLt_alike d e X.A s v u as bs r1 r2 ha hn (by omega) X.prog X.w X.xe _ ⟨.bl _, H, I, rfl, q⟩
/-- == by an own __eq__, both of one class -/
structure EqF (X : Cx) (n : Nat) (C : Addr) (sp : Sp) : Prop where
  ex : ∃ (CX : CXT) (f : Addr) (fd : FuncData) (ps : List Str), FnOk X.prog X.w X.K X.mg X.base CX n f fd ps sp ∧ PySem.W.findIn X.K (.ref C) "__eq__" = some (some (.ref f)) ∧ PySem.W.isFn X.K (.ref f) = true ∧ Binds X.K fd ps [] ∧ Passes CX X E0
def rEqI (C : Addr) (sp : Sp) : R2 := fun x y H Q => ∃ a b dx dy fs gs, x = .ref a ∧ y = .ref b ∧ H a = some (.ins C dx fs) ∧ H b = some (.ins C dy gs) ∧ sp [.ref a, .ref b] H (fun v H' => ∃ c, v = .bl c ∧ Q (.bl c) H') E0
theorem eqI {n : Nat} {C : Addr} {sp : Sp} (F : EqF X n C sp) (hr : Room n X.A) : OpR X (compareOp .Eq) (rEqI C sp) := by
  intro pins s σ H x y v u Q I rx ry h
  obtain ⟨a, b, dx, dy, fs, gs, rfl, rfl, ha, hb', hsp⟩ := h
  obtain ⟨CX, f, fd, ps, F, hs, hf, hb, hx⟩ := F.ex
  cases rx
  cases ry
  obtain ⟨mA, J, _⟩ := ins_get I.hok ha
  obtain ⟨mB, J', _⟩ := ins_get I.hok hb'
  obtain ⟨od, J, _⟩ := J.look
  obtain ⟨od', J', _⟩ := J'.look
  obtain ⟨m, hF⟩ := I.fr
  show wpAny (model X.prog X.w) X.A (richCompare .Eq (.ref a) (.ref b)) (EP X pins σ Q) X.xe s
  refine PySem.W.cmp_K (op := .Eq) (tb := .ref C) hr.units0 hF I.ok.mod.kin J J'.type (by simp [PySem.W.notFirst]) hs hf ?_
  have hl := F.len _ _ _ _ hsp
  have r2 : Vals [V.ref a, V.ref b] [Value.ref a, Value.ref b] := .cons rfl (.cons rfl .nil)
  refine thn (run_fn (us := [.ref a, .ref b]) F hr hb .nil hx I r2 (by exact hsp)) fun r s' hq => ?_
  obtain ⟨z, H', I', rz, c, ez, q⟩ := hq
  subst ez
  cases rz
  exact ⟨.bl c, H', I', rfl, q⟩
/-- isinstance(x, C), x an instance of C -/
def rIsC (C : Addr) : List V → Hp → VK → Prop := fun vs H Q => ∃ a dx fs, vs = [.ref a, .ref C] ∧ H a = some (.ins C dx fs) ∧ Q (.bl true) H
theorem c_isC {C : Addr} (c : C8.InsC X.K C) : CallR X (.builtin "isinstance") (rIsC C) := C8.call_isC c
/-! ### items of lists stored -/
def rSet : V → V → V → Hp → (Hp → Prop) → Prop := fun o i v H Q => match o, i with
  | .ref p, .int k => ∃ xs, H p = some (.lst xs) ∧ ∃ j, ixN xs.length k = some j ∧ Q (upd H p (.lst (xs.set j v)))
  | _, _ => False
theorem setL : PSet X rSet := fun pins s σ H o i v ov iv u Q I ro ri rv h => by
  refine set_list pins s σ H o i v ov iv u Q I ro ri rv ?_
  unfold rSet at h
  split at h
  · obtain ⟨xs, e, j, hj, q⟩ := h
    exact ⟨_, xs, _, j, rfl, rfl, e, hj, q⟩
  · exact h.elim
/-- xs[i] by values, 0 <= i -/
def rGet : V → V → Hp → VK → Prop := fun o i H Q => match o, i with
  | .ref p, .int k => ∃ xs, H p = some (.lst xs) ∧ 0 ≤ k ∧ ∃ v, xs[k.toNat]? = some v ∧ Q v H
  | _, _ => False
theorem getL : PGet X rGet := fun pins s σ H o i ov iv Q I ro ri h => by
  unfold rGet at h
  split at h
  · obtain ⟨xs, e, h0, v, hv, q⟩ := h
    cases ro
    obtain ⟨t, rfl⟩ := ri
    rename_i p k
    obtain ⟨its, r, pl, hz⟩ := I.list (SqL.of (K := X.K) e)
    obtain ⟨w, ew, rw'⟩ := r.get hv
    have hl := r.length
    have hn := line63
    have hk : k.toNat < its.length := by
      have := (List.getElem?_eq_some_iff.mp hv).1
      omega
    exact wpAny_getItem_list pl.isList h0 (by omega) (by simpa using ew) ⟨v, H, I, rw', q⟩
  · exact h.elim
def ipAdd : TIp := fun x y H Q => match x, y with
  | .int i, .int j => Q (.int (i + j)) H
  | .str a, .str b => a.cps.toList.length + b.cps.toList.length ≤ 16777216 ∧ Q (sv (a.cps.toList ++ b.cps.toList)) H
  | _, _ => False
theorem ip_add : PIp X .Add ipAdd := fun pins s σ H x y v u Q I rx ry h => by
  unfold ipAdd at h
  split at h
  · exact L2.ip_add pins s σ H _ _ v u Q I rx ry ⟨_, _, rfl, rfl, h⟩
  · refine iop_add_str pins s σ H _ _ v u Q I rx ry ⟨_, _, rfl, rfl, ?_, ?_⟩
    · rw [len_cps, len_cps, line]; exact h.1
    · rw [cat_sv]; exact h.2
  · exact h.elim
def ipSub : TIp := fun x y H Q => match x, y with
  | .int i, .int j => Q (.int (i - j)) H
  | _, _ => False
theorem ip_sub : PIp X .Sub ipSub := fun pins s σ H x y v u Q I rx ry h => by
  unfold ipSub at h
  split at h
  · exact L2.ip_sub pins s σ H _ _ v u Q I rx ry ⟨_, _, rfl, rfl, h⟩
  · exact h.elim
/-! ### f-strings -/
def uFmt (te : TE) : TE := fun σ H Q => te σ H fun x H1 => rFmt x H1 Q
theorem pe_fm {e : Expr} {te : TE} {pos : Pos} (he : PE X e te) : PE X (.FormattedValue e (-1) none pos) (uFmt te) := by
  refine ⟨fun pins s σ H Q I h => ?_⟩
  refine wpAny_FormattedValue_plain (thn (he.run pins s σ H _ I h) fun v s1 hv => ?_)
  obtain ⟨x, H1, I1, r1, q⟩ := hv
  unfold rFmt at q
  split at q
  · rename_i y
    obtain ⟨t, rfl⟩ := r1
    have e : V.str y = sv y.cps.toList := sv_of y
    rw [← e] at q
    exact wpAny_formatField_str ⟨.str y, H1, I1, ⟨t, rfl⟩, q.2⟩ ⟨.str y, H1, I1.tok _, ⟨_, rfl⟩, q.2⟩ (by rw [line, len_cps]; exact q.1)
  · obtain ⟨t, rfl⟩ := r1
    rename_i i
    have e := toStr_num q.1.1
    rw [← e] at q
    exact wpAny_formatField_int (log2_ok q.1.1 q.1.2) ⟨.str (toString i), H1, I1.tok _, ⟨_, rfl⟩, q.2⟩
  · exact q.elim
/-- the parts, one behind the other -/
def uJs : List TE → List Nat → L2.St → Hp → (List Nat → Hp → Prop) → Prop
  | [], acc, _, H, Q => Q acc H
  | t :: ts, acc, σ, H, Q => t σ H fun x H1 => ∃ y : Str, x = .str y ∧ acc.length + y.cps.toList.length ≤ 16777216 ∧ uJs ts (acc ++ y.cps.toList) σ H1 Q
/-- a reading that may be asked for more -/
theorem uJs_t : ∀ (ts : List TE) (acc : Str) (σ : L2.St) (H : Hp) (Q : List Nat → Hp → Prop), (∀ t ∈ ts, Mono t) → uJs ts acc.cps.toList σ H Q → tJs ts acc σ H (fun out H1 => Q out.cps.toList H1)
  | [], acc, σ, H, Q, _, h => h
  | t :: ts, acc, σ, H, Q, hm, h => by
    refine hm t List.mem_cons_self σ H _ _ (fun x H1 ⟨y, ex, hz, q⟩ => ⟨y, ex, ?_, ?_⟩) h
    · rw [line, len_cps]
      show (TL.tl (acc ++ y)).length ≤ _
      rw [TL.tl_append, List.length_append]; exact hz
    · refine uJs_t ts (acc ++ y) σ H1 Q (fun t ht => hm t (List.mem_cons_of_mem _ ht)) ?_
      have e : (acc ++ y).cps.toList = acc.cps.toList ++ y.cps.toList := TL.tl_append acc y
      rw [e]; exact q
/-- f'..' of two parts or more -/
def uJoined (ts : List TE) : TE := fun σ H Q => uJs ts [] σ H fun out H1 => Q (sv out) H1
theorem pe_jn {v1 v2 : Expr} {rest : List Expr} {ts : List TE} {pos : Pos} (h : PJ X (v1 :: v2 :: rest) ts) (hm : ∀ t ∈ ts, Mono t) : PE X (.JoinedStr (v1 :: v2 :: rest) pos) (uJoined ts) := by
  refine PE.imp (pe_joined h) fun σ H Q q => ?_
  have q' := uJs_t ts Str.empty σ H (fun out H1 => Q (sv out) H1) hm q
  have e : (fun (out : Str) H1 => Q (V.str out) H1) = fun (out : Str) H1 => Q (sv out.cps.toList) H1 := by
    funext out H1; rw [← sv_of]
  rw [e]
  exact q'
theorem mono_var {i : Nat} : Mono (tVar i) := fun σ H Q Q' h ⟨v, e, q⟩ => ⟨v, e, h _ _ q⟩
theorem mono_c {v : V} : Mono (tC v) := fun σ H Q Q' h q => h _ _ q
theorem mono_fmt {te : TE} (h : Mono te) : Mono (uFmt te) := fun σ H Q Q' hq q => h σ H _ _ (fun x H1 z => by
  unfold rFmt at z ⊢
  split at z
  · exact ⟨z.1, hq _ _ z.2⟩
  · exact ⟨z.1, hq _ _ z.2⟩
  · exact z.elim) q
theorem mono_fld {K : PySem.W.Frag} {te : TE} {f : Str} (h : Mono te) : Mono (tFld K te f) := fun σ H Q Q' hq q => h σ H _ _ (fun x H1 ⟨a, C, dx, fs, v, e1, e2, e3, e4, e5, z⟩ => ⟨a, C, dx, fs, v, e1, e2, e3, e4, e5, hq _ _ z⟩) q
/-! ### comprehensions over texts -/
theorem lc_str {x : Str} {g : TG} {tt : TT} {te : TE} {vs : List Nat} {σ : L2.St} {H1 : Hp} {D : Addr} {Qd : Hp → Prop} (Pv : Nat → Hp → Prop) (h0 : Pv 0 (upd H1 D (.lst [])))
    (hs : ∀ i c H, x.cps.toList[i]? = some c → Pv i H → g (sv [c]) (wipe σ vs) H fun σ2 H2 => wipe σ2 vs = wipe σ vs ∧ tt σ2 H2 fun b H3 =>
      if b = true then te σ2 H3 fun y H4 => ∃ acc, H4 D = some (.lst acc) ∧ acc.length < sizeLine ∧ Pv (i + 1) (upd H4 D (.lst (acc ++ [y]))) else Pv (i + 1) H3) (hd : ∀ H, Pv x.cps.toList.length H → Qd H) :
    ∃ W : Nat → Nat → Hp → Prop, (∃ m, W 0 m (upd H1 D (.lst []))) ∧ ∀ i m H, W i m H →
      ((Its x).stop i H ∧ Qd H) ∨ ((Its x).go i H ∧ ∃ Nx : Hp → Prop, (∀ H', Nx H' → ∃ m', m' < m ∧ W (i + 1) m' H') ∧ ∀ v H', (Its x).yld i H v H' → g v (wipe σ vs) H' fun σ2 H2 => wipe σ2 vs = wipe σ vs ∧ tt σ2 H2 fun b H3 =>
        if b = true then te σ2 H3 fun y H4 => ∃ acc, H4 D = some (.lst acc) ∧ acc.length < sizeLine ∧ Nx (upd H4 D (.lst (acc ++ [y]))) else Nx H3) := by
  have hsz : x.cps.size = x.cps.toList.length := by simp
  refine ⟨fun i m H => m = x.cps.size - i ∧ i ≤ x.cps.size ∧ Pv i H, ⟨x.cps.size, by simp, Nat.zero_le _, h0⟩, ?_⟩
  rintro i m H ⟨rfl, hi, p⟩
  by_cases hlt : i < x.cps.size
  · refine .inr ⟨hlt, Pv (i + 1), fun H' p' => ⟨x.cps.size - (i + 1), by omega, rfl, hlt, p'⟩, fun v H' y => ?_⟩
    obtain ⟨e, c, hc, rfl⟩ := y
    subst e
    exact hs i c _ (by simpa using hc) p
  · have e : i = x.cps.toList.length := by omega
    subst e
    exact .inl ⟨by show x.cps.size ≤ _; omega, hd H p⟩
theorem for_str {x : Str} {g : TG} {tb : TS} {D : Ends} {σ : L2.St} {H : Hp} (Pv : Nat → L2.St → Hp → Prop) (h0 : Pv 0 σ H)
    (hs : ∀ i c σ H, x.cps.toList[i]? = some c → Pv i σ H → g (sv [c]) σ H fun σ2 H2 => tb { D with nx := Pv (i + 1), ct := Pv (i + 1), bk := D.nx } σ2 H2) (hd : ∀ σ H, Pv x.cps.toList.length σ H → D.nx σ H) :
    ∃ W : Nat → Nat → L2.St → Hp → Prop, (∃ m, W 0 m σ H) ∧ ∀ i m σ H, W i m σ H →
      ((Its x).stop i H ∧ D.nx σ H) ∨ ((Its x).go i H ∧ ∃ N : L2.St → Hp → Prop, (∀ σ' H', N σ' H' → ∃ m', m' < m ∧ W (i + 1) m' σ' H') ∧ ∀ v H', (Its x).yld i H v H' → g v σ H' fun σ2 H2 => tb { D with nx := N, ct := N, bk := D.nx } σ2 H2) := by
  have hsz : x.cps.size = x.cps.toList.length := by simp
  refine ⟨fun i m σ H => m = x.cps.size - i ∧ i ≤ x.cps.size ∧ Pv i σ H, ⟨x.cps.size, by simp, Nat.zero_le _, h0⟩, ?_⟩
  rintro i m σ H ⟨rfl, hi, p⟩
  by_cases hlt : i < x.cps.size
  · refine .inr ⟨hlt, Pv (i + 1), fun σ' H' p' => ⟨x.cps.size - (i + 1), by omega, rfl, hlt, p'⟩, fun v H' y => ?_⟩
    obtain ⟨e, c, hc, rfl⟩ := y
    subst e
    exact hs i c σ _ (by simpa using hc) p
  · have e : i = x.cps.toList.length := by omega
    subst e
    exact .inl ⟨by show x.cps.size ≤ _; omega, hd σ H p⟩
end
end U

namespace U
open PySem PySem.Spec PyProof.Rows L2
/-- the built-in names are the built-ins' -/
structure BI (mg : Str → Option Value) : Prop where
  len_ : mg "len" = none
  isinstance_ : mg "isinstance" = none
  all_ : mg "all" = none
  any_ : mg "any" = none
  range_ : mg "range" = none
  int_ : mg "int" = none
  str_ : mg "str" = none
  list_ : mg "list" = none
  tuple_ : mg "tuple" = none
  max_ : mg "max" = none
  min_ : mg "min" = none
  sorted_ : mg "sorted" = none
  repr_ : mg "repr" = none
  enumerate_ : mg "enumerate" = none
  zip_ : mg "zip" = none
  divmod_ : mg "divmod" = none
  sum_ : mg "sum" = none
  reversed_ : mg "reversed" = none
  dict_ : mg "dict" = none
  bool_ : mg "bool" = none
theorem bt_len : bootBuiltins "len" = some (.builtin "len") := by decide +kernel
theorem bt_isinstance : bootBuiltins "isinstance" = some (.builtin "isinstance") := by decide +kernel
theorem bt_all : bootBuiltins "all" = some (.builtin "all") := by decide +kernel
theorem bt_any : bootBuiltins "any" = some (.builtin "any") := by decide +kernel
theorem bt_max : bootBuiltins "max" = some (.builtin "max") := by decide +kernel
theorem bt_min : bootBuiltins "min" = some (.builtin "min") := by decide +kernel
theorem bt_divmod : bootBuiltins "divmod" = some (.builtin "divmod") := by decide +kernel
theorem bt_sum : bootBuiltins "sum" = some (.builtin "sum") := by decide +kernel
theorem bt_sorted : bootBuiltins "sorted" = some (.builtin "sorted") := by decide +kernel
theorem bt_repr : bootBuiltins "repr" = some (.builtin "repr") := by decide +kernel
theorem bt_int : bootBuiltins "int" = some (.type "int") := by decide +kernel
theorem bt_str : bootBuiltins "str" = some (.type "str") := by decide +kernel
theorem bt_list : bootBuiltins "list" = some (.type "list") := by decide +kernel
theorem bt_tuple : bootBuiltins "tuple" = some (.type "tuple") := by decide +kernel
theorem bt_bool : bootBuiltins "bool" = some (.type "bool") := by decide +kernel
theorem bt_dict : bootBuiltins "dict" = some (.type "dict") := by decide +kernel
theorem scope_by {N P : List Str} {sc : Scope} (h : C8.scC N P sc = true) : FnScope N P sc := C8.fnScope_by h
section
variable {X : Cx}
theorem imp_un {f : Value → Sem Value} {r r' : V → Hp → VK → Prop} (h : UnR X f r) (hi : ∀ x H Q, r' x H Q → r x H Q) : UnR X f r' := by
  intro pins s σ H x v Q I rx q
  exact h pins s σ H x v Q I rx (hi _ _ _ q)
def rNeg : V → Hp → VK → Prop := fun x H Q => match x with
  | .int i => Q (.int (-i)) H
  | _ => False
theorem neg : UnR X (unaryOp .USub) rNeg := imp_un un_neg (fun x H Q h => by
  unfold rNeg at h
  split at h
  · exact ⟨_, rfl, h⟩
  · exact h.elim)
/-- truth of texts, lists, numbers -/
def truB (H : Hp) : V → Option Bool
  | .non => some false
  | .bl b => some b
  | .int i => some (i != 0)
  | .str y => if y.cps.toList.length ≤ 16777216 then some (!y.cps.toList.isEmpty) else none
  | .ref p => (match H p with
    | some (.lst xs) => some (!xs.isEmpty)
    | some (.tup xs) => some (!xs.isEmpty)
    | _ => none)
  | _ => none
theorem truB_ok {K : PySem.W.Frag} {H : Hp} {x : V} {k : Bool} (h : truB H x = some k) : TruV K x H k := by
  unfold truB at h
  split at h
  · cases h; rfl
  · cases h; rfl
  · cases h; rfl
  · rename_i y
    split at h
    · cases h
      refine ⟨by rw [line, len_cps]; assumption, ?_⟩
      rw [len_cps]
      cases y.cps.toList <;> rfl
    · cases h
  · split at h <;> cases h
    · exact .inl ⟨_, .inl (.inl (by assumption)), rfl⟩
    · exact .inr (.inl ⟨_, .inl (.inl (by assumption)), rfl⟩)
  · cases h
def tTr (ta : TE) : TT := fun σ H Q => ta σ H fun x H' => ∃ k, truB H' x = some k ∧ Q k H'
theorem pt_tr {a : Expr} {ta : TE} (ha : PE X a ta) (he : ∀ whole, isTrue a X.env whole = (do let v ← whole; standAt a.pos; holding [v] (truthy v))) : PT X a (tTr ta) := by
  refine ⟨fun pins s σ H Q I h => ?_⟩
  exact isTrue_plain (thn (ha.run pins s σ H _ I h) fun v s1 ⟨x, H1, I1, r1, k, e, q1⟩ => tru_ok pins s1 σ H1 x v Q I1 r1 ⟨k, truB_ok e, q1⟩) (he _)
def tOrU (ta tb : TE) : TE := fun σ H Q => ta σ H fun x H1 => ∃ k, truB H1 x = some k ∧ if k = true then Q x H1 else tb σ H1 Q
theorem pe_orU {a b : Expr} {rest : List Expr} {ta tb : TE} {pos : Pos} (ha : PE X a ta) (hb : PE X (.BoolOp .Or (b :: rest) pos) tb) (hm : Mono ta) : PE X (.BoolOp .Or (a :: b :: rest) pos) (tOrU ta tb) :=
  PE.imp (pe_orT ha hb) fun σ H Q q => hm σ H _ _ (fun x H1 ⟨k, e, z⟩ => ⟨k, truB_ok e, z⟩) q
end
/-! ### calls with keywords, without arguments -/
section
variable {P : Program} {w : World} {K : PySem.W.Frag} {mg : Str → Option Value} {base : Heap}
structure KCal (P : Program) (w : World) (K : PySem.W.Frag) (mg : Str → Option Value) (base : Heap) (k : Nat) (x : Str) (sp : Sp) (n : Nat) (ks : List Str) (gV : List V → List V → List V) : Prop where
  ex : ∃ (f : Addr) (fd : FuncData) (ps : List Str) (g : List Value → List Value → List Value), FnOk P w K mg base C8.CX0 k f fd ps sp ∧ mg x = some (.ref f) ∧ PySem.W.keepIn K (.ref f) = true ∧ KBn K fd ps n ks g gV
structure KMak (P : Program) (w : World) (K : PySem.W.Frag) (mg : Str → Option Value) (base : Heap) (k : Nat) (x : Str) (C : Addr) (sp : Sp) (n : Nat) (ks : List Str) (gV : List V → List V → List V) : Prop where
  ex : ∃ (f : Addr) (fd : FuncData) (ps : List Str) (g : List Value → List Value → List Value), Mk K C f ∧ FnOk P w K mg base C8.CX0 k f fd ps sp ∧ mg x = some (.ref C) ∧ KBn K fd ps (n + 1) ks g gV
end
section
variable {X : Cx} {k j n : Nat} {C : Addr} {x : Str} {sp : Sp} {dvs : List V} {p pos : Pos} {e : Expr} {es : List Expr} {kws : List Keyword} {t tk : TA} {ks : List Str} {gV : List V → List V → List V}
theorem pe_c0 (c : C8.Cal X.prog X.w X.K X.mg X.base k x sp dvs) (hr : Room j X.A) (hk : k ≤ j) (hg : Gl X x) (hdb : (x == ("__debug__" : Str)) = false := by decide) : PE X (.Call (.Name x p) [] [] pos) (tCall sp dvs C8.E0 tNil) := by
  obtain ⟨f, fd, ps, ds, F, hm, kp, b, d⟩ := c.ex
  exact pe_call0 F (hr.mono hk) hg hm kp b d C8.pass0 hdb
theorem pe_ck (c : KCal X.prog X.w X.K X.mg X.base k x sp n ks gV) (hr : Room j X.A) (hk : k ≤ j) (hg : Gl X x) (ha : PA X (e :: es) t) (hkw : PK X kws tk)
    (hall : (backToKw pos (keywordEach kws X.env)).all (·.1.isSome) = true := by rfl) (hks : (backToKw pos (keywordEach kws X.env)).filterMap (·.1) = ks := by rfl)
    (hdb : (x == ("__debug__" : Str)) = false := by decide) (he : starEach (e :: es) X.env = (false, eval e X.env) :: starEach es X.env := by rfl)
    (hpl : ((backTo pos (starEach (e :: es) X.env)).any (·.1) || (backToKw pos (keywordEach kws X.env)).any (·.1.isNone)) = false := by rfl) :
    PE X (.Call (.Name x p) (e :: es) kws pos) (tCallN n ks.length sp gV C8.E0 t tk) := by
  obtain ⟨f, fd, ps, g, F, hm, kp, b⟩ := c.ex
  exact pe_callN F (hr.mono hk) hg hm kp b C8.pass0 ha hkw hall hks hdb he hpl
theorem pe_mkk (c : KMak X.prog X.w X.K X.mg X.base k x C sp n ks gV) (hr : Room j X.A) (hk : k + 1 ≤ j) (hg : Gl X x) (ha : PA X (e :: es) t) (hkw : PK X kws tk)
    (hall : (backToKw pos (keywordEach kws X.env)).all (·.1.isSome) = true := by rfl) (hks : (backToKw pos (keywordEach kws X.env)).filterMap (·.1) = ks := by rfl)
    (hdb : (x == ("__debug__" : Str)) = false := by decide) (he : starEach (e :: es) X.env = (false, eval e X.env) :: starEach es X.env := by rfl)
    (hpl : ((backTo pos (starEach (e :: es) X.env)).any (·.1) || (backToKw pos (keywordEach kws X.env)).any (·.1.isNone)) = false := by rfl) :
    PE X (.Call (.Name x p) (e :: es) kws pos) (tMakeN C n ks.length sp gV C8.E0 t tk) := by
  obtain ⟨f, fd, ps, g, M, F, hm, b⟩ := c.ex
  exact pe_makeN M F (hr.mono hk) hg hm b C8.pass0 ha hkw hall hks hdb he hpl
end
/-! ### promises by the number of arguments -/
def sp0 (f : Hp → VK → XK → Prop) : Sp := fun vs H Q E => vs = [] ∧ f H Q E
theorem sp0_at {f : Hp → VK → XK → Prop} {H : Hp} {Q : VK} {E : XK} : sp0 f [] H Q E = f H Q E := propext ⟨fun h => h.2, fun h => ⟨rfl, h⟩⟩
def sp1 (f : V → Hp → VK → XK → Prop) : Sp := fun vs H Q E => ∃ a0, vs = [a0] ∧ f a0 H Q E
theorem sp1_at {f : V → Hp → VK → XK → Prop} {a0 : V} {H : Hp} {Q : VK} {E : XK} : sp1 f [a0] H Q E = f a0 H Q E := propext ⟨fun ⟨_, e, h⟩ => by cases e; exact h, fun h => ⟨_, rfl, h⟩⟩
def sp2 (f : V → V → Hp → VK → XK → Prop) : Sp := fun vs H Q E => ∃ a0 a1, vs = [a0, a1] ∧ f a0 a1 H Q E
theorem sp2_at {f : V → V → Hp → VK → XK → Prop} {a0 a1 : V} {H : Hp} {Q : VK} {E : XK} : sp2 f [a0, a1] H Q E = f a0 a1 H Q E := propext ⟨fun ⟨_, _, e, h⟩ => by cases e; exact h, fun h => ⟨_, _, rfl, h⟩⟩
def sp3 (f : V → V → V → Hp → VK → XK → Prop) : Sp := fun vs H Q E => ∃ a0 a1 a2, vs = [a0, a1, a2] ∧ f a0 a1 a2 H Q E
theorem sp3_at {f : V → V → V → Hp → VK → XK → Prop} {a0 a1 a2 : V} {H : Hp} {Q : VK} {E : XK} : sp3 f [a0, a1, a2] H Q E = f a0 a1 a2 H Q E := propext ⟨fun ⟨_, _, _, e, h⟩ => by cases e; exact h, fun h => ⟨_, _, _, rfl, h⟩⟩
def sp4 (f : V → V → V → V → Hp → VK → XK → Prop) : Sp := fun vs H Q E => ∃ a0 a1 a2 a3, vs = [a0, a1, a2, a3] ∧ f a0 a1 a2 a3 H Q E
theorem sp4_at {f : V → V → V → V → Hp → VK → XK → Prop} {a0 a1 a2 a3 : V} {H : Hp} {Q : VK} {E : XK} : sp4 f [a0, a1, a2, a3] H Q E = f a0 a1 a2 a3 H Q E := propext ⟨fun ⟨_, _, _, _, e, h⟩ => by cases e; exact h, fun h => ⟨_, _, _, _, rfl, h⟩⟩
def sp5 (f : V → V → V → V → V → Hp → VK → XK → Prop) : Sp := fun vs H Q E => ∃ a0 a1 a2 a3 a4, vs = [a0, a1, a2, a3, a4] ∧ f a0 a1 a2 a3 a4 H Q E
theorem sp5_at {f : V → V → V → V → V → Hp → VK → XK → Prop} {a0 a1 a2 a3 a4 : V} {H : Hp} {Q : VK} {E : XK} : sp5 f [a0, a1, a2, a3, a4] H Q E = f a0 a1 a2 a3 a4 H Q E := propext ⟨fun ⟨_, _, _, _, _, e, h⟩ => by cases e; exact h, fun h => ⟨_, _, _, _, _, rfl, h⟩⟩
def sp6 (f : V → V → V → V → V → V → Hp → VK → XK → Prop) : Sp := fun vs H Q E => ∃ a0 a1 a2 a3 a4 a5, vs = [a0, a1, a2, a3, a4, a5] ∧ f a0 a1 a2 a3 a4 a5 H Q E
theorem sp6_at {f : V → V → V → V → V → V → Hp → VK → XK → Prop} {a0 a1 a2 a3 a4 a5 : V} {H : Hp} {Q : VK} {E : XK} : sp6 f [a0, a1, a2, a3, a4, a5] H Q E = f a0 a1 a2 a3 a4 a5 H Q E := propext ⟨fun ⟨_, _, _, _, _, _, e, h⟩ => by cases e; exact h, fun h => ⟨_, _, _, _, _, _, rfl, h⟩⟩
def sp7 (f : V → V → V → V → V → V → V → Hp → VK → XK → Prop) : Sp := fun vs H Q E => ∃ a0 a1 a2 a3 a4 a5 a6, vs = [a0, a1, a2, a3, a4, a5, a6] ∧ f a0 a1 a2 a3 a4 a5 a6 H Q E
theorem sp7_at {f : V → V → V → V → V → V → V → Hp → VK → XK → Prop} {a0 a1 a2 a3 a4 a5 a6 : V} {H : Hp} {Q : VK} {E : XK} : sp7 f [a0, a1, a2, a3, a4, a5, a6] H Q E = f a0 a1 a2 a3 a4 a5 a6 H Q E := propext ⟨fun ⟨_, _, _, _, _, _, _, e, h⟩ => by cases e; exact h, fun h => ⟨_, _, _, _, _, _, _, rfl, h⟩⟩
/-! ### how readings reduce -/
section
variable {σ : L2.St} {H H' : Hp} {Q : VK} {v : V} {D : Ends}
theorem tVar_0 : tVar 0 (some v :: σ) H Q = Q v H := by
  apply propext; constructor
  · rintro ⟨u, e, q⟩
    have e : some v = some u := Option.some.inj e
    cases e; exact q
  · intro q; exact ⟨v, rfl, q⟩
theorem tVar_s {o : Option V} {i : Nat} : tVar (i + 1) (o :: σ) H Q = tVar i σ H Q := rfl
theorem set_0 {α : Type} {a b : α} {l : List α} : (a :: l).set 0 b = b :: l := rfl
theorem set_s {α : Type} {a b : α} {l : List α} {i : Nat} : (a :: l).set (i + 1) b = a :: l.set i b := rfl
theorem wipe_nil : wipe σ [] = σ := rfl
/-- a list's word between two turns of a for -/
theorem ex_eq {α : Sort _} {a : α} {p : α → Prop} : (∃ x, a = x ∧ p x) = p a := by
  apply propext; constructor
  · rintro ⟨x, rfl, h⟩; exact h
  · intro h; exact ⟨a, rfl, h⟩
end
theorem atI_in {α : Type} {xs : List α} {i : Int} (h0 : 0 ≤ i) (h1 : i < xs.length) : ∃ c, c ∈ xs ∧ atI xs i = some c := by
  obtain ⟨n, rfl⟩ := Int.eq_ofNat_of_zero_le h0
  have hn : n < xs.length := by omega
  exact ⟨xs[n], List.getElem_mem hn, atI_nat (List.getElem?_eq_getElem hn)⟩
theorem atI_0 {α : Type} {a : α} {l : List α} : atI (a :: l) 0 = some a := atI_nat (j := 0) rfl
theorem ixN_0 {n : Nat} : ixN (n + 1) 0 = some 0 := by
  unfold ixN
  rw [if_pos (by decide), if_pos (by omega)]; rfl
end U

namespace U
open PySem PySem.Spec PyProof.Rows L2
/-- what is read, if it is there -/
def optE {α : Type} (o : Option α) (k : α → Prop) : Prop := ∃ a, o = some a ∧ k a
theorem optE_some {α : Type} {a : α} {k : α → Prop} : optE (some a) k = k a := propext ⟨fun ⟨b, e, h⟩ => by cases e; exact h, fun h => ⟨a, rfl, h⟩⟩
theorem optE_of {α : Type} {o : Option α} {a : α} {k : α → Prop} (h : o = some a) (q : k a) : optE o k := ⟨a, h, q⟩
section
variable {σ : L2.St} {H H' : Hp} {Q : VK} {v x y : V} {i j : Int} {a b : Str} {p q : Addr} {bb c : Bool} {T : String} {n m : Nat} {l l' : List Nat}
/-! ### the rules, by kinds of values -/
theorem e_add1 : rAdd (.int i) (.int j) H Q = Q (.int (i + j)) H := rfl
theorem e_add2 : rAdd (.str a) (.str b) H Q = (a.cps.toList.length + b.cps.toList.length ≤ 16777216 ∧ Q (sv (a.cps.toList ++ b.cps.toList)) H) := rfl
def lstOf : HO → Option (List V)
  | .lst xs => some xs
  | _ => none
theorem lstOf_some {o : HO} {xs : List V} (h : lstOf o = some xs) : o = .lst xs := by cases o <;> cases h; rfl
theorem lstOf_bind {xs : List V} (h : (H p).bind lstOf = some xs) : H p = some (.lst xs) := by
  cases e : H p with
  | none => rw [e] at h; cases h
  | some o => rw [e] at h; rw [lstOf_some h]
theorem bind_lst {xs : List V} (h : H p = some (.lst xs)) : (H p).bind lstOf = some xs := by rw [h]; rfl
theorem e_add3 : rAdd (.ref p) (.ref q) H Q = optE ((H p).bind lstOf) fun xs => optE ((H q).bind lstOf) fun ys => xs.length + ys.length ≤ 16777216 ∧ ∀ r, H r = none → Q (.ref r) (upd H r (.lst (xs ++ ys))) := by
  apply propext; constructor
  · rintro ⟨xs, ys, h1, h2, h3, h4⟩; exact ⟨xs, bind_lst h1, ys, bind_lst h2, h3, h4⟩
  · rintro ⟨xs, h1, ys, h2, h3, h4⟩; exact ⟨xs, ys, lstOf_bind h1, lstOf_bind h2, h3, h4⟩
theorem e_sub : rSub (.int i) (.int j) H Q = Q (.int (i - j)) H := rfl
theorem e_mul : rMul (.int i) (.int j) H Q = (MulOk i j ∧ Q (.int (i * j)) H) := rfl
theorem e_mul2 : rMul (.ref p) (.int i) H Q = optE ((H p).bind lstOf) fun xs => 0 ≤ i ∧ i < 2 ^ 63 ∧ xs.length * i.toNat ≤ 16777216 ∧ ∀ r, H r = none → Q (.ref r) (upd H r (.lst (List.replicate i.toNat xs).flatten)) := by
  apply propext; constructor
  · rintro ⟨xs, h1, h2⟩; exact ⟨xs, bind_lst h1, h2⟩
  · rintro ⟨xs, h1, h2⟩; exact ⟨xs, lstOf_bind h1, h2⟩
theorem e_mod : rMod (.int i) (.int j) H Q = (0 < j ∧ Q (.int (i % j)) H) := rfl
theorem e_div : rDiv (.int i) (.int j) H Q = ((0 < j ∧ j < 2 ^ 8000) ∧ Q (.int (i / j)) H) := rfl
theorem e_pow : rPow (.int i) (.int j) H Q = (CPow i j ∧ Q (.int (i ^ j.toNat)) H) := rfl
theorem e_lt1 : rLt (.int i) (.int j) H Q = Q (.bl (decide (i < j))) H := rfl
theorem e_lt2 : rLt (.str a) (.str b) H Q = Q (.bl (strLt a.cps.toList b.cps.toList)) H := rfl
theorem e_le1 : rLe (.int i) (.int j) H Q = Q (.bl (decide (i ≤ j))) H := rfl
theorem e_le2 : rLe (.str a) (.str b) H Q = Q (.bl (!strLt b.cps.toList a.cps.toList)) H := rfl
theorem e_gt1 : rGt (.int i) (.int j) H Q = Q (.bl (decide (j < i))) H := rfl
theorem e_gt2 : rGt (.str a) (.str b) H Q = Q (.bl (strLt b.cps.toList a.cps.toList)) H := rfl
theorem e_ge1 : rGe (.int i) (.int j) H Q = Q (.bl (decide (j ≤ i))) H := rfl
theorem e_ge2 : rGe (.str a) (.str b) H Q = Q (.bl (!strLt a.cps.toList b.cps.toList)) H := rfl
theorem e_eqo : rEq x y H Q = optE (eqS x y) fun b => Q (.bl b) H := rfl
theorem e_neo : rNe x y H Q = optE (eqS x y) fun b => Q (.bl (!b)) H := rfl
theorem s_1 : eqS .non .non = some true := rfl
theorem s_2 : eqS .non (.int i) = some false := rfl
theorem s_3 : eqS (.int i) .non = some false := rfl
theorem s_4 : eqS .non (.str a) = some false := rfl
theorem s_5 : eqS (.str a) .non = some false := rfl
theorem s_6 : eqS (.int i) (.int j) = some (decide (i = j)) := rfl
theorem s_7 : eqS (.bl bb) (.bl c) = some (bb == c) := rfl
theorem s_8 : eqS (.str a) (.str b) = some (decide (a.cps.toList = b.cps.toList)) := rfl
theorem s_9 : eqS (.int i) (.str b) = some false := rfl
theorem s_10 : eqS (.str a) (.int j) = some false := rfl
theorem s_11 : eqS (.bl bb) (.str b) = some false := rfl
theorem s_12 : eqS .non (.bl bb) = some false := rfl
theorem s_13 : eqS (.bl bb) .non = some false := rfl
theorem s_14 : eqS (.str a) (.bl bb) = some false := rfl
theorem e_is : rIs x .non H Q = Q (.bl (decide (x = .non))) H := propext ⟨fun h => h.2, fun h => ⟨rfl, h⟩⟩
theorem e_isn : rIsNot x .non H Q = Q (.bl (!decide (x = .non))) H := propext ⟨fun h => h.2, fun h => ⟨rfl, h⟩⟩
def oneOf : List Nat → Option Nat
  | [c] => some c
  | _ => none
theorem oneOf_some {l : List Nat} {c : Nat} (h : oneOf l = some c) : l = [c] := by
  unfold oneOf at h
  split at h
  · cases h; rfl
  · cases h
theorem e_in1 : rIn (.str a) (.str b) H Q = optE (oneOf a.cps.toList) fun c => Q (.bl (decide (c ∈ b.cps.toList))) H := by
  apply propext; constructor
  · rintro ⟨c, h1, h2⟩; exact ⟨c, by rw [h1]; rfl, h2⟩
  · rintro ⟨c, h1, h2⟩; exact ⟨c, oneOf_some h1, h2⟩
theorem e_nin1 : rNotIn (.str a) (.str b) H Q = optE (oneOf a.cps.toList) fun c => Q (.bl (!decide (c ∈ b.cps.toList))) H := by
  apply propext; constructor
  · rintro ⟨c, h1, h2⟩; exact ⟨c, by rw [h1]; rfl, h2⟩
  · rintro ⟨c, h1, h2⟩; exact ⟨c, oneOf_some h1, h2⟩
theorem e_in2 : rIn x (.ref p) H Q = optE ((H p).bind seqOf) fun xs => flatV x = true ∧ xs.all flatV = true ∧ Q (.bl (inV x xs)) H := by
  cases x <;> rfl
theorem e_nin2 : rNotIn x (.ref p) H Q = optE ((H p).bind seqOf) fun xs => flatV x = true ∧ xs.all flatV = true ∧ Q (.bl (!inV x xs)) H := by
  cases x <;> rfl
theorem e_one : oneOf [n] = some n := rfl
theorem e_ix1 : rIx (.str a) (.int i) H Q = (a.cps.toList.length ≤ 16777216 ∧ optE (atI a.cps.toList i) fun c => Q (sv [c]) H) := rfl
theorem e_ix2 : rIx (.ref p) (.int i) H Q = optE ((H p).bind seqOf) fun xs => optE (atI xs i) fun v => Q v H := rfl
variable {lo hi : Option Int}
theorem e_sl1 : rSl (.str a) lo hi H Q = (a.cps.toList.length ≤ 16777216 ∧ Q (sv (cutL a.cps.toList lo hi)) H) := rfl
/-- a cut of what stands there -/
def slO (o : Option HO) (p : Addr) (lo hi : Option Int) (H : Hp) (Q : VK) : Prop := match o with
  | some (.lst xs) => ∀ r, H r = none → Q (.ref r) (upd H r (.lst (cutL xs lo hi)))
  | some (.frz _ (.lst xs)) => ∀ r, H r = none → Q (.ref r) (upd H r (.lst (cutL xs lo hi)))
  | some (.tup xs) => (cutL xs lo hi = xs → Q (.ref p) H) ∧ ∀ r, H r = none → Q (.ref r) (upd H r (.tup (cutL xs lo hi)))
  | _ => False
theorem e_sl2 : rSl (.ref p) lo hi H Q = slO (H p) p lo hi H Q := by
  unfold slO
  apply propext; constructor
  · rintro (⟨xs, h1 | ⟨o, h1⟩, h2⟩ | ⟨xs, h1, h2⟩)
    · rw [h1]; exact h2
    · rw [h1]; exact h2
    · rw [h1]; exact h2
  · intro h
    split at h
    · rename_i xs e; exact .inl ⟨xs, .inl e, h⟩
    · rename_i o xs e; exact .inl ⟨xs, .inr ⟨o, e⟩, h⟩
    · rename_i xs e; exact .inr ⟨xs, e, h⟩
    · exact h.elim
theorem e_slo1 {xs : List V} : slO (some (.lst xs)) p lo hi H Q = ∀ r, H r = none → Q (.ref r) (upd H r (.lst (cutL xs lo hi))) := rfl
theorem e_slo2 {xs : List V} {o : Obj} : slO (some (.frz o (.lst xs))) p lo hi H Q = ∀ r, H r = none → Q (.ref r) (upd H r (.lst (cutL xs lo hi))) := rfl
theorem e_slo3 {xs : List V} : slO (some (.tup xs)) p lo hi H Q = ((cutL xs lo hi = xs → Q (.ref p) H) ∧ ∀ r, H r = none → Q (.ref r) (upd H r (.tup (cutL xs lo hi)))) := rfl
theorem e_len1 : rLen [.str a] H Q = (a.cps.toList.length ≤ 16777216 ∧ Q (.int a.cps.toList.length) H) := rfl
theorem e_len2 : rLen [.ref p] H Q = optE ((H p).bind seqOf) fun xs => Q (.int xs.length) H := rfl
theorem e_isi1 : rIsi [x, .ty T] H Q = optE (tyB H x) fun t => optE (isB t T) fun b => Q (.bl b) H := by
  apply propext; constructor
  · rintro ⟨t, h1, b, h2, h3⟩; exact ⟨t, h1, b, h2, h3⟩
  · rintro ⟨t, h1, b, h2, h3⟩; exact ⟨t, h1, b, h2, h3⟩
def tupOf : HO → Option (List V)
  | .tup xs => some xs
  | _ => none
theorem tupOf_some {o : HO} {xs : List V} (h : tupOf o = some xs) : o = .tup xs := by cases o <;> cases h; rfl
theorem tupOf_bind {xs : List V} (h : (H p).bind tupOf = some xs) : H p = some (.tup xs) := by
  cases e : H p with
  | none => rw [e] at h; cases h
  | some o => rw [e] at h; rw [tupOf_some h]
theorem bind_tup {xs : List V} (h : H p = some (.tup xs)) : (H p).bind tupOf = some xs := by rw [h]; rfl
theorem e_isi2 : rIsi [x, .ref p] H Q = optE ((H p).bind tupOf) fun cs => optE (tyB H x) fun t => optE (isAny t cs) fun b => Q (.bl b) H := by
  apply propext; constructor
  · rintro ⟨cs, h0, t, h1, b, h2, h3⟩; exact ⟨cs, bind_tup h0, t, h1, b, h2, h3⟩
  · rintro ⟨cs, h0, t, h1, b, h2, h3⟩; exact ⟨cs, tupOf_bind h0, t, h1, b, h2, h3⟩
theorem t_non : tyB H .non = some "NoneType" := rfl
theorem t_bl : tyB H (.bl bb) = some "bool" := rfl
theorem t_int : tyB H (.int i) = some "int" := rfl
theorem t_str : tyB H (.str a) = some "str" := rfl
def tyO : HO → Option String
  | .lst _ => some "list"
  | .tup _ => some "tuple"
  | .dK _ => some "dict"
  | .dT _ => some "dict"
  | .frz _ (.lst _) => some "list"
  | _ => none
theorem t_ref : tyB H (.ref p) = (H p).bind tyO := by
  show (match H p with
    | some (.lst _) => some "list"
    | some (.tup _) => some "tuple"
    | some (.dK _) => some "dict"
    | some (.dT _) => some "dict"
    | some (.frz _ (.lst _)) => some "list"
    | _ => none) = (H p).bind tyO
  cases H p with
  | none => rfl
  | some o =>
    cases o <;> first | rfl | (rename_i ob u; cases u <;> rfl)
theorem t_lst {xs : List V} : tyO (.lst xs) = some "list" := rfl
theorem t_tup {xs : List V} : tyO (.tup xs) = some "tuple" := rfl
theorem t_dK {kvs : List (Key × V)} : tyO (.dK kvs) = some "dict" := rfl
theorem q_lst {xs : List V} : seqOf (.lst xs) = some xs := rfl
theorem q_tup {xs : List V} : seqOf (.tup xs) = some xs := rfl
theorem q_frz {xs : List V} {o : Obj} : seqOf (.frz o (.lst xs)) = some xs := rfl
theorem l_lst {xs : List V} : lstOf (.lst xs) = some xs := rfl
theorem l_tup {xs : List V} : tupOf (.tup xs) = some xs := rfl
theorem e_max : rMax [.int i, .int j] H Q = Q (.int (max i j)) H := rfl
theorem e_min : rMin [.int i, .int j] H Q = Q (.int (min i j)) H := rfl
theorem e_str : rStr [.int i] H Q = ((0 ≤ i ∧ i < 2 ^ 1900) ∧ Q (sv (numL i.toNat)) H) := rfl
theorem e_int1 : rInt [.int i] H Q = Q (.int i) H := rfl
theorem e_int2 : rInt [.bl bb] H Q = Q (.int (if bb then 1 else 0)) H := rfl
theorem e_int3 : rInt [.str a] H Q = ((digs a.cps.toList = true ∧ a.cps.toList ≠ [] ∧ a.cps.toList.length ≤ 640) ∧ Q (.int (valL a.cps.toList)) H) := rfl
theorem e_list : rList [.ref p] H Q = optE ((H p).bind seqOf) fun xs => ∀ r, H r = none → Q (.ref r) (upd H r (.lst xs)) := rfl
/-- tuple(x) of what stands there -/
def tupleO (o : Option HO) (p : Addr) (H : Hp) (Q : VK) : Prop := match o with
  | some (.lst xs) => ∀ r, H r = none → Q (.ref r) (upd H r (.tup xs))
  | some (.tup _) => Q (.ref p) H
  | _ => False
theorem e_tuple : rTuple [.ref p] H Q = tupleO (H p) p H Q := by
  unfold tupleO
  apply propext; constructor
  · rintro (⟨xs, h1, h2⟩ | ⟨xs, h1, h2⟩)
    · rw [h1]; exact h2
    · rw [h1]; exact h2
  · intro h
    split at h
    · rename_i xs e; exact .inl ⟨xs, e, h⟩
    · rename_i xs e; exact .inr ⟨xs, e, h⟩
    · exact h.elim
theorem e_tuple1 {xs : List V} : tupleO (some (.lst xs)) p H Q = ∀ r, H r = none → Q (.ref r) (upd H r (.tup xs)) := rfl
theorem e_tuple2 {xs : List V} : tupleO (some (.tup xs)) p H Q = Q (.ref p) H := rfl
theorem e_divmod : rDivmod [.int i, .int j] H Q = ((0 < j ∧ j < 2 ^ 8000) ∧ ∀ r, H r = none → Q (.ref r) (upd H r (.tup [.int (i / j), .int (i % j)]))) := rfl
theorem e_append : rAppend (.ref p) [y] H Q = optE ((H p).bind lstOf) fun xs => xs.length < 16777216 ∧ Q .non (upd H p (.lst (xs ++ [y]))) := by
  apply propext; constructor
  · rintro ⟨xs, h1, h2⟩; exact ⟨xs, bind_lst h1, h2⟩
  · rintro ⟨xs, h1, h2⟩; exact ⟨xs, lstOf_bind h1, h2⟩
/-- a list or tuple that is not locked -/
def seqU : HO → Option (List V)
  | .lst xs => some xs
  | .tup xs => some xs
  | _ => none
theorem u_lst {xs : List V} : seqU (.lst xs) = some xs := rfl
theorem u_tup {xs : List V} : seqU (.tup xs) = some xs := rfl
theorem seqU_bind {xs : List V} (h : (H p).bind seqU = some xs) : H p = some (.lst xs) ∨ H p = some (.tup xs) := by
  cases e : H p with
  | none => rw [e] at h; cases h
  | some o =>
    rw [e] at h
    have h : seqU o = some xs := h
    cases o <;> cases h
    · exact .inl rfl
    · exact .inr rfl
theorem e_extend : rExtend (.ref p) [.ref q] H Q = optE ((H p).bind lstOf) fun xs => optE ((H q).bind seqU) fun ys => xs.length + ys.length ≤ 16777216 ∧ Q .non (upd H p (.lst (xs ++ ys))) := by
  apply propext; constructor
  · rintro ⟨xs, ys, h1, h2, h3⟩
    refine ⟨xs, bind_lst h1, ys, ?_, h3⟩
    rcases h2 with h2 | h2 <;> rw [h2] <;> rfl
  · rintro ⟨xs, h1, ys, h2, h3⟩; exact ⟨xs, ys, lstOf_bind h1, seqU_bind h2, h3⟩
theorem e_pop : rPop (.ref p) [] H Q = optE ((H p).bind lstOf) fun xs => optE xs.getLast? fun y => Q y (upd H p (.lst xs.dropLast)) := by
  apply propext; constructor
  · rintro ⟨xs, y, h1, h2, h3⟩; exact ⟨xs, bind_lst h1, y, h2, h3⟩
  · rintro ⟨xs, h1, y, h2, h3⟩; exact ⟨xs, y, lstOf_bind h1, h2, h3⟩
theorem e_rstrip : rRstrip (.str a) [.str b] H Q = (a.cps.toList.length ≤ 16777216 ∧ Q (.str (Txt.rstripChars a b)) H) := rfl
theorem e_zfill : rZfill (.str a) [.int i] H Q = (PadOk i = true ∧ Q (.str (Txt.zfill a i)) H) := rfl
/-- a list of texts -/
def strsOf : List V → Option (List (List Nat))
  | [] => some []
  | .str a :: r => (strsOf r).map fun l => a.cps.toList :: l
  | _ => none
theorem strsOf_some : ∀ {xs : List V} {ys : List (List Nat)}, strsOf xs = some ys → xs = ys.map sv
  | [], ys, h => by cases h; rfl
  | .str a :: r, ys, h => by
    have h : (strsOf r).map (fun l => a.cps.toList :: l) = some ys := h
    cases e : strsOf r with
    | none => rw [e] at h; cases h
    | some zs => rw [e] at h; cases h; rw [strsOf_some e, sv_of]; rfl
  | .non :: _, _, h => by cases h
  | .bl _ :: _, _, h => by cases h
  | .int _ :: _, _, h => by cases h
  | .byt _ :: _, _, h => by cases h
  | .flt _ :: _, _, h => by cases h
  | .ref _ :: _, _, h => by cases h
  | .ty _ :: _, _, h => by cases h
theorem strsOf_map : ∀ (ys : List (List Nat)), strsOf (ys.map sv) = some ys
  | [] => rfl
  | l :: r => by
    show (strsOf (r.map sv)).map (fun z => l :: z) = some (l :: r)
    rw [strsOf_map r]; rfl
theorem strsOf_nil : strsOf [] = some [] := rfl
theorem strsOf_cons {r : List V} : strsOf (.str a :: r) = (strsOf r).map fun l => a.cps.toList :: l := rfl
theorem strsOf_app {r : List V} {ys zs : List (List Nat)} (h : strsOf r = some zs) : strsOf (ys.map sv ++ r) = some (ys ++ zs) := by
  rw [strsOf_some h, ← List.map_append, strsOf_map]
theorem e_join : rJoin (.str a) [.ref p] H Q = optE ((H p).bind seqU) fun xs => optE (strsOf xs) fun ys => (ys.map List.length).sum + ys.length * a.cps.toList.length ≤ 16777216 ∧ Q (sv (TL.joinL a.cps.toList ys)) H := by
  apply propext; constructor
  · rintro ⟨ys, h1, h2⟩
    refine ⟨ys.map sv, ?_, ys, strsOf_map ys, h2⟩
    rcases h1 with h1 | h1 <;> rw [h1] <;> rfl
  · rintro ⟨xs, h1, ys, h2, h3⟩
    rw [strsOf_some h2] at h1
    exact ⟨ys, seqU_bind h1, h3⟩
theorem e_fmt1 : rFmt (.str a) H Q = (a.cps.toList.length ≤ 16777216 ∧ Q (sv a.cps.toList) H) := rfl
theorem e_fmt2 : rFmt (.int i) H Q = ((0 ≤ i ∧ i < 2 ^ 1900) ∧ Q (sv (numL i.toNat)) H) := rfl
theorem e_js0 {acc : List Nat} {Q : List Nat → Hp → Prop} : uJs [] acc σ H Q = Q acc H := rfl
def strOf : V → Option (List Nat)
  | .str a => some a.cps.toList
  | _ => none
theorem strOf_str : strOf (.str a) = some a.cps.toList := rfl
theorem e_js1 {t : TE} {ts : List TE} {acc : List Nat} {Q : List Nat → Hp → Prop} : uJs (t :: ts) acc σ H Q = t σ H fun x H1 => optE (strOf x) fun y => acc.length + y.length ≤ 16777216 ∧ uJs ts (acc ++ y) σ H1 Q := by
  have e : ∀ (x : V) (H1 : Hp), (∃ y : Str, x = .str y ∧ acc.length + y.cps.toList.length ≤ 16777216 ∧ uJs ts (acc ++ y.cps.toList) σ H1 Q) = optE (strOf x) fun y => acc.length + y.length ≤ 16777216 ∧ uJs ts (acc ++ y) σ H1 Q := by
    intro x H1
    apply propext; constructor
    · rintro ⟨y, rfl, h⟩; exact ⟨_, rfl, h⟩
    · rintro ⟨y, h1, h2⟩
      cases x <;> cases h1
      exact ⟨_, rfl, h2⟩
  show (t σ H fun x H1 => ∃ y : Str, x = .str y ∧ acc.length + y.cps.toList.length ≤ 16777216 ∧ uJs ts (acc ++ y.cps.toList) σ H1 Q) = _
  congr 1
  funext x H1
  exact e x H1
theorem e_set {R : Hp → Prop} : rSet (.ref p) (.int i) v H R = optE ((H p).bind lstOf) fun xs => optE (ixN xs.length i) fun j => R (upd H p (.lst (xs.set j v))) := by
  apply propext; constructor
  · rintro ⟨xs, h1, h2⟩; exact ⟨xs, bind_lst h1, h2⟩
  · rintro ⟨xs, h1, h2⟩; exact ⟨xs, lstOf_bind h1, h2⟩
theorem e_get : rGet (.ref p) (.int i) H Q = optE ((H p).bind lstOf) fun xs => 0 ≤ i ∧ optE (xs[i.toNat]?) fun v => Q v H := by
  apply propext; constructor
  · rintro ⟨xs, h1, h2⟩; exact ⟨xs, bind_lst h1, h2⟩
  · rintro ⟨xs, h1, h2⟩; exact ⟨xs, lstOf_bind h1, h2⟩
theorem e_ipa1 : ipAdd (.int i) (.int j) H Q = Q (.int (i + j)) H := rfl
theorem e_ipa2 : ipAdd (.str a) (.str b) H Q = (a.cps.toList.length + b.cps.toList.length ≤ 16777216 ∧ Q (sv (a.cps.toList ++ b.cps.toList)) H) := rfl
theorem e_ips : ipSub (.int i) (.int j) H Q = Q (.int (i - j)) H := rfl
theorem e_neg : rNeg (.int i) H Q = Q (.int (-i)) H := rfl
theorem e_tr {ta : TE} {R : Bool → Hp → Prop} : tTr ta σ H R = ta σ H fun x H' => optE (truB H' x) fun k => R k H' := rfl
theorem e_or {ta tb : TE} : tOrU ta tb σ H Q = ta σ H fun x H1 => optE (truB H1 x) fun k => if k = true then Q x H1 else tb σ H1 Q := rfl
theorem b_non : truB H .non = some false := rfl
theorem b_bl : truB H (.bl bb) = some bb := rfl
theorem b_int : truB H (.int i) = some (i != 0) := rfl
theorem b_str (h : a.cps.toList.length ≤ 16777216) : truB H (.str a) = some (!a.cps.toList.isEmpty) := if_pos h
theorem b_lst {xs : List V} (h : H p = some (.lst xs)) : truB H (.ref p) = some (!xs.isEmpty) := by
  show (match H p with
    | some (.lst xs) => some (!xs.isEmpty)
    | some (.tup xs) => some (!xs.isEmpty)
    | _ => none) = _
  rw [h]
theorem isL_ref : isL (.ref p) H = ((H p).bind lstOf).isSome := by
  apply propext; constructor
  · rintro ⟨xs, e⟩; rw [e]; rfl
  · intro h
    cases e : (H p).bind lstOf with
    | none => rw [e] at h; cases h
    | some xs => exact ⟨xs, lstOf_bind e⟩
theorem isS_str : isS (.str a) = True := rfl
def blOf : V → Option Bool
  | .bl b => some b
  | _ => none
theorem blOf_bl : blOf (.bl bb) = some bb := rfl
theorem bl_ex {R : Bool → Prop} : (∃ c, x = .bl c ∧ R c) = optE (blOf x) R := by
  apply propext; constructor
  · rintro ⟨c, rfl, h⟩; exact ⟨c, rfl, h⟩
  · rintro ⟨c, h1, h2⟩
    cases x <;> cases h1
    exact ⟨_, rfl, h2⟩
theorem e_test {t : TE} {R : Bool → Hp → Prop} : tTest t σ H R = t σ H fun x H' => optE (blOf x) fun k => R k H' := by
  show (t σ H fun x H' => ∃ k, x = .bl k ∧ R k H') = _
  congr 1; funext x H'; exact bl_ex
theorem e_tB {t : TE} {R : Bool → Hp → Prop} : tB t σ H R = t σ H fun x H' => optE (blOf x) fun k => R k H' := by
  show (t σ H fun x H' => ∃ k, x = .bl k ∧ R k H') = _
  congr 1; funext x H'; exact bl_ex
theorem e_andV {ta tb : TE} : tAndV ta tb σ H Q = ta σ H fun x H1 => optE (blOf x) fun c => if c = true then tb σ H1 Q else Q (.bl false) H1 := by
  show (ta σ H fun x H1 => ∃ c, x = .bl c ∧ if c = true then tb σ H1 Q else Q (.bl false) H1) = _
  congr 1; funext x H'; exact bl_ex
theorem e_orV {ta tb : TE} : tOrV ta tb σ H Q = ta σ H fun x H1 => optE (blOf x) fun c => if c = true then Q (.bl true) H1 else tb σ H1 Q := by
  show (ta σ H fun x H1 => ∃ c, x = .bl c ∧ if c = true then Q (.bl true) H1 else tb σ H1 Q) = _
  congr 1; funext x H'; exact bl_ex
theorem e_notV {ta : TE} : tNotV ta σ H Q = ta σ H fun x H1 => optE (blOf x) fun c => Q (.bl (!c)) H1 := by
  show (ta σ H fun x H1 => ∃ c, x = .bl c ∧ Q (.bl (!c)) H1) = _
  congr 1; funext x H'; exact bl_ex
theorem e_chain {r r' : R2} {ta tb tc : TE} : tChain r r' ta tb tc σ H Q = ta σ H fun x H1 => tb σ H1 fun y H2 => r x y H2 fun z H3 => optE (blOf z) fun k => if k = true then tc σ H3 fun w' H4 => r' y w' H4 Q else Q (.bl false) H3 := by
  show (ta σ H fun x H1 => tb σ H1 fun y H2 => r x y H2 fun z H3 => ∃ k, z = .bl k ∧ (if k = true then tc σ H3 fun w' H4 => r' y w' H4 Q else Q (.bl false) H3)) = _
  congr 1; funext x H1; congr 1; funext y H2; congr 1; funext z H3; exact bl_ex
def intOf : V → Option Int
  | .int i => some i
  | _ => none
theorem intOf_int : intOf (.int i) = some i := rfl
theorem e_part {t : TE} {R : Option Int → Hp → Prop} : tPart t σ H R = t σ H fun x H1 => optE (intOf x) fun i => R (some i) H1 := by
  show (t σ H fun x H1 => ∃ i, x = .int i ∧ R (some i) H1) = _
  congr 1; funext x H1
  apply propext; constructor
  · rintro ⟨c, rfl, h⟩; exact ⟨c, rfl, h⟩
  · rintro ⟨c, h1, h2⟩
    cases x <;> cases h1
    exact ⟨_, rfl, h2⟩
theorem e_fld {K : PySem.W.Frag} {ta : TE} {f : Str} : tFld K ta f σ H Q = ta σ H fun x H1 => ∃ a C dx fs v, x = .ref a ∧ H1 a = some (.ins C dx fs) ∧ Cls K C ∧ NoAttr K C f ∧ fs.lookup f = some v ∧ Q v H1 := rfl
end
end U

namespace U
open PySem PySem.Spec PyProof.Rows L2
/-! ### what a call leaves as it was: all that stood there but S -/
def Fr (S : List Addr) (H H' : Hp) : Prop := ∀ b, b ∉ S → (H b).isSome = true → H' b = H b
theorem Fr.refl {S : List Addr} {H : Hp} : Fr S H H := fun _ _ _ => rfl
theorem Fr.get {S : List Addr} {H H' : Hp} {b : Addr} {o : HO} (h : Fr S H H') (hb : b ∉ S) (e : H b = some o) : H' b = some o := by
  rw [h b hb (by rw [e]; rfl), e]
theorem Fr.trans {S : List Addr} {H H' H2 : Hp} (h : Fr S H H') (k : Fr S H' H2) : Fr S H H2 := fun b hb hs => by
  have e := h b hb hs
  rw [k b hb (by rw [e]; exact hs), e]
theorem Fr.wide {S T : List Addr} {H H' H2 : Hp} (h : Fr S H H') (k : Fr T H' H2) (hT : ∀ x ∈ T, x ∈ S ∨ H x = none) : Fr S H H2 := fun b hb hs => by
  have e := h b hb hs
  have hbT : b ∉ T := fun z => by
    rcases hT b z with y | y
    · exact hb y
    · rw [y] at hs; cases hs
  rw [k b hbT (by rw [e]; exact hs), e]
theorem Fr.sub {S T : List Addr} {H H' : Hp} (h : Fr S H H') (hs : ∀ x ∈ S, x ∈ T) : Fr T H H' := fun b hb k => h b (fun z => hb (hs b z)) k
theorem Fr.new {S : List Addr} {H H' : Hp} {r : Addr} {o : HO} (h : Fr S H H') (hr : H' r = none) : Fr S H (upd H' r o) := fun b hb hs => by
  have e := h b hb hs
  rw [upd_old hr (by rw [e]; exact hs), e]
theorem Fr.own {S : List Addr} {H H' : Hp} {p : Addr} {o : HO} (h : Fr S H H') (hp : p ∈ S ∨ H p = none) : Fr S H (upd H' p o) := fun b hb hs => by
  have e := h b hb hs
  rw [upd_ne (fun z => by
    subst z
    rcases hp with y | y
    · exact hb y
    · rw [y] at hs; cases hs), e]
theorem Fr.none {S : List Addr} {H H' : Hp} {r : Addr} (h : Fr S H H') (hr : H' r = Option.none) (hs : r ∉ S) : H r = Option.none := by
  cases e : H r with
  | none => rfl
  | some o => rw [h.get hs e] at hr; cases hr
theorem ne_new {H : Hp} {r p : Addr} {o : HO} (hr : H r = none) (hp : H p = some o) : r ≠ p := by
  rintro rfl; rw [hr] at hp; cases hp
theorem ne_new' {H : Hp} {r p : Addr} {o : HO} (hr : H r = none) (hp : H p = some o) : p ≠ r := fun z => ne_new hr hp z.symm
theorem upd_old2 {H : Hp} {r p : Addr} {o u : HO} (hr : H r = none) (hp : H p = some u) : upd H r o p = some u := by
  rw [upd_ne (ne_new' hr hp), hp]
theorem upd_mid {H : Hp} {r p : Addr} {o u : HO} (hr : H r = none) (hn : r ≠ p) : upd H p o r = none := by
  rw [upd_ne hn, hr]
/-! ### types -/
theorem i_ii : isB "int" "int" = some true := rfl
theorem i_ib : isB "int" "bool" = some false := rfl
theorem i_is : isB "int" "str" = some false := rfl
theorem i_si : isB "str" "int" = some false := rfl
theorem i_ss : isB "str" "str" = some true := rfl
theorem i_bi : isB "bool" "int" = some true := rfl
theorem i_bb : isB "bool" "bool" = some true := rfl
theorem i_ni : isB "NoneType" "int" = some false := rfl
theorem i_ns : isB "NoneType" "str" = some false := rfl
theorem i_ll : isAny "list" [.ty "list", .ty "tuple"] = some true := rfl
theorem i_lt : isAny "tuple" [.ty "list", .ty "tuple"] = some true := rfl
/-! ### fields -/
def insOf : HO → Option (Addr × Addr × List (Str × V))
  | .ins C dx fs => some (C, dx, fs)
  | _ => none
theorem insOf_ins {C dx : Addr} {fs : List (Str × V)} : insOf (.ins C dx fs) = some (C, dx, fs) := rfl
theorem insOf_some {o : HO} {z : Addr × Addr × List (Str × V)} (h : insOf o = some z) : o = .ins z.1 z.2.1 z.2.2 := by cases o <;> cases h; rfl
theorem insOf_bind {H : Hp} {p : Addr} {z : Addr × Addr × List (Str × V)} (h : (H p).bind insOf = some z) : H p = some (.ins z.1 z.2.1 z.2.2) := by
  cases e : H p with
  | none => rw [e] at h; cases h
  | some o => rw [e] at h; rw [insOf_some h]
def fldG (K : PySem.W.Frag) (f : Str) (x : V) (H1 : Hp) (Q : VK) : Prop := ∃ a C dx fs v, x = .ref a ∧ H1 a = some (.ins C dx fs) ∧ Cls K C ∧ NoAttr K C f ∧ fs.lookup f = some v ∧ Q v H1
theorem e_fldG {K : PySem.W.Frag} {ta : TE} {f : Str} {σ : L2.St} {H : Hp} {Q : VK} : tFld K ta f σ H Q = ta σ H fun x H1 => fldG K f x H1 Q := rfl
theorem e_fldR {K : PySem.W.Frag} {f : Str} {p : Addr} {H : Hp} {Q : VK} : fldG K f (.ref p) H Q = optE ((H p).bind insOf) fun z => Cls K z.1 ∧ NoAttr K z.1 f ∧ optE (z.2.2.lookup f) fun v => Q v H := by
  apply propext; constructor
  · rintro ⟨a, C, dx, fs, v, h1, h2, h3, h4, h5, h6⟩
    cases h1
    exact ⟨(C, dx, fs), by rw [h2]; rfl, h3, h4, v, h5, h6⟩
  · rintro ⟨z, h1, h2, h3, v, h4, h5⟩
    exact ⟨p, z.1, z.2.1, z.2.2, v, rfl, insOf_bind h1, h2, h3, h4, h5⟩
def sFG (K : PySem.W.Frag) (f : Str) (y x : V) (H2 : Hp) (R : Hp → Prop) : Prop := ∃ a C dx fs, x = .ref a ∧ H2 a = some (.ins C dx fs) ∧ Cls K C ∧ NoAttr K C f ∧ fs.length < 1000 ∧ R (upd H2 a (.ins C dx (putF f y fs)))
theorem e_sfG {K : PySem.W.Frag} {ta tv : TE} {f : Str} {D : Ends} {σ : L2.St} {H : Hp} : sFld K ta tv f D σ H = tv σ H fun y H1 => ta σ H1 fun x H2 => sFG K f y x H2 fun H3 => D.nx σ H3 := rfl
theorem e_sfR {K : PySem.W.Frag} {f : Str} {y : V} {p : Addr} {H : Hp} {R : Hp → Prop} : sFG K f y (.ref p) H R = optE ((H p).bind insOf) fun z => Cls K z.1 ∧ NoAttr K z.1 f ∧ z.2.2.length < 1000 ∧ R (upd H p (.ins z.1 z.2.1 (putF f y z.2.2))) := by
  apply propext; constructor
  · rintro ⟨a, C, dx, fs, h1, h2, h3, h4, h5, h6⟩
    cases h1
    exact ⟨(C, dx, fs), by rw [h2]; rfl, h3, h4, h5, h6⟩
  · rintro ⟨z, h1, h2, h3, h4, h5⟩
    exact ⟨p, z.1, z.2.1, z.2.2, rfl, insOf_bind h1, h2, h3, h4, h5⟩
def mtG (C : Addr) (m : Str) (x : V) (H1 : Hp) (R : Prop) : Prop := ∃ a dx fs, x = .ref a ∧ H1 a = some (.ins C dx fs) ∧ fs.lookup m = none ∧ R
theorem e_mtG {C : Addr} {m : Str} {sp : Sp} {dvs : List V} {E : XK} {ta : TE} {t : TA} {σ : L2.St} {H : Hp} {Q : VK} : tMeth C m sp dvs E ta t σ H Q = ta σ H fun x H1 => mtG C m x H1 (t σ H1 fun vs H2 => sp (x :: (vs ++ dvs)) H2 Q E) := rfl
theorem e_mtR {C : Addr} {m : Str} {p : Addr} {H : Hp} {R : Prop} : mtG C m (.ref p) H R = optE ((H p).bind insOf) fun z => z.1 = C ∧ z.2.2.lookup m = none ∧ R := by
  apply propext; constructor
  · rintro ⟨a, dx, fs, h1, h2, h3, h4⟩
    cases h1
    exact ⟨(C, dx, fs), by rw [h2]; rfl, rfl, h3, h4⟩
  · rintro ⟨z, h1, h2, h3, h4⟩
    refine ⟨p, z.2.1, z.2.2, rfl, ?_, h3, h4⟩
    rw [insOf_bind h1, h2]
theorem z_revG {K : PySem.W.Frag} {te : TE} {σ : L2.St} {H : Hp} {Q : VK} (R : V → Hp → Prop) : True := trivial
/-! ### loops -/
section
variable {g : TG} {tb : TS} {D : Ends} {σ : L2.St} {H : Hp} {K : PySem.W.Frag}
theorem for_rng {ta : TA} (h : ta σ H fun vs H1 => ∃ n : Int, vs = [.int n] ∧ -(2 ^ 62) ≤ n ∧ n < 2 ^ 62 ∧ ∃ Pv : Nat → L2.St → Hp → Prop, Pv 0 σ H1 ∧
    (∀ i σ H, i < n.toNat → Pv i σ H → g (.int i) σ H fun σ2 H2 => tb { D with nx := Pv (i + 1), ct := Pv (i + 1), bk := D.nx } σ2 H2) ∧ ∀ σ H, Pv n.toNat σ H → D.nx σ H)
    (hm : ∀ Q Q' : List V → Hp → Prop, (∀ vs H, Q vs H → Q' vs H) → ta σ H Q → ta σ H Q') : tFor (iRng1 ta) g tb D σ H := by
  refine hm _ _ (fun vs H1 ⟨n, e, h1, h2, Pv, p0, ps, pd⟩ => ⟨n, e, h1, h2, for_range Pv p0 (fun i σ H hi hP => ?_) pd⟩) h
  have := ps i σ H hi hP
  simpa using this
theorem for_lst {te : TE} (h : te σ H fun v H1 => ∃ a xs, v = .ref a ∧ H1 a = some (.lst xs) ∧ ∃ Pv : Nat → L2.St → Hp → Prop, Pv 0 σ H1 ∧ (∀ i σ H, i ≤ xs.length → Pv i σ H → H a = some (.lst xs)) ∧
    (∀ i x σ H, xs[i]? = some x → Pv i σ H → g x σ H fun σ2 H2 => tb { D with nx := Pv (i + 1), ct := Pv (i + 1), bk := D.nx } σ2 H2) ∧ ∀ σ H, Pv xs.length σ H → D.nx σ H)
    (hm : Mono te) : tFor (iList K te) g tb D σ H := by
  refine hm _ _ _ _ (fun v H1 ⟨a, xs, e, h1, Pv, p0, pl, ps, pd⟩ => ⟨a, e, ⟨xs, SqL.of h1⟩, for_list Pv p0 (fun i σ H hi hP => SqL.of (pl i σ H hi hP)) ps pd⟩) h
end
/-- what loops over [t for ..] leave: the list of what comes of each -/
theorem wipe_1 {σ : L2.St} {i : Nat} : True := trivial
end U

namespace U
open PySem PySem.Spec PyProof.Rows L2
section
variable {σ : L2.St} {H : Hp} {Q : VK}
/-- [e for c in text] -/
theorem lc_strs {te elt : TE} {g : TG} {tt : TT} {i : Nat} (x : List Nat) (f : Nat → V) (hg : g = gName i := by rfl) (ht : tt = tYes := by rfl) (hm : Mono te := by exact U.mono_var)
    (h : te σ H fun v H1 => v = sv x ∧ x.length < 16777216 ∧ (∀ c ∈ x, ∀ H' R, R (f c) H' → elt ((σ.set i none).set i (some (sv [c]))) H' R) ∧ ∀ r, H1 r = none → Q (.ref r) (upd H1 r (.lst (x.map f)))) :
    tLc (iStr te) g tt elt [i] σ H Q := by
  subst hg ht
  refine hm σ H _ _ (fun v H1 ⟨e, hl, he, hq⟩ => ?_) h
  refine ⟨⟨x.toArray⟩, e, fun D hD => ?_⟩
  refine lc_str (x := ⟨x.toArray⟩) (fun n H' => n ≤ x.length ∧ H' = upd H1 D (.lst ((x.take n).map f))) ⟨Nat.zero_le _, rfl⟩ (fun n c H' hc hP => ?_) (fun H' hP => ?_)
  · obtain ⟨hn, rfl⟩ := hP
    have hc' : x[n]? = some c := hc
    have hlt : n < x.length := (List.getElem?_eq_some_iff.mp hc').1
    have hcx : c ∈ x := List.mem_of_getElem? hc'
    show wipe ((wipe σ [i]).set i _) [i] = wipe σ [i] ∧ _
    refine ⟨by simp [wipe], ?_⟩
    show elt _ _ _
    refine he c hcx _ _ ⟨_, upd_same, ?_, by omega, ?_⟩
    · rw [List.length_map, List.length_take, line]; omega
    · rw [upd_upd]
      congr 2
      rw [List.take_add_one, hc']
      simp
  · obtain ⟨hn, rfl⟩ := hP
    have e : (⟨x.toArray⟩ : Str).cps.toList.length = x.length := rfl
    rw [e, List.take_length]
    exact hq D hD
theorem r_all {p : Addr} {l : List Nat} {f : Nat → Bool} (h : H p = some (.lst (l.map fun c => .bl (f c)))) (q : Q (.bl (l.all f)) H) : rAll [.ref p] H Q := by
  refine ⟨l.map f, by rw [h, List.map_map]; rfl, ?_⟩
  have e : (l.map f).all id = l.all f := by rw [List.all_map]; rfl
  rw [e]; exact q
theorem r_any {p : Addr} {l : List Nat} {f : Nat → Bool} (h : H p = some (.lst (l.map fun c => .bl (f c)))) (q : Q (.bl (l.any f)) H) : rAny [.ref p] H Q := by
  refine ⟨l.map f, by rw [h, List.map_map]; rfl, ?_⟩
  have e : (l.map f).any id = l.any f := by rw [List.any_map]; rfl
  rw [e]; exact q
theorem fr1 {r : Addr} {o : HO} (h : H r = none) : Fr [] H (upd H r o) := Fr.refl.new h
/-! ### signs -/
def lowB (c : Nat) : Bool := decide (c ∈ [97, 98, 99, 100, 101, 102, 103, 104, 105, 106, 107, 108, 109, 110, 111, 112, 113, 114, 115, 116, 117, 118, 119, 120, 121, 122])
def figB (c : Nat) : Bool := decide (c ∈ [48, 49, 50, 51, 52, 53, 54, 55, 56, 57])
def figsB (l : List Nat) : Bool := !l.isEmpty && l.all figB && !(l.getLast? == some 48)
def nameB (l : List Nat) : Bool := decide (1 ≤ l.length) && decide (l.length ≤ 6) && l.all lowB
def lettersB (l : List Nat) : Bool := nameB l && decide (l.length ≤ 3)
def pointsB (l : List Nat) : Bool := l.isEmpty || figsB l
def makerB : List Nat → Bool
  | [] => false
  | c :: l => lowB c && figsB l
theorem atI_last {l : List Nat} {c : Nat} : atI (l ++ [c]) (-1) = some c := by
  unfold atI ixN
  rw [if_neg (by decide), if_pos (by simp; omega)]
  have e : ((-1 : Int) + ((l ++ [c]).length : Nat)).toNat = l.length := by simp; omega
  rw [e]
  simp
theorem cut_from1 {α : Type} {a : α} {l : List α} : cutL (a :: l) (some 1) none = l := by
  unfold cutL
  have e : HT.sIx (a :: l).length 0 (some 1) = 1 := by
    unfold HT.sIx
    simp
  have e2 : HT.sIx (a :: l).length (a :: l).length none = (a :: l).length := rfl
  rw [e, e2]
  simp
end
end U
namespace U
open PySem PySem.Spec PyProof.Rows L2
def refOf : V → Option Addr
  | .ref a => some a
  | _ => none
theorem refOf_ref {a : Addr} : refOf (.ref a) = some a := rfl
theorem refOf_eq {v : V} {a : Addr} (h : refOf v = some a) : v = .ref a := by cases v <;> cases h; rfl
theorem intOf_eq {v : V} {i : Int} (h : intOf v = some i) : v = .int i := by cases v <;> cases h; rfl
theorem strOf_eq {v : V} {l : List Nat} (h : strOf v = some l) : v = sv l := by
  cases v <;> cases h
  exact sv_of _
end U

namespace U
open PySem PySem.Spec PyProof.Rows L2
/-! ### marks: their parts, their text -/
structure Pt where
  l : List Nat
  n : Int
  p : List Nat
  ms : List (List Nat)
  y : Option Int
  c : Option Int
def ov : Option Int → V
  | none => .non
  | some i => .int i
theorem ov_none : ov none = .non := rfl
theorem ov_some {i : Int} : ov (some i) = .int i := rfl
structure Pt.Ok (t : Pt) : Prop where
  l : lettersB t.l = true
  n1 : 1 ≤ t.n
  n2 : t.n ≤ 9999
  p : pointsB t.p = true
  pl : t.p.length ≤ 1000
  mn : t.ms.length ≤ 3
  ms : ∀ m ∈ t.ms, makerB m = true ∧ m.length ≤ 1000
  y : ∀ i, t.y = some i → 1000 ≤ i ∧ i ≤ 2999
  c : ∀ i, t.c = some i → 2 ≤ i ∧ i < 10 ^ 60
def Pt.w0 (t : Pt) : List Nat := (t.l ++ numL t.n.toNat) ++ (if t.p = [] then [] else 46 :: t.p)
def Pt.ws (t : Pt) : List (List Nat) := t.w0 :: (t.ms ++ ((match t.y with | none => [] | some i => [numL i.toNat]) ++ match t.c with | none => [] | some i => [99 :: 46 :: numL i.toNat]))
def Pt.text (t : Pt) : List Nat := TL.joinL [32] t.ws
/-- a mark's fields, one more with each -/
def mF1 (r : Addr) : List (Str × V) := [("kept_makers", .ref r)]
def mF2 (t : Pt) (r : Addr) : List (Str × V) := [("kept_makers", .ref r), ("kept_letters", sv t.l)]
def mF3 (t : Pt) (r : Addr) : List (Str × V) := [("kept_makers", .ref r), ("kept_letters", sv t.l), ("kept_number", .int t.n)]
def mF4 (t : Pt) (r : Addr) : List (Str × V) := [("kept_makers", .ref r), ("kept_letters", sv t.l), ("kept_number", .int t.n), ("kept_points", sv t.p)]
def mF5 (t : Pt) (r : Addr) : List (Str × V) := [("kept_makers", .ref r), ("kept_letters", sv t.l), ("kept_number", .int t.n), ("kept_points", sv t.p), ("kept_year", ov t.y)]
def mF6 (t : Pt) (r : Addr) : List (Str × V) := [("kept_makers", .ref r), ("kept_letters", sv t.l), ("kept_number", .int t.n), ("kept_points", sv t.p), ("kept_year", ov t.y), ("kept_copy", ov t.c)]
def mF (t : Pt) (r : Addr) : List (Str × V) := [("kept_makers", .ref r), ("kept_letters", sv t.l), ("kept_number", .int t.n), ("kept_points", sv t.p), ("kept_year", ov t.y), ("kept_copy", ov t.c), ("kept_text", sv t.text)]
section
variable {t : Pt} {r : Addr}
theorem p1 : putF "kept_makers" (.ref r) [] = mF1 r := rfl
theorem p2 : putF "kept_letters" (sv t.l) (mF1 r) = mF2 t r := rfl
theorem p3 : putF "kept_number" (.int t.n) (mF2 t r) = mF3 t r := rfl
theorem p4 : putF "kept_points" (sv t.p) (mF3 t r) = mF4 t r := rfl
theorem p5 : putF "kept_year" (ov t.y) (mF4 t r) = mF5 t r := rfl
theorem p6 : putF "kept_copy" (ov t.c) (mF5 t r) = mF6 t r := rfl
theorem p7 : putF "kept_text" (sv t.text) (mF6 t r) = mF t r := rfl
theorem f1 : List.lookup ("kept_makers" : Str) (mF6 t r) = some (.ref r) := rfl
theorem f2 : List.lookup ("kept_letters" : Str) (mF6 t r) = some (sv t.l) := rfl
theorem f3 : List.lookup ("kept_number" : Str) (mF6 t r) = some (.int t.n) := rfl
theorem f4 : List.lookup ("kept_points" : Str) (mF6 t r) = some (sv t.p) := rfl
theorem f5 : List.lookup ("kept_year" : Str) (mF6 t r) = some (ov t.y) := rfl
theorem f6 : List.lookup ("kept_copy" : Str) (mF6 t r) = some (ov t.c) := rfl
theorem h1 : List.lookup ("kept_makers" : Str) (mF t r) = some (.ref r) := rfl
theorem h2 : List.lookup ("kept_letters" : Str) (mF t r) = some (sv t.l) := rfl
theorem h3 : List.lookup ("kept_number" : Str) (mF t r) = some (.int t.n) := rfl
theorem h4 : List.lookup ("kept_points" : Str) (mF t r) = some (sv t.p) := rfl
theorem h5 : List.lookup ("kept_year" : Str) (mF t r) = some (ov t.y) := rfl
theorem h6 : List.lookup ("kept_copy" : Str) (mF t r) = some (ov t.c) := rfl
theorem h7 : List.lookup ("kept_text" : Str) (mF t r) = some (sv t.text) := rfl
theorem k1 : (mF1 r).length < 1000 := by show 1 < 1000; decide
theorem k2 : (mF2 t r).length < 1000 := by show 2 < 1000; decide
theorem k3 : (mF3 t r).length < 1000 := by show 3 < 1000; decide
theorem k4 : (mF4 t r).length < 1000 := by show 4 < 1000; decide
theorem k5 : (mF5 t r).length < 1000 := by show 5 < 1000; decide
theorem k6 : (mF6 t r).length < 1000 := by show 6 < 1000; decide
theorem n6 : List.lookup ("text_of" : Str) (mF6 t r) = none := rfl
theorem nk : List.lookup ("key" : Str) (mF t r) = none := rfl
theorem na : List.lookup ("ahead" : Str) (mF t r) = none := rfl
end
/-- the class of marks, as its methods ask for it -/
structure MkC (K : PySem.W.Frag) (C : Addr) : Prop where
  cls : Cls K C
  a1 : NoAttr K C "kept_makers"
  a2 : NoAttr K C "kept_letters"
  a3 : NoAttr K C "kept_number"
  a4 : NoAttr K C "kept_points"
  a5 : NoAttr K C "kept_year"
  a6 : NoAttr K C "kept_copy"
  a7 : NoAttr K C "kept_text"
/-- a mark at x, its makers' tuple at r -/
def Mark (C : Addr) (H : Hp) (x : Addr) (t : Pt) : Prop := ∃ dx r, H x = some (.ins C dx (mF t r)) ∧ H r = some (.tup (t.ms.map sv))
theorem Mark.fr {C : Addr} {H H' : Hp} {x : Addr} {t : Pt} (h : Mark C H x t) (f : Fr [] H H') : Mark C H' x t := by
  obtain ⟨dx, r, h1, h2⟩ := h
  exact ⟨dx, r, f.get (by simp) h1, f.get (by simp) h2⟩
theorem num_len {i : Int} {k : Nat} (h0 : 0 ≤ i) (hk : 0 < k) (h : i < 10 ^ k) : (numL i.toNat).length ≤ k := by
  apply TL.numL_len hk
  have e : ((i.toNat : Nat) : Int) < ((10 ^ k : Nat) : Int) := by
    rw [Int.toNat_of_nonneg h0]
    push_cast
    exact h
  exact_mod_cast e
theorem Pt.Ok.ll {t : Pt} (h : t.Ok) : 1 ≤ t.l.length ∧ t.l.length ≤ 3 := by
  have h1 := h.l
  unfold lettersB nameB at h1
  simp only [Bool.and_eq_true, decide_eq_true_eq] at h1
  omega
theorem Pt.Ok.nl {t : Pt} (h : t.Ok) : (numL t.n.toNat).length ≤ 4 := num_len (by have := h.n1; omega) (by decide) (by have := h.n2; omega)
theorem sum_le {k : Nat} : ∀ (l : List (List Nat)), (∀ m ∈ l, m.length ≤ k) → (l.map List.length).sum ≤ l.length * k
  | [], _ => by simp
  | a :: l, h => by
    have h1 := h a List.mem_cons_self
    have h2 := sum_le l (fun m hm => h m (List.mem_cons_of_mem _ hm))
    simp only [List.map_cons, List.sum_cons, List.length_cons, Nat.add_mul, Nat.one_mul]
    omega
theorem Pt.Ok.w0l {t : Pt} (h : t.Ok) : t.w0.length ≤ 1010 := by
  unfold Pt.w0
  have h1 := h.ll
  have h2 := h.nl
  have h3 := h.pl
  by_cases e : t.p = []
  · simp only [e, if_true, List.append_nil, List.length_append]; omega
  · simp only [e, if_false, List.length_append, List.length_cons]; omega
theorem Pt.Ok.wl {t : Pt} (h : t.Ok) : (∀ m ∈ t.ws, m.length ≤ 1010) ∧ t.ws.length ≤ 6 := by
  constructor
  · intro m hm
    unfold Pt.ws at hm
    simp only [List.mem_cons, List.mem_append] at hm
    rcases hm with rfl | hm | hm | hm
    · exact h.w0l
    · have := (h.ms m hm).2; omega
    · cases e : t.y with
      | none => rw [e] at hm; cases hm
      | some i =>
        rw [e] at hm
        obtain ⟨h1, h2⟩ := h.y i e
        have : (numL i.toNat).length ≤ 4 := num_len (by omega) (by decide) (by omega)
        simp only [List.mem_singleton] at hm
        subst hm; omega
    · cases e : t.c with
      | none => rw [e] at hm; cases hm
      | some i =>
        rw [e] at hm
        obtain ⟨h1, h2⟩ := h.c i e
        have : (numL i.toNat).length ≤ 60 := num_len (by omega) (by decide) h2
        simp only [List.mem_singleton] at hm
        subst hm
        simp only [List.length_cons]; omega
  · unfold Pt.ws
    have := h.mn
    simp only [List.length_cons, List.length_append]
    have e1 : (match t.y with | none => [] | some i => [numL i.toNat] : List (List Nat)).length ≤ 1 := by split <;> simp
    have e2 : (match t.c with | none => [] | some i => [99 :: 46 :: numL i.toNat] : List (List Nat)).length ≤ 1 := by split <;> simp
    omega
theorem Pt.Ok.join {t : Pt} (h : t.Ok) : (t.ws.map List.length).sum + t.ws.length * 1 ≤ 16777216 := by
  have h1 := sum_le t.ws h.wl.1
  have h2 := h.wl.2
  have : t.ws.length * 1010 ≤ 6 * 1010 := Nat.mul_le_mul_right _ h2
  omega
end U
namespace U
open PySem PySem.Spec PyProof.Rows L2
theorem cxK {CX : CXT} {P : Program} {w : World} {K : PySem.W.Frag} {mg : Str → Option Value} {base : Heap} {N : List Str} {qual : Str} {scope : Scope} {f : Addr} {cd : Value} {A : Around} {outer : List Env} {s : Shared} {H : Hp} {E : XK} :
    (cxOf CX P w K mg base N qual scope f cd A outer s H E).K = K := rfl
theorem cxKn {CX : CXT} {P : Program} {w : World} {K : PySem.W.Frag} {mg : Str → Option Value} {base : Heap} {N : List Str} {qual : Str} {scope : Scope} {f : Addr} {cd : Value} {A : Around} {outer : List Env} {s : Shared} {H : Hp} {E : XK} :
    (cxOf CX P w K mg base N qual scope f cd A outer s H E).nox.K = K := rfl
theorem e_isC {C C' p : Addr} {H : Hp} {Q : VK} : rIsC C [.ref p, .ref C'] H Q = optE ((H p).bind insOf) fun z => z.1 = C ∧ C' = C ∧ Q (.bl true) H := by
  apply propext; constructor
  · rintro ⟨a, dx, fs, e, h1, h2⟩
    cases e
    exact ⟨(C, dx, fs), by rw [h1]; rfl, rfl, rfl, h2⟩
  · rintro ⟨z, h1, rfl, rfl, h2⟩
    exact ⟨p, z.2.1, z.2.2, rfl, insOf_bind h1, h2⟩
end U

namespace U
open PySem PySem.Spec PyProof.Rows L2
theorem while_no {c : TT} {tb : TS} {D : Ends} {σ : L2.St} {H : Hp} (h : ∀ R : Hp → Prop, c σ H fun b H1 => if b = true then R H1 else D.nx σ H1) : tWhile c tb D σ H := by
  refine ⟨fun m σ' H' => m = 0 ∧ σ' = σ ∧ H' = H, ⟨0, rfl, rfl, rfl⟩, ?_⟩
  rintro m σ' H' ⟨rfl, rfl, rfl⟩
  exact h _
theorem rev_at {K : PySem.W.Frag} {i : Nat} {σ : L2.St} {H : Hp} {Q : VK} {q : Addr} {xs : List V} (hi : σ[i]? = some (some (.ref q))) (hq : H q = some (.lst xs)) (k : ∀ p, H p = none → Q (.ref p) (upd H p (.lst xs.reverse))) : tRevL K (tVar i) σ H Q :=
  ⟨_, hi, q, xs, rfl, SqL.of hq, k⟩
theorem lt1900 {i : Int} (h : i < 10 ^ 60) : i < 2 ^ 1900 := Int.lt_trans h (by decide +kernel)
theorem sizeL : sizeLine = 16777216 := line
theorem joinL1 {S x : List Nat} : TL.joinL S [x] = x := rfl
theorem pow_ok : CPow 10 60 := ⟨by decide, by decide, by decide⟩
end U
namespace U
open PySem PySem.Spec PyProof.Rows L2
theorem ix10 : ixN 1 0 = some 0 := rfl
theorem txt_fin {t : Pt} {H : Hp} {Q : VK} (ok : t.Ok) (xs : List V) (hxs : xs = t.ws.map sv) (q : Q (sv t.text) H) : optE (strsOf xs) fun ys => (ys.map List.length).sum + ys.length * 1 ≤ 16777216 ∧ Q (sv (TL.joinL [32] ys)) H := by
  subst hxs
  exact optE_of (strsOf_map _) ⟨ok.join, q⟩
end U

namespace U
open PySem PySem.Spec PyProof.Rows L2
/-! ### own ==, < of keys -/
structure EqG (P : Program) (w : World) (K : PySem.W.Frag) (mg : Str → Option Value) (base : Heap) (n : Nat) (C : Addr) (sp : Sp) : Prop where
  ex : ∃ (f : Addr) (fd : FuncData) (ps : List Str), FnOk P w K mg base C8.CX0 n f fd ps sp ∧ PySem.W.findIn K (.ref C) "__eq__" = some (some (.ref f)) ∧ PySem.W.isFn K (.ref f) = true ∧ Binds K fd ps []
theorem eqG {X : Cx} {n j : Nat} {C : Addr} {sp : Sp} (c : EqG X.prog X.w X.K X.mg X.base n C sp) (hr : Room j X.A) (hk : n ≤ j) : OpR X (compareOp .Eq) (rEqI C sp) := by
  obtain ⟨f, fd, ps, h1, h2, h3, h4⟩ := c.ex
  exact eqI ⟨C8.CX0, f, fd, ps, h1, h2, h3, h4, C8.pass0⟩ (hr.mono hk)
theorem ltR {X : Cx} {k : Nat} (hr : Room k X.A) : OpR X (compareOp .Lt) (rLtD X.K) := ltD (by have := hr.un; omega)
theorem eqR {X : Cx} {k : Nat} (hr : Room k X.A) : OpR X (compareOp .Eq) (rEqD X.K) := op_eqD (by have := hr.un; omega)
theorem neR {X : Cx} {k : Nat} (hr : Room k X.A) : OpR X (compareOp .NotEq) (rNeD X.K) := op_neD (by have := hr.un; omega)
theorem e_eqI {C : Addr} {sp : Sp} {a b : Addr} {H : Hp} {Q : VK} : rEqI C sp (.ref a) (.ref b) H Q = optE ((H a).bind insOf) fun z => optE ((H b).bind insOf) fun z' => z.1 = C ∧ z'.1 = C ∧ sp [.ref a, .ref b] H (fun v H' => optE (blOf v) fun c => Q (.bl c) H') L2.E0 := by
  have e : (fun (v : V) (H' : Hp) => ∃ c, v = .bl c ∧ Q (.bl c) H') = fun v H' => optE (blOf v) fun c => Q (.bl c) H' := by
    funext v H'; exact bl_ex
  apply propext; constructor
  · rintro ⟨a', b', dx, dy, fs, gs, h1, h2, h3, h4, h5⟩
    cases h1
    cases h2
    rw [e] at h5
    exact ⟨(C, dx, fs), by rw [h3]; rfl, (C, dy, gs), by rw [h4]; rfl, rfl, rfl, h5⟩
  · rintro ⟨z, h1, z', h2, h3, h4, h5⟩
    rw [← e] at h5
    refine ⟨a, b, z.2.1, z'.2.1, z.2.2, z'.2.2, rfl, rfl, ?_, ?_, h5⟩
    · rw [insOf_bind h1, h3]
    · rw [insOf_bind h2, h4]
/-- a mark's key as data -/
def msD (ms : List (List Nat)) : List PyData := ms.map fun m => .str ⟨m.toArray⟩
def keyL (t : Pt) : List PyData := [.str ⟨t.l.toArray⟩, .int t.n, .str ⟨t.p.toArray⟩, .tuple (msD t.ms), .int (t.y.getD 0), .int (t.c.getD 0)]
def keyD (t : Pt) : PyData := .tuple (keyL t)
theorem dp_ms {K : PySem.W.Frag} {H : Hp} : ∀ ms : List (List Nat), DpAll K H (ms.map sv) (msD ms)
  | [] => .nil
  | m :: ms => .cons (.str _) (dp_ms ms)
theorem dp_key {K : PySem.W.Frag} {H : Hp} {t : Pt} {r z : Addr} (h1 : H r = some (.tup (t.ms.map sv))) (h2 : H z = some (.tup [sv t.l, .int t.n, sv t.p, .ref r, .int (t.y.getD 0), .int (t.c.getD 0)])) : Dp K H (.ref z) (keyD t) :=
  .tup (SqT.of h2) (.cons (.str _) (.cons (.int _) (.cons (.str _) (.cons (.tup (SqT.of h1) (dp_ms _)) (.cons (.int _) (.cons (.int _) .nil))))))
theorem alike_ms : ∀ ms ns : List (List Nat), PySem.W.alikeAll (msD ms) (msD ns) = true
  | [], _ => by rw [msD]; exact PySem.W.alikeAll.eq_2 _
  | _ :: _, [] => by simp [msD, PySem.W.alikeAll]
  | m :: ms, n :: ns => by
    have h := alike_ms ms ns
    simp only [msD, List.map_cons] at h ⊢
    simp [PySem.W.alikeAll, PySem.W.alike, h]
theorem alike_key {t u : Pt} : PySem.W.alike (keyD t) (keyD u) = true := by
  have h := alike_ms t.ms u.ms
  simp [keyD, keyL, PySem.W.alike, PySem.W.alikeAll, h]
theorem key_ne {t : Pt} : keyD t ≠ .none := by intro h; cases h
theorem depth_ms : ∀ ms : List (List Nat), PyData.depthAll (msD ms) = 0
  | [] => by simp [msD, PyData.depthAll]
  | m :: ms => by
    have h := depth_ms ms
    simp only [msD, List.map_cons] at h ⊢
    simp [PyData.depthAll, PyData.depth, h]
theorem depth_key {t : Pt} : (keyD t).depth = 2 := by
  have h := depth_ms t.ms
  simp [keyD, keyL, PyData.depth, PyData.depthAll, h]
theorem key_depth {t u : Pt} : min (keyD t).depth (keyD u).depth ≤ 60 := by rw [depth_key, depth_key]; decide
theorem strOk_of {l : List Nat} (h : ∀ c ∈ l, c < 1114112) : PyData.strOk ⟨l.toArray⟩ = true := by
  unfold PyData.strOk
  rw [← Array.all_toList, List.all_eq_true]
  intro c hc
  exact decide_eq_true (h c hc)
theorem low_lt {c : Nat} (h : lowB c = true) : 97 ≤ c ∧ c ≤ 122 := by
  have h := of_decide_eq_true h
  simp only [List.mem_cons, List.not_mem_nil, or_false] at h
  omega
theorem fig_lt {c : Nat} (h : figB c = true) : 48 ≤ c ∧ c ≤ 57 := by
  have h := of_decide_eq_true h
  simp only [List.mem_cons, List.not_mem_nil, or_false] at h
  omega
theorem figs_all {l : List Nat} (h : figsB l = true) : ∀ c ∈ l, 48 ≤ c ∧ c ≤ 57 := by
  unfold figsB at h
  simp only [Bool.and_eq_true] at h
  intro c hc
  exact fig_lt (List.all_eq_true.mp h.1.2 c hc)
theorem points_all {l : List Nat} (h : pointsB l = true) : ∀ c ∈ l, 48 ≤ c ∧ c ≤ 57 := by
  unfold pointsB at h
  rw [Bool.or_eq_true] at h
  rcases h with h | h
  · rw [List.isEmpty_iff] at h; subst h; simp
  · exact figs_all h
theorem letters_all {l : List Nat} (h : lettersB l = true) : ∀ c ∈ l, 97 ≤ c ∧ c ≤ 122 := by
  unfold lettersB nameB at h
  simp only [Bool.and_eq_true] at h
  intro c hc
  exact low_lt (List.all_eq_true.mp h.1.2 c hc)
theorem maker_at {m : List Nat} (h : makerB m = true) : ∃ c l, m = c :: l ∧ (97 ≤ c ∧ c ≤ 122) ∧ figsB l = true := by
  cases m with
  | nil => cases h
  | cons c l =>
    unfold makerB at h
    rw [Bool.and_eq_true] at h
    exact ⟨c, l, rfl, low_lt h.1, h.2⟩
theorem maker_all {m : List Nat} (h : makerB m = true) : ∀ c ∈ m, c < 128 := by
  obtain ⟨c, l, rfl, h1, h2⟩ := maker_at h
  intro d hd
  rw [List.mem_cons] at hd
  rcases hd with rfl | hd
  · omega
  · have := figs_all h2 d hd; omega
theorem lay_ms : ∀ ms : List (List Nat), (∀ m ∈ ms, makerB m = true) → PyData.canLayAll0 (msD ms) = true
  | [], _ => by simp [msD, PyData.canLayAll0]
  | m :: ms, hm => by
    have h := lay_ms ms (fun x hx => hm x (List.mem_cons_of_mem _ hx))
    have h2 := strOk_of (l := m) (fun c hc => by have := maker_all (hm m List.mem_cons_self) c hc; omega)
    simp only [msD, List.map_cons] at h ⊢
    simp [PyData.canLayAll0, PyData.canLay0, h, h2]
theorem shaped_key {t : Pt} (ok : t.Ok) : SeqAt.shaped (keyD t) = true := by
  have h := lay_ms t.ms (fun m hm => (ok.ms m hm).1)
  have h1 := strOk_of (l := t.l) (fun c hc => by have := letters_all ok.l c hc; omega)
  have h2 := strOk_of (l := t.p) (fun c hc => by have := points_all ok.p c hc; omega)
  unfold SeqAt.shaped
  rw [depth_key]
  simp [keyD, keyL, PyData.canLay0, PyData.canLayAll0, h, h1, h2]
/-- what a key tells -/
def kp (t : Pt) : List Nat × Int × List Nat × List (List Nat) × Int × Int := (t.l, t.n, t.p, t.ms, t.y.getD 0, t.c.getD 0)
theorem eqv_ms : ∀ ms ns : List (List Nat), PyData.eqvAll (msD ms) (msD ns) = decide (ms = ns)
  | [], [] => by simp [msD, PyData.eqvAll]
  | [], n :: ns => by simp [msD, PyData.eqvAll]
  | m :: ms, [] => by simp [msD, PyData.eqvAll]
  | m :: ms, n :: ns => by
    have h := eqv_ms ms ns
    simp only [msD, List.map_cons] at h ⊢
    have e : ((⟨m.toArray⟩ : Str) == ⟨n.toArray⟩) = decide (m = n) := SX.S_beq_eq
    simp [PyData.eqvAll, PyData.eqv, h, e]
theorem eqv_key {t u : Pt} : PyData.eqv (keyD t) (keyD u) = decide (kp t = kp u) := by
  have h := eqv_ms t.ms u.ms
  have e : ∀ m n : List Nat, ((⟨m.toArray⟩ : Str) == ⟨n.toArray⟩) = decide (m = n) := fun m n => SX.S_beq_eq
  rw [Bool.eq_iff_iff]
  simp [keyD, keyL, PyData.eqv, PyData.eqvAll, h, e, kp]
theorem toks_ms_inj : ∀ (ms ns : List (List Nat)) (X Y : List (Int ⊕ List Nat)), PySem.W.keyToksAll (msD ms) ++ X = PySem.W.keyToksAll (msD ns) ++ Y → ms = ns ∧ X = Y
  | [], [], X, Y, h => by simpa [msD, PySem.W.keyToksAll] using h
  | [], n :: ns, X, Y, h => by simp [msD, PySem.W.keyToksAll] at h
  | m :: ms, [], X, Y, h => by simp [msD, PySem.W.keyToksAll] at h
  | m :: ms, n :: ns, X, Y, h => by
    simp only [msD, List.map_cons, PySem.W.keyToksAll, PySem.W.keyToks, List.cons_append, List.nil_append, List.append_assoc, List.cons.injEq, true_and, Sum.inr.injEq] at h
    obtain ⟨h1, h2⟩ := h
    obtain ⟨h3, h4⟩ := toks_ms_inj ms ns X Y h2
    exact ⟨by rw [h1, h3], h4⟩
theorem toks_inj {t u : Pt} (h : PySem.W.keyToks (keyD t) = PySem.W.keyToks (keyD u)) : kp t = kp u := by
  simp only [keyD, keyL, PySem.W.keyToks, PySem.W.keyToksAll, List.cons_append, List.nil_append, List.append_assoc, List.cons.injEq, true_and, Sum.inr.injEq, Sum.inl.injEq] at h
  obtain ⟨h1, h2, h3, h4⟩ := h
  obtain ⟨h5, h6⟩ := toks_ms_inj _ _ _ _ h4
  simp only [List.cons.injEq, true_and, Sum.inl.injEq, and_true] at h6
  simp only [kp, h1, h2, h3, h5, h6.1, h6.2]
theorem lt_irr {t u : Pt} (h : kp t = kp u) : PySem.W.dataLt (keyD t) (keyD u) = false := by
  have e : keyD t = keyD u := by
    simp only [kp, Prod.mk.injEq] at h
    obtain ⟨h1, h2, h3, h4, h5, h6⟩ := h
    simp only [keyD, keyL, h1, h2, h3, h4, h5, h6]
  rw [e]
  exact lex_irrefl _
theorem lt_flip {t u : Pt} (h : kp t ≠ kp u) : PySem.W.dataLt (keyD u) (keyD t) = !PySem.W.dataLt (keyD t) (keyD u) := by
  cases e1 : PySem.W.dataLt (keyD t) (keyD u) with
  | true =>
    cases e2 : PySem.W.dataLt (keyD u) (keyD t) with
    | false => rfl
    | true =>
      have := lex_trans _ _ _ e1 e2
      rw [lex_irrefl] at this; cases this
  | false =>
    cases e2 : PySem.W.dataLt (keyD u) (keyD t) with
    | true => rfl
    | false => exact (h (toks_inj (lex_total _ _ e1 e2))).elim
end U

namespace U
open PySem PySem.Spec PyProof.Rows L2
/-! ### what the laws draw from: a list of one number -/
def Pool (H : Hp) (a : Addr) : Prop := ∃ n : Int, H a = some (.lst [.int n])
theorem Pool.upd {H : Hp} {a : Addr} {m : Int} : Pool (L2.upd H a (.lst [.int m])) a := ⟨m, upd_same⟩
theorem fr_pool {H : Hp} {a : Addr} {o : HO} : Fr [a] H (L2.upd H a o) := Fr.refl.own (.inl (by simp))
theorem lt8000 {k : Int} (h : k < 10 ^ 60) : k < 2 ^ 8000 := Int.lt_trans h (by decide +kernel)
theorem figs_snoc {l : List Nat} {c : Nat} (h : l.all figB = true) (hc : c ∈ [49, 50, 51, 52, 53, 54, 55, 56, 57]) : figsB (l ++ [c]) = true := by
  have h1 : figB c = true := by
    simp only [List.mem_cons, List.not_mem_nil, or_false] at hc
    unfold figB
    rcases hc with rfl | rfl | rfl | rfl | rfl | rfl | rfl | rfl | rfl <;> decide
  have h2 : c ≠ 48 := by
    rintro rfl
    revert hc; decide
  unfold figsB
  rw [List.all_append, h]
  simp [h1, h2]
theorem fig_in {c : Nat} (hc : c ∈ [48, 49, 50, 51, 52, 53, 54, 55, 56, 57]) : figB c = true := decide_eq_true hc
theorem low_in {c : Nat} (hc : c ∈ [97, 98, 99, 100, 101, 102, 103, 104, 105, 106, 107, 108, 109, 110, 111, 112, 113, 114, 115, 116, 117, 118, 119, 120, 121, 122]) : lowB c = true := decide_eq_true hc
theorem all_snoc {f : Nat → Bool} {l : List Nat} {c : Nat} (h : l.all f = true) (hc : f c = true) : (l ++ [c]).all f = true := by
  rw [List.all_append, h]; simp [hc]
theorem maker_cons {c : Nat} {l : List Nat} (hc : lowB c = true) (h : figsB l = true) : makerB (c :: l) = true := by
  simp only [makerB, hc, h, Bool.and_self]
theorem letters_of {l : List Nat} (h : l.all lowB = true) (h1 : 1 ≤ l.length) (h2 : l.length ≤ 3) : lettersB l = true := by
  unfold lettersB nameB
  rw [h, decide_eq_true h1, decide_eq_true h2, decide_eq_true (by omega)]; rfl
theorem take_all {f : Nat → Bool} {l : List Nat} {n : Nat} (h : l.all f = true) : (l.take n).all f = true := by
  rw [List.all_eq_true] at h ⊢
  intro c hc
  exact h c (List.mem_of_mem_take hc)
theorem drop_all {f : Nat → Bool} {l : List Nat} {n : Nat} (h : l.all f = true) : (l.drop n).all f = true := by
  rw [List.all_eq_true] at h ⊢
  intro c hc
  exact h c (List.mem_of_mem_drop hc)
theorem cut_to {α : Type} {l : List α} {r : Int} (h : 0 ≤ r) : cutL l none (some r) = l.take r.toNat := by
  have e : HT.sIx l.length l.length (some r) = min r.toNat l.length := by
    show (if r < 0 then _ else _) = _
    rw [if_neg (by omega)]
  have e0 : HT.sIx l.length 0 none = 0 := rfl
  unfold cutL
  rw [e, e0, List.drop_zero, Nat.sub_zero, ← List.take_take]
  simp
theorem cut_from {α : Type} {l : List α} {r : Int} (h : 0 ≤ r) : cutL l (some r) none = l.drop r.toNat := by
  have e : HT.sIx l.length 0 (some r) = min r.toNat l.length := by
    show (if r < 0 then _ else _) = _
    rw [if_neg (by omega)]
  have e0 : HT.sIx l.length l.length none = l.length := rfl
  unfold cutL
  rw [e, e0]
  by_cases hl : r.toNat ≤ l.length
  · rw [Nat.min_eq_left hl]
    rw [List.take_of_length_le (by simp)]
  · rw [Nat.min_eq_right (by omega)]
    rw [List.drop_of_length_le (Nat.le_refl _), List.drop_of_length_le (by omega)]
    simp
theorem rstrip_tl (x y : Str) : (Txt.rstripChars x y).cps.toList = x.cps.toList.take (x.cps.toList.length - (x.cps.toList.reverse.takeWhile y.cps.contains).length) := by
  have hs : (PySem.stripped y.cps.contains false true x).cps.toList = x.cps.toList.take (x.cps.toList.length - (x.cps.toList.reverse.takeWhile y.cps.contains).length) := by
    show TL.tl (PySem.Builtin.Str.strSub x 0 (x.length - _)) = _
    rw [TL.tl_strSub, List.drop_zero, len_cps]
    rfl
  unfold Txt.rstripChars Txt.stripBy
  split
  · rename_i h
    unfold PySem.stripSame at h
    rw [Bool.and_eq_true] at h
    have h2 : x.length - ((x.cps.toList.drop 0).reverse.takeWhile y.cps.contains).length = x.length := eq_of_beq h.2
    rw [List.drop_zero, len_cps] at h2
    rw [h2, List.take_length]
  · exact hs
theorem rstrip_ok {l m : List Nat} (h : l.all figB = true) (e : Txt.rstripChars ⟨l.toArray⟩ ⟨m.toArray⟩ = Txt.rstripChars ⟨l.toArray⟩ ⟨#[48]⟩) : ∃ l', V.str (Txt.rstripChars ⟨l.toArray⟩ ⟨m.toArray⟩) = sv l' ∧ pointsB l' = true ∧ l'.length ≤ l.length := by
  refine ⟨l.take (l.length - (l.reverse.takeWhile (fun c => (#[48] : Array Nat).contains c)).length), ?_, ?_, by simp⟩
  · rw [e, sv_of]
    exact congrArg sv (rstrip_tl _ _)
  · have hc : ∀ c, (#[48] : Array Nat).contains c = (c == 48) := fun c => by
      rw [Bool.eq_iff_iff]; simp
    have e1 : l.take (l.length - (l.reverse.takeWhile (fun c => (#[48] : Array Nat).contains c)).length) = (l.reverse.dropWhile (fun c => (#[48] : Array Nat).contains c)).reverse := by
      have h1 := List.takeWhile_append_dropWhile (p := fun c => (#[48] : Array Nat).contains c) (l := l.reverse)
      have h2 : l = (l.reverse.dropWhile (fun c => (#[48] : Array Nat).contains c)).reverse ++ (l.reverse.takeWhile (fun c => (#[48] : Array Nat).contains c)).reverse := by
        rw [← List.reverse_append, h1, List.reverse_reverse]
      have h3 : l.length = (l.reverse.dropWhile (fun c => (#[48] : Array Nat).contains c)).reverse.length + (l.reverse.takeWhile (fun c => (#[48] : Array Nat).contains c)).length := by
        have := congrArg List.length h2
        rw [List.length_append, List.length_reverse (as := List.takeWhile _ _)] at this
        exact this
      conv => lhs; arg 2; rw [h2]
      rw [h3, Nat.add_sub_cancel, List.take_left]
    rw [e1]
    have ha : ∀ c ∈ l.reverse.dropWhile (fun c => (#[48] : Array Nat).contains c), figB c = true := fun c hcm =>
      List.all_eq_true.mp h c (List.mem_reverse.mp ((List.dropWhile_sublist _).subset hcm))
    cases e2 : l.reverse.dropWhile (fun c => (#[48] : Array Nat).contains c) with
    | nil => rfl
    | cons d r =>
      rw [e2] at ha
      have hd : d ≠ 48 := by
        rintro rfl
        have := List.head?_dropWhile_not (fun c => (#[48] : Array Nat).contains c) l.reverse
        rw [e2] at this
        simp at this
      have hr : (r.reverse ++ [d]).all figB = true := by
        rw [List.all_eq_true]
        intro c hcm
        exact ha c (by simp at hcm ⊢; rcases hcm with h | h <;> simp [h])
      unfold pointsB figsB
      rw [List.reverse_cons, hr]
      simp [hd]
/-! ### whole numbers by their figures -/
theorem valL_lt : ∀ (l : List Nat), (∀ c ∈ l, c ≤ 57) → valL l < 10 ^ l.length := by
  suffices hh : ∀ (n : Nat) (l : List Nat), l.length = n → (∀ c ∈ l, c ≤ 57) → valL l < 10 ^ l.length from fun l => hh _ l rfl
  intro n
  induction n with
  | zero =>
    intro l hl _
    rw [List.length_eq_zero_iff] at hl
    subst hl; decide
  | succ n ih =>
    intro l0 hl h0
    have hne : l0 ≠ [] := by intro e; rw [e] at hl; simp at hl
    obtain ⟨l, c, rfl⟩ : ∃ l c, l0 = l ++ [c] := ⟨_, _, (List.dropLast_concat_getLast hne).symm⟩
    have h := h0
    have h1 := ih l (by simpa using hl) (fun d hd => h d (by simp [hd]))
    have h2 := h c (by simp)
    show NumText.digitsVal (l ++ [c]) < _
    rw [NumText.digitsVal_snoc, List.length_append, List.length_singleton, Nat.pow_succ]
    have h3 : NumText.digitsVal l < 10 ^ l.length := h1
    omega
theorem num_figs (n : Nat) : (numL n).all figB = true := by
  rw [List.all_eq_true]
  intro c hc
  have h := TL.numL_digits n c hc
  unfold figB
  apply decide_eq_true
  simp only [List.mem_cons, List.not_mem_nil, or_false]
  omega
theorem digs_of {l : List Nat} (h : l.all figB = true) : digs l = true := by
  unfold digs
  rw [List.all_eq_true] at h ⊢
  intro c hc
  have := fig_lt (h c hc)
  simp; omega
theorem figs_le {l : List Nat} (h : l.all figB = true) : ∀ c ∈ l, c ≤ 57 := fun c hc => (fig_lt (List.all_eq_true.mp h c hc)).2
theorem numL_head {n : Nat} (h : 1 ≤ n) : ∃ c r, numL n = c :: r ∧ 49 ≤ c := by
  induction n using Nat.strongRecOn with
  | _ n ih =>
    by_cases h10 : n < 10
    · exact ⟨48 + n, [], TL.numL_lt h10, by omega⟩
    · obtain ⟨c, r, e, hc⟩ := ih (n / 10) (by omega) (by omega)
      exact ⟨c, r ++ [48 + n % 10], by rw [numL, TL.numL_step (by omega)]; rw [numL] at e; rw [e]; rfl, hc⟩
end U
namespace U
open PySem PySem.Spec PyProof.Rows L2
theorem pool_upd {H : Hp} {a : Addr} {m : Int} : Pool (L2.upd H a (.lst [.int m])) a = True := propext ⟨fun _ => trivial, fun _ => Pool.upd⟩
/-- a for over range(n), a list: what is to be shown once the end, the list is known -/
def rngG (g : TG) (tb : TS) (D : Ends) (σ : L2.St) (vs : List V) (H1 : Hp) : Prop := ∃ j : Int, vs = [.int j] ∧ -(2 ^ 62) ≤ j ∧ j < 2 ^ 62 ∧ ∃ W : Nat → Nat → L2.St → Hp → Prop, (∃ m, W 0 m σ H1) ∧ ∀ i m σ H, W i m σ H →
  ((Itr 0 j.toNat).stop i H ∧ D.nx σ H) ∨ ((Itr 0 j.toNat).go i H ∧ ∃ N : L2.St → Hp → Prop, (∀ σ' H', N σ' H' → ∃ m', m' < m ∧ W (i + 1) m' σ' H') ∧ ∀ x H', (Itr 0 j.toNat).yld i H x H' → g x σ H' fun σ2 H2 => tb { D with nx := N, ct := N, bk := D.nx } σ2 H2)
theorem e_forR {ta : TA} {g : TG} {tb : TS} {D : Ends} {σ : L2.St} {H : Hp} : tFor (iRng1 ta) g tb D σ H = ta σ H fun vs H1 => rngG g tb D σ vs H1 := rfl
theorem r_rng {g : TG} {tb : TS} {D : Ends} {σ : L2.St} {H1 : Hp} {n : Int} (h1 : -(2 ^ 62) ≤ n) (h2 : n < 2 ^ 62) (Pv : Nat → L2.St → Hp → Prop) (p0 : Pv 0 σ H1)
    (ps : ∀ i σ H, i < n.toNat → Pv i σ H → g (.int i) σ H fun σ2 H2 => tb { D with nx := Pv (i + 1), ct := Pv (i + 1), bk := D.nx } σ2 H2) (pd : ∀ σ H, Pv n.toNat σ H → D.nx σ H) : rngG g tb D σ [.int n] H1 :=
  ⟨n, rfl, h1, h2, for_range Pv p0 (fun i σ H hi hP => by have := ps i σ H hi hP; simpa using this) pd⟩
def lstG (K : PySem.W.Frag) (g : TG) (tb : TS) (D : Ends) (σ : L2.St) (v : V) (H1 : Hp) : Prop := ∃ a, v = .ref a ∧ (∃ xs, SqL K H1 a xs) ∧ ∃ W : Nat → Nat → L2.St → Hp → Prop, (∃ m, W 0 m σ H1) ∧ ∀ i m σ H, W i m σ H →
  ((Itl K a).stop i H ∧ D.nx σ H) ∨ ((Itl K a).go i H ∧ ∃ N : L2.St → Hp → Prop, (∀ σ' H', N σ' H' → ∃ m', m' < m ∧ W (i + 1) m' σ' H') ∧ ∀ x H', (Itl K a).yld i H x H' → g x σ H' fun σ2 H2 => tb { D with nx := N, ct := N, bk := D.nx } σ2 H2)
theorem e_forL {K : PySem.W.Frag} {te : TE} {g : TG} {tb : TS} {D : Ends} {σ : L2.St} {H : Hp} : tFor (iList K te) g tb D σ H = te σ H fun v H1 => lstG K g tb D σ v H1 := rfl
theorem r_lst {K : PySem.W.Frag} {g : TG} {tb : TS} {D : Ends} {σ : L2.St} {H1 : Hp} {a : Addr} {xs : List V} (ha : H1 a = some (.lst xs)) (Pv : Nat → L2.St → Hp → Prop) (p0 : Pv 0 σ H1) (pl : ∀ i σ H, i ≤ xs.length → Pv i σ H → H a = some (.lst xs))
    (ps : ∀ i x σ H, xs[i]? = some x → Pv i σ H → g x σ H fun σ2 H2 => tb { D with nx := Pv (i + 1), ct := Pv (i + 1), bk := D.nx } σ2 H2) (pd : ∀ σ H, Pv xs.length σ H → D.nx σ H) : lstG K g tb D σ (.ref a) H1 :=
  ⟨a, rfl, ⟨xs, SqL.of ha⟩, for_list Pv p0 (fun i σ H hi hP => SqL.of (pl i σ H hi hP)) ps pd⟩
theorem fr_none {H H' : Hp} {p : Addr} {S : List Addr} (f : Fr S H H') {a : Addr} {o : HO} (h : H' p = none) (ha : H a = some o) (hs : a ∉ S) : p ≠ a := by
  rintro rfl
  rw [f.get hs ha] at h; cases h
theorem mulL {i j : Int} (h : -(2 ^ 64) < i ∧ i < 2 ^ 64) : MulOk i j := .inl (.inl h)
theorem mulR {i j : Int} (h : -(2 ^ 64) < j ∧ j < 2 ^ 64) : MulOk i j := .inl (.inr h)
end U

namespace U
open PySem PySem.Spec PyProof.Rows L2
/-! ### a mark's parts as a list -/
def partsL (t : Pt) (q : Addr) : List V := [sv t.l, .int t.n, sv t.p, .ref q, ov t.y, ov t.c]
def PL (H : Hp) (p : Addr) (t : Pt) : Prop := ∃ q, H p = some (.lst (partsL t q)) ∧ H q = some (.lst (t.ms.map sv))
/-- parts as the laws draw them -/
structure Dr (t : Pt) : Prop where
  ok : t.Ok
  p : t.p.length ≤ 40
  ms : ∀ m ∈ t.ms, m.length ≤ 41
theorem ms_ne {ms : List (List Nat)} {m : Int} : ms.map sv ≠ [V.int m] := by
  cases ms with
  | nil => simp
  | cons a l => intro h; simp at h
theorem PL.fr {H H' : Hp} {p a : Addr} {t : Pt} (h : PL H p t) (f : Fr [a] H H') (hp : Pool H a) : PL H' p t := by
  obtain ⟨q, h1, h2⟩ := h
  obtain ⟨n, hn⟩ := hp
  refine ⟨q, f.get (fun z => ?_) h1, f.get (fun z => ?_) h2⟩
  · simp at z; subst z; rw [hn] at h1; cases h1
  · simp at z; subst z; rw [hn] at h2
    simp only [Option.some.injEq, HO.lst.injEq] at h2
    exact ms_ne h2.symm
theorem PL.fr0 {H H' : Hp} {p : Addr} {t : Pt} (h : PL H p t) (f : Fr [] H H') : PL H' p t := by
  obtain ⟨q, h1, h2⟩ := h
  exact ⟨q, f.get (by simp) h1, f.get (by simp) h2⟩
theorem Mark.pool {C : Addr} {H H' : Hp} {x a : Addr} {t : Pt} (h : Mark C H x t) (f : Fr [a] H H') (hp : Pool H a) : Mark C H' x t := by
  obtain ⟨dx, r, h1, h2⟩ := h
  obtain ⟨n, hn⟩ := hp
  refine ⟨dx, r, f.get (fun z => ?_) h1, f.get (fun z => ?_) h2⟩
  · simp at z; subst z; rw [hn] at h1; cases h1
  · simp at z; subst z; rw [hn] at h2; cases h2
/-! ### the text of parts tells the parts -/
theorem split_pre {f : Nat → Prop} : ∀ {a a' b b' : List Nat}, (∀ c ∈ a, f c) → (∀ c ∈ a', f c) → (∀ c, b.head? = some c → ¬ f c) → (∀ c, b'.head? = some c → ¬ f c) → a ++ b = a' ++ b' → a = a' ∧ b = b'
  | [], [], b, b', _, _, _, _, h => ⟨rfl, h⟩
  | [], c :: a', b, b', _, h2, h3, _, h => by
    have h : b = c :: (a' ++ b') := h
    exact (h3 c (by rw [h]; rfl) (h2 c List.mem_cons_self)).elim
  | c :: a, [], b, b', h1, _, _, h4, h => by
    have h : c :: (a ++ b) = b' := h
    exact (h4 c (by rw [← h]; rfl) (h1 c List.mem_cons_self)).elim
  | c :: a, d :: a', b, b', h1, h2, h3, h4, h => by
    have h : c :: (a ++ b) = d :: (a' ++ b') := h
    injection h with e h
    obtain ⟨h5, h6⟩ := split_pre (f := f) (fun x hx => h1 x (List.mem_cons_of_mem _ hx)) (fun x hx => h2 x (List.mem_cons_of_mem _ hx)) h3 h4 h
    exact ⟨by rw [e, h5], h6⟩
theorem num_sign {n : Nat} : ∀ c ∈ numL n, 48 ≤ c ∧ c ≤ 57 := fun c hc => TL.numL_digits n c hc
theorem num_head {n : Nat} : ∃ c r, numL n = c :: r ∧ 48 ≤ c ∧ c ≤ 57 := by
  cases e : numL n with
  | nil => exact (TL.numL_ne n e).elim
  | cons c r => exact ⟨c, r, rfl, num_sign c (by rw [e]; exact List.mem_cons_self)⟩
theorem tail_inj {p p' : List Nat} (h : (if p = [] then [] else 46 :: p) = (if p' = [] then [] else 46 :: p')) : p = p' := by
  by_cases h1 : p = [] <;> by_cases h2 : p' = [] <;> simp [h1, h2] at h ⊢ <;> first | exact h | (subst h1; exact (h2 rfl).elim) | skip
theorem tail_head {p : List Nat} : ∀ c, (if p = [] then [] else 46 :: p : List Nat).head? = some c → c = 46 := by
  intro c h
  by_cases h1 : p = []
  · rw [if_pos h1] at h; cases h
  · rw [if_neg h1] at h; simp at h; exact h.symm
theorem w0_inj {t u : Pt} (ht : t.Ok) (hu : u.Ok) (h : t.w0 = u.w0) : t.l = u.l ∧ t.n = u.n ∧ t.p = u.p := by
  unfold Pt.w0 at h
  rw [List.append_assoc, List.append_assoc] at h
  have a1 := letters_all ht.l
  have a2 := letters_all hu.l
  obtain ⟨h1, h2⟩ := split_pre (f := fun c => 97 ≤ c ∧ c ≤ 122) a1 a2 (fun c hc => by
    obtain ⟨d, r, e, hd⟩ := num_head (n := t.n.toNat)
    rw [e] at hc; simp at hc; omega) (fun c hc => by
    obtain ⟨d, r, e, hd⟩ := num_head (n := u.n.toNat)
    rw [e] at hc; simp at hc; omega) h
  obtain ⟨h3, h4⟩ := split_pre (f := fun c => 48 ≤ c ∧ c ≤ 57) num_sign num_sign (fun c hc => by have := tail_head c hc; omega) (fun c hc => by have := tail_head c hc; omega) h2
  have h5 := TL.numL_inj h3
  have := ht.n1
  have := hu.n1
  exact ⟨h1, by omega, tail_inj h4⟩
theorem no32 {t : Pt} (ok : t.Ok) : ∀ w ∈ t.ws, (32 : Nat) ∉ w := by
  intro w hw
  unfold Pt.ws at hw
  simp only [List.mem_cons, List.mem_append] at hw
  rcases hw with rfl | hw | hw | hw
  · unfold Pt.w0
    intro h
    simp only [List.mem_append] at h
    rcases h with (h | h) | h
    · have := letters_all ok.l 32 h; omega
    · have := num_sign 32 h; omega
    · by_cases e : t.p = []
      · rw [if_pos e] at h; cases h
      · rw [if_neg e] at h
        rw [List.mem_cons] at h
        rcases h with h | h
        · omega
        · have := points_all ok.p 32 h; omega
  · intro h
    obtain ⟨c, l, rfl, h1, h2⟩ := maker_at (ok.ms w hw).1
    rw [List.mem_cons] at h
    rcases h with h | h
    · omega
    · have := figs_all h2 32 h; omega
  · cases e : t.y with
    | none => rw [e] at hw; cases hw
    | some i =>
      rw [e] at hw
      simp only [List.mem_singleton] at hw
      subst hw
      intro h
      have := num_sign 32 h; omega
  · cases e : t.c with
    | none => rw [e] at hw; cases hw
    | some i =>
      rw [e] at hw
      simp only [List.mem_singleton] at hw
      subst hw
      intro h
      simp only [List.mem_cons] at h
      rcases h with h | h | h
      · omega
      · omega
      · have := num_sign 32 h; omega
/-- the kinds of the words behind the first -/
def isMk (w : List Nat) : Prop := ∃ c d r, w = c :: d :: r ∧ 97 ≤ c ∧ 48 ≤ d
theorem mk_is {m : List Nat} (h : makerB m = true) : isMk m := by
  obtain ⟨c, l, rfl, h1, h2⟩ := maker_at h
  cases l with
  | nil => cases h2
  | cons d r => exact ⟨c, d, r, rfl, h1.1, (figs_all h2 d List.mem_cons_self).1⟩
theorem mk_split : ∀ {a a' b b' : List (List Nat)}, (∀ c ∈ a, isMk c) → (∀ c ∈ a', isMk c) → (∀ c, b.head? = some c → ¬ isMk c) → (∀ c, b'.head? = some c → ¬ isMk c) → a ++ b = a' ++ b' → a = a' ∧ b = b'
  | [], [], b, b', _, _, _, _, h => ⟨rfl, h⟩
  | [], c :: a', b, b', _, h2, h3, _, h => by
    have h : b = c :: (a' ++ b') := h
    exact (h3 c (by rw [h]; rfl) (h2 c List.mem_cons_self)).elim
  | c :: a, [], b, b', h1, _, _, h4, h => by
    have h : c :: (a ++ b) = b' := h
    exact (h4 c (by rw [← h]; rfl) (h1 c List.mem_cons_self)).elim
  | c :: a, d :: a', b, b', h1, h2, h3, h4, h => by
    have h : c :: (a ++ b) = d :: (a' ++ b') := h
    injection h with e h
    obtain ⟨h5, h6⟩ := mk_split (fun x hx => h1 x (List.mem_cons_of_mem _ hx)) (fun x hx => h2 x (List.mem_cons_of_mem _ hx)) h3 h4 h
    exact ⟨by rw [e, h5], h6⟩
theorem num_not {n : Nat} : ¬ isMk (numL n) := by
  rintro ⟨c, d, r, e, h1, h2⟩
  have := num_sign c (by rw [e]; exact List.mem_cons_self)
  omega
theorem cop_not {l : List Nat} : ¬ isMk (99 :: 46 :: l) := by
  rintro ⟨c, d, r, e, h1, h2⟩
  simp only [List.cons.injEq] at e
  omega
theorem num_cop {n : Nat} {l : List Nat} : numL n ≠ 99 :: 46 :: l := by
  intro e
  have := num_sign 99 (by rw [e]; exact List.mem_cons_self)
  omega
theorem text_inj {t u : Pt} (ht : t.Ok) (hu : u.Ok) (h : t.text = u.text) : t = u := by
  have e1 := TL.spl_join (s := 32) (S := []) (parts := t.ws) (by unfold Pt.ws; simp) (no32 ht)
  have e2 := TL.spl_join (s := 32) (S := []) (parts := u.ws) (by unfold Pt.ws; simp) (no32 hu)
  have h0 : TL.joinL [32] t.ws = TL.joinL [32] u.ws := h
  rw [h0, e2] at e1
  unfold Pt.ws at e1
  injection e1 with e3 e4
  obtain ⟨h1, h2, h3⟩ := w0_inj hu ht e3
  obtain ⟨h4, h5⟩ := mk_split (fun m hm => mk_is (hu.ms m hm).1) (fun m hm => mk_is (ht.ms m hm).1) (fun c hc => by
    cases ey : u.y with
    | none =>
      cases ec : u.c with
      | none => rw [ey, ec] at hc; cases hc
      | some j => rw [ey, ec] at hc; simp at hc; subst hc; exact cop_not
    | some i => rw [ey] at hc; simp at hc; subst hc; exact num_not) (fun c hc => by
    cases ey : t.y with
    | none =>
      cases ec : t.c with
      | none => rw [ey, ec] at hc; cases hc
      | some j => rw [ey, ec] at hc; simp at hc; subst hc; exact cop_not
    | some i => rw [ey] at hc; simp at hc; subst hc; exact num_not) e4
  obtain ⟨l, n, p, ms, y, c⟩ := t
  obtain ⟨l', n', p', ms', y', c'⟩ := u
  dsimp only at *
  have hty := ht.y
  have htc := ht.c
  have huy := hu.y
  have huc := hu.c
  dsimp only at hty htc huy huc
  subst h1 h2 h3 h4
  have hyc : y = y' ∧ c = c' := by
    cases y with
    | none =>
      cases y' with
      | none =>
        refine ⟨rfl, ?_⟩
        cases c with
        | none => cases c' with
          | none => rfl
          | some j' => simp at h5
        | some j => cases c' with
          | none => simp at h5
          | some j' =>
            simp at h5
            have := TL.numL_inj h5
            have := htc j rfl
            have := huc j' rfl
            congr 1; omega
      | some i' =>
        cases c with
        | none => simp at h5
        | some j => cases c' with
          | none => simp at h5; exact (num_cop h5).elim
          | some j' => simp at h5
    | some i =>
      cases y' with
      | none =>
        cases c' with
        | none => simp at h5
        | some j => cases c with
          | none => simp at h5; exact (num_cop h5.symm).elim
          | some j' => simp at h5
      | some i' =>
        have h6 : numL i'.toNat = numL i.toNat := by simp at h5; exact h5.1
        have h7 := TL.numL_inj h6
        have := hty i rfl
        have := huy i' rfl
        refine ⟨by congr 1; omega, ?_⟩
        cases c with
        | none => cases c' with
          | none => rfl
          | some j' => simp at h5
        | some j => cases c' with
          | none => simp at h5
          | some j' =>
            simp at h5
            have := TL.numL_inj h5.2
            have := htc j rfl
            have := huc j' rfl
            congr 1; omega
  rw [hyc.1, hyc.2]
theorem kp_inj {t u : Pt} (ht : t.Ok) (hu : u.Ok) (h : kp t = kp u) : t = u := by
  obtain ⟨l, n, p, ms, y, c⟩ := t
  obtain ⟨l', n', p', ms', y', c'⟩ := u
  simp only [kp, Prod.mk.injEq] at h
  obtain ⟨rfl, rfl, rfl, rfl, h5, h6⟩ := h
  have hty := ht.y
  have htc := ht.c
  have huy := hu.y
  have huc := hu.c
  dsimp only at hty htc huy huc
  have h7 : y = y' := by
    cases y <;> cases y' <;> simp at h5 ⊢
    · have := huy _ rfl; omega
    · have := hty _ rfl; omega
    · exact h5
  have h8 : c = c' := by
    cases c <;> cases c' <;> simp at h6 ⊢
    · have := huc _ rfl; omega
    · have := htc _ rfl; omega
    · exact h6
  rw [h7, h8]
theorem text_kp {t u : Pt} (ht : t.Ok) (hu : u.Ok) : t.text = u.text ↔ kp t = kp u :=
  ⟨fun h => by rw [text_inj ht hu h], fun h => by rw [kp_inj ht hu h]⟩
/-- the order that is due -/
def due (t u : Pt) : Int := if kp t = kp u then 0 else if PySem.W.dataLt (keyD t) (keyD u) = true then -1 else 1
theorem due_text {t u : Pt} (ht : t.Ok) (hu : u.Ok) : (if t.text = u.text then 0 else if PySem.W.dataLt (keyD t) (keyD u) = true then -1 else 1 : Int) = due t u := by
  unfold due
  by_cases h : kp t = kp u
  · rw [if_pos h, if_pos ((text_kp ht hu).mpr h)]
  · rw [if_neg h, if_neg (fun z => h ((text_kp ht hu).mp z))]
theorem due_flip {t u : Pt} : due u t = -due t u := by
  unfold due
  by_cases h : kp t = kp u
  · rw [if_pos h, if_pos h.symm]; rfl
  · rw [if_neg h, if_neg (fun z => h z.symm), lt_flip h]
    cases PySem.W.dataLt (keyD t) (keyD u) <;> decide
end U
namespace U
open PySem PySem.Spec PyProof.Rows L2
theorem Pool.new {H : Hp} {a r : Addr} {o : HO} (h : Pool H a) (hr : H r = none) : Pool (L2.upd H r o) a := by
  obtain ⟨n, hn⟩ := h
  exact ⟨n, upd_old2 hr hn⟩
theorem Pool.ne {H : Hp} {a r : Addr} (h : Pool H a) (hr : H r = none) : r ≠ a := by
  obtain ⟨n, hn⟩ := h
  exact ne_new hr hn
theorem atI_nat0 {α : Type} {xs : List α} {i : Int} (h0 : 0 ≤ i) (h1 : i < xs.length) : ∃ c, c ∈ xs ∧ atI xs i = some c := atI_in h0 h1
theorem int_in {f : Int → Prop} {xs : List Int} {i : Int} (h0 : 0 ≤ i) (h1 : i < xs.length) : ∃ c, c ∈ xs ∧ atI (xs.map V.int) i = some (.int c) := by
  obtain ⟨c, hc, e⟩ := atI_in (xs := xs.map V.int) h0 (by rw [List.length_map]; exact h1)
  obtain ⟨d, hd, rfl⟩ := List.mem_map.mp hc
  exact ⟨d, hd, e⟩
end U
namespace U
open PySem PySem.Spec PyProof.Rows L2
section
variable {α : Type} {a b c d e f : α} {l : List α}
theorem at1 : atI (a :: b :: l) 1 = some b := atI_nat (j := 1) rfl
theorem at2 : atI (a :: b :: c :: l) 2 = some c := atI_nat (j := 2) rfl
theorem at3 : atI (a :: b :: c :: d :: l) 3 = some d := atI_nat (j := 3) rfl
theorem at4 : atI (a :: b :: c :: d :: e :: l) 4 = some e := atI_nat (j := 4) rfl
theorem at5 : atI (a :: b :: c :: d :: e :: f :: l) 5 = some f := atI_nat (j := 5) rfl
end
end U
namespace U
open PySem PySem.Spec PyProof.Rows L2
/-- a or b, once a is known -/
def orG (K : PySem.W.Frag) (x : V) (H1 : Hp) (R S : Prop) : Prop := ∃ k, TruV K x H1 k ∧ if k = true then R else S
theorem or_str {K : PySem.W.Frag} {l : List Nat} {H : Hp} {R S : Prop} (hl : l.length ≤ 16777216) (h : if l = [] then S else R) : orG K (sv l) H R S := by
  by_cases e : l = []
  · rw [if_pos e] at h
    refine ⟨false, truB_ok (by rw [b_str (by exact hl)]; subst e; rfl), ?_⟩
    rw [if_neg (by decide)]; exact h
  · rw [if_neg e] at h
    refine ⟨true, truB_ok (by rw [b_str (by exact hl)]; cases l with | nil => exact (e rfl).elim | cons a b => rfl), ?_⟩
    rw [if_pos rfl]; exact h
theorem near_num {D : List Nat} (hD : D.all figB = true) {r : Int} (h0 : 0 ≤ r) (h1 : r < 29) {c : Nat} (hc : figB c = true) :
    digs (cutL D none (some (1 + r)) ++ [c]) = true ∧ cutL D none (some (1 + r)) ++ [c] ≠ [] ∧ (cutL D none (some (1 + r))).length ≤ 29 ∧ (valL (cutL D none (some (1 + r)) ++ [c]) : Int) < 10 ^ 30 := by
  rw [cut_to (by omega)]
  have h2 := all_snoc (take_all (n := (1 + r).toNat) hD) hc
  have h3 : (D.take (1 + r).toNat).length ≤ 29 := by simp; omega
  have h4 := valL_lt _ (figs_le h2)
  have h5 : (D.take (1 + r).toNat ++ [c]).length ≤ 30 := by rw [List.length_append, List.length_singleton]; omega
  refine ⟨digs_of h2, by simp, h3, ?_⟩
  have h6 : 10 ^ (D.take (1 + r).toNat ++ [c]).length ≤ 10 ^ 30 := Nat.pow_le_pow_right (by decide) h5
  have h7 : valL (D.take (1 + r).toNat ++ [c]) < 10 ^ 30 := Nat.lt_of_lt_of_le h4 h6
  exact_mod_cast h7
end U
namespace U
open PySem PySem.Spec PyProof.Rows L2
theorem e_orT {K : PySem.W.Frag} {ta tb : TE} {σ : L2.St} {H : Hp} {Q : VK} : tOrT K ta tb σ H Q = ta σ H fun x H1 => orG K x H1 (Q x H1) (tb σ H1 Q) := rfl
end U
namespace U
open PySem PySem.Spec PyProof.Rows L2
theorem i60 : ixN 6 0 = some 0 := rfl
theorem i61 : ixN 6 1 = some 1 := rfl
theorem i62 : ixN 6 2 = some 2 := rfl
theorem i63 : ixN 6 3 = some 3 := rfl
theorem i64 : ixN 6 4 = some 4 := rfl
theorem i65 : ixN 6 5 = some 5 := rfl
end U
namespace U
open PySem PySem.Spec PyProof.Rows L2
theorem parts_ne {t : Pt} {q : Addr} {ms : List (List Nat)} : partsL t q ≠ ms.map sv := by
  unfold partsL
  cases ms with
  | nil => simp
  | cons a l =>
    cases l with
    | nil => simp
    | cons b l => intro h; simp at h
end U
namespace U
open PySem PySem.Spec PyProof.Rows L2
theorem near_n {n : Int} (h1 : 1 ≤ n) {r : Int} (h0 : 0 ≤ r) (h4 : r < 4) (h9 : n ≤ 9999) {c : Nat} (hc : figB c = true) :
    (cutL (numL n.toNat) none (some (1 + r))).length ≤ 4 ∧ digs (cutL (cutL (numL n.toNat) none (some (1 + r)) ++ [c]) none (some 4)) = true ∧ cutL (cutL (numL n.toNat) none (some (1 + r)) ++ [c]) none (some 4) ≠ [] ∧
    (cutL (cutL (numL n.toNat) none (some (1 + r)) ++ [c]) none (some 4)).length ≤ 4 ∧ 1 ≤ (valL (cutL (cutL (numL n.toNat) none (some (1 + r)) ++ [c]) none (some 4)) : Int) ∧ (valL (cutL (cutL (numL n.toNat) none (some (1 + r)) ++ [c]) none (some 4)) : Int) ≤ 9999 := by
  rw [cut_to (by omega), cut_to (by decide)]
  obtain ⟨d, s, e, hd⟩ := numL_head (n := n.toNat) (by omega)
  have hf := num_figs n.toNat
  have e1 : (1 + r).toNat = r.toNat + 1 := by omega
  have e2 : ((numL n.toNat).take (1 + r).toNat ++ [c]).take (4 : Int).toNat = d :: ((s.take r.toNat ++ [c]).take 3) := by
    rw [e, e1]; rfl
  have hall := take_all (n := (4 : Int).toNat) (all_snoc (take_all (n := (1 + r).toNat) hf) hc)
  have hlen : (((numL n.toNat).take (1 + r).toNat ++ [c]).take (4 : Int).toNat).length ≤ 4 := by rw [List.length_take]; exact Nat.min_le_left _ _
  have hv := valL_lt _ (figs_le hall)
  have hv2 : 10 ^ (((numL n.toNat).take (1 + r).toNat ++ [c]).take (4 : Int).toNat).length ≤ 10 ^ 4 := Nat.pow_le_pow_right (by decide) hlen
  refine ⟨by rw [List.length_take]; omega, digs_of hall, by rw [e2]; simp, hlen, ?_, ?_⟩
  · have := NumText.digitsVal_pos (c := d) (cs := (s.take r.toNat ++ [c]).take 3) hd
    rw [e2]
    show 1 ≤ ((NumText.digitsVal _ : Nat) : Int)
    omega
  · omega
end U
namespace U
open PySem PySem.Spec PyProof.Rows L2
theorem mix {u v : Pt} {r s : Addr} (hu : Dr u) (hv : Dr v) {n : Int} (h0 : 0 ≤ n) (h6 : n < 6) :
    ∃ x z, cutL (partsL u r) none (some (n + 1)) ++ cutL (partsL v s) (some (n + 1)) none = partsL x z ∧ Dr x ∧ ((z = r ∧ x.ms = u.ms) ∨ (z = s ∧ x.ms = v.ms)) := by
  have a := hu.ok
  have b := hv.ok
  obtain rfl | rfl | rfl | rfl | rfl | rfl : n = 0 ∨ n = 1 ∨ n = 2 ∨ n = 3 ∨ n = 4 ∨ n = 5 := by omega
  · exact ⟨⟨u.l, v.n, v.p, v.ms, v.y, v.c⟩, s, rfl, ⟨⟨a.l, b.n1, b.n2, b.p, b.pl, b.mn, b.ms, b.y, b.c⟩, hv.p, hv.ms⟩, .inr ⟨rfl, rfl⟩⟩
  · exact ⟨⟨u.l, u.n, v.p, v.ms, v.y, v.c⟩, s, rfl, ⟨⟨a.l, a.n1, a.n2, b.p, b.pl, b.mn, b.ms, b.y, b.c⟩, hv.p, hv.ms⟩, .inr ⟨rfl, rfl⟩⟩
  · exact ⟨⟨u.l, u.n, u.p, v.ms, v.y, v.c⟩, s, rfl, ⟨⟨a.l, a.n1, a.n2, a.p, a.pl, b.mn, b.ms, b.y, b.c⟩, hu.p, hv.ms⟩, .inr ⟨rfl, rfl⟩⟩
  · exact ⟨⟨u.l, u.n, u.p, u.ms, v.y, v.c⟩, r, rfl, ⟨⟨a.l, a.n1, a.n2, a.p, a.pl, a.mn, a.ms, b.y, b.c⟩, hu.p, hu.ms⟩, .inl ⟨rfl, rfl⟩⟩
  · exact ⟨⟨u.l, u.n, u.p, u.ms, u.y, v.c⟩, r, rfl, ⟨⟨a.l, a.n1, a.n2, a.p, a.pl, a.mn, a.ms, a.y, b.c⟩, hu.p, hu.ms⟩, .inl ⟨rfl, rfl⟩⟩
  · exact ⟨⟨u.l, u.n, u.p, u.ms, u.y, u.c⟩, r, rfl, ⟨⟨a.l, a.n1, a.n2, a.p, a.pl, a.mn, a.ms, a.y, a.c⟩, hu.p, hu.ms⟩, .inl ⟨rfl, rfl⟩⟩
theorem cut_len {α : Type} {l : List α} {lo hi : Option Int} : (cutL l lo hi).length ≤ l.length := by
  unfold cutL
  rw [List.length_take, List.length_drop]; omega
end U
namespace U
open PySem PySem.Spec PyProof.Rows L2
/-- a cut of the script -/
def rSlS (K : PySem.W.Frag) : V → Option Int → Option Int → Hp → VK → Prop := fun x lo hi H Q => ∃ a xs, x = .ref a ∧ SqL K H a xs ∧ ∀ p, H p = none → Q (.ref p) (upd H p (.lst (cutL xs lo hi)))
theorem slS {X : Cx} : SlR X (rSlS X.K) := SlR.imp sl_list (fun x lo hi H Q ⟨a, xs, e, h, q⟩ => ⟨a, xs, e, h, q⟩)
theorem e_slS {K : PySem.W.Frag} {a : Addr} {lo hi : Option Int} {H : Hp} {Q : VK} : rSlS K (.ref a) lo hi H Q = ∃ xs, SqL K H a xs ∧ ∀ p, H p = none → Q (.ref p) (upd H p (.lst (cutL xs lo hi))) := by
  apply propext; constructor
  · rintro ⟨b, xs, e, h⟩; cases e; exact ⟨xs, h⟩
  · rintro ⟨xs, h⟩; exact ⟨a, xs, rfl, h⟩
/-- the parts that the law begins with -/
def p0 : Pt := ⟨[97], 1, [], [], none, none⟩
theorem ok0 : p0.Ok where
  l := by decide
  n1 := by decide
  n2 := by decide
  p := by decide
  pl := by decide
  mn := by decide
  ms := by intro m hm; exact absurd hm (by simp [p0])
  y := by intro i hi; exact absurd hi (by simp [p0])
  c := by intro i hi; exact absurd hi (by simp [p0])
theorem dr0 : Dr p0 := ⟨ok0, by decide, by intro m hm; exact absurd hm (by simp [p0])⟩
theorem pl0 {H : Hp} {b r : Addr} (h1 : H b = some (.lst [sv [97], .int 1, sv [], .ref r, .non, .non])) (h2 : H r = some (.lst [])) : PL H b p0 := ⟨r, h1, h2⟩
theorem SqL_fr {K : PySem.W.Frag} {H H' : Hp} {a : Addr} {xs : List V} (f : Fr [] H H') (h : SqL K H a xs) : SqL K H' a xs := by
  rcases h with (h | ⟨o, h⟩) | h
  · exact .inl (.inl (f.get (by simp) h))
  · exact .inl (.inr ⟨o, f.get (by simp) h⟩)
  · exact .inr h
end U
namespace U
open PySem PySem.Spec PyProof.Rows L2
theorem cut_mem {α : Type} {l : List α} {lo hi : Option Int} {x : α} (h : x ∈ cutL l lo hi) : x ∈ l := by
  unfold cutL at h
  exact List.mem_of_mem_drop (List.mem_of_mem_take h)
theorem cell_int {ns : List Int} {lo hi : Option Int} {i : Nat} {x : V} (h : (cutL (ns.map V.int) lo hi ++ [V.int 7])[i]? = some x) : ∃ c, x = .int c := by
  have hm := List.mem_of_getElem? h
  rw [List.mem_append, List.mem_singleton] at hm
  rcases hm with hm | rfl
  · obtain ⟨c, _, rfl⟩ := List.mem_map.mp (cut_mem hm)
    exact ⟨c, rfl⟩
  · exact ⟨7, rfl⟩
end U
namespace U
open PySem PySem.Spec PyProof.Rows L2
theorem gstr_of {mg : Str → Option Value} {x z : Str} {l : List Nat} (h : ∃ t, mg x = some (.str z t)) (e : z.cps.toList = l) : GStr mg x l := by
  obtain ⟨t, h⟩ := h
  have ez : z = ⟨l.toArray⟩ := TL.ext_tl e
  rw [ez] at h
  exact ⟨⟨t, h⟩⟩
theorem gint_of {mg : Str → Option Value} {x : Str} {i : Int} (h : ∃ t, mg x = some (.int i t)) : GInt mg x i := ⟨h⟩
theorem vals_app {vs zs : List V} {us ws : List Value} (h : Vals vs us) (k : Vals zs ws) : Vals (vs ++ zs) (us ++ ws) := Vals.append h k
end U

namespace Hd
open PySem PySem.Spec PyProof.Rows L2
def topS (i : Nat) : Stmt := PySem.Challenge.pw_spinemarks_k13_order_of_two.main.body.getD i (.Pass ⟨0, 0, 0, 0⟩)
abbrev s_NoLetters___init__ : Stmt := (inClass (topS 3) 0)
def d_NoLetters___init__ : He.DefD := ⟨("NoLetters", some "__init__"), "__init__", "NoLetters.__init__", defArgs s_NoLetters___init__, defBody s_NoLetters___init__, defScope s_NoLetters___init__, [], []⟩
abbrev s_NoNumber___init__ : Stmt := (inClass (topS 4) 0)
def d_NoNumber___init__ : He.DefD := ⟨("NoNumber", some "__init__"), "__init__", "NoNumber.__init__", defArgs s_NoNumber___init__, defBody s_NoNumber___init__, defScope s_NoNumber___init__, [], []⟩
abbrev s_NoPoints___init__ : Stmt := (inClass (topS 5) 0)
def d_NoPoints___init__ : He.DefD := ⟨("NoPoints", some "__init__"), "__init__", "NoPoints.__init__", defArgs s_NoPoints___init__, defBody s_NoPoints___init__, defScope s_NoPoints___init__, [], []⟩
abbrev s_NoMakers___init__ : Stmt := (inClass (topS 6) 0)
def d_NoMakers___init__ : He.DefD := ⟨("NoMakers", some "__init__"), "__init__", "NoMakers.__init__", defArgs s_NoMakers___init__, defBody s_NoMakers___init__, defScope s_NoMakers___init__, [], []⟩
abbrev s_NoMaker___init__ : Stmt := (inClass (topS 7) 0)
def d_NoMaker___init__ : He.DefD := ⟨("NoMaker", some "__init__"), "__init__", "NoMaker.__init__", defArgs s_NoMaker___init__, defBody s_NoMaker___init__, defScope s_NoMaker___init__, [], []⟩
abbrev s_NoYear___init__ : Stmt := (inClass (topS 8) 0)
def d_NoYear___init__ : He.DefD := ⟨("NoYear", some "__init__"), "__init__", "NoYear.__init__", defArgs s_NoYear___init__, defBody s_NoYear___init__, defScope s_NoYear___init__, [], []⟩
abbrev s_NoCopy___init__ : Stmt := (inClass (topS 9) 0)
def d_NoCopy___init__ : He.DefD := ⟨("NoCopy", some "__init__"), "__init__", "NoCopy.__init__", defArgs s_NoCopy___init__, defBody s_NoCopy___init__, defScope s_NoCopy___init__, [], []⟩
abbrev s_order : Stmt := (topS 11)
def d_order : He.DefD := ⟨("order", none), "order", "order", defArgs s_order, defBody s_order, defScope s_order, [], []⟩
abbrev s_is_whole : Stmt := (topS 17)
def d_is_whole : He.DefD := ⟨("is_whole", none), "is_whole", "is_whole", defArgs s_is_whole, defBody s_is_whole, defScope s_is_whole, [.non], []⟩
abbrev s_figures_of : Stmt := (topS 18)
def d_figures_of : He.DefD := ⟨("figures_of", none), "figures_of", "figures_of", defArgs s_figures_of, defBody s_figures_of, defScope s_figures_of, [], []⟩
abbrev s_is_name : Stmt := (topS 19)
def d_is_name : He.DefD := ⟨("is_name", none), "is_name", "is_name", defArgs s_is_name, defBody s_is_name, defScope s_is_name, [], []⟩
abbrev s_is_figures : Stmt := (topS 20)
def d_is_figures : He.DefD := ⟨("is_figures", none), "is_figures", "is_figures", defArgs s_is_figures, defBody s_is_figures, defScope s_is_figures, [], []⟩
abbrev s_is_points : Stmt := (topS 21)
def d_is_points : He.DefD := ⟨("is_points", none), "is_points", "is_points", defArgs s_is_points, defBody s_is_points, defScope s_is_points, [], []⟩
abbrev s_is_maker : Stmt := (topS 22)
def d_is_maker : He.DefD := ⟨("is_maker", none), "is_maker", "is_maker", defArgs s_is_maker, defBody s_is_maker, defScope s_is_maker, [], []⟩
abbrev s_is_letters : Stmt := (topS 23)
def d_is_letters : He.DefD := ⟨("is_letters", none), "is_letters", "is_letters", defArgs s_is_letters, defBody s_is_letters, defScope s_is_letters, [], []⟩
abbrev s_need_year : Stmt := (topS 29)
def d_need_year : He.DefD := ⟨("need_year", none), "need_year", "need_year", defArgs s_need_year, defBody s_need_year, defScope s_need_year, [], []⟩
abbrev s_need_copy : Stmt := (topS 30)
def d_need_copy : He.DefD := ⟨("need_copy", none), "need_copy", "need_copy", defArgs s_need_copy, defBody s_need_copy, defScope s_need_copy, [], []⟩
abbrev s_makers_in : Stmt := (topS 31)
def d_makers_in : He.DefD := ⟨("makers_in", none), "makers_in", "makers_in", defArgs s_makers_in, defBody s_makers_in, defScope s_makers_in, [], []⟩
abbrev s_Mark___init__ : Stmt := (inClass (topS 32) 0)
def d_Mark___init__ : He.DefD := ⟨("Mark", some "__init__"), "__init__", "Mark.__init__", defArgs s_Mark___init__, defBody s_Mark___init__, defScope s_Mark___init__, [(.str ""), .non, .non, .non], []⟩
abbrev s_Mark_text_of : Stmt := (inClass (topS 32) 1)
def d_Mark_text_of : He.DefD := ⟨("Mark", some "text_of"), "text_of", "Mark.text_of", defArgs s_Mark_text_of, defBody s_Mark_text_of, defScope s_Mark_text_of, [], []⟩
abbrev s_Mark___eq__ : Stmt := (inClass (topS 32) 2)
def d_Mark___eq__ : He.DefD := ⟨("Mark", some "__eq__"), "__eq__", "Mark.__eq__", defArgs s_Mark___eq__, defBody s_Mark___eq__, defScope s_Mark___eq__, [], []⟩
abbrev s_Mark___str__ : Stmt := (inClass (topS 32) 3)
def d_Mark___str__ : He.DefD := ⟨("Mark", some "__str__"), "__str__", "Mark.__str__", defArgs s_Mark___str__, defBody s_Mark___str__, defScope s_Mark___str__, [], []⟩
abbrev s_Mark___repr__ : Stmt := (inClass (topS 32) 4)
def d_Mark___repr__ : He.DefD := ⟨("Mark", some "__repr__"), "__repr__", "Mark.__repr__", defArgs s_Mark___repr__, defBody s_Mark___repr__, defScope s_Mark___repr__, [], []⟩
abbrev s_Mark___len__ : Stmt := (inClass (topS 32) 5)
def d_Mark___len__ : He.DefD := ⟨("Mark", some "__len__"), "__len__", "Mark.__len__", defArgs s_Mark___len__, defBody s_Mark___len__, defScope s_Mark___len__, [], []⟩
abbrev s_Mark_letters : Stmt := (inClass (topS 32) 6)
def d_Mark_letters : He.DefD := ⟨("Mark", some "letters"), "letters", "Mark.letters", defArgs s_Mark_letters, defBody s_Mark_letters, defScope s_Mark_letters, [], []⟩
abbrev s_Mark_number : Stmt := (inClass (topS 32) 7)
def d_Mark_number : He.DefD := ⟨("Mark", some "number"), "number", "Mark.number", defArgs s_Mark_number, defBody s_Mark_number, defScope s_Mark_number, [], []⟩
abbrev s_Mark_points : Stmt := (inClass (topS 32) 8)
def d_Mark_points : He.DefD := ⟨("Mark", some "points"), "points", "Mark.points", defArgs s_Mark_points, defBody s_Mark_points, defScope s_Mark_points, [], []⟩
abbrev s_Mark_makers : Stmt := (inClass (topS 32) 9)
def d_Mark_makers : He.DefD := ⟨("Mark", some "makers"), "makers", "Mark.makers", defArgs s_Mark_makers, defBody s_Mark_makers, defScope s_Mark_makers, [], []⟩
abbrev s_Mark_year : Stmt := (inClass (topS 32) 10)
def d_Mark_year : He.DefD := ⟨("Mark", some "year"), "year", "Mark.year", defArgs s_Mark_year, defBody s_Mark_year, defScope s_Mark_year, [], []⟩
abbrev s_Mark_copy_number : Stmt := (inClass (topS 32) 11)
def d_Mark_copy_number : He.DefD := ⟨("Mark", some "copy_number"), "copy_number", "Mark.copy_number", defArgs s_Mark_copy_number, defBody s_Mark_copy_number, defScope s_Mark_copy_number, [], []⟩
abbrev s_Mark_parts : Stmt := (inClass (topS 32) 12)
def d_Mark_parts : He.DefD := ⟨("Mark", some "parts"), "parts", "Mark.parts", defArgs s_Mark_parts, defBody s_Mark_parts, defScope s_Mark_parts, [], []⟩
abbrev s_Mark_key : Stmt := (inClass (topS 32) 13)
def d_Mark_key : He.DefD := ⟨("Mark", some "key"), "key", "Mark.key", defArgs s_Mark_key, defBody s_Mark_key, defScope s_Mark_key, [], []⟩
abbrev s_Mark_ahead : Stmt := (inClass (topS 32) 14)
def d_Mark_ahead : He.DefD := ⟨("Mark", some "ahead"), "ahead", "Mark.ahead", defArgs s_Mark_ahead, defBody s_Mark_ahead, defScope s_Mark_ahead, [], []⟩
abbrev s_Mark_head : Stmt := (inClass (topS 32) 15)
def d_Mark_head : He.DefD := ⟨("Mark", some "head"), "head", "Mark.head", defArgs s_Mark_head, defBody s_Mark_head, defScope s_Mark_head, [], []⟩
abbrev s_Mark_book : Stmt := (inClass (topS 32) 16)
def d_Mark_book : He.DefD := ⟨("Mark", some "book"), "book", "Mark.book", defArgs s_Mark_book, defBody s_Mark_book, defScope s_Mark_book, [], []⟩
abbrev s_Mark_with_year : Stmt := (inClass (topS 32) 17)
def d_Mark_with_year : He.DefD := ⟨("Mark", some "with_year"), "with_year", "Mark.with_year", defArgs s_Mark_with_year, defBody s_Mark_with_year, defScope s_Mark_with_year, [.non], []⟩
abbrev s_Mark_with_copy : Stmt := (inClass (topS 32) 18)
def d_Mark_with_copy : He.DefD := ⟨("Mark", some "with_copy"), "with_copy", "Mark.with_copy", defArgs s_Mark_with_copy, defBody s_Mark_with_copy, defScope s_Mark_with_copy, [.non], []⟩
abbrev s_Mark_same_book : Stmt := (inClass (topS 32) 19)
def d_Mark_same_book : He.DefD := ⟨("Mark", some "same_book"), "same_book", "Mark.same_book", defArgs s_Mark_same_book, defBody s_Mark_same_book, defScope s_Mark_same_book, [], []⟩
abbrev s__law_pool : Stmt := (topS 34)
def d__law_pool : He.DefD := ⟨("_law_pool", none), "_law_pool", "_law_pool", defArgs s__law_pool, defBody s__law_pool, defScope s__law_pool, [], []⟩
abbrev s__law_take : Stmt := (topS 35)
def d__law_take : He.DefD := ⟨("_law_take", none), "_law_take", "_law_take", defArgs s__law_take, defBody s__law_take, defScope s__law_take, [], []⟩
abbrev s__law_figures : Stmt := (topS 36)
def d__law_figures : He.DefD := ⟨("_law_figures", none), "_law_figures", "_law_figures", defArgs s__law_figures, defBody s__law_figures, defScope s__law_figures, [], []⟩
abbrev s__law_maker : Stmt := (topS 37)
def d__law_maker : He.DefD := ⟨("_law_maker", none), "_law_maker", "_law_maker", defArgs s__law_maker, defBody s__law_maker, defScope s__law_maker, [], []⟩
abbrev s__law_parts : Stmt := (topS 38)
def d__law_parts : He.DefD := ⟨("_law_parts", none), "_law_parts", "_law_parts", defArgs s__law_parts, defBody s__law_parts, defScope s__law_parts, [], []⟩
abbrev s__law_near_word : Stmt := (topS 39)
def d__law_near_word : He.DefD := ⟨("_law_near_word", none), "_law_near_word", "_law_near_word", defArgs s__law_near_word, defBody s__law_near_word, defScope s__law_near_word, [], []⟩
abbrev s__law_near_makers : Stmt := (topS 40)
def d__law_near_makers : He.DefD := ⟨("_law_near_makers", none), "_law_near_makers", "_law_near_makers", defArgs s__law_near_makers, defBody s__law_near_makers, defScope s__law_near_makers, [], []⟩
abbrev s__law_near_year : Stmt := (topS 41)
def d__law_near_year : He.DefD := ⟨("_law_near_year", none), "_law_near_year", "_law_near_year", defArgs s__law_near_year, defBody s__law_near_year, defScope s__law_near_year, [], []⟩
abbrev s__law_near_copy : Stmt := (topS 42)
def d__law_near_copy : He.DefD := ⟨("_law_near_copy", none), "_law_near_copy", "_law_near_copy", defArgs s__law_near_copy, defBody s__law_near_copy, defScope s__law_near_copy, [], []⟩
abbrev s__law_near : Stmt := (topS 43)
def d__law_near : He.DefD := ⟨("_law_near", none), "_law_near", "_law_near", defArgs s__law_near, defBody s__law_near, defScope s__law_near, [], []⟩
abbrev s__law_mark : Stmt := (topS 44)
def d__law_mark : He.DefD := ⟨("_law_mark", none), "_law_mark", "_law_mark", defArgs s__law_mark, defBody s__law_mark, defScope s__law_mark, [], []⟩
abbrev s__law_key : Stmt := (topS 45)
def d__law_key : He.DefD := ⟨("_law_key", none), "_law_key", "_law_key", defArgs s__law_key, defBody s__law_key, defScope s__law_key, [], []⟩
abbrev s__law_order : Stmt := (topS 46)
def d__law_order : He.DefD := ⟨("_law_order", none), "_law_order", "_law_order", defArgs s__law_order, defBody s__law_order, defScope s__law_order, [], []⟩
abbrev s__law_whole : Stmt := (topS 47)
def d__law_whole : He.DefD := ⟨("_law_whole", none), "_law_whole", "_law_whole", defArgs s__law_whole, defBody s__law_whole, defScope s__law_whole, [], []⟩
abbrev s__law_both_ways : Stmt := (topS 48)
def d__law_both_ways : He.DefD := ⟨("_law_both_ways", none), "_law_both_ways", "_law_both_ways", defArgs s__law_both_ways, defBody s__law_both_ways, defScope s__law_both_ways, [], []⟩
abbrev s_law : Stmt := (topS 49)
def d_law : He.DefD := ⟨("law", none), "law", "law", defArgs s_law, defBody s_law, defScope s_law, [], []⟩
def fn0 : List He.DefD := [d_NoLetters___init__, d_NoNumber___init__, d_NoPoints___init__, d_NoMakers___init__, d_NoMaker___init__, d_NoYear___init__, d_NoCopy___init__, d_order, d_is_whole, d_figures_of, d_is_name, d_is_figures, d_is_points, d_is_maker, d_is_letters, d_need_year, d_need_copy, d_makers_in, d_Mark___init__, d_Mark_text_of, d_Mark___eq__, d_Mark___str__, d_Mark___repr__, d_Mark___len__, d_Mark_letters, d_Mark_number, d_Mark_points, d_Mark_makers, d_Mark_year, d_Mark_copy_number]
def fn1 : List He.DefD := [d_Mark_parts, d_Mark_key, d_Mark_ahead, d_Mark_head, d_Mark_book, d_Mark_with_year, d_Mark_with_copy, d_Mark_same_book, d__law_pool, d__law_take, d__law_figures, d__law_maker, d__law_parts, d__law_near_word, d__law_near_makers, d__law_near_year, d__law_near_copy, d__law_near, d__law_mark, d__law_key, d__law_order, d__law_whole, d__law_both_ways, d_law]
def fn : List He.DefD := fn0 ++ fn1
def fa0 : List He.Fa := [.glo "order", .glo "is_whole", .glo "figures_of", .glo "is_name", .glo "is_figures", .glo "is_points", .glo "is_maker", .glo "is_letters", .glo "need_year", .glo "need_copy", .glo "makers_in", .glo "_law_pool", .glo "_law_take", .glo "_law_figures", .glo "_law_maker", .glo "_law_parts", .glo "_law_near_word", .glo "_law_near_makers", .glo "_law_near_year", .glo "_law_near_copy", .glo "_law_near", .glo "_law_mark", .glo "_law_key", .glo "_law_order", .glo "_law_whole", .glo "_law_both_ways", .glo "law", .glo "MarkError", .glo "NoLetters", .glo "NoNumber"]
def fa1 : List He.Fa := [.glo "NoPoints", .glo "NoMakers", .glo "NoMaker", .glo "NoYear", .glo "NoCopy", .glo "Mark", .cls "Mark", .noat "Mark" "kept_makers", .noat "Mark" "kept_letters", .noat "Mark" "kept_number", .noat "Mark" "kept_points", .noat "Mark" "kept_year", .noat "Mark" "kept_copy", .noat "Mark" "kept_text", .meth "Mark" "__init__", .meth "Mark" "text_of", .meth "Mark" "__eq__", .meth "Mark" "__str__", .meth "Mark" "__repr__", .meth "Mark" "__len__", .meth "Mark" "letters", .meth "Mark" "number", .meth "Mark" "points", .meth "Mark" "makers", .meth "Mark" "year", .meth "Mark" "copy_number", .meth "Mark" "parts", .meth "Mark" "key", .meth "Mark" "ahead", .meth "Mark" "head"]
def fa2 : List He.Fa := [.meth "Mark" "book", .meth "Mark" "with_year", .meth "Mark" "with_copy", .meth "Mark" "same_book", .mkr "Mark", .free "len", .free "isinstance", .free "all", .free "any", .free "range", .free "int", .free "str", .free "list", .free "tuple", .free "max", .free "min", .free "sorted", .free "repr", .free "enumerate", .free "zip", .free "divmod", .free "sum", .free "reversed", .free "dict", .free "bool", .str "LETTERS" "abcdefghijklmnopqrstuvwxyz", .str "FIGURES" "0123456789", .int "LONGEST" 6, .int "PART" 60, .int "MOST_MAKERS" 3]
def fa3 : List He.Fa := [.int "FIRST_YEAR" 1000, .int "LAST_YEAR" 2999, .int "GREATEST" 9999]
def fa : List He.Fa := fa0 ++ fa1 ++ fa2 ++ fa3
def lo0 : List Str := ["_wall", "MarkError", "NoLetters", "NoNumber", "NoPoints", "NoMakers", "NoMaker", "NoYear", "NoCopy", "order", "LETTERS", "FIGURES", "LONGEST", "PART", "is_whole", "figures_of", "is_name", "is_figures", "is_points", "is_maker", "is_letters", "MOST_MAKERS", "FIRST_YEAR", "LAST_YEAR", "GREATEST", "need_year", "need_copy", "makers_in", "Mark", "_law_pool"]
def lo1 : List Str := ["_law_take", "_law_figures", "_law_maker", "_law_parts", "_law_near_word", "_law_near_makers", "_law_near_year", "_law_near_copy", "_law_near", "_law_mark", "_law_key", "_law_order", "_law_whole", "_law_both_ways"]
def lo : List Str := lo0 ++ lo1
abbrev R : PySem.W.OpenRow := PySem.W.OpenLaw.row PySem.Challenge.rw_spinemarks_k13_order_of_two
def exB : PySem.W.Frag → Bool := fun K => (He.eqO (PySem.W.findIn K (.ref (He.ga K "Mark")) "__class__") (some (some (.builtin "object.__class__"))) && (He.eqO (PySem.W.specialIn K (.builtin "object.__class__") "__get__") (some (some (.builtin "getset_descriptor.__get__"))) && (decide (PySem.W.takesIn K (.builtin "object.__class__") = some true) && (decide (PySem.W.mroIn K (He.ga K "Mark") (.type "object") = some true) && decide (PySem.W.kitOne K (.ref (He.ga K "Mark")) (.ref (He.ga K "Mark")) = some true)))))
def tabs : List He.Tab := []
abbrev hk : PySem.W.Hook := He.hookX 7 fa fn tabs [] exB
def ob (s : PySem.W.SharedT) : He.AlX := He.obsX 7 fa fn tabs [] exB (HandSHeadRun.getT s)
theorem ob_eq (s : PySem.W.SharedT) : ob s = hk.obs s.abs := He.obsX_eq (HandSHeadRun.getT_eq s)
theorem run (w : World) : HandSHeadRun.RunEq R (PySem.W.view R.prog [49]) hk ob 20000 lo w := by
  intro os
  kernel_rfl
end Hd

namespace My
open PySem PySem.Spec PyProof.Rows L2
open Hd
local macro_rules | `(tactic| walk_at "rd") => `(tactic| simp (config := { decide := false }) only [
  ↓tSeq, ↓tNext, ↓tRet, ↓tRetN, ↓tDrop, ↓tIfS, ↓tAsg, ↓gName, ↓tC, ↓tOp, ↓tUn, ↓tAnd, ↓tOr, ↓tNot, ↓tIf, ↓tCons, ↓tNil, ↓tCB, ↓tCall, ↓tLst, ↓tTup, ↓tSl, ↓tNoPart, ↓tBreak, ↓tCont, ↓gSub, ↓tAug, ↓tAugS, ↓tPar, ↓tYes, ↓tMeth, ↓tMake, ↓tMakeN, ↓tCallN, ↓tNever,
  ↓U.uFmt, ↓U.uJoined, ↓U.tBL, ↓U.tBL0, ↓U.tBS, ↓U.tBS0,
  ↓U.tVar_0, ↓U.tVar_s, ↓U.e_test, ↓U.e_tB, ↓U.e_andV, ↓U.e_orV, ↓U.e_notV, ↓U.e_chain, ↓U.e_part, ↓U.e_js0, ↓U.e_js1, ↓U.e_tr, ↓U.e_or,
  U.set_0, U.set_s, L2.start, List.map_cons, List.map_nil, List.length_cons, List.length_nil, List.replicate, List.cons_append, List.nil_append, List.append_nil, List.getElem?_cons_zero, List.getElem?_cons_succ, Nat.reduceSub, Nat.reduceAdd,
  ↓U.e_add1, ↓U.e_add2, ↓U.e_add3, ↓U.e_sub, ↓U.e_mul, ↓U.e_mul2, ↓U.e_mod, ↓U.e_div, ↓U.e_pow, ↓U.e_lt1, ↓U.e_lt2, ↓U.e_le1, ↓U.e_le2, ↓U.e_gt1, ↓U.e_gt2, ↓U.e_ge1, ↓U.e_ge2, ↓U.e_eqo, ↓U.e_neo,
  U.s_1, U.s_2, U.s_3, U.s_4, U.s_5, U.s_6, U.s_7, U.s_8, U.s_9, U.s_10, U.s_11, U.s_12, U.s_13, U.s_14,
  ↓U.e_is, ↓U.e_isn, ↓U.e_in1, ↓U.e_nin1, ↓U.e_in2, ↓U.e_nin2, U.e_one, ↓U.e_ix1, ↓U.e_ix2, ↓U.e_sl1, ↓U.e_sl2, ↓U.e_slo1, ↓U.e_slo2, ↓U.e_slo3, ↓U.e_len1, ↓U.e_len2, ↓U.e_isi1, ↓U.e_isi2,
  U.t_non, U.t_bl, U.t_int, U.t_str, U.t_ref, U.t_lst, U.t_tup, U.t_dK, U.q_lst, U.q_tup, U.q_frz, U.l_lst, U.l_tup, U.u_lst, U.u_tup,
  ↓U.e_max, ↓U.e_min, ↓U.e_str, ↓U.e_int1, ↓U.e_int2, ↓U.e_int3, ↓U.e_list, ↓U.e_tuple, ↓U.e_tuple1, ↓U.e_tuple2, ↓U.e_divmod, ↓U.e_append, ↓U.e_extend, ↓U.e_pop, ↓U.e_rstrip, ↓U.e_zfill, ↓U.e_join, ↓U.e_fmt1, ↓U.e_fmt2, ↓U.e_set, ↓U.e_get, ↓U.e_ipa1, ↓U.e_ipa2, ↓U.e_ips, ↓U.e_neg,
  U.i_ii, U.i_ib, U.i_is, U.i_si, U.i_ss, U.i_bi, U.i_bb, U.i_ni, U.i_ns, U.i_ll, U.i_lt, ↓U.e_fldG, ↓U.e_fldR, ↓U.e_sfG, ↓U.e_sfR, ↓U.e_mtG, ↓U.e_mtR, U.insOf_ins, ↓U.e_eqI, U.ix10, ↓U.e_slS, U.i60, U.i61, U.i62, U.i63, U.i64, U.i65, ↓U.e_orT, U.cut_from1, U.at1, U.at2, U.at3, U.at4, U.at5, U.pool_upd, ↓U.e_forR, ↓U.e_forL, U.atI_0, U.cxK, U.cxKn, ↓U.e_isC, U.p1, U.p2, U.p3, U.p4, U.p5, U.p6, U.p7, U.f1, U.f2, U.f3, U.f4, U.f5, U.f6, U.h1, U.h2, U.h3, U.h4, U.h5, U.h6, U.h7, U.k1, U.k2, U.k3, U.k4, U.k5, U.k6, U.n6, U.nk, U.na, U.ov_none, U.ov_some, eq_self,
  U.strOf_str, U.blOf_bl, U.refOf_ref, U.intOf_int, U.b_non, U.b_bl, U.b_int, U.isL_ref, U.isS_str, ↓U.optE_some,
  ↓U.sp0_at, ↓U.sp1_at, ↓U.sp2_at, ↓U.sp3_at, ↓U.sp4_at, ↓U.sp5_at, ↓U.sp6_at, ↓U.sp7_at,
  U.cps_mk, upd_same, L2.upd_upd,
  U.ex_eq, exists_and_left, exists_and_right, exists_eq_left, exists_eq_left', exists_const, and_true, true_and, and_assoc, or_false, false_or, false_and, and_false, or_true, true_or, not_true_eq_false, not_false_eq_true, Bool.not_true, Bool.not_false, Bool.not_not, ite_true, ite_false, if_true, if_false, Bool.false_eq_true, reduceIte, reduceCtorEq, Option.some.injEq, Option.bind_some, V.int.injEq, V.bl.injEq, V.ref.injEq, V.str.injEq, V.ty.injEq, List.cons.injEq, HO.lst.injEq, HO.tup.injEq, Option.isSome_some, decide_true, decide_false, decide_eq_true_eq, Bool.not_eq_true', decide_eq_false_iff_not, Bool.and_true, Bool.true_and, Bool.and_false, Bool.false_and, Bool.or_true, Bool.true_or, Bool.or_false, Bool.false_or, Nat.reduceLeDiff, Int.reduceLT, Int.reduceLE, Int.reduceNeg, Int.reducePow, Int.reduceToNat, Int.reduceAdd, Int.reduceSub, Int.reduceMul, implies_true, *])
local macro_rules | `(tactic| walk_at "om") => `(tactic| (first | omega | (simp only [List.length_append, List.length_map, List.length_cons, List.length_nil, List.length_singleton]; omega) | (rw [U.sizeL]; decide)))

abbrev sp__law_whole : Sp := U.sp1 fun p H Q _ => U.optE (U.intOf p) fun _ => Q (.bl true) H
theorem sc__law_whole : FnScope ["_law_found"] ["_law_found"] (defScope s__law_whole) := U.scope_by (by decide +kernel)
theorem ok__law_whole {P : Program} {w : World} {K : PySem.W.Frag} {mg : Str → Option Value} {base : Heap} {f : Addr} {fd : FuncData}
    (F : FunD K "_law_whole" "_law_whole" (defArgs s__law_whole) (defBody s__law_whole) (defScope s__law_whole) [] [] f fd) (B : U.BI mg)  :
    FnOk P w K mg base C8.CX0 1 f fd ["_law_found"] (sp__law_whole) := by
  have sc := sc__law_whole
  refine F.ok sc (fun vs H Q E h => ?_) (fun cdv A outer s H vs Q E hr h => ⟨_, PSs.nox (pss_one (ps_ret (pe_and (pe_callB U.c_isinstance (by rfl) B.isinstance_ U.bt_isinstance (pa_cons (pv 0) (pa_cons (U.pe_ty rfl B.int_ U.bt_int) pa_nil))) (pe_one (pe_not (pe_callB U.c_isinstance (by rfl) B.isinstance_ U.bt_isinstance (pa_cons (pv 0) (pa_cons (U.pe_ty rfl B.bool_ U.bt_bool) pa_nil)))))))), ?_⟩)
  · obtain ⟨_, rfl, _⟩ := h; rfl
  · obtain ⟨p, rfl, i, hi, k⟩ := h
    cases U.intOf_eq hi
    walk_at "rd"

abbrev sp_Mark_key (C : Addr) : Sp := U.sp1 fun a H Q _ => ∃ (x : Addr) (t : U.Pt), a = .ref x ∧ U.Mark C H x t ∧ ∀ H' z r, U.Fr [] H H' → H' r = some (.tup (t.ms.map U.sv)) → H' z = some (.tup [U.sv t.l, .int t.n, U.sv t.p, .ref r, .int (t.y.getD 0), .int (t.c.getD 0)]) → Q (.ref z) H'
theorem sc_Mark_key : FnScope ["self", "year", "copy"] ["self"] (defScope s_Mark_key) := U.scope_by (by decide +kernel)
theorem ok_Mark_key {P : Program} {w : World} {K : PySem.W.Frag} {mg : Str → Option Value} {base : Heap} {f : Addr} {fd : FuncData} {C_Mark : Addr}
    (F : FunD K "key" "Mark.key" (defArgs s_Mark_key) (defBody s_Mark_key) (defScope s_Mark_key) [] [] f fd) (B : U.BI mg) (M : U.MkC K C_Mark) :
    FnOk P w K mg base C8.CX0 1 f fd ["self"] (sp_Mark_key C_Mark) := by
  have sc := sc_Mark_key
  refine F.ok sc (fun vs H Q E h => ?_) (fun cdv A outer s H vs Q E hr h => ⟨_, PSs.nox (pss_cons (ps_set (i := 1) sc.nd rfl (Or.inl rfl) (pe_ifExp (pt_cmpR U.is_ (pe_fld (pv 0) rfl) pe_non (nomark _)) pe_int (pe_fld (pv 0) rfl)))
      (pss_cons (ps_set (i := 2) sc.nd rfl (Or.inl rfl) (pe_ifExp (pt_cmpR U.is_ (pe_fld (pv 0) rfl) pe_non (nomark _)) pe_int (pe_fld (pv 0) rfl)))
      (pss_one (ps_ret (pe_tup (pa_cons (pe_fld (pv 0) rfl) (pa_cons (pe_fld (pv 0) rfl) (pa_cons (pe_fld (pv 0) rfl) (pa_cons (pe_fld (pv 0) rfl) (pa_cons (pv 1) (pa_cons (pv 2) pa_nil))))))))))), ?_⟩)
  · obtain ⟨_, rfl, _⟩ := h; rfl
  · obtain ⟨a, rfl, x, t, rfl, ⟨dx, r, h1, h2⟩, k⟩ := h
    obtain ⟨m0, m1, m2, m3, m4, m5, m6, m7⟩ := M
    obtain ⟨l, n, p, ms, y, c⟩ := t
    cases y <;> cases c <;> walk_at "rd" <;> exact ⟨by rw [U.sizeL]; decide, fun z hz => k _ z r (U.fr1 hz) (U.upd_old2 hz h2) upd_same⟩

abbrev sp_Mark_ahead (C : Addr) : Sp := U.sp2 fun a b H Q _ => ∃ (x y : Addr) (t u : U.Pt), a = .ref x ∧ b = .ref y ∧ U.Mark C H x t ∧ U.Mark C H y u ∧ ∀ H', U.Fr [] H H' → Q (.bl (PySem.W.dataLt (U.keyD t) (U.keyD u))) H'
theorem sc_Mark_ahead : FnScope ["self", "other"] ["self", "other"] (defScope s_Mark_ahead) := U.scope_by (by decide +kernel)
theorem ok_Mark_ahead {P : Program} {w : World} {K : PySem.W.Frag} {mg : Str → Option Value} {base : Heap} {f : Addr} {fd : FuncData} {C_Mark : Addr}
    (F : FunD K "ahead" "Mark.ahead" (defArgs s_Mark_ahead) (defBody s_Mark_ahead) (defScope s_Mark_ahead) [] [] f fd) (B : U.BI mg) (m_Mark_key : C8.Met P w K mg base 1 C_Mark "key" (sp_Mark_key C_Mark) []) :
    FnOk P w K mg base C8.CX0 2 f fd ["self", "other"] (sp_Mark_ahead C_Mark) := by
  have sc := sc_Mark_ahead
  refine F.ok sc (fun vs H Q E h => ?_) (fun cdv A outer s H vs Q E hr h => ⟨_, PSs.nox (pss_one (ps_ret (pe_cmpR (U.ltR hr) (C8.pe_mt0 m_Mark_key hr (by decide) (pv 0)) (C8.pe_mt0 m_Mark_key hr (by decide) (pv 1)) (nomark _)))), ?_⟩)
  · obtain ⟨_, _, rfl, _⟩ := h; rfl
  · obtain ⟨a, b, rfl, x, y, t, u, rfl, rfl, M1, M2, k⟩ := h
    have M1' := M1
    have M2' := M2
    obtain ⟨dx, r, h1, h2⟩ := M1'
    obtain ⟨dy, r', h3, h4⟩ := M2'
    walk_at "rd"
    refine ⟨t, M1, fun H1 z1 q1 f1 e1 e2 => ?_⟩
    have h5 := f1.get (by simp) h3
    walk_at "rd"
    refine ⟨u, M2.fr f1, fun H2 z2 q2 f2 e3 e4 => ?_⟩
    refine ⟨U.keyD t, U.keyD u, U.dp_key (f2.get (by simp) e1) (f2.get (by simp) e2), U.dp_key e3 e4, U.alike_key, U.key_ne, U.key_depth, k _ (f1.trans f2)⟩

abbrev sp_Mark___eq__ (C : Addr) : Sp := U.sp2 fun a b H Q _ => ∃ (x y : Addr) (t u : U.Pt), a = .ref x ∧ b = .ref y ∧ U.Mark C H x t ∧ U.Mark C H y u ∧ Q (.bl (decide (t.text = u.text))) H
theorem sc_Mark___eq__ : FnScope ["self", "other"] ["self", "other"] (defScope s_Mark___eq__) := U.scope_by (by decide +kernel)
theorem ok_Mark___eq__ {P : Program} {w : World} {K : PySem.W.Frag} {mg : Str → Option Value} {base : Heap} {f : Addr} {fd : FuncData} {C_Mark : Addr}
    (F : FunD K "__eq__" "Mark.__eq__" (defArgs s_Mark___eq__) (defBody s_Mark___eq__) (defScope s_Mark___eq__) [] [] f fd) (B : U.BI mg) (M : U.MkC K C_Mark) (g_Mark : mg "Mark" = some (.ref C_Mark)) (hI : C8.InsC K C_Mark) :
    FnOk P w K mg base C8.CX0 1 f fd ["self", "other"] (sp_Mark___eq__ C_Mark) := by
  have sc := sc_Mark___eq__
  refine F.ok sc (fun vs H Q E h => ?_) (fun cdv A outer s H vs Q E hr h => ⟨_, PSs.nox (pss_one (ps_ret (pe_and (pe_callB (U.c_isC hI) (by rfl) B.isinstance_ U.bt_isinstance (pa_cons (pv 1) (pa_cons (pe_glob (v := .ref C_Mark) rfl g_Mark rfl) pa_nil))) (pe_one (pe_cmpR U.eq (pe_fld (pv 0) rfl) (pe_fld (pv 1) rfl) (nomark _)))))), ?_⟩)
  · obtain ⟨_, _, rfl, _⟩ := h; rfl
  · obtain ⟨a, b, rfl, x, y, t, u, rfl, rfl, ⟨dx, r, h1, h2⟩, ⟨dy, r', h3, h4⟩, k⟩ := h
    obtain ⟨m0, m1, m2, m3, m4, m5, m6, m7⟩ := M
    walk_at "rd"

abbrev sp_order (C : Addr) : Sp := U.sp2 fun a b H Q _ => ∃ (x y : Addr) (t u : U.Pt), a = .ref x ∧ b = .ref y ∧ U.Mark C H x t ∧ U.Mark C H y u ∧ ∀ H', U.Fr [] H H' → Q (.int (if t.text = u.text then 0 else if PySem.W.dataLt (U.keyD t) (U.keyD u) = true then -1 else 1)) H'
theorem sc_order : FnScope ["one", "other"] ["one", "other"] (defScope s_order) := U.scope_by (by decide +kernel)
theorem ok_order {P : Program} {w : World} {K : PySem.W.Frag} {mg : Str → Option Value} {base : Heap} {f : Addr} {fd : FuncData} {C_Mark : Addr}
    (F : FunD K "order" "order" (defArgs s_order) (defBody s_order) (defScope s_order) [] [] f fd) (B : U.BI mg) (hE : U.EqG P w K mg base 1 C_Mark (sp_Mark___eq__ C_Mark)) (m_Mark_ahead : C8.Met P w K mg base 2 C_Mark "ahead" (sp_Mark_ahead C_Mark) []) :
    FnOk P w K mg base C8.CX0 3 f fd ["one", "other"] (sp_order C_Mark) := by
  have sc := sc_order
  refine F.ok sc (fun vs H Q E h => ?_) (fun cdv A outer s H vs Q E hr h => ⟨_, PSs.nox (pss_cons (ps_if (pt_cmpR (U.eqG hE hr (by decide)) (pv 0) (pv 1) (nomark _)) (pss_one (ps_ret pe_int)) pss_nil)
      (pss_one (ps_ret (pe_ifExp (pt_val (C8.pe_mt m_Mark_ahead hr (by decide) (pv 0) (pa_cons (pv 1) pa_nil))) (pe_un U.neg pe_int) pe_int)))), ?_⟩)
  · obtain ⟨_, _, rfl, _⟩ := h; rfl
  · obtain ⟨a, b, rfl, x, y, t, u, rfl, rfl, M1, M2, k⟩ := h
    have M1' := M1
    have M2' := M2
    obtain ⟨dx, r, h1, h2⟩ := M1'
    obtain ⟨dy, r', h3, h4⟩ := M2'
    walk_at "rd"
    refine ⟨t, M1, u, M2, ?_⟩
    by_cases e : t.text = u.text
    · simp only [e, if_true]
      have := k H .refl
      simpa [e] using this
    · simp only [e, if_false]
      refine ⟨t, M1, u, M2, fun H' fr => ?_⟩
      have q := k H' fr
      by_cases e2 : PySem.W.dataLt (U.keyD t) (U.keyD u) = true
      · simpa [e, e2] using q
      · simpa [e, e2] using q

abbrev sp_figures_of : Sp := U.sp1 fun a H Q _ => U.optE (U.intOf a) fun i => 0 ≤ i ∧ i < 10 ^ 60 ∧ ∀ H', U.Fr [] H H' → Q (U.sv (U.numL i.toNat)) H'
theorem sc_figures_of : FnScope ["number", "parts", "rest"] ["number"] (defScope s_figures_of) := U.scope_by (by decide +kernel)
theorem ok_figures_of {P : Program} {w : World} {K : PySem.W.Frag} {mg : Str → Option Value} {base : Heap} {f : Addr} {fd : FuncData}
    (F : FunD K "figures_of" "figures_of" (defArgs s_figures_of) (defBody s_figures_of) (defScope s_figures_of) [] [] f fd) (B : U.BI mg) (g_PART : U.GInt mg "PART" 60) :
    FnOk P w K mg base C8.CX0 1 f fd ["number"] (sp_figures_of) := by
  have sc := sc_figures_of
  refine F.ok sc (fun vs H Q E h => ?_) (fun cdv A outer s H vs Q E hr h => ⟨_, PSs.nox (pss_cons (ps_set (i := 1) sc.nd rfl (Or.inl rfl) (pe_lst pa_nil))
      (pss_cons (ps_while PassesOwn.never (pt_cmpR U.ge (pv 0) (pe_op U.pow pe_int pe_int) (nomark _)) (pss_cons (ps_asg (pe_callB U.c_divmod (by rfl) B.divmod_ U.bt_divmod (pa_cons (pv 0) (pa_cons (pe_op U.pow pe_int pe_int) pa_nil))) (pg_tup rfl (pgs_cons (pg_name (i := 0) sc.nd rfl (Or.inl rfl)) (pgs_cons (pg_name (i := 2) sc.nd rfl (Or.inl rfl)) pgs_nil))))
      (pss_one (ps_expr (U.pe_l PySem.F.slot_list_append PySem.F.type_list_append U.m_append (pv 1) (pa_cons (U.pe_s PySem.F.slot_str_zfill PySem.F.type_str_zfill U.m_zfill (pe_callTy U.c_str (by rfl) B.str_ U.bt_str (pa_cons (pv 2) pa_nil)) (pa_cons (U.pe_gi rfl g_PART) pa_nil)) pa_nil))))))
      (pss_cons (ps_expr (U.pe_l PySem.F.slot_list_append PySem.F.type_list_append U.m_append (pv 1) (pa_cons (pe_callTy U.c_str (by rfl) B.str_ U.bt_str (pa_cons (pv 0) pa_nil)) pa_nil)))
      (pss_one (ps_ret (U.pe_s PySem.F.slot_str_join PySem.F.type_str_join U.m_join (U.pe_s' [] (by decide +kernel)) (pa_cons (pe_revL (pv 1)) pa_nil))))))), ?_⟩)
  · obtain ⟨_, rfl, _⟩ := h; rfl
  · obtain ⟨t, rfl, i, ht, h0, h1, k⟩ := h
    cases U.intOf_eq ht
    walk_at "rd"
    refine ⟨by rw [U.sizeL]; decide, fun p hp => U.while_no fun R => ?_⟩
    have h2 : ¬ (10 : Int) ^ (60 : Nat) ≤ i := by omega
    have h3 := U.lt1900 h1
    have h4 : (U.numL i.toNat).length ≤ 60 := U.num_len h0 (by decide) h1
    walk_at "rd"
    refine ⟨U.pow_ok, ?_⟩
    rw [if_neg (by exact h2)]
    refine ⟨by decide, ?_⟩
    refine U.rev_at (q := p) rfl upd_same fun r hr => ?_
    walk_at "rd"
    refine U.optE_of (a := [U.numL i.toNat]) rfl ⟨by simp; omega, ?_⟩
    exact k _ ((U.fr1 hp).new hr)

abbrev sp_Mark_text_of (C : Addr) : Sp := U.sp1 fun s H Q _ => ∃ (x : Addr) (t : U.Pt) (r dx : Addr), s = .ref x ∧ H x = some (.ins C dx (U.mF6 t r)) ∧ H r = some (.tup (t.ms.map U.sv)) ∧ t.Ok ∧ ∀ H', U.Fr [] H H' → Q (U.sv t.text) H'
theorem sc_Mark_text_of : FnScope ["self", "words"] ["self"] (defScope s_Mark_text_of) := U.scope_by (by decide +kernel)
theorem ok_Mark_text_of {P : Program} {w : World} {K : PySem.W.Frag} {mg : Str → Option Value} {base : Heap} {f : Addr} {fd : FuncData} {C_Mark : Addr}
    (F : FunD K "text_of" "Mark.text_of" (defArgs s_Mark_text_of) (defBody s_Mark_text_of) (defScope s_Mark_text_of) [] [] f fd) (B : U.BI mg) (M : U.MkC K C_Mark) (c_figures_of : C8.Cal P w K mg base 1 "figures_of" (sp_figures_of) []) :
    FnOk P w K mg base C8.CX0 2 f fd ["self"] (sp_Mark_text_of C_Mark) := by
  have sc := sc_Mark_text_of
  refine F.ok sc (fun vs H Q E h => ?_) (fun cdv A outer s H vs Q E hr h => ⟨_, PSs.nox (pss_cons (ps_set (i := 1) sc.nd rfl (Or.inl rfl) (pe_lst (pa_cons (U.pe_jn (PJ.cons (U.pe_fm (pe_fld (pv 0) rfl)) (PJ.cons (U.pe_fm (pe_fld (pv 0) rfl)) PJ.nil)) (List.forall_mem_cons.mpr ⟨(U.mono_fmt (U.mono_fld U.mono_var)), (List.forall_mem_cons.mpr ⟨(U.mono_fmt (U.mono_fld U.mono_var)), (fun _ z => nomatch z)⟩)⟩)) pa_nil)))
      (pss_cons (ps_if (pt_cmpR U.ne (pe_fld (pv 0) rfl) (U.pe_s' [] (by decide +kernel)) (nomark _)) (pss_one (ps_augS (pv 1) pe_int U.getL (pe_op U.add (U.pe_s' [46] (by decide +kernel)) (pe_fld (pv 0) rfl)) U.ip_add U.setL)) pss_nil)
      (pss_cons (ps_expr (U.pe_l PySem.F.slot_list_extend PySem.F.type_list_extend U.m_extend (pv 1) (pa_cons (pe_fld (pv 0) rfl) pa_nil)))
      (pss_cons (ps_if (pt_cmpR U.isNot (pe_fld (pv 0) rfl) pe_non (nomark _)) (pss_one (ps_expr (U.pe_l PySem.F.slot_list_append PySem.F.type_list_append U.m_append (pv 1) (pa_cons (pe_callTy U.c_str (by rfl) B.str_ U.bt_str (pa_cons (pe_fld (pv 0) rfl) pa_nil)) pa_nil)))) pss_nil)
      (pss_cons (ps_if (pt_cmpR U.isNot (pe_fld (pv 0) rfl) pe_non (nomark _)) (pss_one (ps_expr (U.pe_l PySem.F.slot_list_append PySem.F.type_list_append U.m_append (pv 1) (pa_cons (pe_op U.add (U.pe_s' [99, 46] (by decide +kernel)) (C8.pe_c c_figures_of hr (by decide) rfl (pa_cons (pe_fld (pv 0) rfl) pa_nil))) pa_nil)))) pss_nil)
      (pss_one (ps_ret (U.pe_s PySem.F.slot_str_join PySem.F.type_str_join U.m_join (U.pe_s' [32] (by decide +kernel)) (pa_cons (pv 1) pa_nil))))))))), ?_⟩)
  · obtain ⟨_, rfl, _⟩ := h; rfl
  · obtain ⟨s', rfl, x, t, r, dx, rfl, hx, hr', ok, k⟩ := h
    obtain ⟨m0, m1, m2, m3, m4, m5, m6, m7⟩ := M
    have a1 := ok.ll
    have a2 := ok.nl
    have a3 := ok.n1
    have a4 := ok.n2
    have a5 := ok.pl
    have a6 := ok.join
    have a7 := ok.mn
    have a8 := ok.y
    have a9 := ok.c
    have b1 : t.n < 2 ^ 1900 := U.lt1900 (by omega)
    walk_at "rd"
    refine ⟨by omega, by omega, by omega, by omega, by rw [U.sizeL]; decide, fun p hp => ?_⟩
    have ex : ∀ o, upd H p o x = some (.ins C_Mark dx (U.mF6 t r)) := fun o => U.upd_old2 hp hx
    have er : ∀ o, upd H p o r = some (.tup (t.ms.map U.sv)) := fun o => U.upd_old2 hp hr'
    have ew := U.strsOf_map t.ws
    have e1 : (t.ms.map U.sv).length = t.ms.length := List.length_map ..
    obtain ⟨l, n, pp, ms, y, c⟩ := t
    dsimp only at *
    by_cases hp0 : pp = []
    · cases y with
      | none =>
        cases c with
        | none =>
          walk_at "rd"
          exact ⟨by walk_at "om", U.txt_fin ok _ (by simp [U.Pt.ws, U.Pt.w0, hp0]) (k _ (U.fr1 hp))⟩
        | some c =>
          obtain ⟨c1, c2⟩ := a9 c rfl
          have c3 : (U.numL c.toNat).length ≤ 60 := U.num_len (by omega) (by decide) c2
          walk_at "rd"
          refine ⟨by walk_at "om", by omega, by exact c2, fun H' fr => ?_⟩
          have e' := fr.get (by simp) upd_same
          walk_at "rd"
          exact ⟨by walk_at "om", by walk_at "om", U.txt_fin ok _ (by simp [U.Pt.ws, U.Pt.w0, hp0]) (k _ (((U.fr1 hp).trans fr).own (.inr hp)))⟩
      | some y =>
        obtain ⟨y1, y2⟩ := a8 y rfl
        have y3 : y < 2 ^ 1900 := U.lt1900 (by omega)
        cases c with
        | none =>
          walk_at "rd"
          exact ⟨by walk_at "om", by omega, by walk_at "om", U.txt_fin ok _ (by simp [U.Pt.ws, U.Pt.w0, hp0]) (k _ (U.fr1 hp))⟩
        | some c =>
          obtain ⟨c1, c2⟩ := a9 c rfl
          have c3 : (U.numL c.toNat).length ≤ 60 := U.num_len (by omega) (by decide) c2
          walk_at "rd"
          refine ⟨by walk_at "om", by omega, by walk_at "om", by omega, by exact c2, fun H' fr => ?_⟩
          have e' := fr.get (by simp) upd_same
          walk_at "rd"
          exact ⟨by walk_at "om", by walk_at "om", U.txt_fin ok _ (by simp [U.Pt.ws, U.Pt.w0, hp0]) (k _ (((U.fr1 hp).trans fr).own (.inr hp)))⟩
    · cases y with
      | none =>
        cases c with
        | none =>
          walk_at "rd"
          exact ⟨by walk_at "om", by walk_at "om", by walk_at "om", U.txt_fin ok _ (by simp [U.Pt.ws, U.Pt.w0, hp0]) (k _ (U.fr1 hp))⟩
        | some c =>
          obtain ⟨c1, c2⟩ := a9 c rfl
          have c3 : (U.numL c.toNat).length ≤ 60 := U.num_len (by omega) (by decide) c2
          walk_at "rd"
          refine ⟨by walk_at "om", by walk_at "om", by walk_at "om", by omega, by exact c2, fun H' fr => ?_⟩
          have e' := fr.get (by simp) upd_same
          walk_at "rd"
          exact ⟨by walk_at "om", by walk_at "om", U.txt_fin ok _ (by simp [U.Pt.ws, U.Pt.w0, hp0]) (k _ (((U.fr1 hp).trans fr).own (.inr hp)))⟩
      | some y =>
        obtain ⟨y1, y2⟩ := a8 y rfl
        have y3 : y < 2 ^ 1900 := U.lt1900 (by omega)
        cases c with
        | none =>
          walk_at "rd"
          exact ⟨by walk_at "om", by walk_at "om", by walk_at "om", by omega, by walk_at "om", U.txt_fin ok _ (by simp [U.Pt.ws, U.Pt.w0, hp0]) (k _ (U.fr1 hp))⟩
        | some c =>
          obtain ⟨c1, c2⟩ := a9 c rfl
          have c3 : (U.numL c.toNat).length ≤ 60 := U.num_len (by omega) (by decide) c2
          walk_at "rd"
          refine ⟨by walk_at "om", by walk_at "om", by walk_at "om", by omega, by walk_at "om", by omega, by exact c2, fun H' fr => ?_⟩
          have e' := fr.get (by simp) upd_same
          walk_at "rd"
          exact ⟨by walk_at "om", by walk_at "om", U.txt_fin ok _ (by simp [U.Pt.ws, U.Pt.w0, hp0]) (k _ (((U.fr1 hp).trans fr).own (.inr hp)))⟩

/-- a whole number from l on, up to hi -/
def isWhole (t l : Int) (hi : V) : Bool := match hi with
  | .int h => decide (l ≤ t) && decide (t ≤ h)
  | _ => decide (l ≤ t)
abbrev sp_is_whole : Sp := U.sp3 fun t lo hi H Q _ => U.optE (U.intOf t) fun i => U.optE (U.intOf lo) fun l => (hi = .non ∨ (U.intOf hi).isSome = true) ∧ Q (.bl (isWhole i l hi)) H
theorem sc_is_whole : FnScope ["thing", "low", "high"] ["thing", "low", "high"] (defScope s_is_whole) := U.scope_by (by decide +kernel)
theorem ok_is_whole {P : Program} {w : World} {K : PySem.W.Frag} {mg : Str → Option Value} {base : Heap} {f : Addr} {fd : FuncData}
    (F : FunD K "is_whole" "is_whole" (defArgs s_is_whole) (defBody s_is_whole) (defScope s_is_whole) [.non] [] f fd) (B : U.BI mg)  :
    FnOk P w K mg base C8.CX0 1 f fd ["thing", "low", "high"] (sp_is_whole) := by
  have sc := sc_is_whole
  refine F.ok sc (fun vs H Q E h => ?_) (fun cdv A outer s H vs Q E hr h => ⟨_, PSs.nox (pss_cons (ps_if (PW.pt (pw_or (pt_not (pt_val (pe_callB U.c_isinstance (by rfl) B.isinstance_ U.bt_isinstance (pa_cons (pv 0) (pa_cons (U.pe_ty rfl B.int_ U.bt_int) pa_nil))))) (pw_or (pt_val (pe_callB U.c_isinstance (by rfl) B.isinstance_ U.bt_isinstance (pa_cons (pv 0) (pa_cons (U.pe_ty rfl B.bool_ U.bt_bool) pa_nil)))) (pw_or1 (pt_cmpR U.lt (pv 0) (pv 1) (nomark _)))))) (pss_one (ps_ret pe_bl)) pss_nil)
      (pss_one (ps_ret (pe_or (pe_cmpR U.is_ (pv 2) pe_non (nomark _)) (pe_one (pe_cmpR U.le (pv 0) (pv 2) (nomark _))))))), ?_⟩)
  · obtain ⟨_, _, _, rfl, _⟩ := h; rfl
  · obtain ⟨t, lo, hi, rfl, i, ht, l, hlo, hh, k⟩ := h
    cases U.intOf_eq ht
    cases U.intOf_eq hlo
    obtain rfl | ⟨h, rfl⟩ : hi = .non ∨ ∃ h, hi = .int h := hh.imp id (fun z => (Option.isSome_iff_exists.mp z).imp fun _ e => U.intOf_eq e)
    all_goals walk_at "rd"
    all_goals by_cases e : i < l
    all_goals simp only [e, if_true, if_false]
    · simpa [isWhole, show ¬ l ≤ i by omega] using k
    · simpa [isWhole, show l ≤ i by omega] using k
    · simpa [isWhole, show ¬ l ≤ i by omega] using k
    · simpa [isWhole, show l ≤ i by omega] using k

abbrev sp_need_copy : Sp := U.sp1 fun y H Q _ => ∃ o : Option Int, y = U.ov o ∧ (∀ i, o = some i → 2 ≤ i) ∧ Q .non H
theorem sc_need_copy : FnScope ["copy"] ["copy"] (defScope s_need_copy) := U.scope_by (by decide +kernel)
theorem ok_need_copy {P : Program} {w : World} {K : PySem.W.Frag} {mg : Str → Option Value} {base : Heap} {f : Addr} {fd : FuncData}
    (F : FunD K "need_copy" "need_copy" (defArgs s_need_copy) (defBody s_need_copy) (defScope s_need_copy) [] [] f fd) (B : U.BI mg) (c_is_whole_d1 : C8.Cal P w K mg base 1 "is_whole" (sp_is_whole) [.non]) :
    FnOk P w K mg base C8.CX0 2 f fd ["copy"] (sp_need_copy) := by
  have sc := sc_need_copy
  refine F.ok sc (fun vs H Q E h => ?_) (fun cdv A outer s H vs Q E hr h => ⟨_, PSs.nox (pss_one (ps_if (PW.pt (pw_and (pt_cmpR U.isNot (pv 0) pe_non (nomark _)) (pw_and1 (pt_not (pt_val (C8.pe_c c_is_whole_d1 hr (by decide) rfl (pa_cons (pv 0) (pa_cons pe_int pa_nil)))))))) (pss_one ps_never) pss_nil)), ?_⟩)
  · obtain ⟨_, rfl, _⟩ := h; rfl
  · obtain ⟨y, rfl, o, rfl, ho, k⟩ := h
    cases o with
    | none => walk_at "rd"
    | some i =>
      have e : isWhole i 2 .non = true := by simp [isWhole]; exact ho i rfl
      walk_at "rd"

abbrev sp_need_year : Sp := U.sp1 fun y H Q _ => ∃ o : Option Int, y = U.ov o ∧ (∀ i, o = some i → 1000 ≤ i ∧ i ≤ 2999) ∧ Q .non H
theorem sc_need_year : FnScope ["year"] ["year"] (defScope s_need_year) := U.scope_by (by decide +kernel)
theorem ok_need_year {P : Program} {w : World} {K : PySem.W.Frag} {mg : Str → Option Value} {base : Heap} {f : Addr} {fd : FuncData}
    (F : FunD K "need_year" "need_year" (defArgs s_need_year) (defBody s_need_year) (defScope s_need_year) [] [] f fd) (B : U.BI mg) (c_is_whole : C8.Cal P w K mg base 1 "is_whole" (sp_is_whole) []) (g_FIRST_YEAR : U.GInt mg "FIRST_YEAR" 1000) (g_LAST_YEAR : U.GInt mg "LAST_YEAR" 2999) :
    FnOk P w K mg base C8.CX0 2 f fd ["year"] (sp_need_year) := by
  have sc := sc_need_year
  refine F.ok sc (fun vs H Q E h => ?_) (fun cdv A outer s H vs Q E hr h => ⟨_, PSs.nox (pss_one (ps_if (PW.pt (pw_and (pt_cmpR U.isNot (pv 0) pe_non (nomark _)) (pw_and1 (pt_not (pt_val (C8.pe_c c_is_whole hr (by decide) rfl (pa_cons (pv 0) (pa_cons (U.pe_gi rfl g_FIRST_YEAR) (pa_cons (U.pe_gi rfl g_LAST_YEAR) pa_nil))))))))) (pss_one ps_never) pss_nil)), ?_⟩)
  · obtain ⟨_, rfl, _⟩ := h; rfl
  · obtain ⟨y, rfl, o, rfl, ho, k⟩ := h
    cases o with
    | none => walk_at "rd"
    | some i =>
      have e : isWhole i 1000 (.int 2999) = true := by simp [isWhole]; exact ho i rfl
      walk_at "rd"

abbrev sp_is_figures : Sp := U.sp1 fun a H Q _ => U.optE (U.strOf a) fun l => l.length ≤ 100000 ∧ ∀ H', U.Fr [] H H' → Q (.bl (U.figsB l)) H'
theorem sc_is_figures : FnScope ["thing", "sign"] ["thing"] (defScope s_is_figures) := U.scope_by (by decide +kernel)
theorem ok_is_figures {P : Program} {w : World} {K : PySem.W.Frag} {mg : Str → Option Value} {base : Heap} {f : Addr} {fd : FuncData}
    (F : FunD K "is_figures" "is_figures" (defArgs s_is_figures) (defBody s_is_figures) (defScope s_is_figures) [] [] f fd) (B : U.BI mg) (g_FIGURES : U.GStr mg "FIGURES" [48, 49, 50, 51, 52, 53, 54, 55, 56, 57]) :
    FnOk P w K mg base C8.CX0 1 f fd ["thing"] (sp_is_figures) := by
  have sc := sc_is_figures
  refine F.ok sc (fun vs H Q E h => ?_) (fun cdv A outer s H vs Q E hr h => ⟨_, PSs.nox (pss_one (ps_ret (pe_and (pe_cmpR U.ne (pv 0) (U.pe_s' [] (by decide +kernel)) (nomark _)) (pe_and (pe_callB (U.c_all rfl) (by rfl) B.all_ U.bt_all (pa_cons (pe_lc (own := [("sign", 1)]) rfl sc.nd (pi_str (pv 0)) (blkOk_by (N := ["thing", "sign"]) (sc := defScope s_is_figures) (own := [("sign", 1)]) (by decide +kernel)) (fun _ _ _ _ _ => (pg_name (i := 1) sc.nd rfl (Or.inl rfl))) (fun _ _ _ _ _ => pts_nil) (fun _ _ _ _ _ => (pe_cmpR U.in_ (pv 1) (U.pe_gs rfl g_FIGURES) rfl))) pa_nil)) (pe_one (pe_cmpR U.ne (pe_ix U.ix (pv 0) (pe_un U.neg pe_int) (fun _ _ => rfl)) (U.pe_s' [48] (by decide +kernel)) (nomark _))))))), ?_⟩)
  · obtain ⟨_, rfl, _⟩ := h; rfl
  · obtain ⟨t, rfl, l, ht, hl, k⟩ := h
    cases U.strOf_eq ht
    walk_at "rd"
    by_cases h1 : l = []
    · rw [if_neg (by simp [h1])]
      have e : U.figsB l = false := by simp [U.figsB, h1]
      rw [← e]
      exact k _ .refl
    · rw [if_pos h1]
      refine U.lc_strs l (fun c => .bl (U.figB c)) (h := ?_)
      walk_at "rd"
      refine ⟨by omega, fun c hc H' R r => r, fun r hr => U.r_all upd_same ?_⟩
      walk_at "rd"
      by_cases h2 : l.all U.figB = true
      · rw [if_pos h2]
        refine ⟨by omega, ?_⟩
        obtain ⟨l', c, rfl⟩ : ∃ l' c, l = l' ++ [c] := ⟨_, _, (List.dropLast_concat_getLast h1).symm⟩
        refine U.optE_of U.atI_last ?_
        have e : U.figsB (l' ++ [c]) = !decide (c = 48) := by
          unfold U.figsB
          rw [h2]
          by_cases hc : c = 48 <;> simp [hc]
        rw [← e]
        exact k _ (U.fr1 hr)
      · rw [if_neg h2]
        have e : U.figsB l = false := by simp [U.figsB, eq_false_of_ne_true h2]
        rw [← e]
        exact k _ (U.fr1 hr)

abbrev sp_is_maker : Sp := U.sp1 fun a H Q _ => U.optE (U.strOf a) fun l => l.length ≤ 100000 ∧ ∀ H', U.Fr [] H H' → Q (.bl (U.makerB l)) H'
theorem sc_is_maker : FnScope ["thing"] ["thing"] (defScope s_is_maker) := U.scope_by (by decide +kernel)
theorem ok_is_maker {P : Program} {w : World} {K : PySem.W.Frag} {mg : Str → Option Value} {base : Heap} {f : Addr} {fd : FuncData}
    (F : FunD K "is_maker" "is_maker" (defArgs s_is_maker) (defBody s_is_maker) (defScope s_is_maker) [] [] f fd) (B : U.BI mg) (c_is_figures : C8.Cal P w K mg base 1 "is_figures" (sp_is_figures) []) (g_LETTERS : U.GStr mg "LETTERS" [97, 98, 99, 100, 101, 102, 103, 104, 105, 106, 107, 108, 109, 110, 111, 112, 113, 114, 115, 116, 117, 118, 119, 120, 121, 122]) :
    FnOk P w K mg base C8.CX0 2 f fd ["thing"] (sp_is_maker) := by
  have sc := sc_is_maker
  refine F.ok sc (fun vs H Q E h => ?_) (fun cdv A outer s H vs Q E hr h => ⟨_, PSs.nox (pss_cons (ps_if (PW.pt (pw_or (pt_not (pt_val (pe_callB U.c_isinstance (by rfl) B.isinstance_ U.bt_isinstance (pa_cons (pv 0) (pa_cons (U.pe_ty rfl B.str_ U.bt_str) pa_nil))))) (pw_or1 (pt_cmpR U.eq (pv 0) (U.pe_s' [] (by decide +kernel)) (nomark _))))) (pss_one (ps_ret pe_bl)) pss_nil)
      (pss_one (ps_ret (pe_and (pe_cmpR U.in_ (pe_ix U.ix (pv 0) pe_int (fun _ _ => rfl)) (U.pe_gs rfl g_LETTERS) rfl) (pe_one (C8.pe_c c_is_figures hr (by decide) rfl (pa_cons (pe_slice U.sl (pv 0) (po_some pe_int) po_none) pa_nil))))))), ?_⟩)
  · obtain ⟨_, rfl, _⟩ := h; rfl
  · obtain ⟨t, rfl, l, ht, hl, k⟩ := h
    cases U.strOf_eq ht
    walk_at "rd"
    cases l with
    | nil => exact k _ .refl
    | cons c l =>
      rw [if_neg (by simp)]
      have hz : (c :: l).length = l.length + 1 := rfl
      refine ⟨by omega, U.optE_of U.atI_0 ?_⟩
      by_cases h1 : c ∈ [97, 98, 99, 100, 101, 102, 103, 104, 105, 106, 107, 108, 109, 110, 111, 112, 113, 114, 115, 116, 117, 118, 119, 120, 121, 122]
      · rw [if_pos h1]
        rw [U.cut_from1]
        refine ⟨by omega, by omega, ?_⟩
        have e : U.makerB (c :: l) = U.figsB l := by
          simp only [U.makerB, U.lowB, decide_eq_true h1, Bool.true_and]
        rw [← e]
        exact k
      · rw [if_neg h1]
        have e : U.makerB (c :: l) = false := by
          simp only [U.makerB, U.lowB, decide_eq_false h1, Bool.false_and]
        rw [← e]
        exact k _ .refl

abbrev sp_makers_in : Sp := U.sp1 fun m H Q _ => ∃ (q : Addr) (ms : List (List Nat)), m = .ref q ∧ H q = some (.lst (ms.map U.sv)) ∧ ms.length ≤ 3 ∧ (∀ m ∈ ms, U.makerB m = true ∧ m.length ≤ 1000) ∧
  ∀ H' r, U.Fr [] H H' → H' r = some (.tup (ms.map U.sv)) → Q (.ref r) H'
theorem sc_makers_in : FnScope ["makers", "maker"] ["makers"] (defScope s_makers_in) := U.scope_by (by decide +kernel)
theorem ok_makers_in {P : Program} {w : World} {K : PySem.W.Frag} {mg : Str → Option Value} {base : Heap} {f : Addr} {fd : FuncData}
    (F : FunD K "makers_in" "makers_in" (defArgs s_makers_in) (defBody s_makers_in) (defScope s_makers_in) [] [] f fd) (B : U.BI mg) (c_is_maker : C8.Cal P w K mg base 2 "is_maker" (sp_is_maker) []) (g_MOST_MAKERS : U.GInt mg "MOST_MAKERS" 3) :
    FnOk P w K mg base C8.CX0 3 f fd ["makers"] (sp_makers_in) := by
  have sc := sc_makers_in
  refine F.ok sc (fun vs H Q E h => ?_) (fun cdv A outer s H vs Q E hr h => ⟨_, PSs.nox (pss_cons (ps_if (pt_cmpR U.is_ (pv 0) pe_non (nomark _)) (pss_one (ps_ret (pe_tup pa_nil))) pss_nil)
      (pss_cons (ps_if (PW.pt (pw_or (pt_not (pt_val (pe_callB U.c_isinstance (by rfl) B.isinstance_ U.bt_isinstance (pa_cons (pv 0) (pa_cons (pe_tup (pa_cons (U.pe_ty rfl B.list_ U.bt_list) (pa_cons (U.pe_ty rfl B.tuple_ U.bt_tuple) pa_nil))) pa_nil))))) (pw_or1 (pt_cmpR U.gt (pe_callB U.c_len (by rfl) B.len_ U.bt_len (pa_cons (pv 0) pa_nil)) (U.pe_gi rfl g_MOST_MAKERS) (nomark _))))) (pss_one ps_never) pss_nil)
      (pss_cons (ps_for PassesOwn.never rfl (pi_list (pv 0)) (pg_name (i := 1) sc.nd rfl (Or.inl rfl)) (pss_one (ps_if (pt_not (pt_val (C8.pe_c c_is_maker hr (by decide) rfl (pa_cons (pv 1) pa_nil)))) (pss_one ps_never) pss_nil)))
      (pss_one (ps_ret (pe_callTy U.c_tuple (by rfl) B.tuple_ U.bt_tuple (pa_cons (pv 0) pa_nil))))))), ?_⟩)
  · obtain ⟨_, rfl, _⟩ := h; rfl
  · obtain ⟨m, rfl, q, ms, rfl, hq, hn, hms, k⟩ := h
    walk_at "rd"
    refine ⟨by rw [U.sizeL]; decide, fun p hp => ?_⟩
    have e := U.upd_old2 (o := HO.tup [V.ty "list", V.ty "tuple"]) hp hq
    have e2 : ¬ (3 : Int) < ((ms.map U.sv).length : Nat) := by rw [List.length_map]; omega
    walk_at "rd"
    refine U.r_lst e (fun i σ H' => (∃ o, σ = [some (.ref q), o]) ∧ U.Fr [] (upd H p (HO.tup [V.ty "list", V.ty "tuple"])) H') ⟨⟨_, rfl⟩, .refl⟩ ?_ ?_ ?_
    · rintro i σ H' hi ⟨-, fr⟩
      exact fr.get (by simp) e
    · rintro i x σ H' hx ⟨⟨o, rfl⟩, fr⟩
      rw [List.getElem?_map, Option.map_eq_some_iff] at hx
      obtain ⟨m, hm, rfl⟩ := hx
      obtain ⟨h1, h2⟩ := hms m (List.mem_of_getElem? hm)
      walk_at "rd"
      refine ⟨by omega, fun H2 f2 => ⟨⟨_, rfl⟩, fr.trans f2⟩⟩
    · rintro σ H' ⟨⟨o, rfl⟩, fr⟩
      have e3 := fr.get (by simp) e
      walk_at "rd"
      intro r hr
      exact k _ r ((U.fr1 hp).trans (fr.new hr)) upd_same

abbrev sp_is_points : Sp := U.sp1 fun a H Q _ => U.optE (U.strOf a) fun l => l.length ≤ 100000 ∧ ∀ H', U.Fr [] H H' → Q (.bl (U.pointsB l)) H'
theorem sc_is_points : FnScope ["thing"] ["thing"] (defScope s_is_points) := U.scope_by (by decide +kernel)
theorem ok_is_points {P : Program} {w : World} {K : PySem.W.Frag} {mg : Str → Option Value} {base : Heap} {f : Addr} {fd : FuncData}
    (F : FunD K "is_points" "is_points" (defArgs s_is_points) (defBody s_is_points) (defScope s_is_points) [] [] f fd) (B : U.BI mg) (c_is_figures : C8.Cal P w K mg base 1 "is_figures" (sp_is_figures) []) :
    FnOk P w K mg base C8.CX0 2 f fd ["thing"] (sp_is_points) := by
  have sc := sc_is_points
  refine F.ok sc (fun vs H Q E h => ?_) (fun cdv A outer s H vs Q E hr h => ⟨_, PSs.nox (pss_one (ps_ret (pe_and (pe_callB U.c_isinstance (by rfl) B.isinstance_ U.bt_isinstance (pa_cons (pv 0) (pa_cons (U.pe_ty rfl B.str_ U.bt_str) pa_nil))) (pe_one (pe_or (pe_cmpR U.eq (pv 0) (U.pe_s' [] (by decide +kernel)) (nomark _)) (pe_one (C8.pe_c c_is_figures hr (by decide) rfl (pa_cons (pv 0) pa_nil)))))))), ?_⟩)
  · obtain ⟨_, rfl, _⟩ := h; rfl
  · obtain ⟨t, rfl, l, ht, hl, k⟩ := h
    cases U.strOf_eq ht
    walk_at "rd"
    by_cases h1 : l = []
    · rw [if_pos h1]
      have e : U.pointsB l = true := by simp [U.pointsB, h1]
      rw [← e]
      exact k _ .refl
    · rw [if_neg h1]
      have e : U.pointsB l = U.figsB l := by simp [U.pointsB, h1]
      rw [← e]
      exact k

abbrev sp_is_name : Sp := U.sp1 fun a H Q _ => U.optE (U.strOf a) fun l => l.length ≤ 100000 ∧ ∀ H', U.Fr [] H H' → Q (.bl (U.nameB l)) H'
theorem sc_is_name : FnScope ["thing", "sign"] ["thing"] (defScope s_is_name) := U.scope_by (by decide +kernel)
theorem ok_is_name {P : Program} {w : World} {K : PySem.W.Frag} {mg : Str → Option Value} {base : Heap} {f : Addr} {fd : FuncData}
    (F : FunD K "is_name" "is_name" (defArgs s_is_name) (defBody s_is_name) (defScope s_is_name) [] [] f fd) (B : U.BI mg) (g_LETTERS : U.GStr mg "LETTERS" [97, 98, 99, 100, 101, 102, 103, 104, 105, 106, 107, 108, 109, 110, 111, 112, 113, 114, 115, 116, 117, 118, 119, 120, 121, 122]) (g_LONGEST : U.GInt mg "LONGEST" 6) :
    FnOk P w K mg base C8.CX0 1 f fd ["thing"] (sp_is_name) := by
  have sc := sc_is_name
  refine F.ok sc (fun vs H Q E h => ?_) (fun cdv A outer s H vs Q E hr h => ⟨_, PSs.nox (pss_cons (ps_if (PW.pt (pw_or (pt_not (pt_val (pe_callB U.c_isinstance (by rfl) B.isinstance_ U.bt_isinstance (pa_cons (pv 0) (pa_cons (U.pe_ty rfl B.str_ U.bt_str) pa_nil))))) (pw_or1 (pt_not (pt_chain U.le U.le pe_int (pe_callB U.c_len (by rfl) B.len_ U.bt_len (pa_cons (pv 0) pa_nil)) (U.pe_gi rfl g_LONGEST)))))) (pss_one (ps_ret pe_bl)) pss_nil)
      (pss_one (ps_ret (pe_callB (U.c_all rfl) (by rfl) B.all_ U.bt_all (pa_cons (pe_lc (own := [("sign", 1)]) rfl sc.nd (pi_str (pv 0)) (blkOk_by (N := ["thing", "sign"]) (sc := defScope s_is_name) (own := [("sign", 1)]) (by decide +kernel)) (fun _ _ _ _ _ => (pg_name (i := 1) sc.nd rfl (Or.inl rfl))) (fun _ _ _ _ _ => pts_nil) (fun _ _ _ _ _ => (pe_cmpR U.in_ (pv 1) (U.pe_gs rfl g_LETTERS) rfl))) pa_nil))))), ?_⟩)
  · obtain ⟨_, rfl, _⟩ := h; rfl
  · obtain ⟨t, rfl, l, ht, hl, k⟩ := h
    cases U.strOf_eq ht
    walk_at "rd"
    refine ⟨by omega, ?_⟩
    by_cases h1 : 1 ≤ l.length
    · rw [if_pos (by omega)]
      by_cases h2 : l.length ≤ 6
      · rw [if_neg (by omega)]
        refine U.lc_strs l (fun c => .bl (U.lowB c)) (h := ?_)
        walk_at "rd"
        refine ⟨by omega, fun c hc H' R r => r, fun r hr => U.r_all upd_same ?_⟩
        have e : U.nameB l = l.all U.lowB := by simp [U.nameB, h1, h2]
        rw [← e]
        exact k _ (U.fr1 hr)
      · rw [if_pos (by omega)]
        have e : U.nameB l = false := by simp [U.nameB, h2]
        rw [← e]
        exact k _ .refl
    · rw [if_neg (by omega)]
      have e : U.nameB l = false := by simp [U.nameB, h1]
      rw [← e]
      exact k _ .refl

abbrev sp_is_letters : Sp := U.sp1 fun a H Q _ => U.optE (U.strOf a) fun l => l.length ≤ 100000 ∧ ∀ H', U.Fr [] H H' → Q (.bl (U.lettersB l)) H'
theorem sc_is_letters : FnScope ["thing"] ["thing"] (defScope s_is_letters) := U.scope_by (by decide +kernel)
theorem ok_is_letters {P : Program} {w : World} {K : PySem.W.Frag} {mg : Str → Option Value} {base : Heap} {f : Addr} {fd : FuncData}
    (F : FunD K "is_letters" "is_letters" (defArgs s_is_letters) (defBody s_is_letters) (defScope s_is_letters) [] [] f fd) (B : U.BI mg) (c_is_name : C8.Cal P w K mg base 1 "is_name" (sp_is_name) []) :
    FnOk P w K mg base C8.CX0 2 f fd ["thing"] (sp_is_letters) := by
  have sc := sc_is_letters
  refine F.ok sc (fun vs H Q E h => ?_) (fun cdv A outer s H vs Q E hr h => ⟨_, PSs.nox (pss_one (ps_ret (pe_and (C8.pe_c c_is_name hr (by decide) rfl (pa_cons (pv 0) pa_nil)) (pe_one (pe_cmpR U.le (pe_callB U.c_len (by rfl) B.len_ U.bt_len (pa_cons (pv 0) pa_nil)) pe_int (nomark _)))))), ?_⟩)
  · obtain ⟨_, rfl, _⟩ := h; rfl
  · obtain ⟨t, rfl, l, ht, hl, k⟩ := h
    cases U.strOf_eq ht
    walk_at "rd"
    intro H' fr
    by_cases h1 : U.nameB l = true
    · rw [if_pos h1]
      refine ⟨by omega, ?_⟩
      have e : U.lettersB l = decide ((l.length : Int) ≤ 3) := by
        unfold U.lettersB
        rw [h1, Bool.true_and]
        exact decide_eq_decide.mpr (by omega)
      rw [← e]
      exact k _ fr
    · rw [if_neg h1]
      have e : U.lettersB l = false := by simp [U.lettersB, eq_false_of_ne_true h1]
      rw [← e]
      exact k _ fr

abbrev sp_Mark___init__ (C : Addr) : Sp := U.sp7 fun s l n p m y c H Q _ => ∃ (t : U.Pt) (x q dx : Addr), s = .ref x ∧ l = U.sv t.l ∧ n = .int t.n ∧ p = U.sv t.p ∧ m = .ref q ∧ y = U.ov t.y ∧ c = U.ov t.c ∧ t.Ok ∧
  H x = some (.ins C dx []) ∧ H q = some (.lst (t.ms.map U.sv)) ∧ ∀ H', U.Fr [x] H H' → U.Mark C H' x t → Q .non H'
theorem sc_Mark___init__ : FnScope ["self", "letters", "number", "points", "makers", "year", "copy"] ["self", "letters", "number", "points", "makers", "year", "copy"] (defScope s_Mark___init__) := U.scope_by (by decide +kernel)
theorem ok_Mark___init__ {P : Program} {w : World} {K : PySem.W.Frag} {mg : Str → Option Value} {base : Heap} {f : Addr} {fd : FuncData} {C_Mark : Addr}
    (F : FunD K "__init__" "Mark.__init__" (defArgs s_Mark___init__) (defBody s_Mark___init__) (defScope s_Mark___init__) [(.str ""), .non, .non, .non] [] f fd) (B : U.BI mg) (M : U.MkC K C_Mark) (c_is_letters : C8.Cal P w K mg base 2 "is_letters" (sp_is_letters) []) (c_is_points : C8.Cal P w K mg base 2 "is_points" (sp_is_points) []) (c_is_whole : C8.Cal P w K mg base 1 "is_whole" (sp_is_whole) []) (c_makers_in : C8.Cal P w K mg base 3 "makers_in" (sp_makers_in) []) (c_need_copy : C8.Cal P w K mg base 2 "need_copy" (sp_need_copy) []) (c_need_year : C8.Cal P w K mg base 2 "need_year" (sp_need_year) []) (g_GREATEST : U.GInt mg "GREATEST" 9999) (m_Mark_text_of : C8.Met P w K mg base 2 C_Mark "text_of" (sp_Mark_text_of C_Mark) []) :
    FnOk P w K mg base C8.CX0 4 f fd ["self", "letters", "number", "points", "makers", "year", "copy"] (sp_Mark___init__ C_Mark) := by
  have sc := sc_Mark___init__
  refine F.ok sc (fun vs H Q E h => ?_) (fun cdv A outer s H vs Q E hr h => ⟨_, PSs.nox (pss_cons (ps_if (pt_not (pt_val (C8.pe_c c_is_letters hr (by decide) rfl (pa_cons (pv 1) pa_nil)))) (pss_one ps_never) pss_nil)
      (pss_cons (ps_if (pt_not (pt_val (C8.pe_c c_is_whole hr (by decide) rfl (pa_cons (pv 2) (pa_cons pe_int (pa_cons (U.pe_gi rfl g_GREATEST) pa_nil)))))) (pss_one ps_never) pss_nil)
      (pss_cons (ps_if (pt_not (pt_val (C8.pe_c c_is_points hr (by decide) rfl (pa_cons (pv 3) pa_nil)))) (pss_one ps_never) pss_nil)
      (pss_cons (ps_fld (pv 0) (C8.pe_c c_makers_in hr (by decide) rfl (pa_cons (pv 4) pa_nil)) rfl)
      (pss_cons (ps_expr (C8.pe_c c_need_year hr (by decide) rfl (pa_cons (pv 5) pa_nil)))
      (pss_cons (ps_expr (C8.pe_c c_need_copy hr (by decide) rfl (pa_cons (pv 6) pa_nil)))
      (pss_cons (ps_fld (pv 0) (pv 1) rfl)
      (pss_cons (ps_fld (pv 0) (pv 2) rfl)
      (pss_cons (ps_fld (pv 0) (pv 3) rfl)
      (pss_cons (ps_fld (pv 0) (pv 5) rfl)
      (pss_cons (ps_fld (pv 0) (pv 6) rfl)
      (pss_one (ps_fld (pv 0) (C8.pe_mt0 m_Mark_text_of hr (by decide) (pv 0)) rfl))))))))))))), ?_⟩)
  · obtain ⟨_, _, _, _, _, _, _, rfl, _⟩ := h; rfl
  · obtain ⟨s', l, n, p, m, y, c, rfl, t, x, q, dx, rfl, rfl, rfl, rfl, rfl, rfl, rfl, ok, hx, hq, k⟩ := h
    obtain ⟨m0, m1, m2, m3, m4, m5, m6, m7⟩ := M
    have o1 := ok.l
    have o2 := ok.p
    have o3 : isWhole t.n 1 (.int 9999) = true := by
      have := ok.n1
      have := ok.n2
      simp only [isWhole, Bool.and_eq_true, decide_eq_true_eq]; omega
    have o4 := ok.ll
    have o5 := ok.pl
    walk_at "rd"
    refine ⟨by omega, fun H1 f1 => ⟨by omega, fun H2 f2 => ⟨t.ms, ?_, ok.mn, ok.ms, fun H3 r f3 hr3 => ?_⟩⟩⟩
    · exact f2.get (by simp) (f1.get (by simp) hq)
    have hx3 := f3.get (by simp) (f2.get (by simp) (f1.get (by simp) hx))
    have hrx : r ≠ x := fun z => by rw [z, hx3] at hr3; cases hr3
    walk_at "rd"
    refine ⟨by decide, t.y, rfl, ok.y, t.c, rfl, fun i hi => (ok.c i hi).1, t, r, ⟨dx, rfl⟩, ?_, ok, fun H4 f4 => ?_⟩
    · rw [upd_ne hrx]; exact hr3
    have hx4 := f4.get (by simp) upd_same
    have hr4 := f4.get (b := r) (by simp) (by rw [upd_ne hrx]; exact hr3)
    walk_at "rd"
    refine k _ ?_ ⟨dx, r, upd_same, by rw [upd_ne hrx]; exact hr4⟩
    have g1 : U.Fr [x] H H3 := ((f1.trans f2).trans f3).sub (by simp)
    exact ((g1.own (.inl (by simp))).trans (f4.sub (by simp))).own (.inl (by simp))

abbrev sp__law_mark (C : Addr) : Sp := U.sp1 fun p H Q _ => ∃ (b : Addr) (t : U.Pt), p = .ref b ∧ U.PL H b t ∧ t.Ok ∧ ∀ H' x, U.Fr [] H H' → U.Mark C H' x t → Q (.ref x) H'
theorem sc__law_mark : FnScope ["_law_parts_here"] ["_law_parts_here"] (defScope s__law_mark) := U.scope_by (by decide +kernel)
theorem ok__law_mark {P : Program} {w : World} {K : PySem.W.Frag} {mg : Str → Option Value} {base : Heap} {f : Addr} {fd : FuncData} {C_Mark : Addr}
    (F : FunD K "_law_mark" "_law_mark" (defArgs s__law_mark) (defBody s__law_mark) (defScope s__law_mark) [] [] f fd) (B : U.BI mg) (km_Mark_2_points_makers_year_copy : U.KMak P w K mg base 4 "Mark" C_Mark (sp_Mark___init__ C_Mark) 2 ["points", "makers", "year", "copy"] (fun vs zs => vs ++ zs)) :
    FnOk P w K mg base C8.CX0 6 f fd ["_law_parts_here"] (sp__law_mark C_Mark) := by
  have sc := sc__law_mark
  refine F.ok sc (fun vs H Q E h => ?_) (fun cdv A outer s H vs Q E hr h => ⟨_, PSs.nox (pss_one (ps_ret (U.pe_mkk km_Mark_2_points_makers_year_copy hr (by decide) rfl (pa_cons (pe_ix U.ix (pv 0) pe_int (fun _ _ => rfl)) (pa_cons (pe_ix U.ix (pv 0) pe_int (fun _ _ => rfl)) pa_nil)) (pk_cons (pe_ix U.ix (pv 0) pe_int (fun _ _ => rfl)) (pk_cons (pe_callTy U.c_list (by rfl) B.list_ U.bt_list (pa_cons (pe_ix U.ix (pv 0) pe_int (fun _ _ => rfl)) pa_nil)) (pk_cons (pe_ix U.ix (pv 0) pe_int (fun _ _ => rfl)) (pk_cons (pe_ix U.ix (pv 0) pe_int (fun _ _ => rfl)) pk_nil))))))), ?_⟩)
  · obtain ⟨_, rfl, _⟩ := h; rfl
  · obtain ⟨p, rfl, b, t, rfl, ⟨q, h1, h2⟩, ok, k⟩ := h
    unfold U.partsL at h1
    walk_at "rd"
    intro r hr
    have e1 : ∀ o, upd H r o b = some (.lst [U.sv t.l, .int t.n, U.sv t.p, .ref q, U.ov t.y, U.ov t.c]) := fun o => U.upd_old2 hr h1
    walk_at "rd"
    intro x dx hx hdx hne
    have nx : x ≠ r := by rintro rfl; rw [upd_same] at hx; cases hx
    have nd : dx ≠ r := by rintro rfl; rw [upd_same] at hdx; cases hdx
    have hx0 : H x = none := by rw [upd_ne nx] at hx; exact hx
    refine ⟨t, rfl, rfl, rfl, rfl, rfl, ok, ⟨_, rfl⟩, ?_, fun H' f M => k H' x ?_ M⟩
    · rw [upd_ne nx.symm, upd_ne nd.symm, upd_same]
    · exact (((U.fr1 hr).new hdx).new (by rw [upd_ne hne.symm]; exact hx)).wide f (by simp [hx0])

abbrev sp__law_key : Sp := U.sp1 fun p H Q _ => ∃ (b : Addr) (t : U.Pt), p = .ref b ∧ U.PL H b t ∧ ∀ H' z r, U.Fr [] H H' → H' r = some (.tup (t.ms.map U.sv)) → H' z = some (.tup [U.sv t.l, .int t.n, U.sv t.p, .ref r, .int (t.y.getD 0), .int (t.c.getD 0)]) → Q (.ref z) H'
theorem sc__law_key : FnScope ["_law_parts_here", "_law_age", "_law_twin"] ["_law_parts_here"] (defScope s__law_key) := U.scope_by (by decide +kernel)
theorem ok__law_key {P : Program} {w : World} {K : PySem.W.Frag} {mg : Str → Option Value} {base : Heap} {f : Addr} {fd : FuncData}
    (F : FunD K "_law_key" "_law_key" (defArgs s__law_key) (defBody s__law_key) (defScope s__law_key) [] [] f fd) (B : U.BI mg)  :
    FnOk P w K mg base C8.CX0 1 f fd ["_law_parts_here"] (sp__law_key) := by
  have sc := sc__law_key
  refine F.ok sc (fun vs H Q E h => ?_) (fun cdv A outer s H vs Q E hr h => ⟨_, PSs.nox (pss_cons (ps_set (i := 1) sc.nd rfl (Or.inl rfl) (pe_ifExp (pt_cmpR U.is_ (pe_ix U.ix (pv 0) pe_int (fun _ _ => rfl)) pe_non (nomark _)) pe_int (pe_ix U.ix (pv 0) pe_int (fun _ _ => rfl))))
      (pss_cons (ps_set (i := 2) sc.nd rfl (Or.inl rfl) (pe_ifExp (pt_cmpR U.is_ (pe_ix U.ix (pv 0) pe_int (fun _ _ => rfl)) pe_non (nomark _)) pe_int (pe_ix U.ix (pv 0) pe_int (fun _ _ => rfl))))
      (pss_one (ps_ret (pe_tup (pa_cons (pe_ix U.ix (pv 0) pe_int (fun _ _ => rfl)) (pa_cons (pe_ix U.ix (pv 0) pe_int (fun _ _ => rfl)) (pa_cons (pe_ix U.ix (pv 0) pe_int (fun _ _ => rfl)) (pa_cons (pe_callTy U.c_tuple (by rfl) B.tuple_ U.bt_tuple (pa_cons (pe_ix U.ix (pv 0) pe_int (fun _ _ => rfl)) pa_nil)) (pa_cons (pv 1) (pa_cons (pv 2) pa_nil))))))))))), ?_⟩)
  · obtain ⟨_, rfl, _⟩ := h; rfl
  · obtain ⟨p, rfl, b, t, rfl, ⟨q, h1, h2⟩, k⟩ := h
    unfold U.partsL at h1
    obtain ⟨l, n, pp, ms, y, c⟩ := t
    cases y <;> cases c <;> walk_at "rd"
    all_goals exact fun r hr => ⟨by rw [U.sizeL]; decide, fun z hz => k _ z r ((U.fr1 hr).new hz) (U.upd_old2 hz upd_same) upd_same⟩

abbrev sp__law_order : Sp := U.sp2 fun p o H Q _ => ∃ (b d : Addr) (t u : U.Pt), p = .ref b ∧ o = .ref d ∧ U.PL H b t ∧ U.PL H d u ∧ t.Ok ∧ u.Ok ∧ ∀ H', U.Fr [] H H' → Q (.int (U.due t u)) H'
theorem sc__law_order : FnScope ["_law_fore", "_law_mate"] ["_law_fore", "_law_mate"] (defScope s__law_order) := U.scope_by (by decide +kernel)
theorem ok__law_order {P : Program} {w : World} {K : PySem.W.Frag} {mg : Str → Option Value} {base : Heap} {f : Addr} {fd : FuncData}
    (F : FunD K "_law_order" "_law_order" (defArgs s__law_order) (defBody s__law_order) (defScope s__law_order) [] [] f fd) (B : U.BI mg) (c__law_key : C8.Cal P w K mg base 1 "_law_key" (sp__law_key) []) :
    FnOk P w K mg base C8.CX0 2 f fd ["_law_fore", "_law_mate"] (sp__law_order) := by
  have sc := sc__law_order
  refine F.ok sc (fun vs H Q E h => ?_) (fun cdv A outer s H vs Q E hr h => ⟨_, PSs.nox (pss_cons (ps_if (pt_cmpR (U.eqR hr) (C8.pe_c c__law_key hr (by decide) rfl (pa_cons (pv 0) pa_nil)) (C8.pe_c c__law_key hr (by decide) rfl (pa_cons (pv 1) pa_nil)) (nomark _)) (pss_one (ps_ret pe_int)) pss_nil)
      (pss_one (ps_ret (pe_ifExp (pt_cmpR (U.ltR hr) (C8.pe_c c__law_key hr (by decide) rfl (pa_cons (pv 0) pa_nil)) (C8.pe_c c__law_key hr (by decide) rfl (pa_cons (pv 1) pa_nil)) (nomark _)) (pe_un U.neg pe_int) pe_int)))), ?_⟩)
  · obtain ⟨_, _, rfl, _⟩ := h; rfl
  · obtain ⟨p, o, rfl, b, d, t, u, rfl, rfl, P1, P2, ok1, ok2, k⟩ := h
    walk_at "rd"
    refine ⟨t, P1, fun H1 z1 q1 f1 e1 e2 => ⟨u, P2.fr0 f1, fun H2 z2 q2 f2 e3 e4 => ?_⟩⟩
    refine ⟨U.keyD t, U.keyD u, U.dp_key (f2.get (by simp) e1) (f2.get (by simp) e2), U.dp_key e3 e4, U.shaped_key ok1, U.shaped_key ok2, ?_⟩
    rw [U.eqv_key]
    have f12 := f1.trans f2
    walk_at "rd"
    by_cases e : U.kp t = U.kp u
    · rw [if_pos e]
      have := k _ f12
      unfold U.due at this
      rw [if_pos e] at this
      exact this
    rw [if_neg e]
    refine ⟨t, P1.fr0 f12, fun H3 z3 q3 f3 e5 e6 => ⟨u, P2.fr0 (f12.trans f3), fun H4 z4 q4 f4 e7 e8 => ?_⟩⟩
    refine ⟨U.keyD t, U.keyD u, U.dp_key (f4.get (by simp) e5) (f4.get (by simp) e6), U.dp_key e7 e8, U.alike_key, U.key_ne, U.key_depth, ?_⟩
    have := k _ ((f12.trans f3).trans f4)
    unfold U.due at this
    rw [if_neg e] at this
    walk_at "rd"
    by_cases e2 : PySem.W.dataLt (U.keyD t) (U.keyD u) = true
    · rw [if_pos e2] at this ⊢; exact this
    · rw [if_neg e2] at this ⊢; exact this

abbrev sp__law_both_ways (C : Addr) : Sp := U.sp2 fun p o H Q _ => ∃ (b d : Addr) (t u : U.Pt), p = .ref b ∧ o = .ref d ∧ U.PL H b t ∧ U.PL H d u ∧ t.Ok ∧ u.Ok ∧ ∀ H', U.Fr [] H H' → Q (.bl true) H'
theorem sc__law_both_ways : FnScope ["_law_fore", "_law_mate", "_law_due", "_law_there", "_law_back"] ["_law_fore", "_law_mate"] (defScope s__law_both_ways) := U.scope_by (by decide +kernel)
theorem ok__law_both_ways {P : Program} {w : World} {K : PySem.W.Frag} {mg : Str → Option Value} {base : Heap} {f : Addr} {fd : FuncData} {C_Mark : Addr}
    (F : FunD K "_law_both_ways" "_law_both_ways" (defArgs s__law_both_ways) (defBody s__law_both_ways) (defScope s__law_both_ways) [] [] f fd) (B : U.BI mg) (c__law_mark : C8.Cal P w K mg base 6 "_law_mark" (sp__law_mark C_Mark) []) (c__law_order : C8.Cal P w K mg base 2 "_law_order" (sp__law_order) []) (c__law_whole : C8.Cal P w K mg base 1 "_law_whole" (sp__law_whole) []) (c_order : C8.Cal P w K mg base 3 "order" (sp_order C_Mark) []) :
    FnOk P w K mg base C8.CX0 7 f fd ["_law_fore", "_law_mate"] (sp__law_both_ways C_Mark) := by
  have sc := sc__law_both_ways
  refine F.ok sc (fun vs H Q E h => ?_) (fun cdv A outer s H vs Q E hr h => ⟨_, PSs.nox (pss_cons (ps_set (i := 2) sc.nd rfl (Or.inl rfl) (C8.pe_c c__law_order hr (by decide) rfl (pa_cons (pv 0) (pa_cons (pv 1) pa_nil))))
      (pss_cons (ps_set (i := 3) sc.nd rfl (Or.inl rfl) (C8.pe_c c_order hr (by decide) rfl (pa_cons (C8.pe_c c__law_mark hr (by decide) rfl (pa_cons (pv 0) pa_nil)) (pa_cons (C8.pe_c c__law_mark hr (by decide) rfl (pa_cons (pv 1) pa_nil)) pa_nil))))
      (pss_cons (ps_set (i := 4) sc.nd rfl (Or.inl rfl) (C8.pe_c c_order hr (by decide) rfl (pa_cons (C8.pe_c c__law_mark hr (by decide) rfl (pa_cons (pv 1) pa_nil)) (pa_cons (C8.pe_c c__law_mark hr (by decide) rfl (pa_cons (pv 0) pa_nil)) pa_nil))))
      (pss_one (ps_ret (pe_and (C8.pe_c c__law_whole hr (by decide) rfl (pa_cons (pv 3) pa_nil)) (pe_and (C8.pe_c c__law_whole hr (by decide) rfl (pa_cons (pv 4) pa_nil)) (pe_and (pe_cmpR U.eq (pv 3) (pv 2) (nomark _)) (pe_one (pe_cmpR U.eq (pv 4) (pe_un U.neg (pv 2)) (nomark _))))))))))), ?_⟩)
  · obtain ⟨_, _, rfl, _⟩ := h; rfl
  · obtain ⟨p, o, rfl, b, d, t, u, rfl, rfl, P1, P2, ok1, ok2, k⟩ := h
    have e1 := U.due_text ok1 ok2
    have e2 := U.due_text ok2 ok1
    have e3 := U.due_flip (t := t) (u := u)
    walk_at "rd"
    refine ⟨t, P1, u, P2, ok1, ok2, fun H1 f1 => ⟨t, P1.fr0 f1, ok1, fun H2 x2 f2 M2 => ⟨u, P2.fr0 (f1.trans f2), ok2, fun H3 x3 f3 M3 => ⟨t, M2.fr f3, u, M3, fun H4 f4 => ?_⟩⟩⟩⟩
    have F4 := ((f1.trans f2).trans f3).trans f4
    refine ⟨u, P2.fr0 F4, ok2, fun H5 x5 f5 M5 => ⟨t, P1.fr0 (F4.trans f5), ok1, fun H6 x6 f6 M6 => ⟨u, M5.fr f6, t, M6, fun H7 f7 => ?_⟩⟩⟩
    have F7 := ((F4.trans f5).trans f6).trans f7
    have q := k _ F7
    rw [e1, if_pos rfl, e2, e3, decide_eq_true rfl]
    exact q

abbrev sp__law_take : Sp := U.sp2 fun p s H Q _ => U.optE (U.refOf p) fun a => U.optE (U.intOf s) fun k => U.Pool H a ∧ 0 < k ∧ k < 10 ^ 60 ∧ ∀ r m, 0 ≤ r → r < k → Q (.int r) (upd H a (.lst [.int m]))
theorem sc__law_take : FnScope ["_law_pool_here", "_law_size", "_law_found"] ["_law_pool_here", "_law_size"] (defScope s__law_take) := U.scope_by (by decide +kernel)
theorem ok__law_take {P : Program} {w : World} {K : PySem.W.Frag} {mg : Str → Option Value} {base : Heap} {f : Addr} {fd : FuncData}
    (F : FunD K "_law_take" "_law_take" (defArgs s__law_take) (defBody s__law_take) (defScope s__law_take) [] [] f fd) (B : U.BI mg)  :
    FnOk P w K mg base C8.CX0 1 f fd ["_law_pool_here", "_law_size"] (sp__law_take) := by
  have sc := sc__law_take
  refine F.ok sc (fun vs H Q E h => ?_) (fun cdv A outer s H vs Q E hr h => ⟨_, PSs.nox (pss_cons (ps_set (i := 2) sc.nd rfl (Or.inl rfl) (pe_op U.mod (pe_ix U.ix (pv 0) pe_int (fun _ _ => rfl)) (pv 1)))
      (pss_cons (ps_asg (pe_op U.div (pe_ix U.ix (pv 0) pe_int (fun _ _ => rfl)) (pv 1)) (pg_sub (pv 0) pe_int U.setL))
      (pss_one (ps_ret (pv 2))))), ?_⟩)
  · obtain ⟨_, _, rfl, _⟩ := h; rfl
  · obtain ⟨p, s', rfl, a, hp, k, hs, ⟨n, hn⟩, h0, h1, q⟩ := h
    cases U.refOf_eq hp
    cases U.intOf_eq hs
    walk_at "rd"
    exact ⟨U.lt8000 h1, q _ _ (Int.emod_nonneg _ (by omega)) (Int.emod_lt_of_pos _ h0)⟩

abbrev sp__law_figures : Sp := U.sp2 fun p s H Q _ => U.optE (U.refOf p) fun a => U.optE (U.intOf s) fun k => U.Pool H a ∧ 0 < k ∧ k ≤ 1000 ∧ ∀ l m, U.figsB l = true → l.length ≤ k.toNat → Q (U.sv l) (upd H a (.lst [.int m]))
theorem sc__law_figures : FnScope ["_law_pool_here", "_law_most", "_law_signs", "_law_k"] ["_law_pool_here", "_law_most"] (defScope s__law_figures) := U.scope_by (by decide +kernel)
theorem ok__law_figures {P : Program} {w : World} {K : PySem.W.Frag} {mg : Str → Option Value} {base : Heap} {f : Addr} {fd : FuncData}
    (F : FunD K "_law_figures" "_law_figures" (defArgs s__law_figures) (defBody s__law_figures) (defScope s__law_figures) [] [] f fd) (B : U.BI mg) (c__law_take : C8.Cal P w K mg base 1 "_law_take" (sp__law_take) []) :
    FnOk P w K mg base C8.CX0 2 f fd ["_law_pool_here", "_law_most"] (sp__law_figures) := by
  have sc := sc__law_figures
  refine F.ok sc (fun vs H Q E h => ?_) (fun cdv A outer s H vs Q E hr h => ⟨_, PSs.nox (pss_cons (ps_set (i := 2) sc.nd rfl (Or.inl rfl) (U.pe_s' [] (by decide +kernel)))
      (pss_cons (ps_for PassesOwn.never rfl (pi_range1 rfl B.range_ (pa_cons (C8.pe_c c__law_take hr (by decide) rfl (pa_cons (pv 0) (pa_cons (pv 1) pa_nil))) pa_nil)) (pg_name (i := 3) sc.nd rfl (Or.inl rfl)) (pss_one (ps_set (i := 2) sc.nd rfl (Or.inl rfl) (pe_op U.add (pv 2) (pe_ix U.ix (U.pe_s' [48, 49, 50, 51, 52, 53, 54, 55, 56, 57] (by decide +kernel)) (C8.pe_c c__law_take hr (by decide) rfl (pa_cons (pv 0) (pa_cons pe_int pa_nil))) (fun _ _ => rfl))))))
      (pss_one (ps_ret (pe_op U.add (pv 2) (pe_ix U.ix (U.pe_s' [49, 50, 51, 52, 53, 54, 55, 56, 57] (by decide +kernel)) (C8.pe_c c__law_take hr (by decide) rfl (pa_cons (pv 0) (pa_cons pe_int pa_nil))) (fun _ _ => rfl))))))), ?_⟩)
  · obtain ⟨_, _, rfl, _⟩ := h; rfl
  · obtain ⟨p, s', rfl, a, hp, k, hs, hP, h0, h1, q⟩ := h
    cases U.refOf_eq hp
    cases U.intOf_eq hs
    walk_at "rd"
    refine ⟨by omega, fun r m hr1 hr2 => ?_⟩
    refine U.r_rng (by omega) (by omega) (fun i σ H' => ∃ x o m', H' = upd H a (.lst [.int m']) ∧ σ = [some (.ref a), some (.int k), some (U.sv x), o] ∧ x.length = i ∧ x.all U.figB = true) ⟨[], _, m, rfl, rfl, rfl, rfl⟩ ?_ ?_
    · rintro i σ H' hi ⟨x, o, m', rfl, rfl, hx, ha⟩
      walk_at "rd"
      refine fun r' m2 hr3 hr4 => ?_
      obtain ⟨c, hc, e⟩ := U.atI_in (xs := [48, 49, 50, 51, 52, 53, 54, 55, 56, 57]) hr3 hr4
      refine U.optE_of e ⟨by walk_at "om", ⟨m2, rfl⟩, x ++ [c], rfl, ?_, U.all_snoc ha (U.fig_in hc)⟩
      simp only [List.length_append, List.length_singleton, hx]
    · rintro σ H' ⟨x, o, m', rfl, rfl, hx, ha⟩
      walk_at "rd"
      refine fun r' m2 hr3 hr4 => ?_
      obtain ⟨c, hc, e⟩ := U.atI_in (xs := [49, 50, 51, 52, 53, 54, 55, 56, 57]) hr3 hr4
      refine U.optE_of e ⟨by walk_at "om", q _ _ (U.figs_snoc ha hc) ?_⟩
      simp only [List.length_append, List.length_singleton, hx]
      omega

abbrev sp__law_maker : Sp := U.sp2 fun p s H Q _ => U.optE (U.refOf p) fun a => U.optE (U.intOf s) fun k => U.Pool H a ∧ 0 < k ∧ k ≤ 1000 ∧ ∀ l m, U.makerB l = true → l.length ≤ k.toNat + 1 → Q (U.sv l) (upd H a (.lst [.int m]))
theorem sc__law_maker : FnScope ["_law_pool_here", "_law_most", "_law_letter"] ["_law_pool_here", "_law_most"] (defScope s__law_maker) := U.scope_by (by decide +kernel)
theorem ok__law_maker {P : Program} {w : World} {K : PySem.W.Frag} {mg : Str → Option Value} {base : Heap} {f : Addr} {fd : FuncData}
    (F : FunD K "_law_maker" "_law_maker" (defArgs s__law_maker) (defBody s__law_maker) (defScope s__law_maker) [] [] f fd) (B : U.BI mg) (c__law_figures : C8.Cal P w K mg base 2 "_law_figures" (sp__law_figures) []) (c__law_take : C8.Cal P w K mg base 1 "_law_take" (sp__law_take) []) :
    FnOk P w K mg base C8.CX0 3 f fd ["_law_pool_here", "_law_most"] (sp__law_maker) := by
  have sc := sc__law_maker
  refine F.ok sc (fun vs H Q E h => ?_) (fun cdv A outer s H vs Q E hr h => ⟨_, PSs.nox (pss_cons (ps_set (i := 2) sc.nd rfl (Or.inl rfl) (pe_ix U.ix (U.pe_s' [97, 98, 99, 100, 101, 102, 103, 104, 105, 106, 107, 108, 109, 110, 111, 112, 113, 114, 115, 116, 117, 118, 119, 120, 121, 122] (by decide +kernel)) (C8.pe_c c__law_take hr (by decide) rfl (pa_cons (pv 0) (pa_cons pe_int pa_nil))) (fun _ _ => rfl)))
      (pss_cons (ps_if (pt_cmpR U.eq (C8.pe_c c__law_take hr (by decide) rfl (pa_cons (pv 0) (pa_cons pe_int pa_nil))) pe_int (nomark _)) (pss_one (ps_set (i := 2) sc.nd rfl (Or.inl rfl) (pe_ix U.ix (U.pe_s' [97, 98, 99, 100] (by decide +kernel)) (C8.pe_c c__law_take hr (by decide) rfl (pa_cons (pv 0) (pa_cons pe_int pa_nil))) (fun _ _ => rfl)))) pss_nil)
      (pss_one (ps_ret (pe_op U.add (pv 2) (C8.pe_c c__law_figures hr (by decide) rfl (pa_cons (pv 0) (pa_cons (pv 1) pa_nil)))))))), ?_⟩)
  · obtain ⟨_, _, rfl, _⟩ := h; rfl
  · obtain ⟨p, s', rfl, a, hp, k, hs, hP, h0, h1, q⟩ := h
    cases U.refOf_eq hp
    cases U.intOf_eq hs
    walk_at "rd"
    refine fun r m hr1 hr2 => ?_
    obtain ⟨c, hc, e⟩ := U.atI_in (xs := [97, 98, 99, 100, 101, 102, 103, 104, 105, 106, 107, 108, 109, 110, 111, 112, 113, 114, 115, 116, 117, 118, 119, 120, 121, 122]) hr1 hr2
    refine U.optE_of e fun r2 m2 hr3 hr4 => ?_
    by_cases e2 : r2 = 1
    · rw [if_pos e2]
      refine fun r3 m3 hr5 hr6 => ?_
      obtain ⟨c2, hc2, e3⟩ := U.atI_in (xs := [97, 98, 99, 100]) hr5 hr6
      refine U.optE_of e3 fun l m4 hl hn => ⟨by omega, q _ _ (U.maker_cons (U.low_in (by revert hc2; simp; omega)) hl) ?_⟩
      simp only [List.length_cons]; omega
    · rw [if_neg e2]
      refine fun l m4 hl hn => ⟨by omega, q _ _ (U.maker_cons (U.low_in hc) hl) ?_⟩
      simp only [List.length_cons]; omega

abbrev sp__law_parts : Sp := U.sp1 fun p H Q _ => U.optE (U.refOf p) fun a => U.Pool H a ∧ ∀ H' b t, U.Fr [a] H H' → U.Pool H' a → U.PL H' b t → U.Dr t → H b = none → Q (.ref b) H'
theorem sc__law_parts : FnScope ["_law_pool_here", "_law_most", "_law_letters", "_law_k", "_law_number", "_law_tens", "_law_hands", "_law_age", "_law_twin"] ["_law_pool_here"] (defScope s__law_parts) := U.scope_by (by decide +kernel)
theorem ok__law_parts {P : Program} {w : World} {K : PySem.W.Frag} {mg : Str → Option Value} {base : Heap} {f : Addr} {fd : FuncData}
    (F : FunD K "_law_parts" "_law_parts" (defArgs s__law_parts) (defBody s__law_parts) (defScope s__law_parts) [] [] f fd) (B : U.BI mg) (c__law_figures : C8.Cal P w K mg base 2 "_law_figures" (sp__law_figures) []) (c__law_maker : C8.Cal P w K mg base 3 "_law_maker" (sp__law_maker) []) (c__law_take : C8.Cal P w K mg base 1 "_law_take" (sp__law_take) []) :
    FnOk P w K mg base C8.CX0 4 f fd ["_law_pool_here"] (sp__law_parts) := by
  have sc := sc__law_parts
  refine F.ok sc (fun vs H Q E h => ?_) (fun cdv A outer s H vs Q E hr h => ⟨_, PSs.nox (pss_cons (ps_set (i := 1) sc.nd rfl (Or.inl rfl) (pe_ix U.ix (pe_lst (pa_cons pe_int (pa_cons pe_int (pa_cons pe_int (pa_cons pe_int (pa_cons pe_int (pa_cons pe_int (pa_cons pe_int (pa_cons pe_int pa_nil))))))))) (C8.pe_c c__law_take hr (by decide) rfl (pa_cons (pv 0) (pa_cons pe_int pa_nil))) (fun _ _ => rfl)))
      (pss_cons (ps_set (i := 2) sc.nd rfl (Or.inl rfl) (U.pe_s' [] (by decide +kernel)))
      (pss_cons (ps_for PassesOwn.never rfl (pi_range1 rfl B.range_ (pa_cons (pe_op U.add pe_int (C8.pe_c c__law_take hr (by decide) rfl (pa_cons (pv 0) (pa_cons pe_int pa_nil)))) pa_nil)) (pg_name (i := 3) sc.nd rfl (Or.inl rfl)) (pss_one (ps_set (i := 2) sc.nd rfl (Or.inl rfl) (pe_op U.add (pv 2) (pe_ix U.ix (U.pe_s' [97, 98, 99, 100, 101, 102, 103, 104, 105, 106, 107, 108, 109, 110, 111, 112, 113, 114, 115, 116, 117, 118, 119, 120, 121, 122] (by decide +kernel)) (C8.pe_c c__law_take hr (by decide) rfl (pa_cons (pv 0) (pa_cons pe_int pa_nil))) (fun _ _ => rfl))))))
      (pss_cons (ps_set (i := 4) sc.nd rfl (Or.inl rfl) (pe_op U.add pe_int (C8.pe_c c__law_take hr (by decide) rfl (pa_cons (pv 0) (pa_cons (pe_ix U.ix (pe_lst (pa_cons pe_int (pa_cons pe_int (pa_cons pe_int (pa_cons pe_int pa_nil))))) (C8.pe_c c__law_take hr (by decide) rfl (pa_cons (pv 0) (pa_cons pe_int pa_nil))) (fun _ _ => rfl)) pa_nil)))))
      (pss_cons (ps_set (i := 5) sc.nd rfl (Or.inl rfl) (U.pe_s' [] (by decide +kernel)))
      (C8.pss_cut (ps_if (pt_cmpR U.eq (C8.pe_c c__law_take hr (by decide) rfl (pa_cons (pv 0) (pa_cons pe_int pa_nil))) pe_int (nomark _)) (pss_one (ps_set (i := 5) sc.nd rfl (Or.inl rfl) (C8.pe_c c__law_figures hr (by decide) rfl (pa_cons (pv 0) (pa_cons (pv 1) pa_nil))))) pss_nil)
      (pss_cons (ps_set (i := 6) sc.nd rfl (Or.inl rfl) (pe_lst pa_nil))
      (pss_cons (ps_for PassesOwn.never rfl (pi_range1 rfl B.range_ (pa_cons (C8.pe_c c__law_take hr (by decide) rfl (pa_cons (pv 0) (pa_cons pe_int pa_nil))) pa_nil)) (pg_name (i := 3) sc.nd rfl (Or.inl rfl)) (pss_one (ps_expr (U.pe_l PySem.F.slot_list_append PySem.F.type_list_append U.m_append (pv 6) (pa_cons (C8.pe_c c__law_maker hr (by decide) rfl (pa_cons (pv 0) (pa_cons (pv 1) pa_nil))) pa_nil)))))
      (pss_cons (ps_set (i := 7) sc.nd rfl (Or.inl rfl) pe_non)
      (C8.pss_cut (ps_if (pt_cmpR U.eq (C8.pe_c c__law_take hr (by decide) rfl (pa_cons (pv 0) (pa_cons pe_int pa_nil))) pe_int (nomark _)) (pss_one (ps_set (i := 7) sc.nd rfl (Or.inl rfl) (pe_op U.add pe_int (C8.pe_c c__law_take hr (by decide) rfl (pa_cons (pv 0) (pa_cons pe_int pa_nil)))))) pss_nil)
      (pss_cons (ps_set (i := 8) sc.nd rfl (Or.inl rfl) pe_non)
      (C8.pss_cut (ps_if (pt_cmpR U.eq (C8.pe_c c__law_take hr (by decide) rfl (pa_cons (pv 0) (pa_cons pe_int pa_nil))) pe_int (nomark _)) (pss_one (ps_set (i := 8) sc.nd rfl (Or.inl rfl) (pe_op U.add pe_int (C8.pe_c c__law_take hr (by decide) rfl (pa_cons (pv 0) (pa_cons (pe_ix U.ix (pe_lst (pa_cons pe_int (pa_cons pe_int (pa_cons pe_int (pa_cons (pe_op U.pow pe_int pe_int) pa_nil))))) (C8.pe_c c__law_take hr (by decide) rfl (pa_cons (pv 0) (pa_cons pe_int pa_nil))) (fun _ _ => rfl)) pa_nil)))))) pss_nil)
      (pss_one (ps_ret (pe_lst (pa_cons (pv 2) (pa_cons (pv 4) (pa_cons (pv 5) (pa_cons (pv 6) (pa_cons (pv 7) (pa_cons (pv 8) pa_nil))))))))))))))))))))), ?_⟩)
  · obtain ⟨_, rfl, _⟩ := h; rfl
  · obtain ⟨p, rfl, a, hp, hP, q⟩ := h
    cases U.refOf_eq hp
    walk_at "rd"
    refine ⟨by rw [U.sizeL]; decide, fun r1 hr1 => ?_⟩
    have P1 := fun o => U.Pool.new (o := o) hP hr1
    have n1 := U.Pool.ne hP hr1
    have g1 : ∀ m o, upd (upd H r1 o) a m r1 = some o := fun m o => by rw [upd_ne n1, upd_same]
    walk_at "rd"
    intro r m hk1 hk2
    obtain ⟨most, hmost, e1⟩ := U.atI_in (xs := [V.int 2, V.int 3, V.int 5, V.int 2, V.int 9, V.int 3, V.int 2, V.int 40]) hk1 hk2
    obtain ⟨mo, rfl, hm1, hm2⟩ : ∃ k : Int, most = .int k ∧ 0 < k ∧ k ≤ 40 := by
      simp only [List.mem_cons, List.not_mem_nil, or_false] at hmost
      rcases hmost with rfl | rfl | rfl | rfl | rfl | rfl | rfl | rfl <;> exact ⟨_, rfl, by decide, by decide⟩
    refine U.optE_of e1 fun r2 m2 h3 h4 => ?_
    refine U.r_rng (by omega) (by omega) (fun i σ H' => ∃ l o, σ = [some (.ref a), some (.int mo), some (U.sv l), o, none, none, none, none, none] ∧ l.length = i ∧ l.all U.lowB = true ∧ U.Fr [a] H H' ∧ U.Pool H' a)
      ⟨[], _, rfl, rfl, rfl, (U.Fr.refl.new hr1).own (.inl (by simp)), U.Pool.upd⟩ ?_ ?_
    · rintro i σ H' hi ⟨l, o, rfl, hl, hla, f1, P2⟩
      walk_at "rd"
      refine fun r' m2 hr3 hr4 => ?_
      obtain ⟨c, hc, e⟩ := U.atI_in (xs := [97, 98, 99, 100, 101, 102, 103, 104, 105, 106, 107, 108, 109, 110, 111, 112, 113, 114, 115, 116, 117, 118, 119, 120, 121, 122]) hr3 hr4
      refine U.optE_of e ⟨by walk_at "om", l ++ [c], rfl, by simp [hl], U.all_snoc hla (U.low_in hc), f1.own (.inl (by simp))⟩
    rintro σ H1 ⟨l, o, rfl, hl, hla, f1, P2⟩
    have hll : U.lettersB l = true := U.letters_of hla (by omega) (by omega)
    clear P1 n1 g1
    walk_at "rd"
    refine ⟨by rw [U.sizeL]; decide, fun r1 hr1 => ?_⟩
    have P1 := fun o => U.Pool.new (o := o) P2 hr1
    have n1 := U.Pool.ne P2 hr1
    have g1 : ∀ m o, upd (upd H1 r1 o) a m r1 = some o := fun m o => by rw [upd_ne n1, upd_same]
    have f2 : ∀ o m, U.Fr [a] H (upd (upd H1 r1 o) a m) := fun o m => (f1.new hr1).own (.inl (by simp))
    walk_at "rd"
    intro r m hk1 hk2
    obtain ⟨most, hmost, e1⟩ := U.atI_in (xs := [V.int 9, V.int 99, V.int 999, V.int 9999]) hk1 hk2
    obtain ⟨nn, rfl, hm3, hm4⟩ : ∃ k : Int, most = .int k ∧ 0 < k ∧ k ≤ 9999 := by
      simp only [List.mem_cons, List.not_mem_nil, or_false] at hmost
      rcases hmost with rfl | rfl | rfl | rfl <;> exact ⟨_, rfl, by decide, by decide⟩
    refine U.optE_of e1 ?_
    walk_at "rd"
    refine ⟨by omega, fun r3 m3 h5 h6 => ?_⟩
    generalize hH2 : (upd (upd H1 r1 (HO.lst [V.int 9, V.int 99, V.int 999, V.int 9999])) a (HO.lst [V.int m3])) = H2
    have f3 : U.Fr [a] H H2 := by rw [← hH2]; exact f2 _ _
    have P3 : U.Pool H2 a := by rw [← hH2]; exact U.Pool.upd
    refine ⟨fun σ' H' => ∃ p, σ' = [some (.ref a), some (.int mo), some (U.sv l), o, some (.int (1 + r3)), some (U.sv p), none, none, none] ∧ U.pointsB p = true ∧ p.length ≤ 40 ∧ U.Fr [a] H H' ∧ U.Pool H' a, ?_, ?_⟩
    · walk_at "rd"
      refine fun r m h7 h8 => ?_
      by_cases e2 : r = 1
      · rw [if_pos e2]
        refine ⟨by omega, fun fl m' hf hfl => ⟨fl, rfl, ?_, by omega, f3.own (.inl (by simp))⟩⟩
        simp [U.pointsB, hf]
      · rw [if_neg e2]
        exact ⟨[], rfl, rfl, by simp, f3.own (.inl (by simp))⟩
    rintro σ' H3 ⟨pp, rfl, hpp, hpl, f4, P4⟩
    clear P3 f3 hH2 f2 g1 P1 n1
    walk_at "rd"
    refine ⟨by rw [U.sizeL]; decide, fun r4 hr4 => ?_⟩
    have P5 := fun o => U.Pool.new (o := o) P4 hr4
    have n4 := U.Pool.ne P4 hr4
    have hr40 := f4.none hr4 (by simp; exact n4)
    have g4 : ∀ m o, upd (upd H3 r4 o) a m r4 = some o := fun m o => by rw [upd_ne n4, upd_same]
    walk_at "rd"
    intro r m h7 h8
    refine U.r_rng (by omega) (by omega) (fun i σ H' => ∃ ms o, σ = [some (.ref a), some (.int mo), some (U.sv l), o, some (.int (1 + r3)), some (U.sv pp), some (.ref r4), none, none] ∧ ms.length = i ∧ (∀ m ∈ ms, U.makerB m = true ∧ m.length ≤ 41) ∧ H' r4 = some (.lst (ms.map U.sv)) ∧ U.Fr [a] H H' ∧ U.Pool H' a)
      ⟨[], _, rfl, rfl, by simp, by rw [g4]; rfl, (f4.new hr4).own (.inl (by simp)), U.Pool.upd⟩ ?_ ?_
    · rintro i σ H' hi ⟨ms, o, rfl, hl, hms, g5, f5, P6⟩
      have g6 : ∀ m, upd H' a m r4 = some (.lst (ms.map U.sv)) := fun m => by rw [upd_ne n4]; exact g5
      walk_at "rd"
      refine ⟨by omega, fun mk m hmk hml => ⟨by walk_at "om", ms ++ [mk], by simp [hl], ?_, ?_, ?_, ?_⟩⟩
      · intro x hx
        rw [List.mem_append, List.mem_singleton] at hx
        rcases hx with hx | rfl
        · exact hms x hx
        · exact ⟨hmk, by omega⟩
      · simp
      · exact (f5.own (.inl (by simp))).own (.inr hr40)
      · exact ⟨m, by rw [upd_ne n4.symm, upd_same]⟩
    rintro σ H4 ⟨ms, o, rfl, hl, hms, g5, f5, P6⟩
    clear g4 P5 P4 f4
    walk_at "rd"
    refine ⟨fun σ' H' => ∃ y : Option Int, σ' = [some (.ref a), some (.int mo), some (U.sv l), o, some (.int (1 + r3)), some (U.sv pp), some (.ref r4), some (U.ov y), none] ∧ (∀ i, y = some i → 1000 ≤ i ∧ i ≤ 2999) ∧ H' r4 = some (.lst (ms.map U.sv)) ∧ U.Fr [a] H H' ∧ U.Pool H' a, ?_, ?_⟩
    · walk_at "rd"
      refine fun r m h7 h8 => ?_
      by_cases e2 : r = 1
      · rw [if_pos e2]
        refine fun r' m' h9 h10 => ⟨some (1000 + r'), rfl, ?_, by rw [upd_ne n4]; exact g5, f5.own (.inl (by simp))⟩
        intro i hi
        cases hi
        omega
      · rw [if_neg e2]
        exact ⟨none, rfl, by simp, by rw [upd_ne n4]; exact g5, f5.own (.inl (by simp))⟩
    rintro σ' H5 ⟨y, rfl, hy, g6, f6, P7⟩
    walk_at "rd"
    refine ⟨fun σ' H' => ∃ c : Option Int, σ' = [some (.ref a), some (.int mo), some (U.sv l), o, some (.int (1 + r3)), some (U.sv pp), some (.ref r4), some (U.ov y), some (U.ov c)] ∧ (∀ i, c = some i → 2 ≤ i ∧ i < 10 ^ 60) ∧ H' r4 = some (.lst (ms.map U.sv)) ∧ U.Fr [a] H H' ∧ U.Pool H' a, ?_, ?_⟩
    · walk_at "rd"
      refine fun r m h7 h8 => ?_
      by_cases e2 : r = 1
      · rw [if_pos e2]
        refine ⟨⟨by decide, by decide, by decide⟩, by rw [U.sizeL]; decide, fun r5 hr5 => ?_⟩
        have n5 : r5 ≠ a := by
          rintro rfl
          rw [upd_same] at hr5; cases hr5
        have hr5' : H5 r5 = none := by rw [upd_ne n5] at hr5; exact hr5
        have n6 : r5 ≠ r4 := U.ne_new hr5' g6
        have P8 : ∀ o, U.Pool (upd (upd H5 a (HO.lst [V.int m])) r5 o) a := fun o => ⟨m, by rw [upd_ne n5.symm, upd_same]⟩
        have g7 : ∀ x o y, upd (upd (upd H5 a x) r5 o) a y r5 = some o := fun x o y => by rw [upd_ne n5, upd_same]
        walk_at "rd"
        intro r6 m6 h11 h12
        obtain ⟨most, hmost, e3⟩ := U.atI_in (xs := [V.int 8, V.int 98, V.int 998, V.int 100000000000000000000000000000]) h11 h12
        obtain ⟨nc, rfl, hm5, hm6⟩ : ∃ k : Int, most = .int k ∧ 0 < k ∧ k ≤ 100000000000000000000000000000 := by
          simp only [List.mem_cons, List.not_mem_nil, or_false] at hmost
          rcases hmost with rfl | rfl | rfl | rfl <;> exact ⟨_, rfl, by decide, by decide⟩
        refine U.optE_of e3 ?_
        walk_at "rd"
        refine ⟨by omega, fun r7 m7 h13 h14 => ⟨some (2 + r7), rfl, ?_, ?_, ?_⟩⟩
        · intro i hi
          cases hi
          omega
        · rw [upd_ne n4, upd_ne n6.symm, upd_ne n4]; exact g6
        · exact ((f6.own (.inl (by simp))).new (by rw [upd_ne n5]; exact hr5')).own (.inl (by simp))
      · rw [if_neg e2]
        exact ⟨none, rfl, by simp, by rw [upd_ne n4]; exact g6, f6.own (.inl (by simp))⟩
    rintro σ' H6 ⟨c, rfl, hc, g7, f7, P8⟩
    walk_at "rd"
    refine ⟨by rw [U.sizeL]; decide, fun b hb => ?_⟩
    have hb0 := f7.none hb (by simp; exact U.Pool.ne P8 hb)
    refine q _ b ⟨l, 1 + r3, pp, ms, y, c⟩ (f7.new hb) (P8.new hb) ⟨r4, upd_same, U.upd_old2 hb g7⟩ ⟨⟨hll, by dsimp only; omega, by dsimp only; omega, hpp, by dsimp only; omega, by dsimp only; omega, fun m hm => ⟨(hms m hm).1, by have := (hms m hm).2; omega⟩, hy, hc⟩, hpl, fun m hm => (hms m hm).2⟩ hb0

abbrev sp__law_near_copy : Sp := U.sp2 fun y p H Q _ => ∃ o : Option Int, y = U.ov o ∧ (∀ i, o = some i → 2 ≤ i ∧ i < 10 ^ 60) ∧ U.optE (U.refOf p) fun a => U.Pool H a ∧ ∀ (z : Option Int) m, (∀ i, z = some i → 2 ≤ i ∧ i < 10 ^ 60) → Q (U.ov z) (upd H a (.lst [.int m]))
theorem sc__law_near_copy : FnScope ["_law_twin", "_law_pool_here", "_law_digits"] ["_law_twin", "_law_pool_here"] (defScope s__law_near_copy) := U.scope_by (by decide +kernel)
theorem ok__law_near_copy {P : Program} {w : World} {K : PySem.W.Frag} {mg : Str → Option Value} {base : Heap} {f : Addr} {fd : FuncData}
    (F : FunD K "_law_near_copy" "_law_near_copy" (defArgs s__law_near_copy) (defBody s__law_near_copy) (defScope s__law_near_copy) [] [] f fd) (B : U.BI mg) (c__law_take : C8.Cal P w K mg base 1 "_law_take" (sp__law_take) []) :
    FnOk P w K mg base C8.CX0 2 f fd ["_law_twin", "_law_pool_here"] (sp__law_near_copy) := by
  have sc := sc__law_near_copy
  refine F.ok sc (fun vs H Q E h => ?_) (fun cdv A outer s H vs Q E hr h => ⟨_, PSs.nox (pss_cons (ps_if (pt_cmpR U.eq (C8.pe_c c__law_take hr (by decide) rfl (pa_cons (pv 1) (pa_cons pe_int pa_nil))) pe_int (nomark _)) (pss_one (ps_ret pe_non)) pss_nil)
      (pss_cons (ps_set (i := 2) sc.nd rfl (Or.inl rfl) (pe_callTy U.c_str (by rfl) B.str_ U.bt_str (pa_cons (pe_ifExp (pt_cmpR U.is_ (pv 0) pe_non (nomark _)) pe_int (pv 0)) pa_nil)))
      (pss_one (ps_ret (pe_callB (U.c_max rfl) (by rfl) B.max_ U.bt_max (pa_cons pe_int (pa_cons (pe_callTy U.c_int (by rfl) B.int_ U.bt_int (pa_cons (pe_op U.add (pe_slice U.sl (pv 2) po_none (po_some (pe_op U.add pe_int (C8.pe_c c__law_take hr (by decide) rfl (pa_cons (pv 1) (pa_cons pe_int pa_nil)))))) (pe_ix U.ix (U.pe_s' [48, 49, 50, 51, 52, 53, 54, 55, 56, 57] (by decide +kernel)) (C8.pe_c c__law_take hr (by decide) rfl (pa_cons (pv 1) (pa_cons pe_int pa_nil))) (fun _ _ => rfl))) pa_nil)) pa_nil))))))), ?_⟩)
  · obtain ⟨_, _, rfl, _⟩ := h; rfl
  · obtain ⟨y, p, rfl, o, rfl, ho, a, hp, hP, q⟩ := h
    cases U.refOf_eq hp
    have d1 : ∀ (D : List Nat), D.all U.figB = true → ∀ r : Int, 0 ≤ r → r < 29 → ∀ (r_1 m : Int), 0 ≤ r_1 → r_1 < 10 → U.optE (atI [48, 49, 50, 51, 52, 53, 54, 55, 56, 57] r_1) fun c =>
        (U.cutL D none (some (1 + r))).length ≤ 16777215 ∧ U.digs (U.cutL D none (some (1 + r)) ++ [c]) = true ∧ U.cutL D none (some (1 + r)) ++ [c] ≠ [] ∧ (U.cutL D none (some (1 + r)) ++ [c]).length ≤ 640 ∧
        Q (V.int (max 2 ↑(U.valL (U.cutL D none (some (1 + r)) ++ [c])))) (upd H a (HO.lst [V.int m])) := by
      intro D hD r h1 h2 r1 m h3 h4
      obtain ⟨c, hc, e3⟩ := U.atI_in (xs := [48, 49, 50, 51, 52, 53, 54, 55, 56, 57]) h3 h4
      obtain ⟨n1, n2, n3, n4⟩ := U.near_num hD h1 h2 (U.fig_in hc)
      refine U.optE_of e3 ⟨by omega, n1, n2, by walk_at "om", q (some _) m (fun i hi => ?_)⟩
      cases hi
      refine ⟨by omega, ?_⟩
      have : (10 : Int) ^ 30 < 10 ^ 60 := by decide
      omega
    cases o with
    | none =>
      have b1 := U.num_len (i := 2) (k := 1) (by decide) (by decide) (by decide)
      have b2 : (U.numL 2).length ≤ 16777216 := by simp at b1; omega
      walk_at "rd"
      intro r m h1 h2
      by_cases e : r = 0
      · rw [if_pos e]; exact q none m (by simp)
      · rw [if_neg e]
        exact ⟨by decide +kernel, fun r1 m1 h3 h4 => d1 _ (U.num_figs 2) r1 h3 h4⟩
    | some i =>
      obtain ⟨i1, i2⟩ := ho i rfl
      have b1 : (U.numL i.toNat).length ≤ 60 := U.num_len (by omega) (by decide) i2
      have b2 : (U.numL i.toNat).length ≤ 16777216 := by omega
      have b3 := U.lt1900 i2
      walk_at "rd"
      intro r m h1 h2
      by_cases e : r = 0
      · rw [if_pos e]; exact q none m (by simp)
      · rw [if_neg e]
        exact ⟨by omega, fun r1 m1 h3 h4 => d1 _ (U.num_figs i.toNat) r1 h3 h4⟩

abbrev sp__law_near_year : Sp := U.sp2 fun y p H Q _ => ∃ o : Option Int, y = U.ov o ∧ (∀ i, o = some i → 1000 ≤ i ∧ i ≤ 2999) ∧ U.optE (U.refOf p) fun a => U.Pool H a ∧ ∀ (z : Option Int) m, (∀ i, z = some i → 1000 ≤ i ∧ i ≤ 2999) → Q (U.ov z) (upd H a (.lst [.int m]))
theorem sc__law_near_year : FnScope ["_law_age", "_law_pool_here", "_law_way"] ["_law_age", "_law_pool_here"] (defScope s__law_near_year) := U.scope_by (by decide +kernel)
theorem ok__law_near_year {P : Program} {w : World} {K : PySem.W.Frag} {mg : Str → Option Value} {base : Heap} {f : Addr} {fd : FuncData}
    (F : FunD K "_law_near_year" "_law_near_year" (defArgs s__law_near_year) (defBody s__law_near_year) (defScope s__law_near_year) [] [] f fd) (B : U.BI mg) (c__law_take : C8.Cal P w K mg base 1 "_law_take" (sp__law_take) []) :
    FnOk P w K mg base C8.CX0 2 f fd ["_law_age", "_law_pool_here"] (sp__law_near_year) := by
  have sc := sc__law_near_year
  refine F.ok sc (fun vs H Q E h => ?_) (fun cdv A outer s H vs Q E hr h => ⟨_, PSs.nox (pss_cons (ps_set (i := 2) sc.nd rfl (Or.inl rfl) (C8.pe_c c__law_take hr (by decide) rfl (pa_cons (pv 1) (pa_cons pe_int pa_nil))))
      (pss_cons (ps_if (pt_cmpR U.eq (pv 2) pe_int (nomark _)) (pss_one (ps_ret pe_non)) pss_nil)
      (pss_cons (ps_if (PW.pt (pw_or (pt_cmpR U.eq (pv 2) pe_int (nomark _)) (pw_or1 (pt_cmpR U.is_ (pv 0) pe_non (nomark _))))) (pss_one (ps_ret (pe_op U.add pe_int (C8.pe_c c__law_take hr (by decide) rfl (pa_cons (pv 1) (pa_cons pe_int pa_nil)))))) pss_nil)
      (pss_one (ps_ret (pe_op U.add (pe_op U.mul (pe_op U.div (pv 0) pe_int) pe_int) (C8.pe_c c__law_take hr (by decide) rfl (pa_cons (pv 1) (pa_cons pe_int pa_nil))))))))), ?_⟩)
  · obtain ⟨_, _, rfl, _⟩ := h; rfl
  · obtain ⟨y, p, rfl, o, rfl, ho, a, hp, hP, q⟩ := h
    cases U.refOf_eq hp
    have d1 : ∀ r' m', 0 ≤ r' → r' < 2000 → Q (V.int (1000 + r')) (upd H a (.lst [.int m'])) := fun r' m' h3 h4 => q (some (1000 + r')) m' (by intro i hi; cases hi; omega)
    cases o with
    | none =>
      walk_at "rd"
      intro r m h1 h2
      by_cases e : r = 0
      · rw [if_pos e]; exact q none m (by simp)
      · rw [if_neg e]
        by_cases e2 : r = 1
        · rw [if_pos e2]; exact d1
        · rw [if_neg e2]; exact d1
    | some i =>
      obtain ⟨i1, i2⟩ := ho i rfl
      walk_at "rd"
      intro r m h1 h2
      by_cases e : r = 0
      · rw [if_pos e]; exact q none m (by simp)
      · rw [if_neg e]
        by_cases e2 : r = 1
        · rw [if_pos e2]; exact d1
        · rw [if_neg e2]
          exact ⟨by decide +kernel, U.mulR (by decide), fun r' m' h3 h4 => q (some (i / 10 * 10 + r')) m' (by intro j hj; cases hj; omega)⟩

abbrev sp__law_near_word : Sp := U.sp2 fun w p H Q _ => U.optE (U.strOf w) fun l => U.optE (U.refOf p) fun a => U.Pool H a ∧ l.all U.figB = true ∧ l.length ≤ 40 ∧ ∀ x m, U.pointsB x = true → x.length ≤ 40 → Q (U.sv x) (upd H a (.lst [.int m]))
theorem sc__law_near_word : FnScope ["_law_word", "_law_pool_here", "_law_more", "_law_kept"] ["_law_word", "_law_pool_here"] (defScope s__law_near_word) := U.scope_by (by decide +kernel)
theorem ok__law_near_word {P : Program} {w : World} {K : PySem.W.Frag} {mg : Str → Option Value} {base : Heap} {f : Addr} {fd : FuncData}
    (F : FunD K "_law_near_word" "_law_near_word" (defArgs s__law_near_word) (defBody s__law_near_word) (defScope s__law_near_word) [] [] f fd) (B : U.BI mg) (c__law_take : C8.Cal P w K mg base 1 "_law_take" (sp__law_take) []) :
    FnOk P w K mg base C8.CX0 2 f fd ["_law_word", "_law_pool_here"] (sp__law_near_word) := by
  have sc := sc__law_near_word
  refine F.ok sc (fun vs H Q E h => ?_) (fun cdv A outer s H vs Q E hr h => ⟨_, PSs.nox (pss_cons (ps_set (i := 2) sc.nd rfl (Or.inl rfl) (C8.pe_c c__law_take hr (by decide) rfl (pa_cons (pv 1) (pa_cons pe_int pa_nil))))
      (pss_cons (ps_set (i := 3) sc.nd rfl (Or.inl rfl) (pe_slice U.sl (pv 0) po_none (po_some (C8.pe_c c__law_take hr (by decide) rfl (pa_cons (pv 1) (pa_cons (pe_op U.add (pe_callB U.c_len (by rfl) B.len_ U.bt_len (pa_cons (pv 0) pa_nil)) pe_int) pa_nil))))))
      (pss_cons (ps_if (PW.pt (pw_and (pt_cmpR U.eq (pv 2) pe_int (nomark _)) (pw_and1 (pt_cmpR U.lt (pe_callB U.c_len (by rfl) B.len_ U.bt_len (pa_cons (pv 3) pa_nil)) pe_int (nomark _))))) (pss_one (ps_set (i := 3) sc.nd rfl (Or.inl rfl) (pe_op U.add (pv 3) (pe_ix U.ix (U.pe_s' [48, 49, 50, 51, 52, 53, 54, 55, 56, 57] (by decide +kernel)) (C8.pe_c c__law_take hr (by decide) rfl (pa_cons (pv 1) (pa_cons pe_int pa_nil))) (fun _ _ => rfl))))) pss_nil)
      (pss_one (ps_ret (U.pe_s PySem.F.slot_str_rstrip PySem.F.type_str_rstrip U.m_rstrip (pv 3) (pa_cons (U.pe_s' [48] (by decide +kernel)) pa_nil))))))), ?_⟩)
  · obtain ⟨_, _, rfl, _⟩ := h; rfl
  · obtain ⟨w', p, rfl, l, hl, a, hp, hP, hf, hl40, q⟩ := h
    cases U.strOf_eq hl
    cases U.refOf_eq hp
    walk_at "rd"
    intro r m h1 h2
    refine ⟨by omega, by omega, by omega, fun r1 m1 h3 h4 => ⟨by omega, ?_⟩⟩
    rw [U.cut_to h3]
    have ht := U.take_all (n := r1.toNat) hf
    have hl2 : (l.take r1.toNat).length ≤ l.length := by rw [List.length_take]; omega
    have done0 : ∀ m, Q (V.str (Txt.rstripChars { cps := (l.take r1.toNat).toArray } { cps := #[48] })) (upd H a (.lst [.int m])) := fun m => by
      obtain ⟨x, ex, hx, hxl⟩ := U.rstrip_ok (l := l.take r1.toNat) (m := [48]) ht rfl
      have := q x m hx (by omega)
      rw [← ex] at this
      exact this
    by_cases e : r = 1
    · rw [if_pos e]
      refine ⟨by omega, ?_⟩
      by_cases e2 : ((l.take r1.toNat).length : Int) < 40
      · rw [if_pos e2]
        refine fun r2 m2 h5 h6 => ?_
        obtain ⟨c, hc, e3⟩ := U.atI_in (xs := [48, 49, 50, 51, 52, 53, 54, 55, 56, 57]) h5 h6
        obtain ⟨x, ex, hx, hxl⟩ := U.rstrip_ok (l := l.take r1.toNat ++ [c]) (m := [48]) (U.all_snoc ht (U.fig_in hc)) rfl
        rw [List.length_append, List.length_singleton] at hxl
        refine U.optE_of e3 ⟨by omega, by walk_at "om", ?_⟩
        have := q x m2 hx (by omega)
        rw [← ex] at this
        exact this
      · rw [if_neg e2]
        exact ⟨by omega, done0 _⟩
    · rw [if_neg e]
      exact ⟨by omega, done0 _⟩

abbrev sp__law_near_makers : Sp := U.sp2 fun h p H Q _ => ∃ (q : Addr) (ms : List (List Nat)), h = .ref q ∧ H q = some (.lst (ms.map U.sv)) ∧ ms.length ≤ 3 ∧ (∀ m ∈ ms, U.makerB m = true ∧ m.length ≤ 41) ∧ U.optE (U.refOf p) fun a => U.Pool H a ∧
  ∀ H' r (ns : List (List Nat)), U.Fr [a] H H' → U.Pool H' a → H' r = some (.lst (ns.map U.sv)) → ns.length ≤ 3 → (∀ m ∈ ns, U.makerB m = true ∧ m.length ≤ 41) → Q (.ref r) H'
theorem sc__law_near_makers : FnScope ["_law_hands", "_law_pool_here", "_law_way", "_law_kept", "_law_maker_here"] ["_law_hands", "_law_pool_here"] (defScope s__law_near_makers) := U.scope_by (by decide +kernel)
theorem ok__law_near_makers {P : Program} {w : World} {K : PySem.W.Frag} {mg : Str → Option Value} {base : Heap} {f : Addr} {fd : FuncData}
    (F : FunD K "_law_near_makers" "_law_near_makers" (defArgs s__law_near_makers) (defBody s__law_near_makers) (defScope s__law_near_makers) [] [] f fd) (B : U.BI mg) (c__law_maker : C8.Cal P w K mg base 3 "_law_maker" (sp__law_maker) []) (c__law_near_word : C8.Cal P w K mg base 2 "_law_near_word" (sp__law_near_word) []) (c__law_take : C8.Cal P w K mg base 1 "_law_take" (sp__law_take) []) :
    FnOk P w K mg base C8.CX0 4 f fd ["_law_hands", "_law_pool_here"] (sp__law_near_makers) := by
  have sc := sc__law_near_makers
  refine F.ok sc (fun vs H Q E h => ?_) (fun cdv A outer s H vs Q E hr h => ⟨_, PSs.nox (pss_cons (ps_set (i := 2) sc.nd rfl (Or.inl rfl) (C8.pe_c c__law_take hr (by decide) rfl (pa_cons (pv 1) (pa_cons pe_int pa_nil))))
      (pss_cons (ps_set (i := 3) sc.nd rfl (Or.inl rfl) (pe_slice U.sl (pv 0) po_none (po_some (C8.pe_c c__law_take hr (by decide) rfl (pa_cons (pv 1) (pa_cons pe_int pa_nil))))))
      (pss_cons (ps_if (pt_cmpR U.eq (pv 2) pe_int (nomark _)) (pss_one (ps_ret (pv 3))) pss_nil)
      (pss_cons (ps_if (pt_cmpR U.lt (pe_callB U.c_len (by rfl) B.len_ U.bt_len (pa_cons (pv 3) pa_nil)) (pe_callB U.c_len (by rfl) B.len_ U.bt_len (pa_cons (pv 0) pa_nil)) (nomark _)) (pss_cons (ps_set (i := 4) sc.nd rfl (Or.inl rfl) (pe_ix U.ix (pv 0) (pe_callB U.c_len (by rfl) B.len_ U.bt_len (pa_cons (pv 3) pa_nil)) (fun _ _ => rfl)))
      (pss_one (ps_ret (pe_op U.add (pv 3) (pe_lst (pa_cons (pe_op U.add (pe_ix U.ix (pv 4) pe_int (fun _ _ => rfl)) (pe_orT (C8.pe_c c__law_near_word hr (by decide) rfl (pa_cons (pe_slice U.sl (pv 4) (po_some pe_int) po_none) (pa_cons (pv 1) pa_nil))) (pe_one (U.pe_s' [49] (by decide +kernel))))) pa_nil)))))) pss_nil)
      (pss_cons (ps_if (pt_cmpR U.lt (pe_callB U.c_len (by rfl) B.len_ U.bt_len (pa_cons (pv 3) pa_nil)) pe_int (nomark _)) (pss_one (ps_ret (pe_op U.add (pv 3) (pe_lst (pa_cons (C8.pe_c c__law_maker hr (by decide) rfl (pa_cons (pv 1) (pa_cons pe_int pa_nil))) pa_nil))))) pss_nil)
      (pss_one (ps_ret (pv 3)))))))), ?_⟩)
  · obtain ⟨_, _, rfl, _⟩ := h; rfl
  · obtain ⟨h', p, rfl, q, ms, rfl, hq, hn, hms, a, hp, hP, k⟩ := h
    cases U.refOf_eq hp
    have hqa : q ≠ a := by
      rintro rfl
      obtain ⟨n, hn⟩ := hP
      rw [hn] at hq
      simp only [Option.some.injEq, HO.lst.injEq] at hq
      exact U.ms_ne hq.symm
    have gq : ∀ m, upd H a m q = some (.lst (ms.map U.sv)) := fun m => by rw [upd_ne hqa]; exact hq
    walk_at "rd"
    intro r m h1 h2 r1 m1 h3 h4 r2 hr2
    rw [U.cut_to h3, ← List.map_take]
    have n2 : r2 ≠ a := by rintro rfl; rw [upd_same] at hr2; cases hr2
    have n3 : r2 ≠ q := U.ne_new hr2 (gq _)
    have hr2' : H r2 = none := by rw [upd_ne n2] at hr2; exact hr2
    have f2 : ∀ o, U.Fr [a] H (upd (upd H a (.lst [.int m1])) r2 o) := fun o => (U.fr_pool).new hr2
    have P2 : ∀ o, U.Pool (upd (upd H a (.lst [.int m1])) r2 o) a := fun o => ⟨m1, by rw [upd_ne n2.symm, upd_same]⟩
    have g2 : ∀ o, upd (upd H a (.lst [.int m1])) r2 o q = some (.lst (ms.map U.sv)) := fun o => by rw [upd_ne n3.symm]; exact gq _
    have hk : (ms.take r1.toNat).length ≤ 3 := by simp; omega
    have hk2 : ∀ m ∈ ms.take r1.toNat, U.makerB m = true ∧ m.length ≤ 41 := fun m hm => hms m (List.mem_of_mem_take hm)
    by_cases e : r = 0
    · rw [if_pos e]
      exact k _ r2 _ (f2 _) (P2 _) upd_same hk hk2
    rw [if_neg e]
    obtain ⟨kp, hkp⟩ : ∃ kp, kp = ms.take r1.toNat := ⟨_, rfl⟩
    rw [← hkp] at hk hk2 ⊢
    obtain ⟨H3, hH3⟩ : ∃ H3, H3 = upd (upd H a (.lst [.int m1])) r2 (.lst (kp.map U.sv)) := ⟨_, rfl⟩
    have f3 : U.Fr [a] H H3 := by rw [hH3]; exact f2 _
    have P3 : U.Pool H3 a := by rw [hH3]; exact P2 _
    have g3 : H3 q = some (.lst (ms.map U.sv)) := by rw [hH3]; exact g2 _
    have g4 : H3 r2 = some (.lst (kp.map U.sv)) := by rw [hH3]; exact upd_same
    have g5 : ∀ m, upd H3 a m r2 = some (.lst (kp.map U.sv)) := fun m => by rw [upd_ne n2]; exact g4
    rw [← hH3]
    clear f2 P2 g2 hH3 hkp
    have lk : (kp.map U.sv).length = kp.length := List.length_map ..
    have fin : ∀ (mk : List Nat) (m' : Int), U.makerB mk = true → mk.length ≤ 41 → kp.length < 3 → ∀ p, upd H3 a (.lst [.int m']) p = none → U.optE ((upd (upd H3 a (.lst [.int m'])) p (.lst [U.sv mk]) r2).bind U.lstOf) fun xs => xs.length ≤ 16777215 ∧
        ∀ r, upd (upd H3 a (.lst [.int m'])) p (.lst [U.sv mk]) r = none → Q (.ref r) (upd (upd (upd H3 a (.lst [.int m'])) p (.lst [U.sv mk])) r (.lst (xs ++ [U.sv mk]))) := by
      intro mk m' b1 b2 b3 p hp'
      have e5 := U.upd_old2 (o := .lst [U.sv mk]) hp' (g5 (.lst [.int m']))
      have pa : p ≠ a := by rintro rfl; rw [upd_same] at hp'; cases hp'
      rw [e5]
      refine U.optE_of rfl ⟨by omega, fun r hr => ?_⟩
      have P5 : U.Pool (upd (upd H3 a (.lst [.int m'])) p (.lst [U.sv mk])) a := U.Pool.new U.Pool.upd hp'
      refine k _ r (kp ++ [mk]) (((f3.own (.inl (by simp))).new hp').new hr) (P5.new hr) (by rw [upd_same]; simp) (by rw [List.length_append, List.length_singleton]; omega) ?_
      intro x hx
      rw [List.mem_append, List.mem_singleton] at hx
      rcases hx with hx | rfl
      · exact hk2 x hx
      · exact ⟨b1, b2⟩
    walk_at "rd"
    by_cases hlt : (kp.length : Int) < ((ms.map U.sv).length : Nat)
    · rw [if_pos hlt]
      obtain ⟨v, hv, e3⟩ := U.atI_in (xs := ms.map U.sv) (by omega) hlt
      obtain ⟨mm, hmm, rfl⟩ := List.mem_map.mp hv
      obtain ⟨c, l, rfl, hc, hl⟩ := U.maker_at (hms mm hmm).1
      have hlc := (hms _ hmm).2
      rw [List.length_cons] at hlc
      have hlf : l.all U.figB = true := by unfold U.figsB at hl; simp only [Bool.and_eq_true] at hl; exact hl.1.2
      have hlow : U.lowB c = true := by
        have := (hms _ hmm).1
        unfold U.makerB at this
        rw [Bool.and_eq_true] at this
        exact this.1
      have lm : (ms.map U.sv).length = ms.length := List.length_map ..
      have k3 : kp.length < 3 := by omega
      refine U.optE_of e3 ?_
      walk_at "rd"
      refine ⟨by omega, by omega, by omega, fun x m' hx hxl => U.or_str (by omega) ?_⟩
      by_cases ex : x = []
      · rw [if_pos ex]
        refine ⟨by rw [U.sizeL]; decide, fin (c :: [49]) m' (U.maker_cons hlow (by decide)) (by simp) k3⟩
      · rw [if_neg ex]
        have hxf : U.figsB x = true := by
          unfold U.pointsB at hx
          rw [Bool.or_eq_true, List.isEmpty_iff] at hx
          exact hx.resolve_left ex
        refine ⟨by omega, by rw [U.sizeL]; decide, fin (c :: x) m' (U.maker_cons hlow hxf) (by rw [List.length_cons]; omega) k3⟩
    · rw [if_neg hlt]
      by_cases h3k : (kp.length : Int) < 3
      · rw [if_pos h3k]
        exact fun l m' hl hll => ⟨by rw [U.sizeL]; decide, fin l m' hl (by omega) (by omega)⟩
      · rw [if_neg h3k]
        exact k _ r2 kp f3 P3 g4 hk hk2

abbrev sp__law_near : Sp := U.sp3 fun p i o H Q _ => ∃ (b a : Addr) (n : Int) (t : U.Pt), p = .ref b ∧ i = .int n ∧ o = .ref a ∧ 0 ≤ n ∧ n < 6 ∧ U.PL H b t ∧ U.Dr t ∧ U.Pool H a ∧
  ∀ H' d u, U.Fr [a] H H' → U.Pool H' a → U.PL H' d u → U.Dr u → Q (.ref d) H'
theorem sc__law_near : FnScope ["_law_parts_here", "_law_at", "_law_pool_here", "_law_tail", "_law_row"] ["_law_parts_here", "_law_at", "_law_pool_here"] (defScope s__law_near) := U.scope_by (by decide +kernel)
theorem ok__law_near {P : Program} {w : World} {K : PySem.W.Frag} {mg : Str → Option Value} {base : Heap} {f : Addr} {fd : FuncData}
    (F : FunD K "_law_near" "_law_near" (defArgs s__law_near) (defBody s__law_near) (defScope s__law_near) [] [] f fd) (B : U.BI mg) (c__law_near_copy : C8.Cal P w K mg base 2 "_law_near_copy" (sp__law_near_copy) []) (c__law_near_makers : C8.Cal P w K mg base 4 "_law_near_makers" (sp__law_near_makers) []) (c__law_near_word : C8.Cal P w K mg base 2 "_law_near_word" (sp__law_near_word) []) (c__law_near_year : C8.Cal P w K mg base 2 "_law_near_year" (sp__law_near_year) []) (c__law_parts : C8.Cal P w K mg base 4 "_law_parts" (sp__law_parts) []) (c__law_take : C8.Cal P w K mg base 1 "_law_take" (sp__law_take) []) :
    FnOk P w K mg base C8.CX0 5 f fd ["_law_parts_here", "_law_at", "_law_pool_here"] (sp__law_near) := by
  have sc := sc__law_near
  refine F.ok sc (fun vs H Q E h => ?_) (fun cdv A outer s H vs Q E hr h => ⟨_, PSs.nox (pss_cons (ps_set (i := 3) sc.nd rfl (Or.inl rfl) (C8.pe_c c__law_take hr (by decide) rfl (pa_cons (pv 2) (pa_cons pe_int pa_nil))))
      (pss_cons (ps_set (i := 4) sc.nd rfl (Or.inl rfl) (pe_lst (pa_cons (pe_ix U.ix (pv 0) pe_int (fun _ _ => rfl)) (pa_cons (pe_ix U.ix (pv 0) pe_int (fun _ _ => rfl)) (pa_cons (pe_ix U.ix (pv 0) pe_int (fun _ _ => rfl)) (pa_cons (pe_callTy U.c_list (by rfl) B.list_ U.bt_list (pa_cons (pe_ix U.ix (pv 0) pe_int (fun _ _ => rfl)) pa_nil)) (pa_cons (pe_ix U.ix (pv 0) pe_int (fun _ _ => rfl)) (pa_cons (pe_ix U.ix (pv 0) pe_int (fun _ _ => rfl)) pa_nil))))))))
      (C8.pss_cut (ps_if (pt_cmpR U.eq (pv 1) pe_int (nomark _)) (pss_one (ps_asg (pe_op U.add (pe_slice U.sl (pe_ix U.ix (pv 0) pe_int (fun _ _ => rfl)) po_none (po_some (C8.pe_c c__law_take hr (by decide) rfl (pa_cons (pv 2) (pa_cons pe_int pa_nil))))) (pe_ix U.ix (U.pe_s' [97, 98, 99, 100, 101, 102, 103, 104, 105, 106, 107, 108, 109, 110, 111, 112, 113, 114, 115, 116, 117, 118, 119, 120, 121, 122] (by decide +kernel)) (C8.pe_c c__law_take hr (by decide) rfl (pa_cons (pv 2) (pa_cons pe_int pa_nil))) (fun _ _ => rfl))) (pg_sub (pv 4) pe_int U.setL))) pss_nil)
      (C8.pss_cut (ps_if (pt_cmpR U.eq (pv 1) pe_int (nomark _)) (pss_one (ps_asg (pe_callTy U.c_int (by rfl) B.int_ U.bt_int (pa_cons (pe_slice U.sl (pe_op U.add (pe_slice U.sl (pe_callTy U.c_str (by rfl) B.str_ U.bt_str (pa_cons (pe_ix U.ix (pv 0) pe_int (fun _ _ => rfl)) pa_nil)) po_none (po_some (pe_op U.add pe_int (C8.pe_c c__law_take hr (by decide) rfl (pa_cons (pv 2) (pa_cons pe_int pa_nil)))))) (pe_ix U.ix (U.pe_s' [48, 49, 50, 51, 52, 53, 54, 55, 56, 57] (by decide +kernel)) (C8.pe_c c__law_take hr (by decide) rfl (pa_cons (pv 2) (pa_cons pe_int pa_nil))) (fun _ _ => rfl))) po_none (po_some pe_int)) pa_nil)) (pg_sub (pv 4) pe_int U.setL))) pss_nil)
      (C8.pss_cut (ps_if (pt_cmpR U.eq (pv 1) pe_int (nomark _)) (pss_one (ps_asg (C8.pe_c c__law_near_word hr (by decide) rfl (pa_cons (pe_ix U.ix (pv 0) pe_int (fun _ _ => rfl)) (pa_cons (pv 2) pa_nil))) (pg_sub (pv 4) pe_int U.setL))) pss_nil)
      (C8.pss_cut (ps_if (pt_cmpR U.eq (pv 1) pe_int (nomark _)) (pss_one (ps_asg (C8.pe_c c__law_near_makers hr (by decide) rfl (pa_cons (pe_ix U.ix (pv 0) pe_int (fun _ _ => rfl)) (pa_cons (pv 2) pa_nil))) (pg_sub (pv 4) pe_int U.setL))) pss_nil)
      (C8.pss_cut (ps_if (pt_cmpR U.eq (pv 1) pe_int (nomark _)) (pss_one (ps_asg (C8.pe_c c__law_near_year hr (by decide) rfl (pa_cons (pe_ix U.ix (pv 0) pe_int (fun _ _ => rfl)) (pa_cons (pv 2) pa_nil))) (pg_sub (pv 4) pe_int U.setL))) pss_nil)
      (C8.pss_cut (ps_if (pt_cmpR U.eq (pv 1) pe_int (nomark _)) (pss_one (ps_asg (C8.pe_c c__law_near_copy hr (by decide) rfl (pa_cons (pe_ix U.ix (pv 0) pe_int (fun _ _ => rfl)) (pa_cons (pv 2) pa_nil))) (pg_sub (pv 4) pe_int U.setL))) pss_nil)
      (pss_cons (ps_if (pt_cmpR U.eq (pv 3) pe_int (nomark _)) (pss_one (ps_ret (pe_op U.add (pe_slice U.sl (pv 4) po_none (po_some (pe_op U.add (pv 1) pe_int))) (pe_slice U.sl (C8.pe_c c__law_parts hr (by decide) rfl (pa_cons (pv 2) pa_nil)) (po_some (pe_op U.add (pv 1) pe_int)) po_none)))) pss_nil)
      (pss_one (ps_ret (pv 4)))))))))))), ?_⟩)
  · obtain ⟨_, _, _, rfl, _⟩ := h; rfl
  · obtain ⟨p, i, o, rfl, b, a, n, t, rfl, rfl, rfl, hn0, hn6, hPL, hD, hP, k⟩ := h
    have hPL' := hPL
    obtain ⟨q, h1, h2⟩ := hPL'
    unfold U.partsL at h1
    have hba : b ≠ a := by
      rintro rfl
      obtain ⟨m, hm⟩ := hP
      rw [hm] at h1; cases h1
    have hqa : q ≠ a := by
      rintro rfl
      obtain ⟨m, hm⟩ := hP
      rw [hm] at h2
      simp only [Option.some.injEq, HO.lst.injEq] at h2
      exact U.ms_ne h2.symm
    have gb : ∀ m, upd H a m b = some (.lst [U.sv t.l, .int t.n, U.sv t.p, .ref q, U.ov t.y, U.ov t.c]) := fun m => by rw [upd_ne hba]; exact h1
    have gq : ∀ m, upd H a m q = some (.lst (t.ms.map U.sv)) := fun m => by rw [upd_ne hqa]; exact h2
    walk_at "rd"
    intro tl m0 htl1 htl2 r hr
    have nr : r ≠ a := by rintro rfl; rw [upd_same] at hr; cases hr
    have hr0 : H r = none := by rw [upd_ne nr] at hr; exact hr
    have gb2 : ∀ m o, upd (upd H a m) r o b = some (.lst [U.sv t.l, .int t.n, U.sv t.p, .ref q, U.ov t.y, U.ov t.c]) := fun m o => by rw [upd_ne (U.ne_new' hr0 h1)]; exact gb _
    walk_at "rd"
    refine ⟨by rw [U.sizeL]; decide, fun w hw => ?_⟩
    have nw : w ≠ r := by rintro rfl; rw [upd_same] at hw; cases hw
    have nwa : w ≠ a := by rintro rfl; rw [upd_ne nr.symm, upd_same] at hw; cases hw
    have hw0 : H w = none := by rw [upd_ne nw, upd_ne nwa] at hw; exact hw
    obtain ⟨H1, hH1⟩ : ∃ H1, H1 = upd (upd (upd H a (HO.lst [V.int m0])) r (HO.lst (List.map U.sv t.ms))) w (HO.lst [U.sv t.l, V.int t.n, U.sv t.p, V.ref r, U.ov t.y, U.ov t.c]) := ⟨_, rfl⟩
    have F1 : U.Fr [a] H H1 := by rw [hH1]; exact ((U.fr_pool).new (by rw [upd_ne nr]; exact hr0)).new (by rw [upd_ne nw, upd_ne nwa]; exact hw0)
    have P1 : U.Pool H1 a := by rw [hH1]; exact ⟨m0, by rw [upd_ne nwa.symm, upd_ne nr.symm, upd_same]⟩
    have L0 : H1 w = some (.lst (U.partsL t r)) := by rw [hH1]; exact upd_same
    have R0 : H1 r = some (.lst (t.ms.map U.sv)) := by rw [hH1, upd_ne nw.symm, upd_same]
    rw [← hH1]
    clear hH1 hr hw gb gq gb2
    have gB : ∀ {H' : Hp}, U.Fr [a] H H' → H' b = some (.lst [U.sv t.l, .int t.n, U.sv t.p, .ref q, U.ov t.y, U.ov t.c]) := fun f => f.get (by simp; exact hba) h1
    have gQ : ∀ {H' : Hp}, U.Fr [a] H H' → H' q = some (.lst (t.ms.map U.sv)) := fun f => f.get (by simp; exact hqa) h2
    have ok := hD.ok
    have t1 := ok.ll
    have t2 := ok.n1
    have t3 := ok.n2
    have t4 := hD.p
    have t5 : t.p.all U.figB = true := by
      have := ok.p
      unfold U.pointsB U.figsB at this
      rw [Bool.or_eq_true] at this
      rcases this with h | h
      · rw [List.isEmpty_iff] at h; rw [h]; rfl
      · simp only [Bool.and_eq_true] at h; exact h.1.2
    obtain ⟨u1, r1, D1, W1, R1⟩ : ∃ u1 r1, U.Dr u1 ∧ H1 w = some (.lst (U.partsL u1 r1)) ∧ H1 r1 = some (.lst (u1.ms.map U.sv)) := ⟨t, r, hD, L0, R0⟩
    clear L0 R0
    refine ⟨fun σ' H' => ∃ (t' : U.Pt) (r' : Addr), σ' = [some (.ref b), some (.int n), some (.ref a), some (.int tl), some (.ref w)] ∧ U.Dr t' ∧ H' w = some (.lst (U.partsL t' r')) ∧ H' r' = some (.lst (t'.ms.map U.sv)) ∧ U.Fr [a] H H' ∧ U.Pool H' a, ?_, ?_⟩
    · have hb1 := gB F1
      have hq1 := gQ F1
      have hb2 : ∀ m, upd H1 a m b = some (.lst [U.sv t.l, .int t.n, U.sv t.p, .ref q, U.ov t.y, U.ov t.c]) := fun m => by rw [upd_ne hba]; exact hb1
      have hra : r1 ≠ a := by
        rintro rfl
        obtain ⟨m, hm⟩ := P1
        rw [hm] at R1
        simp only [Option.some.injEq, HO.lst.injEq] at R1
        exact U.ms_ne R1.symm
      have hrw : r1 ≠ w := by
        rintro rfl
        rw [W1] at R1
        simp only [Option.some.injEq, HO.lst.injEq] at R1
        exact U.parts_ne R1
      have hw2 : ∀ m, upd H1 a m w = some (.lst [U.sv u1.l, .int u1.n, U.sv u1.p, .ref r1, U.ov u1.y, U.ov u1.c]) := fun m => by rw [upd_ne nwa]; exact W1
      have ok1 := D1.ok
      walk_at "rd"
      by_cases en : n = 0
      · rw [if_pos en]
        intro r3 m3 h3 h4
        refine ⟨by omega, fun r4 m4 h5 h6 => ?_⟩
        obtain ⟨c, hc, e⟩ := U.atI_in (xs := [97, 98, 99, 100, 101, 102, 103, 104, 105, 106, 107, 108, 109, 110, 111, 112, 113, 114, 115, 116, 117, 118, 119, 120, 121, 122]) h5 h6
        rw [U.cut_to h3]
        have hle : (t.l.take r3.toNat).length ≤ 2 := by rw [List.length_take]; omega
        refine U.optE_of e ⟨by omega, ?_⟩
        refine ⟨⟨t.l.take r3.toNat ++ [c], u1.n, u1.p, u1.ms, u1.y, u1.c⟩, ?_, r1, rfl, ?_, ?_, ?_⟩
        · exact ⟨⟨U.letters_of (U.all_snoc (U.take_all (by have := ok.l; unfold U.lettersB U.nameB at this; simp only [Bool.and_eq_true] at this; exact this.1.2)) (U.low_in hc)) (by simp) (by rw [List.length_append, List.length_singleton]; omega), ok1.n1, ok1.n2, ok1.p, ok1.pl, ok1.mn, ok1.ms, ok1.y, ok1.c⟩, D1.p, D1.ms⟩
        · rw [upd_ne hrw, upd_ne hra]; exact R1
        · exact (F1.own (.inl (by simp))).own (.inr hw0)
        · exact ⟨m4, by rw [upd_ne nwa.symm, upd_same]⟩
      · rw [if_neg en]
        exact ⟨u1, D1, r1, rfl, R1⟩
    rintro σ' H2 ⟨u2, r2, rfl, D2, W2, R2, F2, P2⟩
    refine ⟨fun σ' H' => ∃ (t' : U.Pt) (r' : Addr), σ' = [some (.ref b), some (.int n), some (.ref a), some (.int tl), some (.ref w)] ∧ U.Dr t' ∧ H' w = some (.lst (U.partsL t' r')) ∧ H' r' = some (.lst (t'.ms.map U.sv)) ∧ U.Fr [a] H H' ∧ U.Pool H' a, ?_, ?_⟩
    · have hb1 := gB F2
      have hq1 := gQ F2
      have hb2 : ∀ m, upd H2 a m b = some (.lst [U.sv t.l, .int t.n, U.sv t.p, .ref q, U.ov t.y, U.ov t.c]) := fun m => by rw [upd_ne hba]; exact hb1
      have hra : r2 ≠ a := by
        rintro rfl
        obtain ⟨m, hm⟩ := P2
        rw [hm] at R2
        simp only [Option.some.injEq, HO.lst.injEq] at R2
        exact U.ms_ne R2.symm
      have hrw : r2 ≠ w := by
        rintro rfl
        rw [W2] at R2
        simp only [Option.some.injEq, HO.lst.injEq] at R2
        exact U.parts_ne R2
      have hw2 : ∀ m, upd H2 a m w = some (.lst [U.sv u2.l, .int u2.n, U.sv u2.p, .ref r2, U.ov u2.y, U.ov u2.c]) := fun m => by rw [upd_ne nwa]; exact W2
      have ok2 := D2.ok
      walk_at "rd"
      by_cases en : n = 1
      · rw [if_pos en]
        have nl := ok.nl
        refine ⟨by omega, U.lt1900 (by omega), fun r3 m3 h3 h4 => ⟨by omega, fun r4 m4 h5 h6 => ?_⟩⟩
        obtain ⟨c, hc, e⟩ := U.atI_in (xs := [48, 49, 50, 51, 52, 53, 54, 55, 56, 57]) h5 h6
        obtain ⟨q1, q2, q3, q4, q5, q6⟩ := U.near_n t2 h3 h4 t3 (U.fig_in hc)
        refine U.optE_of e ⟨by omega, by walk_at "om", q2, q3, by omega, ?_⟩
        refine ⟨⟨u2.l, (U.valL (U.cutL (U.cutL (U.numL t.n.toNat) none (some (1 + r3)) ++ [c]) none (some 4)) : Nat), u2.p, u2.ms, u2.y, u2.c⟩, ⟨⟨ok2.l, q5, q6, ok2.p, ok2.pl, ok2.mn, ok2.ms, ok2.y, ok2.c⟩, D2.p, D2.ms⟩, r2, rfl, ?_, ?_, ?_⟩
        · rw [upd_ne hrw, upd_ne hra]; exact R2
        · exact (F2.own (.inl (by simp))).own (.inr hw0)
        · exact ⟨m4, by rw [upd_ne nwa.symm, upd_same]⟩
      · rw [if_neg en]
        exact ⟨u2, D2, r2, rfl, R2⟩
    rintro σ' H3 ⟨u3, r3, rfl, D3, W3, R3, F3, P3⟩
    refine ⟨fun σ' H' => ∃ (t' : U.Pt) (r' : Addr), σ' = [some (.ref b), some (.int n), some (.ref a), some (.int tl), some (.ref w)] ∧ U.Dr t' ∧ H' w = some (.lst (U.partsL t' r')) ∧ H' r' = some (.lst (t'.ms.map U.sv)) ∧ U.Fr [a] H H' ∧ U.Pool H' a, ?_, ?_⟩
    · have hb1 := gB F3
      have hq1 := gQ F3
      have hb2 : ∀ m, upd H3 a m b = some (.lst [U.sv t.l, .int t.n, U.sv t.p, .ref q, U.ov t.y, U.ov t.c]) := fun m => by rw [upd_ne hba]; exact hb1
      have hra : r3 ≠ a := by
        rintro rfl
        obtain ⟨m, hm⟩ := P3
        rw [hm] at R3
        simp only [Option.some.injEq, HO.lst.injEq] at R3
        exact U.ms_ne R3.symm
      have hrw : r3 ≠ w := by
        rintro rfl
        rw [W3] at R3
        simp only [Option.some.injEq, HO.lst.injEq] at R3
        exact U.parts_ne R3
      have hw2 : ∀ m, upd H3 a m w = some (.lst [U.sv u3.l, .int u3.n, U.sv u3.p, .ref r3, U.ov u3.y, U.ov u3.c]) := fun m => by rw [upd_ne nwa]; exact W3
      have ok3 := D3.ok
      walk_at "rd"
      by_cases en : n = 2
      · rw [if_pos en]
        intro x m3 hx hxl
        refine ⟨⟨u3.l, u3.n, x, u3.ms, u3.y, u3.c⟩, ⟨⟨ok3.l, ok3.n1, ok3.n2, hx, by dsimp only; omega, ok3.mn, ok3.ms, ok3.y, ok3.c⟩, hxl, D3.ms⟩, r3, rfl, ?_, ?_, ?_⟩
        · rw [upd_ne hrw, upd_ne hra]; exact R3
        · exact (F3.own (.inl (by simp))).own (.inr hw0)
        · exact ⟨m3, by rw [upd_ne nwa.symm, upd_same]⟩
      · rw [if_neg en]
        exact ⟨u3, D3, r3, rfl, R3⟩
    rintro σ' H4 ⟨u4, r4, rfl, D4, W4, R4, F4, P4⟩
    refine ⟨fun σ' H' => ∃ (t' : U.Pt) (r' : Addr), σ' = [some (.ref b), some (.int n), some (.ref a), some (.int tl), some (.ref w)] ∧ U.Dr t' ∧ H' w = some (.lst (U.partsL t' r')) ∧ H' r' = some (.lst (t'.ms.map U.sv)) ∧ U.Fr [a] H H' ∧ U.Pool H' a, ?_, ?_⟩
    · have hb1 := gB F4
      have hq1 := gQ F4
      have hb2 : ∀ m, upd H4 a m b = some (.lst [U.sv t.l, .int t.n, U.sv t.p, .ref q, U.ov t.y, U.ov t.c]) := fun m => by rw [upd_ne hba]; exact hb1
      have hra : r4 ≠ a := by
        rintro rfl
        obtain ⟨m, hm⟩ := P4
        rw [hm] at R4
        simp only [Option.some.injEq, HO.lst.injEq] at R4
        exact U.ms_ne R4.symm
      have hrw : r4 ≠ w := by
        rintro rfl
        rw [W4] at R4
        simp only [Option.some.injEq, HO.lst.injEq] at R4
        exact U.parts_ne R4
      have hw2 : ∀ m, upd H4 a m w = some (.lst [U.sv u4.l, .int u4.n, U.sv u4.p, .ref r4, U.ov u4.y, U.ov u4.c]) := fun m => by rw [upd_ne nwa]; exact W4
      have ok4 := D4.ok
      walk_at "rd"
      by_cases en : n = 3
      · rw [if_pos en]
        refine ⟨t.ms, rfl, ok.mn, fun m hm => ⟨(ok.ms m hm).1, hD.ms m hm⟩, fun H' r' ns f' P' hr' hn hns => ?_⟩
        have hw' : H' w = some (.lst (U.partsL u4 r4)) := f'.get (by simp; exact nwa) W4
        rw [hw']
        refine U.optE_of rfl (U.optE_of rfl ?_)
        have hrw' : r' ≠ w := by
          rintro rfl
          rw [hw'] at hr'
          simp only [Option.some.injEq, HO.lst.injEq] at hr'
          exact U.parts_ne hr'
        refine ⟨⟨u4.l, u4.n, u4.p, ns, u4.y, u4.c⟩, ⟨⟨ok4.l, ok4.n1, ok4.n2, ok4.p, ok4.pl, hn, fun m hm => ⟨(hns m hm).1, by have := (hns m hm).2; omega⟩, ok4.y, ok4.c⟩, D4.p, fun m hm => (hns m hm).2⟩, r', rfl, ?_, ?_, ?_⟩
        · rw [upd_ne hrw']; exact hr'
        · exact (F4.trans f').own (.inr hw0)
        · obtain ⟨m, hm⟩ := P'
          exact ⟨m, by rw [upd_ne nwa.symm]; exact hm⟩
      · rw [if_neg en]
        exact ⟨u4, D4, r4, rfl, R4⟩
    rintro σ' H5 ⟨u5, r5, rfl, D5, W5, R5, F5, P5⟩
    refine ⟨fun σ' H' => ∃ (t' : U.Pt) (r' : Addr), σ' = [some (.ref b), some (.int n), some (.ref a), some (.int tl), some (.ref w)] ∧ U.Dr t' ∧ H' w = some (.lst (U.partsL t' r')) ∧ H' r' = some (.lst (t'.ms.map U.sv)) ∧ U.Fr [a] H H' ∧ U.Pool H' a, ?_, ?_⟩
    · have hb1 := gB F5
      have hq1 := gQ F5
      have hb2 : ∀ m, upd H5 a m b = some (.lst [U.sv t.l, .int t.n, U.sv t.p, .ref q, U.ov t.y, U.ov t.c]) := fun m => by rw [upd_ne hba]; exact hb1
      have hra : r5 ≠ a := by
        rintro rfl
        obtain ⟨m, hm⟩ := P5
        rw [hm] at R5
        simp only [Option.some.injEq, HO.lst.injEq] at R5
        exact U.ms_ne R5.symm
      have hrw : r5 ≠ w := by
        rintro rfl
        rw [W5] at R5
        simp only [Option.some.injEq, HO.lst.injEq] at R5
        exact U.parts_ne R5
      have hw2 : ∀ m, upd H5 a m w = some (.lst [U.sv u5.l, .int u5.n, U.sv u5.p, .ref r5, U.ov u5.y, U.ov u5.c]) := fun m => by rw [upd_ne nwa]; exact W5
      have ok5 := D5.ok
      walk_at "rd"
      by_cases en : n = 4
      · rw [if_pos en]
        refine ⟨t.y, rfl, ok.y, fun z m3 hz => ?_⟩
        refine ⟨⟨u5.l, u5.n, u5.p, u5.ms, z, u5.c⟩, ⟨⟨ok5.l, ok5.n1, ok5.n2, ok5.p, ok5.pl, ok5.mn, ok5.ms, hz, ok5.c⟩, D5.p, D5.ms⟩, r5, rfl, ?_, ?_, ?_⟩
        · rw [upd_ne hrw, upd_ne hra]; exact R5
        · exact (F5.own (.inl (by simp))).own (.inr hw0)
        · exact ⟨m3, by rw [upd_ne nwa.symm, upd_same]⟩
      · rw [if_neg en]
        exact ⟨u5, D5, r5, rfl, R5⟩
    rintro σ' H6 ⟨u6, r6, rfl, D6, W6, R6, F6, P6⟩
    refine ⟨fun σ' H' => ∃ (t' : U.Pt) (r' : Addr), σ' = [some (.ref b), some (.int n), some (.ref a), some (.int tl), some (.ref w)] ∧ U.Dr t' ∧ H' w = some (.lst (U.partsL t' r')) ∧ H' r' = some (.lst (t'.ms.map U.sv)) ∧ U.Fr [a] H H' ∧ U.Pool H' a, ?_, ?_⟩
    · have hb1 := gB F6
      have hq1 := gQ F6
      have hb2 : ∀ m, upd H6 a m b = some (.lst [U.sv t.l, .int t.n, U.sv t.p, .ref q, U.ov t.y, U.ov t.c]) := fun m => by rw [upd_ne hba]; exact hb1
      have hra : r6 ≠ a := by
        rintro rfl
        obtain ⟨m, hm⟩ := P6
        rw [hm] at R6
        simp only [Option.some.injEq, HO.lst.injEq] at R6
        exact U.ms_ne R6.symm
      have hrw : r6 ≠ w := by
        rintro rfl
        rw [W6] at R6
        simp only [Option.some.injEq, HO.lst.injEq] at R6
        exact U.parts_ne R6
      have hw2 : ∀ m, upd H6 a m w = some (.lst [U.sv u6.l, .int u6.n, U.sv u6.p, .ref r6, U.ov u6.y, U.ov u6.c]) := fun m => by rw [upd_ne nwa]; exact W6
      have ok6 := D6.ok
      walk_at "rd"
      by_cases en : n = 5
      · rw [if_pos en]
        refine ⟨t.c, rfl, ok.c, fun z m3 hz => ?_⟩
        refine ⟨⟨u6.l, u6.n, u6.p, u6.ms, u6.y, z⟩, ⟨⟨ok6.l, ok6.n1, ok6.n2, ok6.p, ok6.pl, ok6.mn, ok6.ms, ok6.y, hz⟩, D6.p, D6.ms⟩, r6, rfl, ?_, ?_, ?_⟩
        · rw [upd_ne hrw, upd_ne hra]; exact R6
        · exact (F6.own (.inl (by simp))).own (.inr hw0)
        · exact ⟨m3, by rw [upd_ne nwa.symm, upd_same]⟩
      · rw [if_neg en]
        exact ⟨u6, D6, r6, rfl, R6⟩
    rintro σ' H7 ⟨u7, r7, rfl, D7, W7, R7, F7, P7⟩
    have hb1 := gB F7
    walk_at "rd"
    by_cases e1 : tl = 1
    · rw [if_pos e1]
      intro r8 hr8
      refine ⟨P7.new hr8, fun H8 b8 t8 f8 P8 L8 D8 hb8 => ?_⟩
      obtain ⟨s, hb9, hs⟩ := L8
      have n8 := U.Pool.ne P7 hr8
      have g8 : H8 r8 = some (.lst (U.cutL (U.partsL u7 r7) none (some (n + 1)))) := f8.get (by simp; exact n8) upd_same
      rw [hb9]
      show ∀ r, H8 r = none → _
      intro r9 hr9
      have g9 := U.upd_old2 (o := .lst (U.cutL (U.partsL t8 s) (some (n + 1)) none)) hr9 g8
      have hn : U.Fr [a] H H8 := (F7.new hr8).trans f8
      have hra : r7 ≠ a := by
        rintro rfl
        obtain ⟨m, hm⟩ := P7
        rw [hm] at R7
        simp only [Option.some.injEq, HO.lst.injEq] at R7
        exact U.ms_ne R7.symm
      have g7 : H8 r7 = some (.lst (u7.ms.map U.sv)) := f8.get (by simp; exact hra) (U.upd_old2 hr8 R7)
      obtain ⟨x, z, ex, Dx, hz⟩ := U.mix (r := r7) (s := s) D7 D8 hn0 hn6
      have l1 := U.cut_len (l := U.partsL u7 r7) (lo := none) (hi := some (n + 1))
      have l2 := U.cut_len (l := U.partsL t8 s) (lo := some (n + 1)) (hi := none)
      have l3 : (U.partsL u7 r7).length = 6 := rfl
      have l4 : (U.partsL t8 s).length = 6 := rfl
      walk_at "rd"
      refine ⟨by omega, fun r10 hr10 => ?_⟩
      have P9 : U.Pool (upd H8 r9 (.lst (U.cutL (U.partsL t8 s) (some (n + 1)) none))) a := P8.new hr9
      refine k _ r10 x ((hn.new hr9).new hr10) (P9.new hr10) ⟨z, upd_same, ?_⟩ Dx
      refine U.upd_old2 hr10 (U.upd_old2 hr9 ?_)
      rcases hz with ⟨rfl, e⟩ | ⟨rfl, e⟩
      · rw [e]; exact g7
      · rw [e]; exact hs
    · rw [if_neg e1]
      exact k _ w u7 F7 P7 ⟨r7, W7, R7⟩ D7

abbrev sp__law_pool : Sp := U.sp1 fun c H Q _ => U.optE (U.intOf c) fun _ => ∀ H' p, U.Fr [] H H' → H p = none → U.Pool H' p → Q (.ref p) H'
theorem sc__law_pool : FnScope ["_law_cell", "_law_number", "_law_k", "_law_mix"] ["_law_cell"] (defScope s__law_pool) := U.scope_by (by decide +kernel)
theorem ok__law_pool {P : Program} {w : World} {K : PySem.W.Frag} {mg : Str → Option Value} {base : Heap} {f : Addr} {fd : FuncData}
    (F : FunD K "_law_pool" "_law_pool" (defArgs s__law_pool) (defBody s__law_pool) (defScope s__law_pool) [] [] f fd) (B : U.BI mg)  :
    FnOk P w K mg base C8.CX0 1 f fd ["_law_cell"] (sp__law_pool) := by
  have sc := sc__law_pool
  refine F.ok sc (fun vs H Q E h => ?_) (fun cdv A outer s H vs Q E hr h => ⟨_, PSs.nox (pss_cons (ps_if (pt_cmpR U.ge (pv 0) (pe_op U.pow pe_int pe_int) (nomark _)) (pss_one (ps_ret (pe_lst (pa_cons (pv 0) pa_nil)))) pss_nil)
      (pss_cons (ps_set (i := 1) sc.nd rfl (Or.inl rfl) pe_int)
      (pss_cons (ps_for PassesOwn.never rfl (pi_range1 rfl B.range_ (pa_cons pe_int pa_nil)) (pg_name (i := 2) sc.nd rfl (Or.inl rfl)) (pss_cons (ps_set (i := 3) sc.nd rfl (Or.inl rfl) (pe_op U.mod (pe_op U.pow (pe_op U.add (pe_op U.add (pe_op U.mul (pe_op U.mod (pv 0) pe_int) pe_int) (pe_op U.mul pe_int (pv 2))) pe_int) pe_int) pe_int))
      (pss_one (ps_set (i := 1) sc.nd rfl (Or.inl rfl) (pe_op U.add (pe_op U.mul (pv 1) pe_int) (pe_op U.mod (pe_op U.pow (pe_op U.add (pe_op U.mul (pv 3) pe_int) (pv 2)) pe_int) pe_int))))))
      (pss_one (ps_ret (pe_lst (pa_cons (pv 1) pa_nil))))))), ?_⟩)
  · obtain ⟨_, rfl, _⟩ := h; rfl
  · obtain ⟨c, rfl, i, hc, q⟩ := h
    cases U.intOf_eq hc
    walk_at "rd"
    refine ⟨⟨by decide, by decide, by decide⟩, ?_⟩
    by_cases h1 : 1000000000000000000 ≤ i
    · rw [if_pos h1]
      exact ⟨by rw [U.sizeL]; decide, fun p hp => q _ p (U.fr1 hp) hp ⟨_, upd_same⟩⟩
    · rw [if_neg h1]
      refine U.r_rng (by decide) (by decide) (fun k σ H' => H' = H ∧ ∃ n o o', σ = [some (.int i), some (.int n), o, o']) ⟨rfl, _, _, _, rfl⟩ ?_ ?_
      · rintro k σ H' hk ⟨rfl, n, o, o', rfl⟩
        have hk : k < 9 := hk
        have b1 : 0 ≤ i % 2147483647 := Int.emod_nonneg _ (by decide)
        have b2 : i % 2147483647 < 2147483647 := Int.emod_lt_of_pos _ (by decide)
        have b3 : 0 ≤ (i % 2147483647 * 69621 + 7919 * (k : Int) + 11) ^ 5 % 2147483647 := Int.emod_nonneg _ (by decide)
        have b4 : (i % 2147483647 * 69621 + 7919 * (k : Int) + 11) ^ 5 % 2147483647 < 2147483647 := Int.emod_lt_of_pos _ (by decide)
        walk_at "rd"
        refine ⟨U.mulR (by decide), U.mulL (by decide), ⟨by decide, by decide, by omega⟩, U.mulR (by decide), U.mulR (by decide), ⟨by decide, by decide, ?_⟩, ⟨_, rfl⟩, _, rfl⟩
        generalize (i % 2147483647 * 69621 + 7919 * (k : Int) + 11) ^ 5 % 2147483647 = z at *
        omega
      · rintro σ H' ⟨rfl, n, o, o', rfl⟩
        walk_at "rd"
        exact ⟨by rw [U.sizeL]; decide, fun p hp => q _ p (U.fr1 hp) hp ⟨_, upd_same⟩⟩

abbrev sp_law (K : PySem.W.Frag) (C : Addr) : Sp := U.sp1 fun s H Q _ => ∃ (a : Addr) (ns : List Int), s = .ref a ∧ SqL K H a (ns.map V.int) ∧ ∀ H', Q (.bl true) H'
theorem sc_law : FnScope ["_law_script", "_law_elder", "_law_cell", "_law_pool_here", "_law_at", "_law_fore", "_law_mate", "_law_row"] ["_law_script"] (defScope s_law) := U.scope_by (by decide +kernel)
theorem ok_law {P : Program} {w : World} {K : PySem.W.Frag} {mg : Str → Option Value} {base : Heap} {f : Addr} {fd : FuncData} {C_Mark : Addr}
    (F : FunD K "law" "law" (defArgs s_law) (defBody s_law) (defScope s_law) [] [] f fd) (B : U.BI mg) (c__law_both_ways : C8.Cal P w K mg base 7 "_law_both_ways" (sp__law_both_ways C_Mark) []) (c__law_near : C8.Cal P w K mg base 5 "_law_near" (sp__law_near) []) (c__law_parts : C8.Cal P w K mg base 4 "_law_parts" (sp__law_parts) []) (c__law_pool : C8.Cal P w K mg base 1 "_law_pool" (sp__law_pool) []) (c__law_take : C8.Cal P w K mg base 1 "_law_take" (sp__law_take) []) :
    FnOk P w K mg base C8.CX0 8 f fd ["_law_script"] (sp_law K C_Mark) := by
  have sc := sc_law
  refine F.ok sc (fun vs H Q E h => ?_) (fun cdv A outer s H vs Q E hr h => ⟨_, PSs.nox (pss_cons (ps_set (i := 1) sc.nd rfl (Or.inl rfl) (pe_lst (pa_cons (U.pe_s' [97] (by decide +kernel)) (pa_cons pe_int (pa_cons (U.pe_s' [] (by decide +kernel)) (pa_cons (pe_lst pa_nil) (pa_cons pe_non (pa_cons pe_non pa_nil))))))))
      (pss_cons (ps_for PassesOwn.never rfl (pi_list (pe_op U.add (pe_slice U.slS (pv 0) po_none (po_some pe_int)) (pe_lst (pa_cons pe_int pa_nil)))) (pg_name (i := 2) sc.nd rfl (Or.inl rfl)) (pss_cons (ps_set (i := 3) sc.nd rfl (Or.inl rfl) (C8.pe_c c__law_pool hr (by decide) rfl (pa_cons (pv 2) pa_nil)))
      (pss_cons (ps_set (i := 4) sc.nd rfl (Or.inl rfl) (C8.pe_c c__law_take hr (by decide) rfl (pa_cons (pv 3) (pa_cons pe_int pa_nil))))
      (pss_cons (ps_set (i := 5) sc.nd rfl (Or.inl rfl) (C8.pe_c c__law_parts hr (by decide) rfl (pa_cons (pv 3) pa_nil)))
      (pss_cons (ps_set (i := 6) sc.nd rfl (Or.inl rfl) (C8.pe_c c__law_near hr (by decide) rfl (pa_cons (pv 5) (pa_cons (pv 4) (pa_cons (pv 3) pa_nil)))))
      (pss_cons (ps_for PassesOwn.never rfl (pi_list (pe_lst (pa_cons (pv 6) (pa_cons (pv 1) (pa_cons (pv 5) (pa_cons (pe_lst (pa_cons (U.pe_s' [97] (by decide +kernel)) (pa_cons pe_int (pa_cons (U.pe_s' [] (by decide +kernel)) (pa_cons (pe_lst pa_nil) (pa_cons pe_non (pa_cons pe_non pa_nil))))))) pa_nil)))))) (pg_name (i := 7) sc.nd rfl (Or.inl rfl)) (pss_one (ps_if (pt_not (pt_val (C8.pe_c c__law_both_ways hr (by decide) rfl (pa_cons (pv 5) (pa_cons (pv 7) pa_nil))))) (pss_one (ps_ret pe_bl)) pss_nil)))
      (pss_one (ps_set (i := 1) sc.nd rfl (Or.inl rfl) (pv 6)))))))))
      (pss_one (ps_ret pe_bl)))), ?_⟩)
  · obtain ⟨_, rfl, _⟩ := h; rfl
  · obtain ⟨s', rfl, a, ns, rfl, hS, k⟩ := h
    walk_at "rd"
    refine ⟨by rw [U.sizeL]; decide, fun p hp => ⟨by rw [U.sizeL]; decide, fun e0 he0 => ⟨ns.map V.int, U.SqL_fr ((U.fr1 hp).new he0) hS, fun c1 hc1 => ⟨by rw [U.sizeL]; decide, fun c2 hc2 => ?_⟩⟩⟩⟩
    rw [U.upd_old2 hc2 upd_same]
    have hlen : (U.cutL (ns.map V.int) none (some 63)).length ≤ 63 := by rw [U.cut_to (by decide), List.length_take]; exact Nat.min_le_left _ _
    refine U.optE_of rfl ⟨by omega, fun L hL => ?_⟩
    have gp := U.upd_old2 hL (o := .lst (U.cutL (ns.map V.int) none (some 63) ++ [V.int 7])) (U.upd_old2 hc2 (o := .lst [V.int 7]) (U.upd_old2 hc1 (o := .lst (U.cutL (ns.map V.int) none (some 63))) (U.upd_old2 he0 (o := .lst [U.sv [97], V.int 1, U.sv [], V.ref p, V.non, V.non]) (upd_same (H := H) (a := p) (o := .lst [])))))
    have ge := U.upd_old2 hL (o := .lst (U.cutL (ns.map V.int) none (some 63) ++ [V.int 7])) (U.upd_old2 hc2 (o := .lst [V.int 7]) (U.upd_old2 hc1 (o := .lst (U.cutL (ns.map V.int) none (some 63))) (upd_same (H := upd H p (.lst [])) (a := e0) (o := .lst [U.sv [97], V.int 1, U.sv [], V.ref p, V.non, V.non]))))
    refine U.r_lst upd_same (fun i σ H' => ∃ e t o2 o3 o4 o5 o6 o7, σ = [some (.ref a), some (.ref e), o2, o3, o4, o5, o6, o7] ∧ U.PL H' e t ∧ U.Dr t ∧ H' L = some (.lst (U.cutL (ns.map V.int) none (some 63) ++ [V.int 7])))
      ⟨e0, U.p0, _, _, _, _, _, _, rfl, U.pl0 ge gp, U.dr0, upd_same⟩ ?_ ?_ ?_
    · rintro i σ H' hi ⟨e, t, o2, o3, o4, o5, o6, o7, rfl, hPL, hDr, hL'⟩
      exact hL'
    · rintro i x σ H' hx ⟨e, t, o2, o3, o4, o5, o6, o7, rfl, hPL, hDr, hL'⟩
      obtain ⟨c, rfl⟩ := U.cell_int hx
      walk_at "rd"
      intro H1 pl f1 hpl P1
      walk_at "rd"
      intro at_ m1 ha1 ha2 H2 b tb f2 P2 PLb Drb hb
      have nL : L ≠ pl := U.ne_new' hpl hL'
      have hL2 : H2 L = some (.lst (U.cutL (ns.map V.int) none (some 63) ++ [V.int 7])) := f2.get (by simp; exact nL) (by rw [upd_ne nL]; exact f1.get (by simp) hL')
      have PLe2 : U.PL H2 e t := (hPL.fr0 f1).fr (U.fr_pool.trans f2) P1
      walk_at "rd"
      refine ⟨tb, PLb, Drb, fun H3 d u f3 P3 PLd Drd => ⟨by rw [U.sizeL]; decide, fun q1 hq1 => ⟨by rw [U.sizeL]; decide, fun q2 hq2 => ⟨by rw [U.sizeL]; decide, fun q3 hq3 => ?_⟩⟩⟩⟩
      have F4 := ((U.fr1 (o := .lst []) hq1).new hq2 (o := .lst [U.sv [97], V.int 1, U.sv [], V.ref q1, V.non, V.non])).new hq3 (o := .lst [V.ref d, V.ref e, V.ref b, V.ref q2])
      have PLd4 := PLd.fr0 F4
      have PLe4 := (PLe2.fr f3 P2).fr0 F4
      have PLb4 := (PLb.fr f3 P2).fr0 F4
      have hL4 := F4.get (b := L) (by simp) (f3.get (by simp; exact nL) hL2)
      have PL04 := U.pl0 (U.upd_old2 (o := .lst [V.ref d, V.ref e, V.ref b, V.ref q2]) hq3 (upd_same (o := .lst [U.sv [97], V.int 1, U.sv [], V.ref q1, V.non, V.non]))) (U.upd_old2 hq3 (U.upd_old2 hq2 upd_same))
      have hl4 := upd_same (H := upd (upd H3 q1 (.lst [])) q2 (.lst [U.sv [97], V.int 1, U.sv [], V.ref q1, V.non, V.non])) (a := q3) (o := .lst [V.ref d, V.ref e, V.ref b, V.ref q2])
      obtain ⟨H4, hH4⟩ : ∃ H4, H4 = upd (upd (upd H3 q1 (.lst [])) q2 (.lst [U.sv [97], V.int 1, U.sv [], V.ref q1, V.non, V.non])) q3 (.lst [V.ref d, V.ref e, V.ref b, V.ref q2]) := ⟨_, rfl⟩
      rw [← hH4] at F4 PLd4 PLe4 PLb4 hL4 PL04 hl4 ⊢
      clear hH4
      refine U.r_lst hl4 (fun i σ H' => (∃ o, σ = [some (.ref a), some (.ref e), some (.int c), some (.ref pl), some (.int at_), some (.ref b), some (.ref d), o]) ∧ U.Fr [] H4 H') ⟨⟨_, rfl⟩, .refl⟩ ?_ ?_ ?_
      · rintro i σ H' hi ⟨-, f⟩
        exact f.get (by simp) hl4
      · rintro i x σ H' hx ⟨⟨o, rfl⟩, f⟩
        obtain ⟨z, tz, rfl, PLz, Drz⟩ : ∃ z tz, x = .ref z ∧ U.PL H4 z tz ∧ U.Dr tz := by
          have hm := List.mem_of_getElem? hx
          simp only [List.mem_cons, List.not_mem_nil, or_false] at hm
          rcases hm with rfl | rfl | rfl | rfl
          · exact ⟨_, _, rfl, PLd4, Drd⟩
          · exact ⟨_, _, rfl, PLe4, hDr⟩
          · exact ⟨_, _, rfl, PLb4, Drb⟩
          · exact ⟨_, _, rfl, PL04, U.dr0⟩
        walk_at "rd"
        refine ⟨tb, PLb4.fr0 f, tz, PLz.fr0 f, Drb.ok, Drz.ok, fun H5 f5 => ⟨⟨_, rfl⟩, f.trans f5⟩⟩
      · rintro σ H' ⟨⟨o, rfl⟩, f⟩
        walk_at "rd"
        exact ⟨⟨_, rfl⟩, u, PLd4.fr0 f, Drd, f.get (by simp) hL4⟩
    · rintro σ H' ⟨e, t, o2, o3, o4, o5, o6, o7, rfl, hPL, hDr, hL'⟩
      walk_at "rd"

theorem facts {P : Program} {w : World} {K : PySem.W.Frag} {h : Heap} {mg : Str → Option Value} {fa_ : Addr} (X : K.In h) (G : h.Ns mainGlobals mg) (hfa : mg "law" = some (.ref fa_)) (c : He.SaysX Hd.fa Hd.fn Hd.tabs [] Hd.exB w h K) :
    ∃ fd : FuncData, (∀ (s : Shared) (v : Value), BindsTo s fd ⟨[v], []⟩ [("_law_script", v)]) ∧ ∀ base : Heap, K.In base → base.Ns mainGlobals mg → FnOk P w K mg base C8.CX0 8 fa_ fd ["_law_script"] (sp_law K (He.ga K "Mark")) := by
  have B : U.BI mg := ⟨He.free_ok X G (c.t.d.fact 65 (f := .free "len") rfl), He.free_ok X G (c.t.d.fact 66 (f := .free "isinstance") rfl), He.free_ok X G (c.t.d.fact 67 (f := .free "all") rfl), He.free_ok X G (c.t.d.fact 68 (f := .free "any") rfl), He.free_ok X G (c.t.d.fact 69 (f := .free "range") rfl), He.free_ok X G (c.t.d.fact 70 (f := .free "int") rfl), He.free_ok X G (c.t.d.fact 71 (f := .free "str") rfl), He.free_ok X G (c.t.d.fact 72 (f := .free "list") rfl), He.free_ok X G (c.t.d.fact 73 (f := .free "tuple") rfl), He.free_ok X G (c.t.d.fact 74 (f := .free "max") rfl), He.free_ok X G (c.t.d.fact 75 (f := .free "min") rfl), He.free_ok X G (c.t.d.fact 76 (f := .free "sorted") rfl), He.free_ok X G (c.t.d.fact 77 (f := .free "repr") rfl), He.free_ok X G (c.t.d.fact 78 (f := .free "enumerate") rfl), He.free_ok X G (c.t.d.fact 79 (f := .free "zip") rfl), He.free_ok X G (c.t.d.fact 80 (f := .free "divmod") rfl), He.free_ok X G (c.t.d.fact 81 (f := .free "sum") rfl), He.free_ok X G (c.t.d.fact 82 (f := .free "reversed") rfl), He.free_ok X G (c.t.d.fact 83 (f := .free "dict") rfl), He.free_ok X G (c.t.d.fact 84 (f := .free "bool") rfl)⟩
  have g_Mark := He.glo_ok X G (c.t.d.fact 35 (f := .glo "Mark") rfl)
  have g_PART : U.GInt mg "PART" 60 := U.gint_of (He.int_ok X G (c.t.d.fact 88 (f := .int "PART" 60) rfl))
  have g_LAST_YEAR : U.GInt mg "LAST_YEAR" 2999 := U.gint_of (He.int_ok X G (c.t.d.fact 91 (f := .int "LAST_YEAR" 2999) rfl))
  have g_FIRST_YEAR : U.GInt mg "FIRST_YEAR" 1000 := U.gint_of (He.int_ok X G (c.t.d.fact 90 (f := .int "FIRST_YEAR" 1000) rfl))
  have g_FIGURES : U.GStr mg "FIGURES" [48, 49, 50, 51, 52, 53, 54, 55, 56, 57] := U.gstr_of (He.str_ok X G (c.t.d.fact 86 (f := .str "FIGURES" "0123456789") rfl)) (by decide +kernel)
  have g_LETTERS : U.GStr mg "LETTERS" [97, 98, 99, 100, 101, 102, 103, 104, 105, 106, 107, 108, 109, 110, 111, 112, 113, 114, 115, 116, 117, 118, 119, 120, 121, 122] := U.gstr_of (He.str_ok X G (c.t.d.fact 85 (f := .str "LETTERS" "abcdefghijklmnopqrstuvwxyz") rfl)) (by decide +kernel)
  have g_MOST_MAKERS : U.GInt mg "MOST_MAKERS" 3 := U.gint_of (He.int_ok X G (c.t.d.fact 89 (f := .int "MOST_MAKERS" 3) rfl))
  have g_LONGEST : U.GInt mg "LONGEST" 6 := U.gint_of (He.int_ok X G (c.t.d.fact 87 (f := .int "LONGEST" 6) rfl))
  have g_GREATEST : U.GInt mg "GREATEST" 9999 := U.gint_of (He.int_ok X G (c.t.d.fact 92 (f := .int "GREATEST" 9999) rfl))
  have K_Mark := He.cls_ok (c.t.d.fact 36 (f := .cls "Mark") rfl)
  have G_Mark := He.glo_ok X G (c.t.d.fact 35 (f := .glo "Mark") rfl)
  have M : U.MkC K (He.ga K "Mark") := ⟨K_Mark, He.noat_ok (c.t.d.fact 37 (f := .noat "Mark" "kept_makers") rfl), He.noat_ok (c.t.d.fact 38 (f := .noat "Mark" "kept_letters") rfl), He.noat_ok (c.t.d.fact 39 (f := .noat "Mark" "kept_number") rfl), He.noat_ok (c.t.d.fact 40 (f := .noat "Mark" "kept_points") rfl), He.noat_ok (c.t.d.fact 41 (f := .noat "Mark" "kept_year") rfl), He.noat_ok (c.t.d.fact 42 (f := .noat "Mark" "kept_copy") rfl), He.noat_ok (c.t.d.fact 43 (f := .noat "Mark" "kept_text") rfl)⟩
  have hI : C8.InsC K (He.ga K "Mark") := by
    have e := c.more
    unfold Hd.exB at e
    simp only [Bool.and_eq_true, decide_eq_true_eq] at e
    exact ⟨K_Mark, He.eqO_ok e.1, He.eqO_ok e.2.1, e.2.2.1, e.2.2.2.1, e.2.2.2.2⟩
  obtain ⟨fd__law_whole, F0__law_whole⟩ := c.t.d.def_ 51 (d := Hd.d__law_whole) rfl
  have F__law_whole : FunD K "_law_whole" "_law_whole" (defArgs s__law_whole) (defBody s__law_whole) (defScope s__law_whole) [] [] (He.fAd K ("_law_whole", none)) fd__law_whole := F0__law_whole
  clear F0__law_whole
  obtain ⟨fd_Mark_key, F0_Mark_key⟩ := c.t.d.def_ 31 (d := Hd.d_Mark_key) rfl
  have F_Mark_key : FunD K "key" "Mark.key" (defArgs s_Mark_key) (defBody s_Mark_key) (defScope s_Mark_key) [] [] (He.fAd K ("Mark", some "key")) fd_Mark_key := F0_Mark_key
  clear F0_Mark_key
  obtain ⟨fd_Mark_ahead, F0_Mark_ahead⟩ := c.t.d.def_ 32 (d := Hd.d_Mark_ahead) rfl
  have F_Mark_ahead : FunD K "ahead" "Mark.ahead" (defArgs s_Mark_ahead) (defBody s_Mark_ahead) (defScope s_Mark_ahead) [] [] (He.fAd K ("Mark", some "ahead")) fd_Mark_ahead := F0_Mark_ahead
  clear F0_Mark_ahead
  obtain ⟨fd_Mark___eq__, F0_Mark___eq__⟩ := c.t.d.def_ 20 (d := Hd.d_Mark___eq__) rfl
  have F_Mark___eq__ : FunD K "__eq__" "Mark.__eq__" (defArgs s_Mark___eq__) (defBody s_Mark___eq__) (defScope s_Mark___eq__) [] [] (He.fAd K ("Mark", some "__eq__")) fd_Mark___eq__ := F0_Mark___eq__
  clear F0_Mark___eq__
  obtain ⟨fd_order, F0_order⟩ := c.t.d.def_ 7 (d := Hd.d_order) rfl
  have F_order : FunD K "order" "order" (defArgs s_order) (defBody s_order) (defScope s_order) [] [] (He.fAd K ("order", none)) fd_order := F0_order
  clear F0_order
  obtain ⟨fd_figures_of, F0_figures_of⟩ := c.t.d.def_ 9 (d := Hd.d_figures_of) rfl
  have F_figures_of : FunD K "figures_of" "figures_of" (defArgs s_figures_of) (defBody s_figures_of) (defScope s_figures_of) [] [] (He.fAd K ("figures_of", none)) fd_figures_of := F0_figures_of
  clear F0_figures_of
  obtain ⟨fd_Mark_text_of, F0_Mark_text_of⟩ := c.t.d.def_ 19 (d := Hd.d_Mark_text_of) rfl
  have F_Mark_text_of : FunD K "text_of" "Mark.text_of" (defArgs s_Mark_text_of) (defBody s_Mark_text_of) (defScope s_Mark_text_of) [] [] (He.fAd K ("Mark", some "text_of")) fd_Mark_text_of := F0_Mark_text_of
  clear F0_Mark_text_of
  obtain ⟨fd_is_whole, F0_is_whole⟩ := c.t.d.def_ 8 (d := Hd.d_is_whole) rfl
  have F_is_whole : FunD K "is_whole" "is_whole" (defArgs s_is_whole) (defBody s_is_whole) (defScope s_is_whole) [.non] [] (He.fAd K ("is_whole", none)) fd_is_whole := F0_is_whole
  clear F0_is_whole
  obtain ⟨fd_need_copy, F0_need_copy⟩ := c.t.d.def_ 16 (d := Hd.d_need_copy) rfl
  have F_need_copy : FunD K "need_copy" "need_copy" (defArgs s_need_copy) (defBody s_need_copy) (defScope s_need_copy) [] [] (He.fAd K ("need_copy", none)) fd_need_copy := F0_need_copy
  clear F0_need_copy
  obtain ⟨fd_need_year, F0_need_year⟩ := c.t.d.def_ 15 (d := Hd.d_need_year) rfl
  have F_need_year : FunD K "need_year" "need_year" (defArgs s_need_year) (defBody s_need_year) (defScope s_need_year) [] [] (He.fAd K ("need_year", none)) fd_need_year := F0_need_year
  clear F0_need_year
  obtain ⟨fd_is_figures, F0_is_figures⟩ := c.t.d.def_ 11 (d := Hd.d_is_figures) rfl
  have F_is_figures : FunD K "is_figures" "is_figures" (defArgs s_is_figures) (defBody s_is_figures) (defScope s_is_figures) [] [] (He.fAd K ("is_figures", none)) fd_is_figures := F0_is_figures
  clear F0_is_figures
  obtain ⟨fd_is_maker, F0_is_maker⟩ := c.t.d.def_ 13 (d := Hd.d_is_maker) rfl
  have F_is_maker : FunD K "is_maker" "is_maker" (defArgs s_is_maker) (defBody s_is_maker) (defScope s_is_maker) [] [] (He.fAd K ("is_maker", none)) fd_is_maker := F0_is_maker
  clear F0_is_maker
  obtain ⟨fd_makers_in, F0_makers_in⟩ := c.t.d.def_ 17 (d := Hd.d_makers_in) rfl
  have F_makers_in : FunD K "makers_in" "makers_in" (defArgs s_makers_in) (defBody s_makers_in) (defScope s_makers_in) [] [] (He.fAd K ("makers_in", none)) fd_makers_in := F0_makers_in
  clear F0_makers_in
  obtain ⟨fd_is_points, F0_is_points⟩ := c.t.d.def_ 12 (d := Hd.d_is_points) rfl
  have F_is_points : FunD K "is_points" "is_points" (defArgs s_is_points) (defBody s_is_points) (defScope s_is_points) [] [] (He.fAd K ("is_points", none)) fd_is_points := F0_is_points
  clear F0_is_points
  obtain ⟨fd_is_name, F0_is_name⟩ := c.t.d.def_ 10 (d := Hd.d_is_name) rfl
  have F_is_name : FunD K "is_name" "is_name" (defArgs s_is_name) (defBody s_is_name) (defScope s_is_name) [] [] (He.fAd K ("is_name", none)) fd_is_name := F0_is_name
  clear F0_is_name
  obtain ⟨fd_is_letters, F0_is_letters⟩ := c.t.d.def_ 14 (d := Hd.d_is_letters) rfl
  have F_is_letters : FunD K "is_letters" "is_letters" (defArgs s_is_letters) (defBody s_is_letters) (defScope s_is_letters) [] [] (He.fAd K ("is_letters", none)) fd_is_letters := F0_is_letters
  clear F0_is_letters
  obtain ⟨fd_Mark___init__, F0_Mark___init__⟩ := c.t.d.def_ 18 (d := Hd.d_Mark___init__) rfl
  have F_Mark___init__ : FunD K "__init__" "Mark.__init__" (defArgs s_Mark___init__) (defBody s_Mark___init__) (defScope s_Mark___init__) [(.str ""), .non, .non, .non] [] (He.fAd K ("Mark", some "__init__")) fd_Mark___init__ := F0_Mark___init__
  clear F0_Mark___init__
  obtain ⟨fd__law_mark, F0__law_mark⟩ := c.t.d.def_ 48 (d := Hd.d__law_mark) rfl
  have F__law_mark : FunD K "_law_mark" "_law_mark" (defArgs s__law_mark) (defBody s__law_mark) (defScope s__law_mark) [] [] (He.fAd K ("_law_mark", none)) fd__law_mark := F0__law_mark
  clear F0__law_mark
  obtain ⟨fd__law_key, F0__law_key⟩ := c.t.d.def_ 49 (d := Hd.d__law_key) rfl
  have F__law_key : FunD K "_law_key" "_law_key" (defArgs s__law_key) (defBody s__law_key) (defScope s__law_key) [] [] (He.fAd K ("_law_key", none)) fd__law_key := F0__law_key
  clear F0__law_key
  obtain ⟨fd__law_order, F0__law_order⟩ := c.t.d.def_ 50 (d := Hd.d__law_order) rfl
  have F__law_order : FunD K "_law_order" "_law_order" (defArgs s__law_order) (defBody s__law_order) (defScope s__law_order) [] [] (He.fAd K ("_law_order", none)) fd__law_order := F0__law_order
  clear F0__law_order
  obtain ⟨fd__law_both_ways, F0__law_both_ways⟩ := c.t.d.def_ 52 (d := Hd.d__law_both_ways) rfl
  have F__law_both_ways : FunD K "_law_both_ways" "_law_both_ways" (defArgs s__law_both_ways) (defBody s__law_both_ways) (defScope s__law_both_ways) [] [] (He.fAd K ("_law_both_ways", none)) fd__law_both_ways := F0__law_both_ways
  clear F0__law_both_ways
  obtain ⟨fd__law_take, F0__law_take⟩ := c.t.d.def_ 39 (d := Hd.d__law_take) rfl
  have F__law_take : FunD K "_law_take" "_law_take" (defArgs s__law_take) (defBody s__law_take) (defScope s__law_take) [] [] (He.fAd K ("_law_take", none)) fd__law_take := F0__law_take
  clear F0__law_take
  obtain ⟨fd__law_figures, F0__law_figures⟩ := c.t.d.def_ 40 (d := Hd.d__law_figures) rfl
  have F__law_figures : FunD K "_law_figures" "_law_figures" (defArgs s__law_figures) (defBody s__law_figures) (defScope s__law_figures) [] [] (He.fAd K ("_law_figures", none)) fd__law_figures := F0__law_figures
  clear F0__law_figures
  obtain ⟨fd__law_maker, F0__law_maker⟩ := c.t.d.def_ 41 (d := Hd.d__law_maker) rfl
  have F__law_maker : FunD K "_law_maker" "_law_maker" (defArgs s__law_maker) (defBody s__law_maker) (defScope s__law_maker) [] [] (He.fAd K ("_law_maker", none)) fd__law_maker := F0__law_maker
  clear F0__law_maker
  obtain ⟨fd__law_parts, F0__law_parts⟩ := c.t.d.def_ 42 (d := Hd.d__law_parts) rfl
  have F__law_parts : FunD K "_law_parts" "_law_parts" (defArgs s__law_parts) (defBody s__law_parts) (defScope s__law_parts) [] [] (He.fAd K ("_law_parts", none)) fd__law_parts := F0__law_parts
  clear F0__law_parts
  obtain ⟨fd__law_near_copy, F0__law_near_copy⟩ := c.t.d.def_ 46 (d := Hd.d__law_near_copy) rfl
  have F__law_near_copy : FunD K "_law_near_copy" "_law_near_copy" (defArgs s__law_near_copy) (defBody s__law_near_copy) (defScope s__law_near_copy) [] [] (He.fAd K ("_law_near_copy", none)) fd__law_near_copy := F0__law_near_copy
  clear F0__law_near_copy
  obtain ⟨fd__law_near_year, F0__law_near_year⟩ := c.t.d.def_ 45 (d := Hd.d__law_near_year) rfl
  have F__law_near_year : FunD K "_law_near_year" "_law_near_year" (defArgs s__law_near_year) (defBody s__law_near_year) (defScope s__law_near_year) [] [] (He.fAd K ("_law_near_year", none)) fd__law_near_year := F0__law_near_year
  clear F0__law_near_year
  obtain ⟨fd__law_near_word, F0__law_near_word⟩ := c.t.d.def_ 43 (d := Hd.d__law_near_word) rfl
  have F__law_near_word : FunD K "_law_near_word" "_law_near_word" (defArgs s__law_near_word) (defBody s__law_near_word) (defScope s__law_near_word) [] [] (He.fAd K ("_law_near_word", none)) fd__law_near_word := F0__law_near_word
  clear F0__law_near_word
  obtain ⟨fd__law_near_makers, F0__law_near_makers⟩ := c.t.d.def_ 44 (d := Hd.d__law_near_makers) rfl
  have F__law_near_makers : FunD K "_law_near_makers" "_law_near_makers" (defArgs s__law_near_makers) (defBody s__law_near_makers) (defScope s__law_near_makers) [] [] (He.fAd K ("_law_near_makers", none)) fd__law_near_makers := F0__law_near_makers
  clear F0__law_near_makers
  obtain ⟨fd__law_near, F0__law_near⟩ := c.t.d.def_ 47 (d := Hd.d__law_near) rfl
  have F__law_near : FunD K "_law_near" "_law_near" (defArgs s__law_near) (defBody s__law_near) (defScope s__law_near) [] [] (He.fAd K ("_law_near", none)) fd__law_near := F0__law_near
  clear F0__law_near
  obtain ⟨fd__law_pool, F0__law_pool⟩ := c.t.d.def_ 38 (d := Hd.d__law_pool) rfl
  have F__law_pool : FunD K "_law_pool" "_law_pool" (defArgs s__law_pool) (defBody s__law_pool) (defScope s__law_pool) [] [] (He.fAd K ("_law_pool", none)) fd__law_pool := F0__law_pool
  clear F0__law_pool
  obtain ⟨fd_law, F0_law⟩ := c.t.d.def_ 53 (d := Hd.d_law) rfl
  have F_law : FunD K "law" "law" (defArgs s_law) (defBody s_law) (defScope s_law) [] [] (He.fAd K ("law", none)) fd_law := F0_law
  clear F0_law
  have e_law := hfa.symm.trans (He.glo_ok X G (c.t.d.fact 26 (f := .glo "law") rfl))
  cases e_law
  refine ⟨fd_law, fun s v => FunD.bindsA (ps := ["_law_script"]) F_law (fun _ _ _ _ _ _ us hl => match us, hl with | [_], _ => rfl) s [v] rfl, fun base _ _ => ?_⟩
  have o__law_whole := @ok__law_whole P w K mg base (He.fAd K ("_law_whole", none)) fd__law_whole F__law_whole B 
  have b_c__law_whole : Binds K fd__law_whole _ [] := FunD.bindsN (ps := ["_law_found"]) F__law_whole (fun _ _ _ _ _ _ us hl => match us, hl with | [_], _ => rfl)
  have c__law_whole : C8.Cal P w K mg base 1 "_law_whole" (sp__law_whole) [] := ⟨_, fd__law_whole, _, [], o__law_whole, He.glo_ok X G (c.t.d.fact 24 (f := .glo "_law_whole") rfl), F__law_whole.kp, b_c__law_whole, .nil⟩
  have o_Mark_key := @ok_Mark_key P w K mg base (He.fAd K ("Mark", some "key")) fd_Mark_key _ F_Mark_key B (M)
  have b_m_Mark_key : Binds K fd_Mark_key _ [] := FunD.bindsN (ps := ["self"]) F_Mark_key (fun _ _ _ _ _ _ us hl => match us, hl with | [_], _ => rfl)
  have m_Mark_key : C8.Met P w K mg base 1 (He.ga K "Mark") "key" (sp_Mark_key (He.ga K "Mark")) [] := ⟨_, fd_Mark_key, _, [], K_Mark, He.meth_ok (c.t.d.fact 57 (f := .meth "Mark" "key") rfl), o_Mark_key, b_m_Mark_key, .nil⟩
  have o_Mark_ahead := @ok_Mark_ahead P w K mg base (He.fAd K ("Mark", some "ahead")) fd_Mark_ahead _ F_Mark_ahead B (m_Mark_key)
  have b_m_Mark_ahead : Binds K fd_Mark_ahead _ [] := FunD.bindsN (ps := ["self", "other"]) F_Mark_ahead (fun _ _ _ _ _ _ us hl => match us, hl with | [_, _], _ => rfl)
  have m_Mark_ahead : C8.Met P w K mg base 2 (He.ga K "Mark") "ahead" (sp_Mark_ahead (He.ga K "Mark")) [] := ⟨_, fd_Mark_ahead, _, [], K_Mark, He.meth_ok (c.t.d.fact 58 (f := .meth "Mark" "ahead") rfl), o_Mark_ahead, b_m_Mark_ahead, .nil⟩
  have o_Mark___eq__ := @ok_Mark___eq__ P w K mg base (He.fAd K ("Mark", some "__eq__")) fd_Mark___eq__ _ F_Mark___eq__ B (M) (g_Mark) (hI)
  have hE : U.EqG P w K mg base 1 (He.ga K "Mark") (sp_Mark___eq__ (He.ga K "Mark")) := by
    have m := He.meth_ok (c.t.d.fact 46 (f := .meth "Mark" "__eq__") rfl)
    exact ⟨_, fd_Mark___eq__, _, o_Mark___eq__, m.at_, m.fn, FunD.bindsN (ps := ["self", "other"]) F_Mark___eq__ (fun _ _ _ _ _ _ us hl => match us, hl with | [_, _], _ => rfl)⟩
  have o_order := @ok_order P w K mg base (He.fAd K ("order", none)) fd_order _ F_order B (hE) (m_Mark_ahead)
  have b_c_order : Binds K fd_order _ [] := FunD.bindsN (ps := ["one", "other"]) F_order (fun _ _ _ _ _ _ us hl => match us, hl with | [_, _], _ => rfl)
  have c_order : C8.Cal P w K mg base 3 "order" (sp_order (He.ga K "Mark")) [] := ⟨_, fd_order, _, [], o_order, He.glo_ok X G (c.t.d.fact 0 (f := .glo "order") rfl), F_order.kp, b_c_order, .nil⟩
  have o_figures_of := @ok_figures_of P w K mg base (He.fAd K ("figures_of", none)) fd_figures_of F_figures_of B (g_PART)
  have b_c_figures_of : Binds K fd_figures_of _ [] := FunD.bindsN (ps := ["number"]) F_figures_of (fun _ _ _ _ _ _ us hl => match us, hl with | [_], _ => rfl)
  have c_figures_of : C8.Cal P w K mg base 1 "figures_of" (sp_figures_of) [] := ⟨_, fd_figures_of, _, [], o_figures_of, He.glo_ok X G (c.t.d.fact 2 (f := .glo "figures_of") rfl), F_figures_of.kp, b_c_figures_of, .nil⟩
  have o_Mark_text_of := @ok_Mark_text_of P w K mg base (He.fAd K ("Mark", some "text_of")) fd_Mark_text_of _ F_Mark_text_of B (M) (c_figures_of)
  have b_m_Mark_text_of : Binds K fd_Mark_text_of _ [] := FunD.bindsN (ps := ["self"]) F_Mark_text_of (fun _ _ _ _ _ _ us hl => match us, hl with | [_], _ => rfl)
  have m_Mark_text_of : C8.Met P w K mg base 2 (He.ga K "Mark") "text_of" (sp_Mark_text_of (He.ga K "Mark")) [] := ⟨_, fd_Mark_text_of, _, [], K_Mark, He.meth_ok (c.t.d.fact 45 (f := .meth "Mark" "text_of") rfl), o_Mark_text_of, b_m_Mark_text_of, .nil⟩
  have o_is_whole := @ok_is_whole P w K mg base (He.fAd K ("is_whole", none)) fd_is_whole F_is_whole B 
  obtain ⟨ds_c_is_whole, v_c_is_whole, b_c_is_whole⟩ := FunD.binds1 (ps := ["thing", "low", "high"]) F_is_whole 3 1 (by simp) (by rfl) (fun _ _ _ _ _ _ _ us its hl hi => match us, its, hl, hi with | [_, _, _], [_], _, _ => ⟨_, rfl, rfl⟩)
  have c_is_whole : C8.Cal P w K mg base 1 "is_whole" (sp_is_whole) [] := ⟨_, fd_is_whole, _, ds_c_is_whole, o_is_whole, He.glo_ok X G (c.t.d.fact 1 (f := .glo "is_whole") rfl), F_is_whole.kp, b_c_is_whole, v_c_is_whole⟩
  obtain ⟨ds_c_is_whole_d1, v_c_is_whole_d1, b_c_is_whole_d1⟩ := FunD.binds1 (ps := ["thing", "low", "high"]) F_is_whole 2 0 (by simp) (by rfl) (fun _ _ _ _ _ _ _ us its hl hi => match us, its, hl, hi with | [_, _], [_], _, _ => ⟨_, rfl, rfl⟩)
  have c_is_whole_d1 : C8.Cal P w K mg base 1 "is_whole" (sp_is_whole) [.non] := ⟨_, fd_is_whole, _, ds_c_is_whole_d1, o_is_whole, He.glo_ok X G (c.t.d.fact 1 (f := .glo "is_whole") rfl), F_is_whole.kp, b_c_is_whole_d1, v_c_is_whole_d1⟩
  have o_need_copy := @ok_need_copy P w K mg base (He.fAd K ("need_copy", none)) fd_need_copy F_need_copy B (c_is_whole_d1)
  have b_c_need_copy : Binds K fd_need_copy _ [] := FunD.bindsN (ps := ["copy"]) F_need_copy (fun _ _ _ _ _ _ us hl => match us, hl with | [_], _ => rfl)
  have c_need_copy : C8.Cal P w K mg base 2 "need_copy" (sp_need_copy) [] := ⟨_, fd_need_copy, _, [], o_need_copy, He.glo_ok X G (c.t.d.fact 9 (f := .glo "need_copy") rfl), F_need_copy.kp, b_c_need_copy, .nil⟩
  have o_need_year := @ok_need_year P w K mg base (He.fAd K ("need_year", none)) fd_need_year F_need_year B (c_is_whole) (g_FIRST_YEAR) (g_LAST_YEAR)
  have b_c_need_year : Binds K fd_need_year _ [] := FunD.bindsN (ps := ["year"]) F_need_year (fun _ _ _ _ _ _ us hl => match us, hl with | [_], _ => rfl)
  have c_need_year : C8.Cal P w K mg base 2 "need_year" (sp_need_year) [] := ⟨_, fd_need_year, _, [], o_need_year, He.glo_ok X G (c.t.d.fact 8 (f := .glo "need_year") rfl), F_need_year.kp, b_c_need_year, .nil⟩
  have o_is_figures := @ok_is_figures P w K mg base (He.fAd K ("is_figures", none)) fd_is_figures F_is_figures B (g_FIGURES)
  have b_c_is_figures : Binds K fd_is_figures _ [] := FunD.bindsN (ps := ["thing"]) F_is_figures (fun _ _ _ _ _ _ us hl => match us, hl with | [_], _ => rfl)
  have c_is_figures : C8.Cal P w K mg base 1 "is_figures" (sp_is_figures) [] := ⟨_, fd_is_figures, _, [], o_is_figures, He.glo_ok X G (c.t.d.fact 4 (f := .glo "is_figures") rfl), F_is_figures.kp, b_c_is_figures, .nil⟩
  have o_is_maker := @ok_is_maker P w K mg base (He.fAd K ("is_maker", none)) fd_is_maker F_is_maker B (c_is_figures) (g_LETTERS)
  have b_c_is_maker : Binds K fd_is_maker _ [] := FunD.bindsN (ps := ["thing"]) F_is_maker (fun _ _ _ _ _ _ us hl => match us, hl with | [_], _ => rfl)
  have c_is_maker : C8.Cal P w K mg base 2 "is_maker" (sp_is_maker) [] := ⟨_, fd_is_maker, _, [], o_is_maker, He.glo_ok X G (c.t.d.fact 6 (f := .glo "is_maker") rfl), F_is_maker.kp, b_c_is_maker, .nil⟩
  have o_makers_in := @ok_makers_in P w K mg base (He.fAd K ("makers_in", none)) fd_makers_in F_makers_in B (c_is_maker) (g_MOST_MAKERS)
  have b_c_makers_in : Binds K fd_makers_in _ [] := FunD.bindsN (ps := ["makers"]) F_makers_in (fun _ _ _ _ _ _ us hl => match us, hl with | [_], _ => rfl)
  have c_makers_in : C8.Cal P w K mg base 3 "makers_in" (sp_makers_in) [] := ⟨_, fd_makers_in, _, [], o_makers_in, He.glo_ok X G (c.t.d.fact 10 (f := .glo "makers_in") rfl), F_makers_in.kp, b_c_makers_in, .nil⟩
  have o_is_points := @ok_is_points P w K mg base (He.fAd K ("is_points", none)) fd_is_points F_is_points B (c_is_figures)
  have b_c_is_points : Binds K fd_is_points _ [] := FunD.bindsN (ps := ["thing"]) F_is_points (fun _ _ _ _ _ _ us hl => match us, hl with | [_], _ => rfl)
  have c_is_points : C8.Cal P w K mg base 2 "is_points" (sp_is_points) [] := ⟨_, fd_is_points, _, [], o_is_points, He.glo_ok X G (c.t.d.fact 5 (f := .glo "is_points") rfl), F_is_points.kp, b_c_is_points, .nil⟩
  have o_is_name := @ok_is_name P w K mg base (He.fAd K ("is_name", none)) fd_is_name F_is_name B (g_LETTERS) (g_LONGEST)
  have b_c_is_name : Binds K fd_is_name _ [] := FunD.bindsN (ps := ["thing"]) F_is_name (fun _ _ _ _ _ _ us hl => match us, hl with | [_], _ => rfl)
  have c_is_name : C8.Cal P w K mg base 1 "is_name" (sp_is_name) [] := ⟨_, fd_is_name, _, [], o_is_name, He.glo_ok X G (c.t.d.fact 3 (f := .glo "is_name") rfl), F_is_name.kp, b_c_is_name, .nil⟩
  have o_is_letters := @ok_is_letters P w K mg base (He.fAd K ("is_letters", none)) fd_is_letters F_is_letters B (c_is_name)
  have b_c_is_letters : Binds K fd_is_letters _ [] := FunD.bindsN (ps := ["thing"]) F_is_letters (fun _ _ _ _ _ _ us hl => match us, hl with | [_], _ => rfl)
  have c_is_letters : C8.Cal P w K mg base 2 "is_letters" (sp_is_letters) [] := ⟨_, fd_is_letters, _, [], o_is_letters, He.glo_ok X G (c.t.d.fact 7 (f := .glo "is_letters") rfl), F_is_letters.kp, b_c_is_letters, .nil⟩
  have o_Mark___init__ := @ok_Mark___init__ P w K mg base (He.fAd K ("Mark", some "__init__")) fd_Mark___init__ _ F_Mark___init__ B (M) (c_is_letters) (c_is_points) (c_is_whole) (c_makers_in) (c_need_copy) (c_need_year) (g_GREATEST) (m_Mark_text_of)
  obtain ⟨its_km_Mark_2_points_makers_year_copy, kb_km_Mark_2_points_makers_year_copy⟩ := FunD.kbindsD (ps := ["self", "letters", "number", "points", "makers", "year", "copy"]) F_Mark___init__ 3 ["points", "makers", "year", "copy"] (fun vs _ zs => vs ++ zs) (by simp) (fun h1 _ h3 => U.vals_app h1 h3) (fun _ _ _ _ _ _ _ us its ws hl hi hw => match us, its, ws, hl, hi, hw with | [_, _, _], [_, _, _, _], [_, _, _, _], _, _, _ => ⟨_, rfl, rfl⟩)
  have km_Mark_2_points_makers_year_copy : U.KMak P w K mg base 4 "Mark" (He.ga K "Mark") (sp_Mark___init__ (He.ga K "Mark")) 2 ["points", "makers", "year", "copy"] (fun vs zs => vs ++ zs) := ⟨_, fd_Mark___init__, _, _, He.mkr_ok (c.t.d.fact 64 (f := .mkr "Mark") rfl), o_Mark___init__, G_Mark, kb_km_Mark_2_points_makers_year_copy⟩
  have o__law_mark := @ok__law_mark P w K mg base (He.fAd K ("_law_mark", none)) fd__law_mark _ F__law_mark B (km_Mark_2_points_makers_year_copy)
  have b_c__law_mark : Binds K fd__law_mark _ [] := FunD.bindsN (ps := ["_law_parts_here"]) F__law_mark (fun _ _ _ _ _ _ us hl => match us, hl with | [_], _ => rfl)
  have c__law_mark : C8.Cal P w K mg base 6 "_law_mark" (sp__law_mark (He.ga K "Mark")) [] := ⟨_, fd__law_mark, _, [], o__law_mark, He.glo_ok X G (c.t.d.fact 21 (f := .glo "_law_mark") rfl), F__law_mark.kp, b_c__law_mark, .nil⟩
  have o__law_key := @ok__law_key P w K mg base (He.fAd K ("_law_key", none)) fd__law_key F__law_key B 
  have b_c__law_key : Binds K fd__law_key _ [] := FunD.bindsN (ps := ["_law_parts_here"]) F__law_key (fun _ _ _ _ _ _ us hl => match us, hl with | [_], _ => rfl)
  have c__law_key : C8.Cal P w K mg base 1 "_law_key" (sp__law_key) [] := ⟨_, fd__law_key, _, [], o__law_key, He.glo_ok X G (c.t.d.fact 22 (f := .glo "_law_key") rfl), F__law_key.kp, b_c__law_key, .nil⟩
  have o__law_order := @ok__law_order P w K mg base (He.fAd K ("_law_order", none)) fd__law_order F__law_order B (c__law_key)
  have b_c__law_order : Binds K fd__law_order _ [] := FunD.bindsN (ps := ["_law_fore", "_law_mate"]) F__law_order (fun _ _ _ _ _ _ us hl => match us, hl with | [_, _], _ => rfl)
  have c__law_order : C8.Cal P w K mg base 2 "_law_order" (sp__law_order) [] := ⟨_, fd__law_order, _, [], o__law_order, He.glo_ok X G (c.t.d.fact 23 (f := .glo "_law_order") rfl), F__law_order.kp, b_c__law_order, .nil⟩
  have o__law_both_ways := @ok__law_both_ways P w K mg base (He.fAd K ("_law_both_ways", none)) fd__law_both_ways _ F__law_both_ways B (c__law_mark) (c__law_order) (c__law_whole) (c_order)
  have b_c__law_both_ways : Binds K fd__law_both_ways _ [] := FunD.bindsN (ps := ["_law_fore", "_law_mate"]) F__law_both_ways (fun _ _ _ _ _ _ us hl => match us, hl with | [_, _], _ => rfl)
  have c__law_both_ways : C8.Cal P w K mg base 7 "_law_both_ways" (sp__law_both_ways (He.ga K "Mark")) [] := ⟨_, fd__law_both_ways, _, [], o__law_both_ways, He.glo_ok X G (c.t.d.fact 25 (f := .glo "_law_both_ways") rfl), F__law_both_ways.kp, b_c__law_both_ways, .nil⟩
  have o__law_take := @ok__law_take P w K mg base (He.fAd K ("_law_take", none)) fd__law_take F__law_take B 
  have b_c__law_take : Binds K fd__law_take _ [] := FunD.bindsN (ps := ["_law_pool_here", "_law_size"]) F__law_take (fun _ _ _ _ _ _ us hl => match us, hl with | [_, _], _ => rfl)
  have c__law_take : C8.Cal P w K mg base 1 "_law_take" (sp__law_take) [] := ⟨_, fd__law_take, _, [], o__law_take, He.glo_ok X G (c.t.d.fact 12 (f := .glo "_law_take") rfl), F__law_take.kp, b_c__law_take, .nil⟩
  have o__law_figures := @ok__law_figures P w K mg base (He.fAd K ("_law_figures", none)) fd__law_figures F__law_figures B (c__law_take)
  have b_c__law_figures : Binds K fd__law_figures _ [] := FunD.bindsN (ps := ["_law_pool_here", "_law_most"]) F__law_figures (fun _ _ _ _ _ _ us hl => match us, hl with | [_, _], _ => rfl)
  have c__law_figures : C8.Cal P w K mg base 2 "_law_figures" (sp__law_figures) [] := ⟨_, fd__law_figures, _, [], o__law_figures, He.glo_ok X G (c.t.d.fact 13 (f := .glo "_law_figures") rfl), F__law_figures.kp, b_c__law_figures, .nil⟩
  have o__law_maker := @ok__law_maker P w K mg base (He.fAd K ("_law_maker", none)) fd__law_maker F__law_maker B (c__law_figures) (c__law_take)
  have b_c__law_maker : Binds K fd__law_maker _ [] := FunD.bindsN (ps := ["_law_pool_here", "_law_most"]) F__law_maker (fun _ _ _ _ _ _ us hl => match us, hl with | [_, _], _ => rfl)
  have c__law_maker : C8.Cal P w K mg base 3 "_law_maker" (sp__law_maker) [] := ⟨_, fd__law_maker, _, [], o__law_maker, He.glo_ok X G (c.t.d.fact 14 (f := .glo "_law_maker") rfl), F__law_maker.kp, b_c__law_maker, .nil⟩
  have o__law_parts := @ok__law_parts P w K mg base (He.fAd K ("_law_parts", none)) fd__law_parts F__law_parts B (c__law_figures) (c__law_maker) (c__law_take)
  have b_c__law_parts : Binds K fd__law_parts _ [] := FunD.bindsN (ps := ["_law_pool_here"]) F__law_parts (fun _ _ _ _ _ _ us hl => match us, hl with | [_], _ => rfl)
  have c__law_parts : C8.Cal P w K mg base 4 "_law_parts" (sp__law_parts) [] := ⟨_, fd__law_parts, _, [], o__law_parts, He.glo_ok X G (c.t.d.fact 15 (f := .glo "_law_parts") rfl), F__law_parts.kp, b_c__law_parts, .nil⟩
  have o__law_near_copy := @ok__law_near_copy P w K mg base (He.fAd K ("_law_near_copy", none)) fd__law_near_copy F__law_near_copy B (c__law_take)
  have b_c__law_near_copy : Binds K fd__law_near_copy _ [] := FunD.bindsN (ps := ["_law_twin", "_law_pool_here"]) F__law_near_copy (fun _ _ _ _ _ _ us hl => match us, hl with | [_, _], _ => rfl)
  have c__law_near_copy : C8.Cal P w K mg base 2 "_law_near_copy" (sp__law_near_copy) [] := ⟨_, fd__law_near_copy, _, [], o__law_near_copy, He.glo_ok X G (c.t.d.fact 19 (f := .glo "_law_near_copy") rfl), F__law_near_copy.kp, b_c__law_near_copy, .nil⟩
  have o__law_near_year := @ok__law_near_year P w K mg base (He.fAd K ("_law_near_year", none)) fd__law_near_year F__law_near_year B (c__law_take)
  have b_c__law_near_year : Binds K fd__law_near_year _ [] := FunD.bindsN (ps := ["_law_age", "_law_pool_here"]) F__law_near_year (fun _ _ _ _ _ _ us hl => match us, hl with | [_, _], _ => rfl)
  have c__law_near_year : C8.Cal P w K mg base 2 "_law_near_year" (sp__law_near_year) [] := ⟨_, fd__law_near_year, _, [], o__law_near_year, He.glo_ok X G (c.t.d.fact 18 (f := .glo "_law_near_year") rfl), F__law_near_year.kp, b_c__law_near_year, .nil⟩
  have o__law_near_word := @ok__law_near_word P w K mg base (He.fAd K ("_law_near_word", none)) fd__law_near_word F__law_near_word B (c__law_take)
  have b_c__law_near_word : Binds K fd__law_near_word _ [] := FunD.bindsN (ps := ["_law_word", "_law_pool_here"]) F__law_near_word (fun _ _ _ _ _ _ us hl => match us, hl with | [_, _], _ => rfl)
  have c__law_near_word : C8.Cal P w K mg base 2 "_law_near_word" (sp__law_near_word) [] := ⟨_, fd__law_near_word, _, [], o__law_near_word, He.glo_ok X G (c.t.d.fact 16 (f := .glo "_law_near_word") rfl), F__law_near_word.kp, b_c__law_near_word, .nil⟩
  have o__law_near_makers := @ok__law_near_makers P w K mg base (He.fAd K ("_law_near_makers", none)) fd__law_near_makers F__law_near_makers B (c__law_maker) (c__law_near_word) (c__law_take)
  have b_c__law_near_makers : Binds K fd__law_near_makers _ [] := FunD.bindsN (ps := ["_law_hands", "_law_pool_here"]) F__law_near_makers (fun _ _ _ _ _ _ us hl => match us, hl with | [_, _], _ => rfl)
  have c__law_near_makers : C8.Cal P w K mg base 4 "_law_near_makers" (sp__law_near_makers) [] := ⟨_, fd__law_near_makers, _, [], o__law_near_makers, He.glo_ok X G (c.t.d.fact 17 (f := .glo "_law_near_makers") rfl), F__law_near_makers.kp, b_c__law_near_makers, .nil⟩
  have o__law_near := @ok__law_near P w K mg base (He.fAd K ("_law_near", none)) fd__law_near F__law_near B (c__law_near_copy) (c__law_near_makers) (c__law_near_word) (c__law_near_year) (c__law_parts) (c__law_take)
  have b_c__law_near : Binds K fd__law_near _ [] := FunD.bindsN (ps := ["_law_parts_here", "_law_at", "_law_pool_here"]) F__law_near (fun _ _ _ _ _ _ us hl => match us, hl with | [_, _, _], _ => rfl)
  have c__law_near : C8.Cal P w K mg base 5 "_law_near" (sp__law_near) [] := ⟨_, fd__law_near, _, [], o__law_near, He.glo_ok X G (c.t.d.fact 20 (f := .glo "_law_near") rfl), F__law_near.kp, b_c__law_near, .nil⟩
  have o__law_pool := @ok__law_pool P w K mg base (He.fAd K ("_law_pool", none)) fd__law_pool F__law_pool B 
  have b_c__law_pool : Binds K fd__law_pool _ [] := FunD.bindsN (ps := ["_law_cell"]) F__law_pool (fun _ _ _ _ _ _ us hl => match us, hl with | [_], _ => rfl)
  have c__law_pool : C8.Cal P w K mg base 1 "_law_pool" (sp__law_pool) [] := ⟨_, fd__law_pool, _, [], o__law_pool, He.glo_ok X G (c.t.d.fact 11 (f := .glo "_law_pool") rfl), F__law_pool.kp, b_c__law_pool, .nil⟩
  have o_law := @ok_law P w K mg base (He.fAd K ("law", none)) fd_law _ F_law B (c__law_both_ways) (c__law_near) (c__law_parts) (c__law_pool) (c__law_take)
  exact o_law

end My
open PySem PySem.W PyProof.Rows L2
theorem PySem.Challenge.cw_spinemarks_k13_order_of_two_holds : PySem.Challenge.rw_spinemarks_k13_order_of_two.Holds := by
  w_on
  o_law
  refine HandSHeadRun.head_any (r := PySem.W.OpenLaw.row PySem.Challenge.rw_spinemarks_k13_order_of_two) (q := PySem.W.view Hd.R.prog [49]) (H := Hd.hk) (ob := Hd.ob) (M := 20000) (loose := Hd.lo) (d := HandSHeadRun.topDef Hd.R.prog 49) (kwd := []) Hd.ob_eq (by kernel_rfl) (fun s => by kernel_rfl) Hd.run (by kernel_rfl) (by kernel_rfl) (by kernel_rfl) (by rfl) (by first | assumption | decide +kernel) (by decide +kernel) ⟨rfl, rfl, rfl, rfl, rfl, by decide +kernel⟩ ?hw ?hc
  case hw => w_witness2
  case hc =>
    refine L2.walk_ofE (l := PySem.Challenge.rw_spinemarks_k13_order_of_two) (n := 63) (k := 8) (x := "_law_script") (CX := C8.CX0) rfl (by decide) (by kernel_rfl) ⟨rfl, by decide, by decide⟩ ?F (fun _ _ _ _ z => z)
    intro w mg fa h Y G hmg0
    obtain ⟨K, KX, c⟩ := Y
    have hmg : mg ("law" : PySem.Str) = some (.ref fa) := by
      have e : (HandSHeadRun.topDef Hd.R.prog 49).name = ("law" : PySem.Str) := by kernel_rfl
      rw [← e]
      exact hmg0
    obtain ⟨fd, hb, hF⟩ := My.facts (P := (PySem.Challenge.rw_spinemarks_k13_order_of_two).prog) (w := w) KX G hmg c
    exact ⟨K, fd, My.sp_law K (He.ga K "Mark"), KX, hb, fun H a ns hl _ hS => ⟨.ref a, rfl, a, ns, rfl, hS, fun _ => rfl⟩, hF⟩

import PyProof.Rows.All
import Wide.All
import OpenK.AllK
import Wide.FinOn
import KE.KStateDown
import HandS.ForMost
import HandS.Defaults
import HandS.MakeKw
import HandS.IsInst
import HandS.StrMore
import HandS.FStr
import HandS.Flow
import HandS.Style
import HandS.Wide
import HandS.WideBits
import HandS.Codes
import HandS.TupAny
import HandS.Conv
import KE.LtData
import HandS.Walk
import KE.GoesZip
import KE.GoesEnum
import KE.GoesMore
import HandS.Head0
import HandS.Head1
import HandS.Head2
import HandS.HeadEnd
import HandS.HeadHook1
import HandS.HeadHook2
import HandS.HeadHook3
import HandS.HeadHook4
import PySem.Challenge.RW_spinemarks_k21_numbers_rise
set_option Elab.async false
set_option linter.all false
set_option maxRecDepth 100000
set_option maxHeartbeats 4000000

namespace U
open PySem PySem.Spec PyProof.Rows L2

/-- a text by its signs -/
abbrev sv (l : List Nat) : V := .str ⟨l.toArray⟩
theorem sv_of (x : Str) : V.str x = sv x.cps.toList := by cases x; rfl
theorem cps_mk (l : List Nat) : (Str.mk l.toArray).cps.toList = l := rfl
theorem len_mk (l : List Nat) : (Str.mk l.toArray).length = l.length := by simp [Str.length]
theorem len_cps (x : Str) : x.length = x.cps.toList.length := by simp [Str.length]
theorem sv_inj {a b : List Nat} : (sv a = sv b) = (a = b) := by
  apply propext; constructor
  · intro h; exact congrArg (fun v => match v with | V.str x => x.cps.toList | _ => []) h
  · rintro rfl; rfl
theorem line : (sizeLine : Nat) = 16777216 := sizeLine_eq

section
variable {X : Cx}
theorem OpR.imp {f : Value → Value → Sem Value} {r r' : R2} (h : OpR X f r) (hi : ∀ x y H Q, r' x y H Q → r x y H Q) : OpR X f r' :=
  fun pins s σ H x y v u Q I rx ry q => h pins s σ H x y v u Q I rx ry (hi x y H Q q)
theorem CallR.imp {f : Value} {r r' : List V → Hp → VK → Prop} (h : CallR X f r) (hi : ∀ xs H Q, r' xs H Q → r xs H Q) : CallR X f r' :=
  fun pins s σ H xs us Q I r q => h pins s σ H xs us Q I r (hi xs H Q q)
theorem MtR.imp {id : String} {r r' : V → List V → Hp → VK → Prop} (h : MtR X id r) (hi : ∀ x xs H Q, r' x xs H Q → r x xs H Q) : MtR X id r' :=
  fun pins s σ H x xs v us Q I rx rs q => h pins s σ H x xs v us Q I rx rs (hi x xs H Q q)

/-- what is read at a -/
def at_ (H : Hp) (a : Addr) : Option HO := match H a with | some (.frz _ u) => some u | o => o
theorem at_lst {H : Hp} {a : Addr} {xs : List V} (h : at_ H a = some (.lst xs)) : Rd H a (.lst xs) := by
  unfold at_ at h
  split at h
  · rename_i o u e; injection h with h; subst h; exact .inr ⟨o, e⟩
  · exact .inl h
theorem at_tup {H : Hp} {a : Addr} {xs : List V} (h : at_ H a = some (.tup xs)) : Rd H a (.tup xs) := by
  unfold at_ at h
  split at h
  · rename_i o u e; injection h with h; subst h; exact .inr ⟨o, e⟩
  · exact .inl h
theorem at_of_lst {H : Hp} {a : Addr} {xs : List V} (h : H a = some (.lst xs)) : at_ H a = some (.lst xs) := by unfold at_; rw [h]
theorem at_of_tup {H : Hp} {a : Addr} {xs : List V} (h : H a = some (.tup xs)) : at_ H a = some (.tup xs) := by unfold at_; rw [h]
theorem at_of_ins {H : Hp} {a C dx : Addr} {fs : List (Str × V)} (h : H a = some (.ins C dx fs)) : at_ H a = some (.ins C dx fs) := by unfold at_; rw [h]
theorem at_of_frz {H : Hp} {a : Addr} {o : Obj} {u : HO} (h : H a = some (.frz o u)) : at_ H a = some u := by unfold at_; rw [h]
theorem upd_old {H : Hp} {a b : Addr} {o : HO} (h : H a = none) (hb : (H b).isSome = true) : upd H a o b = H b := upd_ne (by rintro rfl; rw [h] at hb; cases hb)

/-! ### + -/
def rAdd : R2 := fun x y H Q => match x, y with
  | .int i, .int j => Q (.int (i + j)) H
  | .str a, .str b => a.cps.toList.length + b.cps.toList.length ≤ 16777216 ∧ Q (sv (a.cps.toList ++ b.cps.toList)) H
  | .ref a, .ref b => ∃ xs ys, H a = some (.lst xs) ∧ H b = some (.lst ys) ∧ xs.length + ys.length ≤ 16777216 ∧ ∀ p, H p = none → Q (.ref p) (upd H p (.lst (xs ++ ys)))
  | _, _ => False
theorem cat_sv (a b : Str) : V.str (a ++ b) = sv (a.cps.toList ++ b.cps.toList) := by
  rw [sv_of]
  show sv (TL.tl (a ++ b)) = _
  rw [TL.tl_append]
theorem add : OpR X (binaryOp .Add) rAdd := OpR.imp ((op_add.or op_add_str).or op_cat) (fun x y H Q h => by
  unfold rAdd at h
  split at h
  · exact .inl (.inl ⟨_, _, rfl, rfl, h⟩)
  · refine .inl (.inr ⟨_, _, rfl, rfl, ?_, ?_⟩)
    · rw [len_cps, len_cps, line]; exact h.1
    · rw [cat_sv]; exact h.2
  · obtain ⟨xs, ys, h1, h2, h3, h4⟩ := h
    exact .inr ⟨_, _, xs, ys, rfl, rfl, h1, h2, by rw [line]; exact h3, h4⟩
  · exact h.elim)
def rSub : R2 := fun x y H Q => match x, y with
  | .int i, .int j => Q (.int (i - j)) H
  | _, _ => False
theorem sub : OpR X (binaryOp .Sub) rSub := OpR.imp op_sub (fun x y H Q h => by
  unfold rSub at h
  split at h
  · exact ⟨_, _, rfl, rfl, h⟩
  · exact h.elim)
/-- one factor below 2 ^ 64, or both together small -/
def MulOk (i j : Int) : Prop := CMul i j ∨ CMulW i j
def rMul : R2 := fun x y H Q => match x, y with
  | .int i, .int j => MulOk i j ∧ Q (.int (i * j)) H
  | .ref a, .int k => ∃ xs, H a = some (.lst xs) ∧ 0 ≤ k ∧ k < 2 ^ 63 ∧ xs.length * k.toNat ≤ 16777216 ∧ ∀ p, H p = none → Q (.ref p) (upd H p (.lst (List.replicate k.toNat xs).flatten))
  | _, _ => False
theorem mul : OpR X (binaryOp .Mult) rMul := OpR.imp ((op_mul.or op_mulW).or op_rep) (fun x y H Q h => by
  unfold rMul at h
  split at h
  · obtain ⟨h1, h2⟩ := h
    rcases h1 with h1 | h1
    · exact .inl (.inl ⟨_, _, rfl, rfl, h1, h2⟩)
    · exact .inl (.inr ⟨_, _, rfl, rfl, h1, h2⟩)
  · obtain ⟨xs, h1, h2, h3, h4, h5⟩ := h
    exact .inr ⟨_, _, xs, rfl, rfl, h1, by omega, h3, by rw [line]; exact h4, h5⟩
  · exact h.elim)
/-- a positive divisor below 2 ^ 9000 -/
def rDiv : R2 := fun x y H Q => match x, y with
  | .int i, .int j => (0 < j ∧ j < 2 ^ 8000) ∧ Q (.int (i / j)) H
  | _, _ => False
theorem div : OpR X (binaryOp .FloorDiv) rDiv := OpR.imp op_fdivW (fun x y H Q h => by
  unfold rDiv at h
  split at h
  · refine ⟨_, _, rfl, rfl, ?_, h.2⟩
    refine wide_div (b := 8000) h.1.1 ?_ (by decide) (by decide)
    have := h.1.2
    have h0 := h.1.1
    omega
  · exact h.elim)
def rMod : R2 := fun x y H Q => match x, y with
  | .int i, .int j => 0 < j ∧ Q (.int (i % j)) H
  | _, _ => False
theorem mod : OpR X (binaryOp .Mod) rMod := OpR.imp op_mod (fun x y H Q h => by
  unfold rMod at h
  split at h
  · exact ⟨_, _, rfl, rfl, h.1, h.2⟩
  · exact h.elim)
def rPow : R2 := fun x y H Q => match x, y with
  | .int i, .int j => CPow i j ∧ Q (.int (i ^ j.toNat)) H
  | _, _ => False
theorem pow : OpR X (binaryOp .Pow) rPow := OpR.imp op_pow (fun x y H Q h => by
  unfold rPow at h
  split at h
  · exact ⟨_, _, rfl, rfl, h.1, h.2⟩
  · exact h.elim)
end
end U

namespace U
open PySem PySem.Spec PyProof.Rows L2
section
variable {X : Cx}
/-! ### comparisons -/
def strLt (a b : List Nat) : Bool := decide (a < b)
def rLt : R2 := fun x y H Q => match x, y with
  | .int i, .int j => Q (.bl (decide (i < j))) H
  | .str a, .str b => Q (.bl (strLt a.cps.toList b.cps.toList)) H
  | _, _ => False
theorem lt : OpR X (compareOp .Lt) rLt := OpR.imp (op_lt.or op_lt_str) (fun x y H Q h => by
  unfold rLt at h
  split at h
  · exact .inl ⟨_, _, rfl, rfl, h⟩
  · exact .inr ⟨_, _, rfl, rfl, h⟩
  · exact h.elim)
def rLe : R2 := fun x y H Q => match x, y with
  | .int i, .int j => Q (.bl (decide (i ≤ j))) H
  | .str a, .str b => Q (.bl (!strLt b.cps.toList a.cps.toList)) H
  | _, _ => False
theorem le : OpR X (compareOp .LtE) rLe := OpR.imp (op_le.or op_le_str) (fun x y H Q h => by
  unfold rLe at h
  split at h
  · exact .inl ⟨_, _, rfl, rfl, h⟩
  · exact .inr ⟨_, _, rfl, rfl, h⟩
  · exact h.elim)
def rGt : R2 := fun x y H Q => match x, y with
  | .int i, .int j => Q (.bl (decide (j < i))) H
  | .str a, .str b => Q (.bl (strLt b.cps.toList a.cps.toList)) H
  | _, _ => False
theorem gt : OpR X (compareOp .Gt) rGt := OpR.imp (op_gt.or op_gt_str) (fun x y H Q h => by
  unfold rGt at h
  split at h
  · exact .inl ⟨_, _, rfl, rfl, h⟩
  · exact .inr ⟨_, _, rfl, rfl, h⟩
  · exact h.elim)
def rGe : R2 := fun x y H Q => match x, y with
  | .int i, .int j => Q (.bl (decide (j ≤ i))) H
  | .str a, .str b => Q (.bl (!strLt a.cps.toList b.cps.toList)) H
  | _, _ => False
theorem ge : OpR X (compareOp .GtE) rGe := OpR.imp (op_ge.or op_ge_str) (fun x y H Q h => by
  unfold rGe at h
  split at h
  · exact .inl ⟨_, _, rfl, rfl, h⟩
  · exact .inr ⟨_, _, rfl, rfl, h⟩
  · exact h.elim)
/-- == of scalars -/
def eqS : V → V → Option Bool
  | .non, .non => some true | .non, .int _ => some false | .int _, .non => some false | .non, .bl _ => some false | .bl _, .non => some false | .non, .str _ => some false | .str _, .non => some false
  | .int i, .int j => some (decide (i = j)) | .bl b, .bl c => some (b == c) | .str a, .str b => some (decide (a.cps.toList = b.cps.toList))
  | .int _, .str _ => some false | .str _, .int _ => some false | .bl _, .str _ => some false | .str _, .bl _ => some false
  | _, _ => none
theorem eqS_scal {x y : V} {b : Bool} (h : eqS x y = some b) : scal x y = true ∧ decide (x = y) = b := by
  unfold eqS at h
  split at h <;> cases h <;> refine ⟨rfl, ?_⟩
  all_goals first
    | rfl
    | exact decide_eq_false (fun z => by cases z)
    | (rename_i i j; simp; done)
    | (rename_i a b
       by_cases e : a.cps.toList = b.cps.toList
       · have : a = b := TL.ext_tl e
         subst this; simp
       · have : ¬ a = b := fun z => e (by rw [z])
         simp [e, this])
    | (rename_i b c; cases b <;> cases c <;> rfl)
def rEq : R2 := fun x y H Q => ∃ b, eqS x y = some b ∧ Q (.bl b) H
def rNe : R2 := fun x y H Q => ∃ b, eqS x y = some b ∧ Q (.bl (!b)) H
theorem eq : OpR X (compareOp .Eq) rEq := OpR.imp op_eq (fun x y H Q ⟨b, h, q⟩ => by
  obtain ⟨h1, h2⟩ := eqS_scal h
  exact ⟨h1, by rw [h2]; exact q⟩)
theorem ne : OpR X (compareOp .NotEq) rNe := OpR.imp op_ne (fun x y H Q ⟨b, h, q⟩ => by
  obtain ⟨h1, h2⟩ := eqS_scal h
  exact ⟨h1, by rw [h2]; exact q⟩)
/-- is None -/
def rIs : R2 := fun x y H Q => y = .non ∧ Q (.bl (decide (x = .non))) H
def rIsNot : R2 := fun x y H Q => y = .non ∧ Q (.bl (!decide (x = .non))) H
theorem is_ : OpR X (compareOp .Is) rIs := op_isN
theorem isNot : OpR X (compareOp .IsNot) rIsNot := op_notN
/-! ### sequences -/
def seqOf : HO → Option (List V)
  | .lst xs => some xs
  | .tup xs => some xs
  | .frz _ (.lst xs) => some xs
  | .frz _ (.tup xs) => some xs
  | _ => none
theorem seqOf_sq {K : PySem.W.Frag} {H : Hp} {p : Addr} {xs : List V} (h : (H p).bind seqOf = some xs) : SqL K H p xs ∨ SqT K H p xs := by
  cases e : H p with
  | none => rw [e] at h; cases h
  | some o =>
    rw [e] at h
    have h : seqOf o = some xs := h
    unfold seqOf at h
    split at h
    · cases h; exact .inl (.inl (.inl e))
    · cases h; exact .inr (.inl (.inl e))
    · cases h; exact .inl (.inl (.inr ⟨_, e⟩))
    · cases h; exact .inr (.inl (.inr ⟨_, e⟩))
    · cases h
/-- a one-sign text in a text; a flat value in a list or tuple -/
def rIn : R2 := fun x y H Q => match x, y with
  | .str a, .str z => ∃ c, a.cps.toList = [c] ∧ Q (.bl (decide (c ∈ z.cps.toList))) H
  | x, .ref p => ∃ xs, (H p).bind seqOf = some xs ∧ flatV x = true ∧ xs.all flatV = true ∧ Q (.bl (inV x xs)) H
  | _, _ => False
theorem one_of {a : Str} {c : Nat} (h : a.cps.toList = [c]) : a = ⟨#[c]⟩ := TL.ext_tl h
theorem in_ : OpR X (compareOp .In) rIn := OpR.imp (op_in_sign.or op_in_seq) (fun x y H Q h => by
  unfold rIn at h
  split at h
  · obtain ⟨c, e, q⟩ := h
    exact .inl ⟨c, _, by rw [one_of e], rfl, q⟩
  · obtain ⟨xs, e, h1, h2, q⟩ := h
    exact .inr ⟨_, xs, rfl, seqOf_sq e, h1, h2, q⟩
  · exact h.elim)
def rNotIn : R2 := fun x y H Q => match x, y with
  | .str a, .str z => ∃ c, a.cps.toList = [c] ∧ Q (.bl (!decide (c ∈ z.cps.toList))) H
  | x, .ref p => ∃ xs, (H p).bind seqOf = some xs ∧ flatV x = true ∧ xs.all flatV = true ∧ Q (.bl (!inV x xs)) H
  | _, _ => False
theorem notIn : OpR X (compareOp .NotIn) rNotIn := OpR.imp (op_notIn_sign.or op_notIn_seq) (fun x y H Q h => by
  unfold rNotIn at h
  split at h
  · obtain ⟨c, e, q⟩ := h
    exact .inl ⟨c, _, by rw [one_of e], rfl, q⟩
  · obtain ⟨xs, e, h1, h2, q⟩ := h
    exact .inr ⟨_, xs, rfl, seqOf_sq e, h1, h2, q⟩
  · exact h.elim)
theorem IxR.imp {r r' : R2} (h : IxR X r) (hi : ∀ x y H Q, r' x y H Q → r x y H Q) : IxR X r' := by
  intro va sl pins s σ H x y v u Q I rx ry q e
  exact h va sl pins s σ H x y v u Q I rx ry (hi _ _ _ _ q) e
theorem SlR.imp {r r' : V → Option Int → Option Int → Hp → VK → Prop} (h : SlR X r) (hi : ∀ x lo hi H Q, r' x lo hi H Q → r x lo hi H Q) : SlR X r' :=
  fun pins s σ H x v vl vu lo hi' sl Q I rx hs pl pu q => h pins s σ H x v vl vu lo hi' sl Q I rx hs pl pu (hi _ _ _ _ _ q)
def rIx : R2 := fun x y H Q => match x, y with
  | .str z, .int i => z.cps.toList.length ≤ 16777216 ∧ ∃ c, atI z.cps.toList i = some c ∧ Q (sv [c]) H
  | .ref p, .int i => ∃ xs, (H p).bind seqOf = some xs ∧ ∃ v, atI xs i = some v ∧ Q v H
  | _, _ => False
theorem ix : IxR X rIx := IxR.imp ix_seq (fun x y H Q h => by
  unfold rIx at h
  split at h
  · obtain ⟨h1, c, h2, q⟩ := h
    exact .inr (.inr ⟨_, _, c, rfl, rfl, by rw [line, len_cps]; exact h1, h2, q⟩)
  · obtain ⟨xs, e, v, h2, q⟩ := h
    rcases seqOf_sq e with e | e
    · exact .inl ⟨_, xs, _, v, rfl, rfl, e, h2, q⟩
    · exact .inr (.inl ⟨_, xs, _, v, rfl, rfl, e, h2, q⟩)
  · exact h.elim)
def cutL {α : Type} (xs : List α) (lo hi : Option Int) : List α := (xs.drop (HT.sIx xs.length 0 lo)).take (HT.sIx xs.length xs.length hi - HT.sIx xs.length 0 lo)
/-- a cut of a text, a list; of a tuple: the whole is the same object -/
def rSl : V → Option Int → Option Int → Hp → VK → Prop := fun x lo hi H Q => match x with
  | .str z => z.cps.toList.length ≤ 16777216 ∧ Q (sv (cutL z.cps.toList lo hi)) H
  | .ref a => (∃ xs, ((H a = some (.lst xs)) ∨ (∃ o, H a = some (.frz o (.lst xs)))) ∧ ∀ p, H p = none → Q (.ref p) (upd H p (.lst (cutL xs lo hi)))) ∨
      (∃ xs, H a = some (.tup xs) ∧ (cutL xs lo hi = xs → Q (.ref a) H) ∧ ∀ p, H p = none → Q (.ref p) (upd H p (.tup (cutL xs lo hi))))
  | _ => False
theorem cut_whole {α : Type} {xs : List α} {lo hi : Option Int} (h : HT.sIx xs.length 0 lo = 0 ∧ HT.sIx xs.length xs.length hi = xs.length) : cutL xs lo hi = xs := by
  unfold cutL
  rw [h.1, h.2]
  simp
theorem sl : SlR X rSl := SlR.imp (sl_str.or (sl_list.or sl_tupA)) (fun x lo hi H Q h => by
  unfold rSl at h
  split at h
  · rename_i z
    refine .inl ⟨_, rfl, by rw [line, len_cps]; exact h.1, ?_⟩
    have e : cutS z lo hi = ⟨(cutL z.cps.toList lo hi).toArray⟩ := by
      unfold cutS cutL
      rw [len_cps]
    rw [e]
    exact h.2
  · rcases h with ⟨xs, h1, q⟩ | ⟨xs, h1, q1, q2⟩
    · refine .inr (.inl ⟨_, xs, rfl, ?_, q⟩)
      rcases h1 with h1 | ⟨o, h1⟩
      · exact .inl (.inl h1)
      · exact .inl (.inr ⟨o, h1⟩)
    · exact .inr (.inr ⟨_, xs, rfl, .inl (.inl h1), fun w => q1 (cut_whole w), fun _ => q2⟩)
  · exact h.elim)
/-! ### built-in functions -/
def rLen : List V → Hp → VK → Prop := fun vs H Q => match vs with
  | [.str z] => z.cps.toList.length ≤ 16777216 ∧ Q (.int z.cps.toList.length) H
  | [.ref p] => ∃ xs, (H p).bind seqOf = some xs ∧ Q (.int xs.length) H
  | _ => False
theorem c_len : CallR X (.builtin "len") rLen := CallR.imp call_len (fun vs H Q h => by
  unfold rLen at h
  split at h
  · refine ⟨_, _, rfl, ⟨?_, rfl⟩, ?_⟩
    · rw [line, len_cps]; exact h.1
    · rw [len_cps]; exact h.2
  · obtain ⟨xs, e, q⟩ := h
    refine ⟨_, _, rfl, ?_, q⟩
    rcases seqOf_sq e with e | e
    · exact .inl ⟨xs, e, rfl⟩
    · exact .inr ⟨xs, e, rfl⟩
  · exact h.elim)
/-- the name of a value's built-in type -/
def tyB (H : Hp) : V → Option String
  | .non => some "NoneType"
  | .bl _ => some "bool"
  | .int _ => some "int"
  | .str _ => some "str"
  | .ref a => (match H a with
    | some (.lst _) => some "list"
    | some (.tup _) => some "tuple"
    | some (.dK _) => some "dict"
    | some (.dT _) => some "dict"
    | some (.frz _ (.lst _)) => some "list"
    | _ => none)
  | _ => none
theorem tyB_ok {K : PySem.W.Frag} {H : Hp} {x : V} {t : String} (h : tyB H x = some t) : TyOf K H x (.type t) := by
  unfold tyB at h
  split at h
  · cases h; exact .non
  · cases h; exact .bl _
  · cases h; exact .int _
  · cases h; exact .str _
  · split at h <;> cases h
    · exact .lst (by assumption)
    · exact .tup (by assumption)
    · exact .dK (by assumption)
    · exact .dT (by assumption)
    · exact .frz (by assumption)
  · cases h
def isB (t c : String) : Option Bool := if ["NoneType", "bool", "int", "str", "list", "tuple", "dict"].contains t && ["bool", "int", "str", "list", "tuple", "dict"].contains c then some (t == c || (t == "bool" && c == "int")) else none
theorem isB_ok {K : PySem.W.Frag} {t c : String} {b : Bool} (h : isB t c = some b) : PySem.W.kitOne K (.type t) (.type c) = some b := by
  refine kit_ty ?_
  unfold isB at h
  split at h
  · rename_i hh
    simp only [List.contains_cons, List.contains_nil, Bool.or_false, Bool.and_eq_true, Bool.or_eq_true, beq_iff_eq] at hh
    obtain ⟨h1, h2⟩ := hh
    cases h
    rcases h1 with rfl | rfl | rfl | rfl | rfl | rfl | rfl <;> rcases h2 with rfl | rfl | rfl | rfl | rfl | rfl <;> decide +kernel
  · cases h
/-- isinstance(x, T), T a built-in type, or a new tuple of these -/
def isAny (t : String) : List V → Option Bool
  | [] => some false
  | .ty c :: cs => (match isB t c, isAny t cs with
    | some a, some b => some (a || b)
    | _, _ => none)
  | _ => none
theorem isAny_ok {K : PySem.W.Frag} {t : String} : ∀ {cs : List V} {b : Bool}, isAny t cs = some b → ∃ us, Paired ClsV cs us ∧ PySem.W.kitAny K (.type t) us = some b
  | [], b, h => by cases h; exact ⟨[], .nil, rfl⟩
  | v :: cs, b, h => by
    cases v with
    | ty c =>
      have h' : (match isB t c, isAny t cs with
        | some a, some b => some (a || b)
        | _, _ => none) = some b := h
      split at h'
      · rename_i a b' e1 e2
        cases h'
        obtain ⟨us, p, k⟩ := isAny_ok (K := K) e2
        refine ⟨.type c :: us, .cons (.ty c) p, kitAny_cons (isB_ok e1) (fun z => ?_) (fun z => ?_)⟩
        · subst z; simpa using k
        · subst z; rfl
      · cases h'
    | _ => cases h
def rIsi : List V → Hp → VK → Prop := fun vs H Q => match vs with
  | [x, .ty c] => ∃ t, tyB H x = some t ∧ ∃ b, isB t c = some b ∧ Q (.bl b) H
  | [x, .ref p] => ∃ cs, H p = some (.tup cs) ∧ ∃ t, tyB H x = some t ∧ ∃ b, isAny t cs = some b ∧ Q (.bl b) H
  | _ => False
theorem c_isinstance : CallR X (.builtin "isinstance") rIsi := CallR.imp (CallR.or call_isi call_isiT) (fun vs H Q h => by
  unfold rIsi at h
  split at h
  · obtain ⟨t, e, b, e2, q⟩ := h
    exact .inl ⟨_, _, _, _, b, rfl, .ty _, .base (tyB_ok e), isB_ok e2, q⟩
  · obtain ⟨cs, e0, t, e, b, e2, q⟩ := h
    obtain ⟨us, p, k⟩ := isAny_ok (K := X.K) e2
    exact .inr ⟨_, _, cs, _, us, b, rfl, e0, p, .base (tyB_ok e), k, q⟩
  · exact h.elim)
def rAll : List V → Hp → VK → Prop := fun vs H Q => match vs with
  | [.ref a] => ∃ bs : List Bool, H a = some (.lst (bs.map V.bl)) ∧ Q (.bl (bs.all id)) H
  | _ => False
theorem c_all (hc : X.calm = true) : CallR X (.builtin "all") rAll := CallR.imp (cr_all hc) (fun vs H Q h => by
  unfold rAll at h
  split at h
  · obtain ⟨bs, e, q⟩ := h
    exact ⟨_, bs, rfl, .inl (.inl e), q⟩
  · exact h.elim)
def rAny : List V → Hp → VK → Prop := fun vs H Q => match vs with
  | [.ref a] => ∃ bs : List Bool, H a = some (.lst (bs.map V.bl)) ∧ Q (.bl (bs.any id)) H
  | _ => False
theorem c_any (hc : X.calm = true) : CallR X (.builtin "any") rAny := CallR.imp (cr_any hc) (fun vs H Q h => by
  unfold rAny at h
  split at h
  · obtain ⟨bs, e, q⟩ := h
    exact ⟨_, bs, rfl, .inl (.inl e), q⟩
  · exact h.elim)
def rMax : List V → Hp → VK → Prop := fun vs H Q => match vs with
  | [.int i, .int j] => Q (.int (max i j)) H
  | _ => False
theorem c_max (hc : X.calm = true) : CallR X (.builtin "max") rMax := CallR.imp (call_max2 hc) (fun vs H Q h => by
  unfold rMax at h
  split at h
  · rename_i i j
    refine ⟨i, j, rfl, ?_⟩
    have e : (if j > i then j else i) = max i j := by split <;> omega
    rw [e]; exact h
  · exact h.elim)
def rMin : List V → Hp → VK → Prop := fun vs H Q => match vs with
  | [.int i, .int j] => Q (.int (min i j)) H
  | _ => False
theorem c_min (hc : X.calm = true) : CallR X (.builtin "min") rMin := CallR.imp (call_min2 hc) (fun vs H Q h => by
  unfold rMin at h
  split at h
  · rename_i i j
    refine ⟨i, j, rfl, ?_⟩
    have e : (if j < i then j else i) = min i j := by split <;> omega
    rw [e]; exact h
  · exact h.elim)
/-- the figures of a number from 0 on -/
abbrev numL (n : Nat) : List Nat := TL.numL n
theorem log2_ok {i : Int} (h0 : 0 ≤ i) (h : i < 2 ^ 1900) : i.natAbs.log2 < 1920 := by
  have h1 : i.natAbs < 2 ^ 1900 := by omega
  exact Nat.lt_trans (PySem.Flt.log2_lt_of (by decide) h1) (by decide)
theorem toStr_num {i : Int} (h0 : 0 ≤ i) : V.str (toString i) = sv (numL i.toNat) := by
  obtain ⟨n, rfl⟩ := Int.eq_ofNat_of_zero_le h0
  show V.str (Str.ofString (toString ((n : Nat) : Int))) = _
  rw [SX.num_S]
  rfl
def rStr : List V → Hp → VK → Prop := fun vs H Q => match vs with
  | [.int i] => (0 ≤ i ∧ i < 2 ^ 1900) ∧ Q (sv (numL i.toNat)) H
  | _ => False
theorem c_str : CallR X (.type "str") rStr := CallR.imp call_str_int (fun vs H Q h => by
  unfold rStr at h
  split at h
  · refine ⟨_, rfl, log2_ok h.1.1 h.1.2, ?_⟩
    rw [toStr_num h.1.1]; exact h.2
  · exact h.elim)
/-- the number that figures write -/
abbrev valL (l : List Nat) : Nat := NumText.digitsVal l
def digs (l : List Nat) : Bool := l.all fun c => decide (48 ≤ c) && decide (c ≤ 57)
def rInt : List V → Hp → VK → Prop := fun vs H Q => match vs with
  | [.int i] => Q (.int i) H
  | [.bl b] => Q (.int (if b then 1 else 0)) H
  | [.str z] => (digs z.cps.toList = true ∧ z.cps.toList ≠ [] ∧ z.cps.toList.length ≤ 640) ∧ Q (.int (valL z.cps.toList)) H
  | _ => False
theorem c_int : CallR X (.type "int") rInt := CallR.imp (CallR.or call_int1 call_int_str) (fun vs H Q h => by
  unfold rInt at h
  split at h
  · exact .inl (.inl ⟨_, rfl, h⟩)
  · exact .inl (.inr ⟨_, rfl, h⟩)
  · rename_i z
    obtain ⟨⟨h1, h2, h3⟩, q⟩ := h
    refine .inr ⟨z, _, rfl, ?_, by rw [len_cps]; exact h3, q⟩
    have e : z = SX.S z.cps.toList := (SX.S_tl z).symm
    rw [e]
    exact SX.int_S h1 h2 (Nat.le_trans h3 (by decide))
  · exact h.elim)
def rList : List V → Hp → VK → Prop := fun vs H Q => match vs with
  | [.ref p] => ∃ xs, (H p).bind seqOf = some xs ∧ ∀ l, H l = none → Q (.ref l) (upd H l (.lst xs))
  | _ => False
theorem c_list : CallR X (.type "list") rList := CallR.imp call_list_of (fun vs H Q h => by
  unfold rList at h
  split at h
  · obtain ⟨xs, e, q⟩ := h
    exact ⟨_, xs, rfl, seqOf_sq e, q⟩
  · exact h.elim)
def rTuple : List V → Hp → VK → Prop := fun vs H Q => match vs with
  | [.ref p] => (∃ xs, H p = some (.lst xs) ∧ ∀ l, H l = none → Q (.ref l) (upd H l (.tup xs))) ∨ (∃ xs, H p = some (.tup xs) ∧ Q (.ref p) H)
  | _ => False
theorem c_tuple : CallR X (.type "tuple") rTuple := CallR.imp call_tuple_of (fun vs H Q h => by
  unfold rTuple at h
  split at h
  · rcases h with ⟨xs, e, q⟩ | ⟨xs, e, q⟩
    · exact ⟨_, xs, rfl, .inl ⟨.inl (.inl e), q⟩⟩
    · exact ⟨_, xs, rfl, .inr ⟨.inl (.inl e), q⟩⟩
  · exact h.elim)
def rDivmod : List V → Hp → VK → Prop := fun vs H Q => match vs with
  | [.int i, .int j] => (0 < j ∧ j < 2 ^ 8000) ∧ ∀ p, H p = none → Q (.ref p) (upd H p (.tup [.int (i / j), .int (i % j)]))
  | _ => False
theorem divp {i j : Int} (h0 : 0 < j) (h1 : j < 2 ^ 8000) : CDivP i j := by
  refine ⟨h0, ?_⟩
  show (decide ((if j == 0 then 0 else j.natAbs.log2 / 30 + 1) > 300) && decide ((if i == 0 then 0 else i.natAbs.log2 / 30 + 1) > (if j == 0 then 0 else j.natAbs.log2 / 30 + 1) + 150)) = false
  have h2 : j.natAbs < 2 ^ 8000 := by omega
  have h3 : j.natAbs.log2 < 8000 := PySem.Flt.log2_lt_of (by decide) h2
  rw [if_neg (show ¬ (j == 0) = true by simpa using (show j ≠ 0 by omega))]
  rw [decide_eq_false (show ¬ (j.natAbs.log2 / 30 + 1 > 300) by omega), Bool.false_and]
theorem c_divmod : CallR X (.builtin "divmod") rDivmod := CallR.imp call_divmodW (fun vs H Q h => by
  unfold rDivmod at h
  split at h
  · exact ⟨_, _, rfl, divp h.1.1 h.1.2, h.2⟩
  · exact h.elim)
end
end U

namespace U
open PySem PySem.Spec PyProof.Rows L2
/-! ### list.extend(tuple) -/

theorem list_extend_tup (l : Addr) (items : Array Value) (n : Nat) (b : Addr) (items2 : Array Value) (n2 : Nat) (dd2 : Option Addr) (sl2 : Array (Option Value)) (hs0 : ¬(!items.isEmpty && Builtin.List.listTooLong (items.size + items2.size)) = true) (hs1 : items.size ≤ sizeLine) (hs2 : items.size + items2.size ≤ sizeLine + 1) :
    Meets (Builtin.«list.extend» ⟨[.ref l, .ref b], []⟩) (fun _ R s => s.heap.get? l = some { cls := .type "list", dict := none, data := .seq items n, slots := #[] } ∧ s.heap.get? b = some { cls := .type "tuple", dict := dd2, data := .seq items2 n2, slots := sl2 } ∧ R (.ok (.ret Value.none)) { s with heap := s.heap.update l (Obj.mapSeq fun x => x ++ items2), toks := s.toks }) :=
  .of_wp fun prog w A R s h => by
    obtain ⟨hp, g, d, tk, os⟩ := s; obtain ⟨hl, hb, h⟩ := h; have f1 := AutoSeq1.idx_int; have f2 := AutoSeq1.sub_tuple_tuple; have f3 := AutoSeq1.sub_list_list; have f4 := AutoSeq1.sub_tuple_list; have f5 := AutoSeq1.sub_list_tuple;
    have hz' : (items ++ items2).size ≤ sizeLine + 1 := by rw [Array.size_append]; exact hs2
    wp_walk using (wpAny_updateSeq hl rfl (hz := hs1) (_hz' := hz')), AutoSeq1.wpAny_loadPart' hl, AutoSeq1.wpAny_loadPart' hb; exact ⟨_, rfl, h⟩
section
variable {X : Cx}
def rExtT (K : PySem.W.Frag) : V → List V → Hp → VK → Prop := fun x vs H Q => ∃ l b xs zs, x = .ref l ∧ vs = [.ref b] ∧ H l = some (.lst xs) ∧ SqT K H b zs ∧ xs.length + zs.length ≤ sizeLine ∧ Q .non (upd H l (.lst (xs ++ zs)))
theorem mt_extT : MtR X "list.extend" (rExtT X.K) := by
  intro pins s σ H x vs v us Q I rx rv h
  obtain ⟨l, b, xs, zs, rfl, rfl, hH, hB, hz, q⟩ := h
  cases rx
  obtain ⟨u, rfl, ru⟩ := rv.one
  cases ru
  obtain ⟨z, its, n, r, hl, e⟩ := I.lstM hH
  obtain ⟨its2, r2, ⟨⟨c2, dd2, dt2, sl2⟩, e2, hc2, n2, hd2⟩, _⟩ := I.tuple hB
  simp only at hc2 hd2
  subst hc2 hd2
  have hl2 := r2.length
  have hsz : its.toArray.size + its2.toArray.size ≤ sizeLine := by rw [List.size_toArray, List.size_toArray]; omega
  have hlong : ¬ (!its.toArray.isEmpty && Builtin.List.listTooLong (its.toArray.size + its2.toArray.size)) = true := by
    rw [notLongL hsz, Bool.and_false]
    exact Bool.false_ne_true
  refine call_meets F.slot_list_extend ⟨_, e, rfl⟩ F.entry_list_extend (F.args_list_extend_2 _ _)
    (list_extend_tup l its.toArray n b its2.toArray n2 dd2 sl2 hlong (by rw [List.size_toArray]; omega) (by omega)) ⟨e, e2, ?_⟩
  refine ⟨.non, _, I.lset (its' := its ++ its2) hH e (by simp) (r.append r2) ?_, rfl, q⟩
  rw [List.length_append]
  omega
/-! ### methods of lists -/
def tAppend (to te : TE) : TE := fun σ H Q => to σ H fun x H1 => ∃ l xs0, x = .ref l ∧ H1 l = some (.lst xs0) ∧ te σ H1 fun y H2 => ∃ xs, H2 l = some (.lst xs) ∧ xs.length < 16777216 ∧ Q .non (upd H2 l (.lst (xs ++ [y])))
theorem PE.imp {e : Expr} {t t' : TE} (h : PE X e t) (hi : ∀ σ H Q, t' σ H Q → t σ H Q) : PE X e t' := ⟨fun pins s σ H Q I q => h.run pins s σ H Q I (hi _ _ _ q)⟩
def Mono (t : TE) : Prop := ∀ σ H (Q Q' : VK), (∀ v H1, Q v H1 → Q' v H1) → t σ H Q → t σ H Q'
/-- as the rule for a method, with a reading that hands the receiver on -/
def tM (T : String) (K : PySem.W.Frag) (r : V → List V → Hp → VK → Prop) (to : TE) (ta : TA) : TE := fun σ H Q => to σ H fun x H1 => tyV K T x H1 ∧ ta σ H1 fun vs H2 => r x vs H2 Q
def rAppend : V → List V → Hp → VK → Prop := fun x vs H Q => match x, vs with
  | .ref l, [y] => ∃ xs, H l = some (.lst xs) ∧ xs.length < 16777216 ∧ Q .non (upd H l (.lst (xs ++ [y])))
  | _, _ => False
theorem m_append : MtR X "list.append" rAppend := MtR.imp mt_append (fun x vs H Q h => by
  unfold rAppend at h
  split at h
  · obtain ⟨xs, e, hz, q⟩ := h
    exact ⟨_, xs, _, rfl, rfl, e, by rw [line]; exact hz, q⟩
  · exact h.elim)
def rExtend : V → List V → Hp → VK → Prop := fun x vs H Q => match x, vs with
  | .ref l, [.ref b] => ∃ xs ys, H l = some (.lst xs) ∧ (H b = some (.lst ys) ∨ H b = some (.tup ys)) ∧ xs.length + ys.length ≤ 16777216 ∧ Q .non (upd H l (.lst (xs ++ ys)))
  | _, _ => False
theorem m_extend : MtR X "list.extend" rExtend := MtR.imp (MtR.or mt_extend mt_extT) (fun x vs H Q h => by
  unfold rExtend at h
  split at h
  · obtain ⟨xs, ys, e, e2, hz, q⟩ := h
    rcases e2 with e2 | e2
    · exact .inl ⟨_, _, xs, ys, rfl, rfl, e, e2, by rw [line]; exact hz, q⟩
    · exact .inr ⟨_, _, xs, ys, rfl, rfl, e, .inl (.inl e2), by rw [line]; exact hz, q⟩
  · exact h.elim)
def rPop : V → List V → Hp → VK → Prop := fun x vs H Q => match x, vs with
  | .ref l, [] => ∃ xs y, H l = some (.lst xs) ∧ xs.getLast? = some y ∧ Q y (upd H l (.lst xs.dropLast))
  | _, _ => False
theorem m_pop : MtR X "list.pop" rPop := MtR.imp mt_pop (fun x vs H Q h => by
  unfold rPop at h
  split at h
  · obtain ⟨xs, y, e, e2, q⟩ := h
    exact ⟨_, xs, y, rfl, rfl, e, by rw [← List.getLast?_eq_getElem?]; exact e2, q⟩
  · exact h.elim)
/-- a list's own type, read off H -/
theorem tyV_list {K : PySem.W.Frag} {H : Hp} {p : Addr} {xs : List V} (h : H p = some (.lst xs)) : tyV K "list" (.ref p) H := .inl ⟨rfl, xs, .inl (.inl h)⟩
def isL (x : V) (H : Hp) : Prop := match x with
  | .ref p => ∃ xs, H p = some (.lst xs)
  | _ => False
def isS (x : V) : Prop := match x with
  | .str _ => True
  | _ => False
def tBL0 (r : V → List V → Hp → VK → Prop) (to : TE) : TE := fun σ H Q => to σ H fun x H1 => isL x H1 ∧ r x [] H1 Q
def tBL (r : V → List V → Hp → VK → Prop) (to : TE) (t : TA) : TE := fun σ H Q => to σ H fun x H1 => isL x H1 ∧ t σ H1 fun xs H2 => r x xs H2 Q
def tBS0 (r : V → List V → Hp → VK → Prop) (to : TE) : TE := fun σ H Q => to σ H fun x H1 => isS x ∧ r x [] H1 Q
def tBS (r : V → List V → Hp → VK → Prop) (to : TE) (t : TA) : TE := fun σ H Q => to σ H fun x H1 => isS x ∧ t σ H1 fun xs H2 => r x xs H2 Q
theorem isL_ty {K : PySem.W.Frag} {x : V} {H : Hp} (h : isL x H) : tyV K "list" x H := by
  unfold isL at h
  split at h
  · obtain ⟨xs, e⟩ := h; exact tyV_list e
  · exact h.elim
theorem isS_ty {K : PySem.W.Frag} {x : V} {H : Hp} (h : isS x) : tyV K "str" x H := by
  unfold isS at h
  split at h
  · rfl
  · exact h.elim
variable {o e : Expr} {es : List Expr} {to : TE} {t : TA} {name : Str} {apos cpos : Pos} {id : String} {r : V → List V → Hp → VK → Prop}
theorem pe_l0 (slot : Slot "list" name id) (hty : typeOf (.builtin id) = pure (.type "method_descriptor")) (hm : MtR X id r) (ho : PE X o to)
    (hbase : attributeBase o name X.env (eval o X.env) = eval o X.env := by rfl) (hline : (apos.endLine == cpos.line) = true := by rfl) : PE X (.Call (.Attribute o name apos) [] [] cpos) (tBL0 r to) := by
  refine ⟨fun pins s σ H Q I h => ?_⟩
  refine wpAny_Call_method0_late hbase hline (thn (ho.run pins s σ H _ I h) fun v s1 ⟨x, H1, I1, r1, ty, q1⟩ => ?_)
  obtain ⟨h1, h2⟩ := tyV_is I1 r1 (isL_ty ty)
  exact ⟨"list", id, PySem.F.plainAttrs_list, slot, hty, h1, h2, Calls.callWith_builtin rfl (PySem.evalArgs_none (hm pins s1 σ H1 x [] v [] Q I1 r1 .nil q1))⟩
theorem pe_s0 (slot : Slot "str" name id) (hty : typeOf (.builtin id) = pure (.type "method_descriptor")) (hm : MtR X id r) (ho : PE X o to)
    (hbase : attributeBase o name X.env (eval o X.env) = eval o X.env := by rfl) (hline : (apos.endLine == cpos.line) = true := by rfl) : PE X (.Call (.Attribute o name apos) [] [] cpos) (tBS0 r to) := by
  refine ⟨fun pins s σ H Q I h => ?_⟩
  refine wpAny_Call_method0_late hbase hline (thn (ho.run pins s σ H _ I h) fun v s1 ⟨x, H1, I1, r1, ty, q1⟩ => ?_)
  obtain ⟨h1, h2⟩ := tyV_is I1 r1 (isS_ty (K := X.K) (H := H1) ty)
  exact ⟨"str", id, PySem.F.plainAttrs_str, slot, hty, h1, h2, Calls.callWith_builtin rfl (PySem.evalArgs_none (hm pins s1 σ H1 x [] v [] Q I1 r1 .nil q1))⟩
theorem pe_l (slot : Slot "list" name id) (hty : typeOf (.builtin id) = pure (.type "method_descriptor")) (hm : MtR X id r) (ho : PE X o to) (ha : PA X (e :: es) t)
    (hbase : attributeBase o name X.env (eval o X.env) = eval o X.env := by rfl)
    (hfew : ((backTo cpos (starEach (e :: es) X.env)).all (fun x => !x.1) && (backToKw cpos (keywordEach [] X.env)).all (fun x => x.1.isSome)
      && decide ((e :: es).length + ([] : List Keyword).length + (if ([] : List Keyword).isEmpty then 0 else 1) < 30)) = true := by rfl)
    (hline : (apos.endLine == cpos.line) = true := by rfl) (hs : starEach (e :: es) X.env = (false, eval e X.env) :: starEach es X.env := by rfl) (hplain : (backTo cpos (starEach es X.env)).any (·.1) = false := by rfl) :
    PE X (.Call (.Attribute o name apos) (e :: es) [] cpos) (tBL r to t) := by
  refine ⟨fun pins s σ H Q I h => ?_⟩
  refine wpAny_Call_method_late hbase hfew hline rfl (thn (ho.run pins s σ H _ I h) fun v s1 ⟨x, H1, I1, r1, ty, q1⟩ => ?_)
  obtain ⟨h1, h2⟩ := tyV_is I1 r1 (isL_ty ty)
  refine ⟨"list", id, PySem.F.plainAttrs_list, slot, hty, h1, h2, ?_⟩
  have hA := ha.run cpos pins s1 σ H1 _ I1 q1
  rw [hs] at hA ⊢
  refine Calls.callWith_builtin (by show (false || (backTo cpos (starEach es X.env)).any (·.1)) = false; rw [hplain] <;> rfl) (Calls.evalArgs_plain ?_)
  exact thn hA fun us s2 ⟨vs, H2, I2, r2, q2⟩ => hm pins s2 σ H2 x vs v us Q I2 r1 r2 q2
theorem pe_s (slot : Slot "str" name id) (hty : typeOf (.builtin id) = pure (.type "method_descriptor")) (hm : MtR X id r) (ho : PE X o to) (ha : PA X (e :: es) t)
    (hbase : attributeBase o name X.env (eval o X.env) = eval o X.env := by rfl)
    (hfew : ((backTo cpos (starEach (e :: es) X.env)).all (fun x => !x.1) && (backToKw cpos (keywordEach [] X.env)).all (fun x => x.1.isSome)
      && decide ((e :: es).length + ([] : List Keyword).length + (if ([] : List Keyword).isEmpty then 0 else 1) < 30)) = true := by rfl)
    (hline : (apos.endLine == cpos.line) = true := by rfl) (hs : starEach (e :: es) X.env = (false, eval e X.env) :: starEach es X.env := by rfl) (hplain : (backTo cpos (starEach es X.env)).any (·.1) = false := by rfl) :
    PE X (.Call (.Attribute o name apos) (e :: es) [] cpos) (tBS r to t) := by
  refine ⟨fun pins s σ H Q I h => ?_⟩
  refine wpAny_Call_method_late hbase hfew hline rfl (thn (ho.run pins s σ H _ I h) fun v s1 ⟨x, H1, I1, r1, ty, q1⟩ => ?_)
  obtain ⟨h1, h2⟩ := tyV_is I1 r1 (isS_ty (K := X.K) (H := H1) ty)
  refine ⟨"str", id, PySem.F.plainAttrs_str, slot, hty, h1, h2, ?_⟩
  have hA := ha.run cpos pins s1 σ H1 _ I1 q1
  rw [hs] at hA ⊢
  refine Calls.callWith_builtin (by show (false || (backTo cpos (starEach es X.env)).any (·.1)) = false; rw [hplain] <;> rfl) (Calls.evalArgs_plain ?_)
  exact thn hA fun us s2 ⟨vs, H2, I2, r2, q2⟩ => hm pins s2 σ H2 x vs v us Q I2 r1 r2 q2
end
/-! ### methods of texts -/
section
variable {X : Cx}
def joinT (sep : List Nat) : List (List Nat) → List Nat := TL.joinL sep
def rJoin : V → List V → Hp → VK → Prop := fun x vs H Q => match x, vs with
  | .str a, [.ref p] => ∃ ys : List (List Nat), (H p = some (.lst (ys.map sv)) ∨ H p = some (.tup (ys.map sv))) ∧ (ys.map List.length).sum + ys.length * a.cps.toList.length ≤ 16777216 ∧ Q (sv (TL.joinL a.cps.toList ys)) H
  | _, _ => False
theorem mapS_len (ys : List (List Nat)) : (ys.map fun l => (⟨l.toArray⟩ : Str)).map (·.length) = ys.map List.length := by
  rw [List.map_map]; apply List.map_congr_left; intro l _; exact len_mk l
theorem mapS_V (ys : List (List Nat)) : ys.map sv = (ys.map fun l => (⟨l.toArray⟩ : Str)).map V.str := by rw [List.map_map]; rfl
theorem m_join : MtR X "str.join" rJoin := MtR.imp mt_join (fun x vs H Q h => by
  unfold rJoin at h
  split at h
  · rename_i a p
    obtain ⟨ys, e, hz, q⟩ := h
    refine ⟨a, _, ys.map fun l => (⟨l.toArray⟩ : Str), rfl, rfl, ?_, ?_, ?_⟩
    · rw [← mapS_V]
      rcases e with e | e
      · exact .inl (.inl (.inl e))
      · exact .inr (.inl (.inl e))
    · rw [mapS_len, List.length_map, len_cps]; exact hz
    · have e2 : Txt.join a (ys.map fun l => (⟨l.toArray⟩ : Str)) = ⟨(TL.joinL a.cps.toList ys).toArray⟩ := by
        have := SX.join_S a.cps.toList ys
        rw [SX.S_tl] at this
        exact this
      rw [e2]; exact q
  · exact h.elim)
def rstripL (cs l : List Nat) : List Nat := (l.reverse.dropWhile (fun c => cs.contains c)).reverse
def rRstrip : V → List V → Hp → VK → Prop := fun x vs H Q => match x, vs with
  | .str a, [.str b] => a.cps.toList.length ≤ 16777216 ∧ Q (.str (Txt.rstripChars a b)) H
  | _, _ => False
theorem m_rstrip : MtR X "str.rstrip" rRstrip := MtR.imp mt_rstripChars (fun x vs H Q h => by
  unfold rRstrip at h
  split at h
  · exact ⟨_, _, rfl, rfl, by rw [line, len_cps]; exact h.1, h.2⟩
  · exact h.elim)
def rZfill : V → List V → Hp → VK → Prop := fun x vs H Q => match x, vs with
  | .str a, [.int i] => PadOk i = true ∧ Q (.str (Txt.zfill a i)) H
  | _, _ => False
theorem m_zfill : MtR X "str.zfill" rZfill := MtR.imp mt_zfill (fun x vs H Q h => by
  unfold rZfill at h
  split at h
  · exact ⟨_, _, rfl, rfl, h.1, h.2⟩
  · exact h.elim)
/-! ### f-strings -/
def rFmt : V → Hp → VK → Prop := fun x H Q => match x with
  | .str y => y.cps.toList.length ≤ 16777216 ∧ Q (sv y.cps.toList) H
  | .int i => (0 ≤ i ∧ i < 2 ^ 1900) ∧ Q (sv (numL i.toNat)) H
  | _ => False
end
end U

namespace U
open PySem PySem.Spec PyProof.Rows L2
section
variable {X : Cx}
/-! ### constants -/
theorem pe_s' {x : Str} {j pos} (l : List Nat) (h : x.cps.toList = l) : PE X (.Constant (.str x) j pos) (tC (sv l)) := by
  have e : x = ⟨l.toArray⟩ := TL.ext_tl h
  subst e
  exact pe_str
/-- a module's constant -/
structure GStr (mg : Str → Option Value) (x : Str) (l : List Nat) : Prop where
  ex : ∃ t, mg x = some (.str ⟨l.toArray⟩ t)
structure GInt (mg : Str → Option Value) (x : Str) (i : Int) : Prop where
  ex : ∃ t, mg x = some (.int i t)
theorem pe_gs {x : Str} {l : List Nat} {pos : Pos} (hg : Gl X x) (h : GStr X.mg x l) (hd : (x == ("__debug__" : Str)) = false := by decide) : PE X (.Name x pos) (tC (sv l)) := by
  obtain ⟨t, e⟩ := h.ex
  exact pe_glob hg e ⟨t, rfl⟩ hd
theorem pe_gi {x : Str} {i : Int} {pos : Pos} (hg : Gl X x) (h : GInt X.mg x i) (hd : (x == ("__debug__" : Str)) = false := by decide) : PE X (.Name x pos) (tC (.int i)) := by
  obtain ⟨t, e⟩ := h.ex
  exact pe_glob hg e ⟨t, rfl⟩ hd
/-- a built-in type by its name, as a value -/
theorem pe_ty {x : Str} {n : String} {pos : Pos} (hg : Gl X x) (hm : X.mg x = none) (hv : bootBuiltins x = some (.type n)) (hn : x ≠ "__name__" := by decide) (hd : (x == ("__debug__" : Str)) = false := by decide) : PE X (.Name x pos) (tC (.ty n)) :=
  pe_bltn hg hm hv rfl hn hd
/-! ### comparisons of data, of instances -/
/-- < of data at any depth -/
def rLtD (K : PySem.W.Frag) : R2 := fun x y H Q => ∃ d e, Dp K H x d ∧ Dp K H y e ∧ PySem.W.alike d e = true ∧ d ≠ .none ∧ min d.depth e.depth ≤ 60 ∧ Q (.bl (PySem.W.dataLt d e)) H
theorem ltD (hu : X.A.units + 64 < cLine) : OpR X (compareOp .Lt) (rLtD X.K) := by
  intro pins s σ H x y v u Q I rx ry h
  obtain ⟨d, e, hd, he, ha, hn, hz, q⟩ := h
  obtain ⟨as, r1⟩ := Dp.reads I d x v hd rx
  obtain ⟨bs, r2⟩ := Dp.reads I e y u he ry
  show wpAny (model X.prog X.w) X.A (richCompare .Lt v u) (EP X pins σ Q) X.xe s
  exact PySem.W.rcLt_alike d e X.A s v u as bs r1 r2 ha hn (by omega) X.prog X.w X.xe _ ⟨.bl _, H, I, rfl, q⟩
/-- == by an own __eq__, both of one class -/
structure EqF (X : Cx) (n : Nat) (C : Addr) (sp : Sp) : Prop where
  ex : ∃ (CX : CXT) (f : Addr) (fd : FuncData) (ps : List Str), FnOk X.prog X.w X.K X.mg X.base CX n f fd ps sp ∧ PySem.W.findIn X.K (.ref C) "__eq__" = some (some (.ref f)) ∧ PySem.W.isFn X.K (.ref f) = true ∧ Binds X.K fd ps [] ∧ Passes CX X E0
def rEqI (C : Addr) (sp : Sp) : R2 := fun x y H Q => ∃ a b dx dy fs gs, x = .ref a ∧ y = .ref b ∧ H a = some (.ins C dx fs) ∧ H b = some (.ins C dy gs) ∧ sp [.ref a, .ref b] H (fun v H' => ∃ c, v = .bl c ∧ Q (.bl c) H') E0
theorem eqI {n : Nat} {C : Addr} {sp : Sp} (F : EqF X n C sp) (hr : Room n X.A) : OpR X (compareOp .Eq) (rEqI C sp) := by
  intro pins s σ H x y v u Q I rx ry h
  obtain ⟨a, b, dx, dy, fs, gs, rfl, rfl, ha, hb', hsp⟩ := h
  obtain ⟨CX, f, fd, ps, F, hs, hf, hb, hx⟩ := F.ex
  cases rx
  cases ry
  obtain ⟨mA, J, _⟩ := ins_get I.hok ha
  obtain ⟨mB, J', _⟩ := ins_get I.hok hb'
  obtain ⟨od, J, _⟩ := J.look
  obtain ⟨od', J', _⟩ := J'.look
  obtain ⟨m, hF⟩ := I.fr
  show wpAny (model X.prog X.w) X.A (richCompare .Eq (.ref a) (.ref b)) (EP X pins σ Q) X.xe s
  refine PySem.W.cmp_K (op := .Eq) (tb := .ref C) hr.units0 hF I.ok.mod.kin J J'.type (by simp [PySem.W.notFirst]) hs hf ?_
  have hl := F.len _ _ _ _ hsp
  have r2 : Vals [V.ref a, V.ref b] [Value.ref a, Value.ref b] := .cons rfl (.cons rfl .nil)
  refine thn (run_fn (us := [.ref a, .ref b]) F hr hb .nil hx I r2 (by exact hsp)) fun r s' hq => ?_
  obtain ⟨z, H', I', rz, c, ez, q⟩ := hq
  subst ez
  cases rz
  exact ⟨.bl c, H', I', rfl, q⟩
/-- isinstance(x, C), x an instance of C -/
def rIsC (C : Addr) : List V → Hp → VK → Prop := fun vs H Q => ∃ a dx fs, vs = [.ref a, .ref C] ∧ H a = some (.ins C dx fs) ∧ Q (.bl true) H
theorem c_isC {C : Addr} (c : C8.InsC X.K C) : CallR X (.builtin "isinstance") (rIsC C) := C8.call_isC c
/-! ### items of lists stored -/
def rSet : V → V → V → Hp → (Hp → Prop) → Prop := fun o i v H Q => match o, i with
  | .ref p, .int k => ∃ xs, H p = some (.lst xs) ∧ ∃ j, ixN xs.length k = some j ∧ Q (upd H p (.lst (xs.set j v)))
  | _, _ => False
theorem setL : PSet X rSet := fun pins s σ H o i v ov iv u Q I ro ri rv h => by
  refine set_list pins s σ H o i v ov iv u Q I ro ri rv ?_
  unfold rSet at h
  split at h
  · obtain ⟨xs, e, j, hj, q⟩ := h
    exact ⟨_, xs, _, j, rfl, rfl, e, hj, q⟩
  · exact h.elim
/-- xs[i] by values, 0 <= i -/
def rGet : V → V → Hp → VK → Prop := fun o i H Q => match o, i with
  | .ref p, .int k => ∃ xs, H p = some (.lst xs) ∧ 0 ≤ k ∧ ∃ v, xs[k.toNat]? = some v ∧ Q v H
  | _, _ => False
theorem getL : PGet X rGet := fun pins s σ H o i ov iv Q I ro ri h => by
  unfold rGet at h
  split at h
  · obtain ⟨xs, e, h0, v, hv, q⟩ := h
    cases ro
    obtain ⟨t, rfl⟩ := ri
    rename_i p k
    obtain ⟨its, r, pl, hz⟩ := I.list (SqL.of (K := X.K) e)
    obtain ⟨w, ew, rw'⟩ := r.get hv
    have hl := r.length
    have hn := line63
    have hk : k.toNat < its.length := by
      have := (List.getElem?_eq_some_iff.mp hv).1
      omega
    exact wpAny_getItem_list pl.isList h0 (by omega) (by simpa using ew) ⟨v, H, I, rw', q⟩
  · exact h.elim
def ipAdd : TIp := fun x y H Q => match x, y with
  | .int i, .int j => Q (.int (i + j)) H
  | .str a, .str b => a.cps.toList.length + b.cps.toList.length ≤ 16777216 ∧ Q (sv (a.cps.toList ++ b.cps.toList)) H
  | _, _ => False
theorem ip_add : PIp X .Add ipAdd := fun pins s σ H x y v u Q I rx ry h => by
  unfold ipAdd at h
  split at h
  · exact L2.ip_add pins s σ H _ _ v u Q I rx ry ⟨_, _, rfl, rfl, h⟩
  · refine iop_add_str pins s σ H _ _ v u Q I rx ry ⟨_, _, rfl, rfl, ?_, ?_⟩
    · rw [len_cps, len_cps, line]; exact h.1
    · rw [cat_sv]; exact h.2
  · exact h.elim
def ipSub : TIp := fun x y H Q => match x, y with
  | .int i, .int j => Q (.int (i - j)) H
  | _, _ => False
theorem ip_sub : PIp X .Sub ipSub := fun pins s σ H x y v u Q I rx ry h => by
  unfold ipSub at h
  split at h
  · exact L2.ip_sub pins s σ H _ _ v u Q I rx ry ⟨_, _, rfl, rfl, h⟩
  · exact h.elim
/-! ### f-strings -/
def uFmt (te : TE) : TE := fun σ H Q => te σ H fun x H1 => rFmt x H1 Q
theorem pe_fm {e : Expr} {te : TE} {pos : Pos} (he : PE X e te) : PE X (.FormattedValue e (-1) none pos) (uFmt te) := by
  refine ⟨fun pins s σ H Q I h => ?_⟩
  refine wpAny_FormattedValue_plain (thn (he.run pins s σ H _ I h) fun v s1 hv => ?_)
  obtain ⟨x, H1, I1, r1, q⟩ := hv
  unfold rFmt at q
  split at q
  · rename_i y
    obtain ⟨t, rfl⟩ := r1
    have e : V.str y = sv y.cps.toList := sv_of y
    rw [← e] at q
    exact wpAny_formatField_str ⟨.str y, H1, I1, ⟨t, rfl⟩, q.2⟩ ⟨.str y, H1, I1.tok _, ⟨_, rfl⟩, q.2⟩ (by rw [line, len_cps]; exact q.1)
  · obtain ⟨t, rfl⟩ := r1
    rename_i i
    have e := toStr_num q.1.1
    rw [← e] at q
    exact wpAny_formatField_int (log2_ok q.1.1 q.1.2) ⟨.str (toString i), H1, I1.tok _, ⟨_, rfl⟩, q.2⟩
  · exact q.elim
/-- the parts, one behind the other -/
def uJs : List TE → List Nat → L2.St → Hp → (List Nat → Hp → Prop) → Prop
  | [], acc, _, H, Q => Q acc H
  | t :: ts, acc, σ, H, Q => t σ H fun x H1 => ∃ y : Str, x = .str y ∧ acc.length + y.cps.toList.length ≤ 16777216 ∧ uJs ts (acc ++ y.cps.toList) σ H1 Q
/-- a reading that may be asked for more -/
theorem uJs_t : ∀ (ts : List TE) (acc : Str) (σ : L2.St) (H : Hp) (Q : List Nat → Hp → Prop), (∀ t ∈ ts, Mono t) → uJs ts acc.cps.toList σ H Q → tJs ts acc σ H (fun out H1 => Q out.cps.toList H1)
  | [], acc, σ, H, Q, _, h => h
  | t :: ts, acc, σ, H, Q, hm, h => by
    refine hm t List.mem_cons_self σ H _ _ (fun x H1 ⟨y, ex, hz, q⟩ => ⟨y, ex, ?_, ?_⟩) h
    · rw [line, len_cps]
      show (TL.tl (acc ++ y)).length ≤ _
      rw [TL.tl_append, List.length_append]; exact hz
    · refine uJs_t ts (acc ++ y) σ H1 Q (fun t ht => hm t (List.mem_cons_of_mem _ ht)) ?_
      have e : (acc ++ y).cps.toList = acc.cps.toList ++ y.cps.toList := TL.tl_append acc y
      rw [e]; exact q
/-- f'..' of two parts or more -/
def uJoined (ts : List TE) : TE := fun σ H Q => uJs ts [] σ H fun out H1 => Q (sv out) H1
theorem pe_jn {v1 v2 : Expr} {rest : List Expr} {ts : List TE} {pos : Pos} (h : PJ X (v1 :: v2 :: rest) ts) (hm : ∀ t ∈ ts, Mono t) : PE X (.JoinedStr (v1 :: v2 :: rest) pos) (uJoined ts) := by
  refine PE.imp (pe_joined h) fun σ H Q q => ?_
  have q' := uJs_t ts Str.empty σ H (fun out H1 => Q (sv out) H1) hm q
  have e : (fun (out : Str) H1 => Q (V.str out) H1) = fun (out : Str) H1 => Q (sv out.cps.toList) H1 := by
    funext out H1; rw [← sv_of]
  rw [e]
  exact q'
theorem mono_var {i : Nat} : Mono (tVar i) := fun σ H Q Q' h ⟨v, e, q⟩ => ⟨v, e, h _ _ q⟩
theorem mono_c {v : V} : Mono (tC v) := fun σ H Q Q' h q => h _ _ q
theorem mono_fmt {te : TE} (h : Mono te) : Mono (uFmt te) := fun σ H Q Q' hq q => h σ H _ _ (fun x H1 z => by
  unfold rFmt at z ⊢
  split at z
  · exact ⟨z.1, hq _ _ z.2⟩
  · exact ⟨z.1, hq _ _ z.2⟩
  · exact z.elim) q
theorem mono_fld {K : PySem.W.Frag} {te : TE} {f : Str} (h : Mono te) : Mono (tFld K te f) := fun σ H Q Q' hq q => h σ H _ _ (fun x H1 ⟨a, C, dx, fs, v, e1, e2, e3, e4, e5, z⟩ => ⟨a, C, dx, fs, v, e1, e2, e3, e4, e5, hq _ _ z⟩) q
/-! ### comprehensions over texts -/
theorem lc_str {x : Str} {g : TG} {tt : TT} {te : TE} {vs : List Nat} {σ : L2.St} {H1 : Hp} {D : Addr} {Qd : Hp → Prop} (Pv : Nat → Hp → Prop) (h0 : Pv 0 (upd H1 D (.lst [])))
    (hs : ∀ i c H, x.cps.toList[i]? = some c → Pv i H → g (sv [c]) (wipe σ vs) H fun σ2 H2 => wipe σ2 vs = wipe σ vs ∧ tt σ2 H2 fun b H3 =>
      if b = true then te σ2 H3 fun y H4 => ∃ acc, H4 D = some (.lst acc) ∧ acc.length < sizeLine ∧ Pv (i + 1) (upd H4 D (.lst (acc ++ [y]))) else Pv (i + 1) H3) (hd : ∀ H, Pv x.cps.toList.length H → Qd H) :
    ∃ W : Nat → Nat → Hp → Prop, (∃ m, W 0 m (upd H1 D (.lst []))) ∧ ∀ i m H, W i m H →
      ((Its x).stop i H ∧ Qd H) ∨ ((Its x).go i H ∧ ∃ Nx : Hp → Prop, (∀ H', Nx H' → ∃ m', m' < m ∧ W (i + 1) m' H') ∧ ∀ v H', (Its x).yld i H v H' → g v (wipe σ vs) H' fun σ2 H2 => wipe σ2 vs = wipe σ vs ∧ tt σ2 H2 fun b H3 =>
        if b = true then te σ2 H3 fun y H4 => ∃ acc, H4 D = some (.lst acc) ∧ acc.length < sizeLine ∧ Nx (upd H4 D (.lst (acc ++ [y]))) else Nx H3) := by
  have hsz : x.cps.size = x.cps.toList.length := by simp
  refine ⟨fun i m H => m = x.cps.size - i ∧ i ≤ x.cps.size ∧ Pv i H, ⟨x.cps.size, by simp, Nat.zero_le _, h0⟩, ?_⟩
  rintro i m H ⟨rfl, hi, p⟩
  by_cases hlt : i < x.cps.size
  · refine .inr ⟨hlt, Pv (i + 1), fun H' p' => ⟨x.cps.size - (i + 1), by omega, rfl, hlt, p'⟩, fun v H' y => ?_⟩
    obtain ⟨e, c, hc, rfl⟩ := y
    subst e
    exact hs i c _ (by simpa using hc) p
  · have e : i = x.cps.toList.length := by omega
    subst e
    exact .inl ⟨by show x.cps.size ≤ _; omega, hd H p⟩
theorem for_str {x : Str} {g : TG} {tb : TS} {D : Ends} {σ : L2.St} {H : Hp} (Pv : Nat → L2.St → Hp → Prop) (h0 : Pv 0 σ H)
    (hs : ∀ i c σ H, x.cps.toList[i]? = some c → Pv i σ H → g (sv [c]) σ H fun σ2 H2 => tb { D with nx := Pv (i + 1), ct := Pv (i + 1), bk := D.nx } σ2 H2) (hd : ∀ σ H, Pv x.cps.toList.length σ H → D.nx σ H) :
    ∃ W : Nat → Nat → L2.St → Hp → Prop, (∃ m, W 0 m σ H) ∧ ∀ i m σ H, W i m σ H →
      ((Its x).stop i H ∧ D.nx σ H) ∨ ((Its x).go i H ∧ ∃ N : L2.St → Hp → Prop, (∀ σ' H', N σ' H' → ∃ m', m' < m ∧ W (i + 1) m' σ' H') ∧ ∀ v H', (Its x).yld i H v H' → g v σ H' fun σ2 H2 => tb { D with nx := N, ct := N, bk := D.nx } σ2 H2) := by
  have hsz : x.cps.size = x.cps.toList.length := by simp
  refine ⟨fun i m σ H => m = x.cps.size - i ∧ i ≤ x.cps.size ∧ Pv i σ H, ⟨x.cps.size, by simp, Nat.zero_le _, h0⟩, ?_⟩
  rintro i m σ H ⟨rfl, hi, p⟩
  by_cases hlt : i < x.cps.size
  · refine .inr ⟨hlt, Pv (i + 1), fun σ' H' p' => ⟨x.cps.size - (i + 1), by omega, rfl, hlt, p'⟩, fun v H' y => ?_⟩
    obtain ⟨e, c, hc, rfl⟩ := y
    subst e
    exact hs i c σ _ (by simpa using hc) p
  · have e : i = x.cps.toList.length := by omega
    subst e
    exact .inl ⟨by show x.cps.size ≤ _; omega, hd σ H p⟩
end
end U

namespace U
open PySem PySem.Spec PyProof.Rows L2
/-- the built-in names are the built-ins' -/
structure BI (mg : Str → Option Value) : Prop where
  len_ : mg "len" = none
  isinstance_ : mg "isinstance" = none
  all_ : mg "all" = none
  any_ : mg "any" = none
  range_ : mg "range" = none
  int_ : mg "int" = none
  str_ : mg "str" = none
  list_ : mg "list" = none
  tuple_ : mg "tuple" = none
  max_ : mg "max" = none
  min_ : mg "min" = none
  sorted_ : mg "sorted" = none
  repr_ : mg "repr" = none
  enumerate_ : mg "enumerate" = none
  zip_ : mg "zip" = none
  divmod_ : mg "divmod" = none
  sum_ : mg "sum" = none
  reversed_ : mg "reversed" = none
  dict_ : mg "dict" = none
  bool_ : mg "bool" = none
theorem bt_len : bootBuiltins "len" = some (.builtin "len") := by decide +kernel
theorem bt_isinstance : bootBuiltins "isinstance" = some (.builtin "isinstance") := by decide +kernel
theorem bt_all : bootBuiltins "all" = some (.builtin "all") := by decide +kernel
theorem bt_any : bootBuiltins "any" = some (.builtin "any") := by decide +kernel
theorem bt_max : bootBuiltins "max" = some (.builtin "max") := by decide +kernel
theorem bt_min : bootBuiltins "min" = some (.builtin "min") := by decide +kernel
theorem bt_divmod : bootBuiltins "divmod" = some (.builtin "divmod") := by decide +kernel
theorem bt_sum : bootBuiltins "sum" = some (.builtin "sum") := by decide +kernel
theorem bt_sorted : bootBuiltins "sorted" = some (.builtin "sorted") := by decide +kernel
theorem bt_repr : bootBuiltins "repr" = some (.builtin "repr") := by decide +kernel
theorem bt_int : bootBuiltins "int" = some (.type "int") := by decide +kernel
theorem bt_str : bootBuiltins "str" = some (.type "str") := by decide +kernel
theorem bt_list : bootBuiltins "list" = some (.type "list") := by decide +kernel
theorem bt_tuple : bootBuiltins "tuple" = some (.type "tuple") := by decide +kernel
theorem bt_bool : bootBuiltins "bool" = some (.type "bool") := by decide +kernel
theorem bt_dict : bootBuiltins "dict" = some (.type "dict") := by decide +kernel
theorem scope_by {N P : List Str} {sc : Scope} (h : C8.scC N P sc = true) : FnScope N P sc := C8.fnScope_by h
section
variable {X : Cx}
theorem imp_un {f : Value → Sem Value} {r r' : V → Hp → VK → Prop} (h : UnR X f r) (hi : ∀ x H Q, r' x H Q → r x H Q) : UnR X f r' := by
  intro pins s σ H x v Q I rx q
  exact h pins s σ H x v Q I rx (hi _ _ _ q)
def rNeg : V → Hp → VK → Prop := fun x H Q => match x with
  | .int i => Q (.int (-i)) H
  | _ => False
theorem neg : UnR X (unaryOp .USub) rNeg := imp_un un_neg (fun x H Q h => by
  unfold rNeg at h
  split at h
  · exact ⟨_, rfl, h⟩
  · exact h.elim)
/-- truth of texts, lists, numbers -/
def truB (H : Hp) : V → Option Bool
  | .non => some false
  | .bl b => some b
  | .int i => some (i != 0)
  | .str y => if y.cps.toList.length ≤ 16777216 then some (!y.cps.toList.isEmpty) else none
  | .ref p => (match H p with
    | some (.lst xs) => some (!xs.isEmpty)
    | some (.tup xs) => some (!xs.isEmpty)
    | _ => none)
  | _ => none
theorem truB_ok {K : PySem.W.Frag} {H : Hp} {x : V} {k : Bool} (h : truB H x = some k) : TruV K x H k := by
  unfold truB at h
  split at h
  · cases h; rfl
  · cases h; rfl
  · cases h; rfl
  · rename_i y
    split at h
    · cases h
      refine ⟨by rw [line, len_cps]; assumption, ?_⟩
      rw [len_cps]
      cases y.cps.toList <;> rfl
    · cases h
  · split at h <;> cases h
    · exact .inl ⟨_, .inl (.inl (by assumption)), rfl⟩
    · exact .inr (.inl ⟨_, .inl (.inl (by assumption)), rfl⟩)
  · cases h
def tTr (ta : TE) : TT := fun σ H Q => ta σ H fun x H' => ∃ k, truB H' x = some k ∧ Q k H'
theorem pt_tr {a : Expr} {ta : TE} (ha : PE X a ta) (he : ∀ whole, isTrue a X.env whole = (do let v ← whole; standAt a.pos; holding [v] (truthy v))) : PT X a (tTr ta) := by
  refine ⟨fun pins s σ H Q I h => ?_⟩
  exact isTrue_plain (thn (ha.run pins s σ H _ I h) fun v s1 ⟨x, H1, I1, r1, k, e, q1⟩ => tru_ok pins s1 σ H1 x v Q I1 r1 ⟨k, truB_ok e, q1⟩) (he _)
def tOrU (ta tb : TE) : TE := fun σ H Q => ta σ H fun x H1 => ∃ k, truB H1 x = some k ∧ if k = true then Q x H1 else tb σ H1 Q
theorem pe_orU {a b : Expr} {rest : List Expr} {ta tb : TE} {pos : Pos} (ha : PE X a ta) (hb : PE X (.BoolOp .Or (b :: rest) pos) tb) (hm : Mono ta) : PE X (.BoolOp .Or (a :: b :: rest) pos) (tOrU ta tb) :=
  PE.imp (pe_orT ha hb) fun σ H Q q => hm σ H _ _ (fun x H1 ⟨k, e, z⟩ => ⟨k, truB_ok e, z⟩) q
end
/-! ### calls with keywords, without arguments -/
section
variable {P : Program} {w : World} {K : PySem.W.Frag} {mg : Str → Option Value} {base : Heap}
structure KCal (P : Program) (w : World) (K : PySem.W.Frag) (mg : Str → Option Value) (base : Heap) (k : Nat) (x : Str) (sp : Sp) (n : Nat) (ks : List Str) (gV : List V → List V → List V) : Prop where
  ex : ∃ (f : Addr) (fd : FuncData) (ps : List Str) (g : List Value → List Value → List Value), FnOk P w K mg base C8.CX0 k f fd ps sp ∧ mg x = some (.ref f) ∧ PySem.W.keepIn K (.ref f) = true ∧ KBn K fd ps n ks g gV
structure KMak (P : Program) (w : World) (K : PySem.W.Frag) (mg : Str → Option Value) (base : Heap) (k : Nat) (x : Str) (C : Addr) (sp : Sp) (n : Nat) (ks : List Str) (gV : List V → List V → List V) : Prop where
  ex : ∃ (f : Addr) (fd : FuncData) (ps : List Str) (g : List Value → List Value → List Value), Mk K C f ∧ FnOk P w K mg base C8.CX0 k f fd ps sp ∧ mg x = some (.ref C) ∧ KBn K fd ps (n + 1) ks g gV
end
section
variable {X : Cx} {k j n : Nat} {C : Addr} {x : Str} {sp : Sp} {dvs : List V} {p pos : Pos} {e : Expr} {es : List Expr} {kws : List Keyword} {t tk : TA} {ks : List Str} {gV : List V → List V → List V}
theorem pe_c0 (c : C8.Cal X.prog X.w X.K X.mg X.base k x sp dvs) (hr : Room j X.A) (hk : k ≤ j) (hg : Gl X x) (hdb : (x == ("__debug__" : Str)) = false := by decide) : PE X (.Call (.Name x p) [] [] pos) (tCall sp dvs C8.E0 tNil) := by
  obtain ⟨f, fd, ps, ds, F, hm, kp, b, d⟩ := c.ex
  exact pe_call0 F (hr.mono hk) hg hm kp b d C8.pass0 hdb
theorem pe_ck (c : KCal X.prog X.w X.K X.mg X.base k x sp n ks gV) (hr : Room j X.A) (hk : k ≤ j) (hg : Gl X x) (ha : PA X (e :: es) t) (hkw : PK X kws tk)
    (hall : (backToKw pos (keywordEach kws X.env)).all (·.1.isSome) = true := by rfl) (hks : (backToKw pos (keywordEach kws X.env)).filterMap (·.1) = ks := by rfl)
    (hdb : (x == ("__debug__" : Str)) = false := by decide) (he : starEach (e :: es) X.env = (false, eval e X.env) :: starEach es X.env := by rfl)
    (hpl : ((backTo pos (starEach (e :: es) X.env)).any (·.1) || (backToKw pos (keywordEach kws X.env)).any (·.1.isNone)) = false := by rfl) :
    PE X (.Call (.Name x p) (e :: es) kws pos) (tCallN n ks.length sp gV C8.E0 t tk) := by
  obtain ⟨f, fd, ps, g, F, hm, kp, b⟩ := c.ex
  exact pe_callN F (hr.mono hk) hg hm kp b C8.pass0 ha hkw hall hks hdb he hpl
theorem pe_mkk (c : KMak X.prog X.w X.K X.mg X.base k x C sp n ks gV) (hr : Room j X.A) (hk : k + 1 ≤ j) (hg : Gl X x) (ha : PA X (e :: es) t) (hkw : PK X kws tk)
    (hall : (backToKw pos (keywordEach kws X.env)).all (·.1.isSome) = true := by rfl) (hks : (backToKw pos (keywordEach kws X.env)).filterMap (·.1) = ks := by rfl)
    (hdb : (x == ("__debug__" : Str)) = false := by decide) (he : starEach (e :: es) X.env = (false, eval e X.env) :: starEach es X.env := by rfl)
    (hpl : ((backTo pos (starEach (e :: es) X.env)).any (·.1) || (backToKw pos (keywordEach kws X.env)).any (·.1.isNone)) = false := by rfl) :
    PE X (.Call (.Name x p) (e :: es) kws pos) (tMakeN C n ks.length sp gV C8.E0 t tk) := by
  obtain ⟨f, fd, ps, g, M, F, hm, b⟩ := c.ex
  exact pe_makeN M F (hr.mono hk) hg hm b C8.pass0 ha hkw hall hks hdb he hpl
end
/-! ### promises by the number of arguments -/
def sp0 (f : Hp → VK → XK → Prop) : Sp := fun vs H Q E => vs = [] ∧ f H Q E
theorem sp0_at {f : Hp → VK → XK → Prop} {H : Hp} {Q : VK} {E : XK} : sp0 f [] H Q E = f H Q E := propext ⟨fun h => h.2, fun h => ⟨rfl, h⟩⟩
def sp1 (f : V → Hp → VK → XK → Prop) : Sp := fun vs H Q E => ∃ a0, vs = [a0] ∧ f a0 H Q E
theorem sp1_at {f : V → Hp → VK → XK → Prop} {a0 : V} {H : Hp} {Q : VK} {E : XK} : sp1 f [a0] H Q E = f a0 H Q E := propext ⟨fun ⟨_, e, h⟩ => by cases e; exact h, fun h => ⟨_, rfl, h⟩⟩
def sp2 (f : V → V → Hp → VK → XK → Prop) : Sp := fun vs H Q E => ∃ a0 a1, vs = [a0, a1] ∧ f a0 a1 H Q E
theorem sp2_at {f : V → V → Hp → VK → XK → Prop} {a0 a1 : V} {H : Hp} {Q : VK} {E : XK} : sp2 f [a0, a1] H Q E = f a0 a1 H Q E := propext ⟨fun ⟨_, _, e, h⟩ => by cases e; exact h, fun h => ⟨_, _, rfl, h⟩⟩
def sp3 (f : V → V → V → Hp → VK → XK → Prop) : Sp := fun vs H Q E => ∃ a0 a1 a2, vs = [a0, a1, a2] ∧ f a0 a1 a2 H Q E
theorem sp3_at {f : V → V → V → Hp → VK → XK → Prop} {a0 a1 a2 : V} {H : Hp} {Q : VK} {E : XK} : sp3 f [a0, a1, a2] H Q E = f a0 a1 a2 H Q E := propext ⟨fun ⟨_, _, _, e, h⟩ => by cases e; exact h, fun h => ⟨_, _, _, rfl, h⟩⟩
def sp4 (f : V → V → V → V → Hp → VK → XK → Prop) : Sp := fun vs H Q E => ∃ a0 a1 a2 a3, vs = [a0, a1, a2, a3] ∧ f a0 a1 a2 a3 H Q E
theorem sp4_at {f : V → V → V → V → Hp → VK → XK → Prop} {a0 a1 a2 a3 : V} {H : Hp} {Q : VK} {E : XK} : sp4 f [a0, a1, a2, a3] H Q E = f a0 a1 a2 a3 H Q E := propext ⟨fun ⟨_, _, _, _, e, h⟩ => by cases e; exact h, fun h => ⟨_, _, _, _, rfl, h⟩⟩
def sp5 (f : V → V → V → V → V → Hp → VK → XK → Prop) : Sp := fun vs H Q E => ∃ a0 a1 a2 a3 a4, vs = [a0, a1, a2, a3, a4] ∧ f a0 a1 a2 a3 a4 H Q E
theorem sp5_at {f : V → V → V → V → V → Hp → VK → XK → Prop} {a0 a1 a2 a3 a4 : V} {H : Hp} {Q : VK} {E : XK} : sp5 f [a0, a1, a2, a3, a4] H Q E = f a0 a1 a2 a3 a4 H Q E := propext ⟨fun ⟨_, _, _, _, _, e, h⟩ => by cases e; exact h, fun h => ⟨_, _, _, _, _, rfl, h⟩⟩
def sp6 (f : V → V → V → V → V → V → Hp → VK → XK → Prop) : Sp := fun vs H Q E => ∃ a0 a1 a2 a3 a4 a5, vs = [a0, a1, a2, a3, a4, a5] ∧ f a0 a1 a2 a3 a4 a5 H Q E
theorem sp6_at {f : V → V → V → V → V → V → Hp → VK → XK → Prop} {a0 a1 a2 a3 a4 a5 : V} {H : Hp} {Q : VK} {E : XK} : sp6 f [a0, a1, a2, a3, a4, a5] H Q E = f a0 a1 a2 a3 a4 a5 H Q E := propext ⟨fun ⟨_, _, _, _, _, _, e, h⟩ => by cases e; exact h, fun h => ⟨_, _, _, _, _, _, rfl, h⟩⟩
def sp7 (f : V → V → V → V → V → V → V → Hp → VK → XK → Prop) : Sp := fun vs H Q E => ∃ a0 a1 a2 a3 a4 a5 a6, vs = [a0, a1, a2, a3, a4, a5, a6] ∧ f a0 a1 a2 a3 a4 a5 a6 H Q E
theorem sp7_at {f : V → V → V → V → V → V → V → Hp → VK → XK → Prop} {a0 a1 a2 a3 a4 a5 a6 : V} {H : Hp} {Q : VK} {E : XK} : sp7 f [a0, a1, a2, a3, a4, a5, a6] H Q E = f a0 a1 a2 a3 a4 a5 a6 H Q E := propext ⟨fun ⟨_, _, _, _, _, _, _, e, h⟩ => by cases e; exact h, fun h => ⟨_, _, _, _, _, _, _, rfl, h⟩⟩
/-! ### how readings reduce -/
section
variable {σ : L2.St} {H H' : Hp} {Q : VK} {v : V} {D : Ends}
theorem tVar_0 : tVar 0 (some v :: σ) H Q = Q v H := by
  apply propext; constructor
  · rintro ⟨u, e, q⟩
    have e : some v = some u := Option.some.inj e
    cases e; exact q
  · intro q; exact ⟨v, rfl, q⟩
theorem tVar_s {o : Option V} {i : Nat} : tVar (i + 1) (o :: σ) H Q = tVar i σ H Q := rfl
theorem set_0 {α : Type} {a b : α} {l : List α} : (a :: l).set 0 b = b :: l := rfl
theorem set_s {α : Type} {a b : α} {l : List α} {i : Nat} : (a :: l).set (i + 1) b = a :: l.set i b := rfl
theorem wipe_nil : wipe σ [] = σ := rfl
/-- a list's word between two turns of a for -/
theorem ex_eq {α : Sort _} {a : α} {p : α → Prop} : (∃ x, a = x ∧ p x) = p a := by
  apply propext; constructor
  · rintro ⟨x, rfl, h⟩; exact h
  · intro h; exact ⟨a, rfl, h⟩
end
theorem atI_in {α : Type} {xs : List α} {i : Int} (h0 : 0 ≤ i) (h1 : i < xs.length) : ∃ c, c ∈ xs ∧ atI xs i = some c := by
  obtain ⟨n, rfl⟩ := Int.eq_ofNat_of_zero_le h0
  have hn : n < xs.length := by omega
  exact ⟨xs[n], List.getElem_mem hn, atI_nat (List.getElem?_eq_getElem hn)⟩
theorem atI_0 {α : Type} {a : α} {l : List α} : atI (a :: l) 0 = some a := atI_nat (j := 0) rfl
theorem ixN_0 {n : Nat} : ixN (n + 1) 0 = some 0 := by
  unfold ixN
  rw [if_pos (by decide), if_pos (by omega)]; rfl
end U

namespace U
open PySem PySem.Spec PyProof.Rows L2
/-- what is read, if it is there -/
def optE {α : Type} (o : Option α) (k : α → Prop) : Prop := ∃ a, o = some a ∧ k a
theorem optE_some {α : Type} {a : α} {k : α → Prop} : optE (some a) k = k a := propext ⟨fun ⟨b, e, h⟩ => by cases e; exact h, fun h => ⟨a, rfl, h⟩⟩
theorem optE_of {α : Type} {o : Option α} {a : α} {k : α → Prop} (h : o = some a) (q : k a) : optE o k := ⟨a, h, q⟩
section
variable {σ : L2.St} {H H' : Hp} {Q : VK} {v x y : V} {i j : Int} {a b : Str} {p q : Addr} {bb c : Bool} {T : String} {n m : Nat} {l l' : List Nat}
/-! ### the rules, by kinds of values -/
theorem e_add1 : rAdd (.int i) (.int j) H Q = Q (.int (i + j)) H := rfl
theorem e_add2 : rAdd (.str a) (.str b) H Q = (a.cps.toList.length + b.cps.toList.length ≤ 16777216 ∧ Q (sv (a.cps.toList ++ b.cps.toList)) H) := rfl
def lstOf : HO → Option (List V)
  | .lst xs => some xs
  | _ => none
theorem lstOf_some {o : HO} {xs : List V} (h : lstOf o = some xs) : o = .lst xs := by cases o <;> cases h; rfl
theorem lstOf_bind {xs : List V} (h : (H p).bind lstOf = some xs) : H p = some (.lst xs) := by
  cases e : H p with
  | none => rw [e] at h; cases h
  | some o => rw [e] at h; rw [lstOf_some h]
theorem bind_lst {xs : List V} (h : H p = some (.lst xs)) : (H p).bind lstOf = some xs := by rw [h]; rfl
theorem e_add3 : rAdd (.ref p) (.ref q) H Q = optE ((H p).bind lstOf) fun xs => optE ((H q).bind lstOf) fun ys => xs.length + ys.length ≤ 16777216 ∧ ∀ r, H r = none → Q (.ref r) (upd H r (.lst (xs ++ ys))) := by
  apply propext; constructor
  · rintro ⟨xs, ys, h1, h2, h3, h4⟩; exact ⟨xs, bind_lst h1, ys, bind_lst h2, h3, h4⟩
  · rintro ⟨xs, h1, ys, h2, h3, h4⟩; exact ⟨xs, ys, lstOf_bind h1, lstOf_bind h2, h3, h4⟩
theorem e_sub : rSub (.int i) (.int j) H Q = Q (.int (i - j)) H := rfl
theorem e_mul : rMul (.int i) (.int j) H Q = (MulOk i j ∧ Q (.int (i * j)) H) := rfl
theorem e_mul2 : rMul (.ref p) (.int i) H Q = optE ((H p).bind lstOf) fun xs => 0 ≤ i ∧ i < 2 ^ 63 ∧ xs.length * i.toNat ≤ 16777216 ∧ ∀ r, H r = none → Q (.ref r) (upd H r (.lst (List.replicate i.toNat xs).flatten)) := by
  apply propext; constructor
  · rintro ⟨xs, h1, h2⟩; exact ⟨xs, bind_lst h1, h2⟩
  · rintro ⟨xs, h1, h2⟩; exact ⟨xs, lstOf_bind h1, h2⟩
theorem e_mod : rMod (.int i) (.int j) H Q = (0 < j ∧ Q (.int (i % j)) H) := rfl
theorem e_div : rDiv (.int i) (.int j) H Q = ((0 < j ∧ j < 2 ^ 8000) ∧ Q (.int (i / j)) H) := rfl
theorem e_pow : rPow (.int i) (.int j) H Q = (CPow i j ∧ Q (.int (i ^ j.toNat)) H) := rfl
theorem e_lt1 : rLt (.int i) (.int j) H Q = Q (.bl (decide (i < j))) H := rfl
theorem e_lt2 : rLt (.str a) (.str b) H Q = Q (.bl (strLt a.cps.toList b.cps.toList)) H := rfl
theorem e_le1 : rLe (.int i) (.int j) H Q = Q (.bl (decide (i ≤ j))) H := rfl
theorem e_le2 : rLe (.str a) (.str b) H Q = Q (.bl (!strLt b.cps.toList a.cps.toList)) H := rfl
theorem e_gt1 : rGt (.int i) (.int j) H Q = Q (.bl (decide (j < i))) H := rfl
theorem e_gt2 : rGt (.str a) (.str b) H Q = Q (.bl (strLt b.cps.toList a.cps.toList)) H := rfl
theorem e_ge1 : rGe (.int i) (.int j) H Q = Q (.bl (decide (j ≤ i))) H := rfl
theorem e_ge2 : rGe (.str a) (.str b) H Q = Q (.bl (!strLt a.cps.toList b.cps.toList)) H := rfl
theorem e_eqo : rEq x y H Q = optE (eqS x y) fun b => Q (.bl b) H := rfl
theorem e_neo : rNe x y H Q = optE (eqS x y) fun b => Q (.bl (!b)) H := rfl
theorem s_1 : eqS .non .non = some true := rfl
theorem s_2 : eqS .non (.int i) = some false := rfl
theorem s_3 : eqS (.int i) .non = some false := rfl
theorem s_4 : eqS .non (.str a) = some false := rfl
theorem s_5 : eqS (.str a) .non = some false := rfl
theorem s_6 : eqS (.int i) (.int j) = some (decide (i = j)) := rfl
theorem s_7 : eqS (.bl bb) (.bl c) = some (bb == c) := rfl
theorem s_8 : eqS (.str a) (.str b) = some (decide (a.cps.toList = b.cps.toList)) := rfl
theorem s_9 : eqS (.int i) (.str b) = some false := rfl
theorem s_10 : eqS (.str a) (.int j) = some false := rfl
theorem s_11 : eqS (.bl bb) (.str b) = some false := rfl
theorem s_12 : eqS .non (.bl bb) = some false := rfl
theorem s_13 : eqS (.bl bb) .non = some false := rfl
theorem s_14 : eqS (.str a) (.bl bb) = some false := rfl
theorem e_is : rIs x .non H Q = Q (.bl (decide (x = .non))) H := propext ⟨fun h => h.2, fun h => ⟨rfl, h⟩⟩
theorem e_isn : rIsNot x .non H Q = Q (.bl (!decide (x = .non))) H := propext ⟨fun h => h.2, fun h => ⟨rfl, h⟩⟩
def oneOf : List Nat → Option Nat
  | [c] => some c
  | _ => none
theorem oneOf_some {l : List Nat} {c : Nat} (h : oneOf l = some c) : l = [c] := by
  unfold oneOf at h
  split at h
  · cases h; rfl
  · cases h
theorem e_in1 : rIn (.str a) (.str b) H Q = optE (oneOf a.cps.toList) fun c => Q (.bl (decide (c ∈ b.cps.toList))) H := by
  apply propext; constructor
  · rintro ⟨c, h1, h2⟩; exact ⟨c, by rw [h1]; rfl, h2⟩
  · rintro ⟨c, h1, h2⟩; exact ⟨c, oneOf_some h1, h2⟩
theorem e_nin1 : rNotIn (.str a) (.str b) H Q = optE (oneOf a.cps.toList) fun c => Q (.bl (!decide (c ∈ b.cps.toList))) H := by
  apply propext; constructor
  · rintro ⟨c, h1, h2⟩; exact ⟨c, by rw [h1]; rfl, h2⟩
  · rintro ⟨c, h1, h2⟩; exact ⟨c, oneOf_some h1, h2⟩
theorem e_in2 : rIn x (.ref p) H Q = optE ((H p).bind seqOf) fun xs => flatV x = true ∧ xs.all flatV = true ∧ Q (.bl (inV x xs)) H := by
  cases x <;> rfl
theorem e_nin2 : rNotIn x (.ref p) H Q = optE ((H p).bind seqOf) fun xs => flatV x = true ∧ xs.all flatV = true ∧ Q (.bl (!inV x xs)) H := by
  cases x <;> rfl
theorem e_one : oneOf [n] = some n := rfl
theorem e_ix1 : rIx (.str a) (.int i) H Q = (a.cps.toList.length ≤ 16777216 ∧ optE (atI a.cps.toList i) fun c => Q (sv [c]) H) := rfl
theorem e_ix2 : rIx (.ref p) (.int i) H Q = optE ((H p).bind seqOf) fun xs => optE (atI xs i) fun v => Q v H := rfl
variable {lo hi : Option Int}
theorem e_sl1 : rSl (.str a) lo hi H Q = (a.cps.toList.length ≤ 16777216 ∧ Q (sv (cutL a.cps.toList lo hi)) H) := rfl
/-- a cut of what stands there -/
def slO (o : Option HO) (p : Addr) (lo hi : Option Int) (H : Hp) (Q : VK) : Prop := match o with
  | some (.lst xs) => ∀ r, H r = none → Q (.ref r) (upd H r (.lst (cutL xs lo hi)))
  | some (.frz _ (.lst xs)) => ∀ r, H r = none → Q (.ref r) (upd H r (.lst (cutL xs lo hi)))
  | some (.tup xs) => (cutL xs lo hi = xs → Q (.ref p) H) ∧ ∀ r, H r = none → Q (.ref r) (upd H r (.tup (cutL xs lo hi)))
  | _ => False
theorem e_sl2 : rSl (.ref p) lo hi H Q = slO (H p) p lo hi H Q := by
  unfold slO
  apply propext; constructor
  · rintro (⟨xs, h1 | ⟨o, h1⟩, h2⟩ | ⟨xs, h1, h2⟩)
    · rw [h1]; exact h2
    · rw [h1]; exact h2
    · rw [h1]; exact h2
  · intro h
    split at h
    · rename_i xs e; exact .inl ⟨xs, .inl e, h⟩
    · rename_i o xs e; exact .inl ⟨xs, .inr ⟨o, e⟩, h⟩
    · rename_i xs e; exact .inr ⟨xs, e, h⟩
    · exact h.elim
theorem e_slo1 {xs : List V} : slO (some (.lst xs)) p lo hi H Q = ∀ r, H r = none → Q (.ref r) (upd H r (.lst (cutL xs lo hi))) := rfl
theorem e_slo2 {xs : List V} {o : Obj} : slO (some (.frz o (.lst xs))) p lo hi H Q = ∀ r, H r = none → Q (.ref r) (upd H r (.lst (cutL xs lo hi))) := rfl
theorem e_slo3 {xs : List V} : slO (some (.tup xs)) p lo hi H Q = ((cutL xs lo hi = xs → Q (.ref p) H) ∧ ∀ r, H r = none → Q (.ref r) (upd H r (.tup (cutL xs lo hi)))) := rfl
theorem e_len1 : rLen [.str a] H Q = (a.cps.toList.length ≤ 16777216 ∧ Q (.int a.cps.toList.length) H) := rfl
theorem e_len2 : rLen [.ref p] H Q = optE ((H p).bind seqOf) fun xs => Q (.int xs.length) H := rfl
theorem e_isi1 : rIsi [x, .ty T] H Q = optE (tyB H x) fun t => optE (isB t T) fun b => Q (.bl b) H := by
  apply propext; constructor
  · rintro ⟨t, h1, b, h2, h3⟩; exact ⟨t, h1, b, h2, h3⟩
  · rintro ⟨t, h1, b, h2, h3⟩; exact ⟨t, h1, b, h2, h3⟩
def tupOf : HO → Option (List V)
  | .tup xs => some xs
  | _ => none
theorem tupOf_some {o : HO} {xs : List V} (h : tupOf o = some xs) : o = .tup xs := by cases o <;> cases h; rfl
theorem tupOf_bind {xs : List V} (h : (H p).bind tupOf = some xs) : H p = some (.tup xs) := by
  cases e : H p with
  | none => rw [e] at h; cases h
  | some o => rw [e] at h; rw [tupOf_some h]
theorem bind_tup {xs : List V} (h : H p = some (.tup xs)) : (H p).bind tupOf = some xs := by rw [h]; rfl
theorem e_isi2 : rIsi [x, .ref p] H Q = optE ((H p).bind tupOf) fun cs => optE (tyB H x) fun t => optE (isAny t cs) fun b => Q (.bl b) H := by
  apply propext; constructor
  · rintro ⟨cs, h0, t, h1, b, h2, h3⟩; exact ⟨cs, bind_tup h0, t, h1, b, h2, h3⟩
  · rintro ⟨cs, h0, t, h1, b, h2, h3⟩; exact ⟨cs, tupOf_bind h0, t, h1, b, h2, h3⟩
theorem t_non : tyB H .non = some "NoneType" := rfl
theorem t_bl : tyB H (.bl bb) = some "bool" := rfl
theorem t_int : tyB H (.int i) = some "int" := rfl
theorem t_str : tyB H (.str a) = some "str" := rfl
def tyO : HO → Option String
  | .lst _ => some "list"
  | .tup _ => some "tuple"
  | .dK _ => some "dict"
  | .dT _ => some "dict"
  | .frz _ (.lst _) => some "list"
  | _ => none
theorem t_ref : tyB H (.ref p) = (H p).bind tyO := by
  show (match H p with
    | some (.lst _) => some "list"
    | some (.tup _) => some "tuple"
    | some (.dK _) => some "dict"
    | some (.dT _) => some "dict"
    | some (.frz _ (.lst _)) => some "list"
    | _ => none) = (H p).bind tyO
  cases H p with
  | none => rfl
  | some o =>
    cases o <;> first | rfl | (rename_i ob u; cases u <;> rfl)
theorem t_lst {xs : List V} : tyO (.lst xs) = some "list" := rfl
theorem t_tup {xs : List V} : tyO (.tup xs) = some "tuple" := rfl
theorem t_dK {kvs : List (Key × V)} : tyO (.dK kvs) = some "dict" := rfl
theorem q_lst {xs : List V} : seqOf (.lst xs) = some xs := rfl
theorem q_tup {xs : List V} : seqOf (.tup xs) = some xs := rfl
theorem q_frz {xs : List V} {o : Obj} : seqOf (.frz o (.lst xs)) = some xs := rfl
theorem l_lst {xs : List V} : lstOf (.lst xs) = some xs := rfl
theorem l_tup {xs : List V} : tupOf (.tup xs) = some xs := rfl
theorem e_max : rMax [.int i, .int j] H Q = Q (.int (max i j)) H := rfl
theorem e_min : rMin [.int i, .int j] H Q = Q (.int (min i j)) H := rfl
theorem e_str : rStr [.int i] H Q = ((0 ≤ i ∧ i < 2 ^ 1900) ∧ Q (sv (numL i.toNat)) H) := rfl
theorem e_int1 : rInt [.int i] H Q = Q (.int i) H := rfl
theorem e_int2 : rInt [.bl bb] H Q = Q (.int (if bb then 1 else 0)) H := rfl
theorem e_int3 : rInt [.str a] H Q = ((digs a.cps.toList = true ∧ a.cps.toList ≠ [] ∧ a.cps.toList.length ≤ 640) ∧ Q (.int (valL a.cps.toList)) H) := rfl
theorem e_list : rList [.ref p] H Q = optE ((H p).bind seqOf) fun xs => ∀ r, H r = none → Q (.ref r) (upd H r (.lst xs)) := rfl
/-- tuple(x) of what stands there -/
def tupleO (o : Option HO) (p : Addr) (H : Hp) (Q : VK) : Prop := match o with
  | some (.lst xs) => ∀ r, H r = none → Q (.ref r) (upd H r (.tup xs))
  | some (.tup _) => Q (.ref p) H
  | _ => False
theorem e_tuple : rTuple [.ref p] H Q = tupleO (H p) p H Q := by
  unfold tupleO
  apply propext; constructor
  · rintro (⟨xs, h1, h2⟩ | ⟨xs, h1, h2⟩)
    · rw [h1]; exact h2
    · rw [h1]; exact h2
  · intro h
    split at h
    · rename_i xs e; exact .inl ⟨xs, e, h⟩
    · rename_i xs e; exact .inr ⟨xs, e, h⟩
    · exact h.elim
theorem e_tuple1 {xs : List V} : tupleO (some (.lst xs)) p H Q = ∀ r, H r = none → Q (.ref r) (upd H r (.tup xs)) := rfl
theorem e_tuple2 {xs : List V} : tupleO (some (.tup xs)) p H Q = Q (.ref p) H := rfl
theorem e_divmod : rDivmod [.int i, .int j] H Q = ((0 < j ∧ j < 2 ^ 8000) ∧ ∀ r, H r = none → Q (.ref r) (upd H r (.tup [.int (i / j), .int (i % j)]))) := rfl
theorem e_append : rAppend (.ref p) [y] H Q = optE ((H p).bind lstOf) fun xs => xs.length < 16777216 ∧ Q .non (upd H p (.lst (xs ++ [y]))) := by
  apply propext; constructor
  · rintro ⟨xs, h1, h2⟩; exact ⟨xs, bind_lst h1, h2⟩
  · rintro ⟨xs, h1, h2⟩; exact ⟨xs, lstOf_bind h1, h2⟩
/-- a list or tuple that is not locked -/
def seqU : HO → Option (List V)
  | .lst xs => some xs
  | .tup xs => some xs
  | _ => none
theorem u_lst {xs : List V} : seqU (.lst xs) = some xs := rfl
theorem u_tup {xs : List V} : seqU (.tup xs) = some xs := rfl
theorem seqU_bind {xs : List V} (h : (H p).bind seqU = some xs) : H p = some (.lst xs) ∨ H p = some (.tup xs) := by
  cases e : H p with
  | none => rw [e] at h; cases h
  | some o =>
    rw [e] at h
    have h : seqU o = some xs := h
    cases o <;> cases h
    · exact .inl rfl
    · exact .inr rfl
theorem e_extend : rExtend (.ref p) [.ref q] H Q = optE ((H p).bind lstOf) fun xs => optE ((H q).bind seqU) fun ys => xs.length + ys.length ≤ 16777216 ∧ Q .non (upd H p (.lst (xs ++ ys))) := by
  apply propext; constructor
  · rintro ⟨xs, ys, h1, h2, h3⟩
    refine ⟨xs, bind_lst h1, ys, ?_, h3⟩
    rcases h2 with h2 | h2 <;> rw [h2] <;> rfl
  · rintro ⟨xs, h1, ys, h2, h3⟩; exact ⟨xs, ys, lstOf_bind h1, seqU_bind h2, h3⟩
theorem e_pop : rPop (.ref p) [] H Q = optE ((H p).bind lstOf) fun xs => optE xs.getLast? fun y => Q y (upd H p (.lst xs.dropLast)) := by
  apply propext; constructor
  · rintro ⟨xs, y, h1, h2, h3⟩; exact ⟨xs, bind_lst h1, y, h2, h3⟩
  · rintro ⟨xs, h1, y, h2, h3⟩; exact ⟨xs, y, lstOf_bind h1, h2, h3⟩
theorem e_rstrip : rRstrip (.str a) [.str b] H Q = (a.cps.toList.length ≤ 16777216 ∧ Q (.str (Txt.rstripChars a b)) H) := rfl
theorem e_zfill : rZfill (.str a) [.int i] H Q = (PadOk i = true ∧ Q (.str (Txt.zfill a i)) H) := rfl
/-- a list of texts -/
def strsOf : List V → Option (List (List Nat))
  | [] => some []
  | .str a :: r => (strsOf r).map fun l => a.cps.toList :: l
  | _ => none
theorem strsOf_some : ∀ {xs : List V} {ys : List (List Nat)}, strsOf xs = some ys → xs = ys.map sv
  | [], ys, h => by cases h; rfl
  | .str a :: r, ys, h => by
    have h : (strsOf r).map (fun l => a.cps.toList :: l) = some ys := h
    cases e : strsOf r with
    | none => rw [e] at h; cases h
    | some zs => rw [e] at h; cases h; rw [strsOf_some e, sv_of]; rfl
  | .non :: _, _, h => by cases h
  | .bl _ :: _, _, h => by cases h
  | .int _ :: _, _, h => by cases h
  | .byt _ :: _, _, h => by cases h
  | .flt _ :: _, _, h => by cases h
  | .ref _ :: _, _, h => by cases h
  | .ty _ :: _, _, h => by cases h
theorem strsOf_map : ∀ (ys : List (List Nat)), strsOf (ys.map sv) = some ys
  | [] => rfl
  | l :: r => by
    show (strsOf (r.map sv)).map (fun z => l :: z) = some (l :: r)
    rw [strsOf_map r]; rfl
theorem strsOf_nil : strsOf [] = some [] := rfl
theorem strsOf_cons {r : List V} : strsOf (.str a :: r) = (strsOf r).map fun l => a.cps.toList :: l := rfl
theorem strsOf_app {r : List V} {ys zs : List (List Nat)} (h : strsOf r = some zs) : strsOf (ys.map sv ++ r) = some (ys ++ zs) := by
  rw [strsOf_some h, ← List.map_append, strsOf_map]
theorem e_join : rJoin (.str a) [.ref p] H Q = optE ((H p).bind seqU) fun xs => optE (strsOf xs) fun ys => (ys.map List.length).sum + ys.length * a.cps.toList.length ≤ 16777216 ∧ Q (sv (TL.joinL a.cps.toList ys)) H := by
  apply propext; constructor
  · rintro ⟨ys, h1, h2⟩
    refine ⟨ys.map sv, ?_, ys, strsOf_map ys, h2⟩
    rcases h1 with h1 | h1 <;> rw [h1] <;> rfl
  · rintro ⟨xs, h1, ys, h2, h3⟩
    rw [strsOf_some h2] at h1
    exact ⟨ys, seqU_bind h1, h3⟩
theorem e_fmt1 : rFmt (.str a) H Q = (a.cps.toList.length ≤ 16777216 ∧ Q (sv a.cps.toList) H) := rfl
theorem e_fmt2 : rFmt (.int i) H Q = ((0 ≤ i ∧ i < 2 ^ 1900) ∧ Q (sv (numL i.toNat)) H) := rfl
theorem e_js0 {acc : List Nat} {Q : List Nat → Hp → Prop} : uJs [] acc σ H Q = Q acc H := rfl
def strOf : V → Option (List Nat)
  | .str a => some a.cps.toList
  | _ => none
theorem strOf_str : strOf (.str a) = some a.cps.toList := rfl
theorem e_js1 {t : TE} {ts : List TE} {acc : List Nat} {Q : List Nat → Hp → Prop} : uJs (t :: ts) acc σ H Q = t σ H fun x H1 => optE (strOf x) fun y => acc.length + y.length ≤ 16777216 ∧ uJs ts (acc ++ y) σ H1 Q := by
  have e : ∀ (x : V) (H1 : Hp), (∃ y : Str, x = .str y ∧ acc.length + y.cps.toList.length ≤ 16777216 ∧ uJs ts (acc ++ y.cps.toList) σ H1 Q) = optE (strOf x) fun y => acc.length + y.length ≤ 16777216 ∧ uJs ts (acc ++ y) σ H1 Q := by
    intro x H1
    apply propext; constructor
    · rintro ⟨y, rfl, h⟩; exact ⟨_, rfl, h⟩
    · rintro ⟨y, h1, h2⟩
      cases x <;> cases h1
      exact ⟨_, rfl, h2⟩
  show (t σ H fun x H1 => ∃ y : Str, x = .str y ∧ acc.length + y.cps.toList.length ≤ 16777216 ∧ uJs ts (acc ++ y.cps.toList) σ H1 Q) = _
  congr 1
  funext x H1
  exact e x H1
theorem e_set {R : Hp → Prop} : rSet (.ref p) (.int i) v H R = optE ((H p).bind lstOf) fun xs => optE (ixN xs.length i) fun j => R (upd H p (.lst (xs.set j v))) := by
  apply propext; constructor
  · rintro ⟨xs, h1, h2⟩; exact ⟨xs, bind_lst h1, h2⟩
  · rintro ⟨xs, h1, h2⟩; exact ⟨xs, lstOf_bind h1, h2⟩
theorem e_get : rGet (.ref p) (.int i) H Q = optE ((H p).bind lstOf) fun xs => 0 ≤ i ∧ optE (xs[i.toNat]?) fun v => Q v H := by
  apply propext; constructor
  · rintro ⟨xs, h1, h2⟩; exact ⟨xs, bind_lst h1, h2⟩
  · rintro ⟨xs, h1, h2⟩; exact ⟨xs, lstOf_bind h1, h2⟩
theorem e_ipa1 : ipAdd (.int i) (.int j) H Q = Q (.int (i + j)) H := rfl
theorem e_ipa2 : ipAdd (.str a) (.str b) H Q = (a.cps.toList.length + b.cps.toList.length ≤ 16777216 ∧ Q (sv (a.cps.toList ++ b.cps.toList)) H) := rfl
theorem e_ips : ipSub (.int i) (.int j) H Q = Q (.int (i - j)) H := rfl
theorem e_neg : rNeg (.int i) H Q = Q (.int (-i)) H := rfl
theorem e_tr {ta : TE} {R : Bool → Hp → Prop} : tTr ta σ H R = ta σ H fun x H' => optE (truB H' x) fun k => R k H' := rfl
theorem e_or {ta tb : TE} : tOrU ta tb σ H Q = ta σ H fun x H1 => optE (truB H1 x) fun k => if k = true then Q x H1 else tb σ H1 Q := rfl
theorem b_non : truB H .non = some false := rfl
theorem b_bl : truB H (.bl bb) = some bb := rfl
theorem b_int : truB H (.int i) = some (i != 0) := rfl
theorem b_str (h : a.cps.toList.length ≤ 16777216) : truB H (.str a) = some (!a.cps.toList.isEmpty) := if_pos h
theorem b_lst {xs : List V} (h : H p = some (.lst xs)) : truB H (.ref p) = some (!xs.isEmpty) := by
  show (match H p with
    | some (.lst xs) => some (!xs.isEmpty)
    | some (.tup xs) => some (!xs.isEmpty)
    | _ => none) = _
  rw [h]
theorem isL_ref : isL (.ref p) H = ((H p).bind lstOf).isSome := by
  apply propext; constructor
  · rintro ⟨xs, e⟩; rw [e]; rfl
  · intro h
    cases e : (H p).bind lstOf with
    | none => rw [e] at h; cases h
    | some xs => exact ⟨xs, lstOf_bind e⟩
theorem isS_str : isS (.str a) = True := rfl
def blOf : V → Option Bool
  | .bl b => some b
  | _ => none
theorem blOf_bl : blOf (.bl bb) = some bb := rfl
theorem bl_ex {R : Bool → Prop} : (∃ c, x = .bl c ∧ R c) = optE (blOf x) R := by
  apply propext; constructor
  · rintro ⟨c, rfl, h⟩; exact ⟨c, rfl, h⟩
  · rintro ⟨c, h1, h2⟩
    cases x <;> cases h1
    exact ⟨_, rfl, h2⟩
theorem e_test {t : TE} {R : Bool → Hp → Prop} : tTest t σ H R = t σ H fun x H' => optE (blOf x) fun k => R k H' := by
  show (t σ H fun x H' => ∃ k, x = .bl k ∧ R k H') = _
  congr 1; funext x H'; exact bl_ex
theorem e_tB {t : TE} {R : Bool → Hp → Prop} : tB t σ H R = t σ H fun x H' => optE (blOf x) fun k => R k H' := by
  show (t σ H fun x H' => ∃ k, x = .bl k ∧ R k H') = _
  congr 1; funext x H'; exact bl_ex
theorem e_andV {ta tb : TE} : tAndV ta tb σ H Q = ta σ H fun x H1 => optE (blOf x) fun c => if c = true then tb σ H1 Q else Q (.bl false) H1 := by
  show (ta σ H fun x H1 => ∃ c, x = .bl c ∧ if c = true then tb σ H1 Q else Q (.bl false) H1) = _
  congr 1; funext x H'; exact bl_ex
theorem e_orV {ta tb : TE} : tOrV ta tb σ H Q = ta σ H fun x H1 => optE (blOf x) fun c => if c = true then Q (.bl true) H1 else tb σ H1 Q := by
  show (ta σ H fun x H1 => ∃ c, x = .bl c ∧ if c = true then Q (.bl true) H1 else tb σ H1 Q) = _
  congr 1; funext x H'; exact bl_ex
theorem e_notV {ta : TE} : tNotV ta σ H Q = ta σ H fun x H1 => optE (blOf x) fun c => Q (.bl (!c)) H1 := by
  show (ta σ H fun x H1 => ∃ c, x = .bl c ∧ Q (.bl (!c)) H1) = _
  congr 1; funext x H'; exact bl_ex
theorem e_chain {r r' : R2} {ta tb tc : TE} : tChain r r' ta tb tc σ H Q = ta σ H fun x H1 => tb σ H1 fun y H2 => r x y H2 fun z H3 => optE (blOf z) fun k => if k = true then tc σ H3 fun w' H4 => r' y w' H4 Q else Q (.bl false) H3 := by
  show (ta σ H fun x H1 => tb σ H1 fun y H2 => r x y H2 fun z H3 => ∃ k, z = .bl k ∧ (if k = true then tc σ H3 fun w' H4 => r' y w' H4 Q else Q (.bl false) H3)) = _
  congr 1; funext x H1; congr 1; funext y H2; congr 1; funext z H3; exact bl_ex
def intOf : V → Option Int
  | .int i => some i
  | _ => none
theorem intOf_int : intOf (.int i) = some i := rfl
theorem e_part {t : TE} {R : Option Int → Hp → Prop} : tPart t σ H R = t σ H fun x H1 => optE (intOf x) fun i => R (some i) H1 := by
  show (t σ H fun x H1 => ∃ i, x = .int i ∧ R (some i) H1) = _
  congr 1; funext x H1
  apply propext; constructor
  · rintro ⟨c, rfl, h⟩; exact ⟨c, rfl, h⟩
  · rintro ⟨c, h1, h2⟩
    cases x <;> cases h1
    exact ⟨_, rfl, h2⟩
theorem e_fld {K : PySem.W.Frag} {ta : TE} {f : Str} : tFld K ta f σ H Q = ta σ H fun x H1 => ∃ a C dx fs v, x = .ref a ∧ H1 a = some (.ins C dx fs) ∧ Cls K C ∧ NoAttr K C f ∧ fs.lookup f = some v ∧ Q v H1 := rfl
end
end U

namespace U
open PySem PySem.Spec PyProof.Rows L2
/-! ### what a call leaves as it was: all that stood there but S -/
def Fr (S : List Addr) (H H' : Hp) : Prop := ∀ b, b ∉ S → (H b).isSome = true → H' b = H b
theorem Fr.refl {S : List Addr} {H : Hp} : Fr S H H := fun _ _ _ => rfl
theorem Fr.get {S : List Addr} {H H' : Hp} {b : Addr} {o : HO} (h : Fr S H H') (hb : b ∉ S) (e : H b = some o) : H' b = some o := by
  rw [h b hb (by rw [e]; rfl), e]
theorem Fr.trans {S : List Addr} {H H' H2 : Hp} (h : Fr S H H') (k : Fr S H' H2) : Fr S H H2 := fun b hb hs => by
  have e := h b hb hs
  rw [k b hb (by rw [e]; exact hs), e]
theorem Fr.wide {S T : List Addr} {H H' H2 : Hp} (h : Fr S H H') (k : Fr T H' H2) (hT : ∀ x ∈ T, x ∈ S ∨ H x = none) : Fr S H H2 := fun b hb hs => by
  have e := h b hb hs
  have hbT : b ∉ T := fun z => by
    rcases hT b z with y | y
    · exact hb y
    · rw [y] at hs; cases hs
  rw [k b hbT (by rw [e]; exact hs), e]
theorem Fr.sub {S T : List Addr} {H H' : Hp} (h : Fr S H H') (hs : ∀ x ∈ S, x ∈ T) : Fr T H H' := fun b hb k => h b (fun z => hb (hs b z)) k
theorem Fr.new {S : List Addr} {H H' : Hp} {r : Addr} {o : HO} (h : Fr S H H') (hr : H' r = none) : Fr S H (upd H' r o) := fun b hb hs => by
  have e := h b hb hs
  rw [upd_old hr (by rw [e]; exact hs), e]
theorem Fr.own {S : List Addr} {H H' : Hp} {p : Addr} {o : HO} (h : Fr S H H') (hp : p ∈ S ∨ H p = none) : Fr S H (upd H' p o) := fun b hb hs => by
  have e := h b hb hs
  rw [upd_ne (fun z => by
    subst z
    rcases hp with y | y
    · exact hb y
    · rw [y] at hs; cases hs), e]
theorem Fr.none {S : List Addr} {H H' : Hp} {r : Addr} (h : Fr S H H') (hr : H' r = Option.none) (hs : r ∉ S) : H r = Option.none := by
  cases e : H r with
  | none => rfl
  | some o => rw [h.get hs e] at hr; cases hr
theorem ne_new {H : Hp} {r p : Addr} {o : HO} (hr : H r = none) (hp : H p = some o) : r ≠ p := by
  rintro rfl; rw [hr] at hp; cases hp
theorem ne_new' {H : Hp} {r p : Addr} {o : HO} (hr : H r = none) (hp : H p = some o) : p ≠ r := fun z => ne_new hr hp z.symm
theorem upd_old2 {H : Hp} {r p : Addr} {o u : HO} (hr : H r = none) (hp : H p = some u) : upd H r o p = some u := by
  rw [upd_ne (ne_new' hr hp), hp]
theorem upd_mid {H : Hp} {r p : Addr} {o u : HO} (hr : H r = none) (hn : r ≠ p) : upd H p o r = none := by
  rw [upd_ne hn, hr]
/-! ### types -/
theorem i_ii : isB "int" "int" = some true := rfl
theorem i_ib : isB "int" "bool" = some false := rfl
theorem i_is : isB "int" "str" = some false := rfl
theorem i_si : isB "str" "int" = some false := rfl
theorem i_ss : isB "str" "str" = some true := rfl
theorem i_bi : isB "bool" "int" = some true := rfl
theorem i_bb : isB "bool" "bool" = some true := rfl
theorem i_ni : isB "NoneType" "int" = some false := rfl
theorem i_ns : isB "NoneType" "str" = some false := rfl
theorem i_ll : isAny "list" [.ty "list", .ty "tuple"] = some true := rfl
theorem i_lt : isAny "tuple" [.ty "list", .ty "tuple"] = some true := rfl
/-! ### fields -/
def insOf : HO → Option (Addr × Addr × List (Str × V))
  | .ins C dx fs => some (C, dx, fs)
  | _ => none
theorem insOf_ins {C dx : Addr} {fs : List (Str × V)} : insOf (.ins C dx fs) = some (C, dx, fs) := rfl
theorem insOf_some {o : HO} {z : Addr × Addr × List (Str × V)} (h : insOf o = some z) : o = .ins z.1 z.2.1 z.2.2 := by cases o <;> cases h; rfl
theorem insOf_bind {H : Hp} {p : Addr} {z : Addr × Addr × List (Str × V)} (h : (H p).bind insOf = some z) : H p = some (.ins z.1 z.2.1 z.2.2) := by
  cases e : H p with
  | none => rw [e] at h; cases h
  | some o => rw [e] at h; rw [insOf_some h]
def fldG (K : PySem.W.Frag) (f : Str) (x : V) (H1 : Hp) (Q : VK) : Prop := ∃ a C dx fs v, x = .ref a ∧ H1 a = some (.ins C dx fs) ∧ Cls K C ∧ NoAttr K C f ∧ fs.lookup f = some v ∧ Q v H1
theorem e_fldG {K : PySem.W.Frag} {ta : TE} {f : Str} {σ : L2.St} {H : Hp} {Q : VK} : tFld K ta f σ H Q = ta σ H fun x H1 => fldG K f x H1 Q := rfl
theorem e_fldR {K : PySem.W.Frag} {f : Str} {p : Addr} {H : Hp} {Q : VK} : fldG K f (.ref p) H Q = optE ((H p).bind insOf) fun z => Cls K z.1 ∧ NoAttr K z.1 f ∧ optE (z.2.2.lookup f) fun v => Q v H := by
  apply propext; constructor
  · rintro ⟨a, C, dx, fs, v, h1, h2, h3, h4, h5, h6⟩
    cases h1
    exact ⟨(C, dx, fs), by rw [h2]; rfl, h3, h4, v, h5, h6⟩
  · rintro ⟨z, h1, h2, h3, v, h4, h5⟩
    exact ⟨p, z.1, z.2.1, z.2.2, v, rfl, insOf_bind h1, h2, h3, h4, h5⟩
def sFG (K : PySem.W.Frag) (f : Str) (y x : V) (H2 : Hp) (R : Hp → Prop) : Prop := ∃ a C dx fs, x = .ref a ∧ H2 a = some (.ins C dx fs) ∧ Cls K C ∧ NoAttr K C f ∧ fs.length < 1000 ∧ R (upd H2 a (.ins C dx (putF f y fs)))
theorem e_sfG {K : PySem.W.Frag} {ta tv : TE} {f : Str} {D : Ends} {σ : L2.St} {H : Hp} : sFld K ta tv f D σ H = tv σ H fun y H1 => ta σ H1 fun x H2 => sFG K f y x H2 fun H3 => D.nx σ H3 := rfl
theorem e_sfR {K : PySem.W.Frag} {f : Str} {y : V} {p : Addr} {H : Hp} {R : Hp → Prop} : sFG K f y (.ref p) H R = optE ((H p).bind insOf) fun z => Cls K z.1 ∧ NoAttr K z.1 f ∧ z.2.2.length < 1000 ∧ R (upd H p (.ins z.1 z.2.1 (putF f y z.2.2))) := by
  apply propext; constructor
  · rintro ⟨a, C, dx, fs, h1, h2, h3, h4, h5, h6⟩
    cases h1
    exact ⟨(C, dx, fs), by rw [h2]; rfl, h3, h4, h5, h6⟩
  · rintro ⟨z, h1, h2, h3, h4, h5⟩
    exact ⟨p, z.1, z.2.1, z.2.2, rfl, insOf_bind h1, h2, h3, h4, h5⟩
def mtG (C : Addr) (m : Str) (x : V) (H1 : Hp) (R : Prop) : Prop := ∃ a dx fs, x = .ref a ∧ H1 a = some (.ins C dx fs) ∧ fs.lookup m = none ∧ R
theorem e_mtG {C : Addr} {m : Str} {sp : Sp} {dvs : List V} {E : XK} {ta : TE} {t : TA} {σ : L2.St} {H : Hp} {Q : VK} : tMeth C m sp dvs E ta t σ H Q = ta σ H fun x H1 => mtG C m x H1 (t σ H1 fun vs H2 => sp (x :: (vs ++ dvs)) H2 Q E) := rfl
theorem e_mtR {C : Addr} {m : Str} {p : Addr} {H : Hp} {R : Prop} : mtG C m (.ref p) H R = optE ((H p).bind insOf) fun z => z.1 = C ∧ z.2.2.lookup m = none ∧ R := by
  apply propext; constructor
  · rintro ⟨a, dx, fs, h1, h2, h3, h4⟩
    cases h1
    exact ⟨(C, dx, fs), by rw [h2]; rfl, rfl, h3, h4⟩
  · rintro ⟨z, h1, h2, h3, h4⟩
    refine ⟨p, z.2.1, z.2.2, rfl, ?_, h3, h4⟩
    rw [insOf_bind h1, h2]
theorem z_revG {K : PySem.W.Frag} {te : TE} {σ : L2.St} {H : Hp} {Q : VK} (R : V → Hp → Prop) : True := trivial
/-! ### loops -/
section
variable {g : TG} {tb : TS} {D : Ends} {σ : L2.St} {H : Hp} {K : PySem.W.Frag}
theorem for_rng {ta : TA} (h : ta σ H fun vs H1 => ∃ n : Int, vs = [.int n] ∧ -(2 ^ 62) ≤ n ∧ n < 2 ^ 62 ∧ ∃ Pv : Nat → L2.St → Hp → Prop, Pv 0 σ H1 ∧
    (∀ i σ H, i < n.toNat → Pv i σ H → g (.int i) σ H fun σ2 H2 => tb { D with nx := Pv (i + 1), ct := Pv (i + 1), bk := D.nx } σ2 H2) ∧ ∀ σ H, Pv n.toNat σ H → D.nx σ H)
    (hm : ∀ Q Q' : List V → Hp → Prop, (∀ vs H, Q vs H → Q' vs H) → ta σ H Q → ta σ H Q') : tFor (iRng1 ta) g tb D σ H := by
  refine hm _ _ (fun vs H1 ⟨n, e, h1, h2, Pv, p0, ps, pd⟩ => ⟨n, e, h1, h2, for_range Pv p0 (fun i σ H hi hP => ?_) pd⟩) h
  have := ps i σ H hi hP
  simpa using this
theorem for_lst {te : TE} (h : te σ H fun v H1 => ∃ a xs, v = .ref a ∧ H1 a = some (.lst xs) ∧ ∃ Pv : Nat → L2.St → Hp → Prop, Pv 0 σ H1 ∧ (∀ i σ H, i ≤ xs.length → Pv i σ H → H a = some (.lst xs)) ∧
    (∀ i x σ H, xs[i]? = some x → Pv i σ H → g x σ H fun σ2 H2 => tb { D with nx := Pv (i + 1), ct := Pv (i + 1), bk := D.nx } σ2 H2) ∧ ∀ σ H, Pv xs.length σ H → D.nx σ H)
    (hm : Mono te) : tFor (iList K te) g tb D σ H := by
  refine hm _ _ _ _ (fun v H1 ⟨a, xs, e, h1, Pv, p0, pl, ps, pd⟩ => ⟨a, e, ⟨xs, SqL.of h1⟩, for_list Pv p0 (fun i σ H hi hP => SqL.of (pl i σ H hi hP)) ps pd⟩) h
end
/-- what loops over [t for ..] leave: the list of what comes of each -/
theorem wipe_1 {σ : L2.St} {i : Nat} : True := trivial
end U

namespace U
open PySem PySem.Spec PyProof.Rows L2
section
variable {σ : L2.St} {H : Hp} {Q : VK}
/-- [e for c in text] -/
theorem lc_strs {te elt : TE} {g : TG} {tt : TT} {i : Nat} (x : List Nat) (f : Nat → V) (hg : g = gName i := by rfl) (ht : tt = tYes := by rfl) (hm : Mono te := by exact U.mono_var)
    (h : te σ H fun v H1 => v = sv x ∧ x.length < 16777216 ∧ (∀ c ∈ x, ∀ H' R, R (f c) H' → elt ((σ.set i none).set i (some (sv [c]))) H' R) ∧ ∀ r, H1 r = none → Q (.ref r) (upd H1 r (.lst (x.map f)))) :
    tLc (iStr te) g tt elt [i] σ H Q := by
  subst hg ht
  refine hm σ H _ _ (fun v H1 ⟨e, hl, he, hq⟩ => ?_) h
  refine ⟨⟨x.toArray⟩, e, fun D hD => ?_⟩
  refine lc_str (x := ⟨x.toArray⟩) (fun n H' => n ≤ x.length ∧ H' = upd H1 D (.lst ((x.take n).map f))) ⟨Nat.zero_le _, rfl⟩ (fun n c H' hc hP => ?_) (fun H' hP => ?_)
  · obtain ⟨hn, rfl⟩ := hP
    have hc' : x[n]? = some c := hc
    have hlt : n < x.length := (List.getElem?_eq_some_iff.mp hc').1
    have hcx : c ∈ x := List.mem_of_getElem? hc'
    show wipe ((wipe σ [i]).set i _) [i] = wipe σ [i] ∧ _
    refine ⟨by simp [wipe], ?_⟩
    show elt _ _ _
    refine he c hcx _ _ ⟨_, upd_same, ?_, by omega, ?_⟩
    · rw [List.length_map, List.length_take, line]; omega
    · rw [upd_upd]
      congr 2
      rw [List.take_add_one, hc']
      simp
  · obtain ⟨hn, rfl⟩ := hP
    have e : (⟨x.toArray⟩ : Str).cps.toList.length = x.length := rfl
    rw [e, List.take_length]
    exact hq D hD
theorem r_all {p : Addr} {l : List Nat} {f : Nat → Bool} (h : H p = some (.lst (l.map fun c => .bl (f c)))) (q : Q (.bl (l.all f)) H) : rAll [.ref p] H Q := by
  refine ⟨l.map f, by rw [h, List.map_map]; rfl, ?_⟩
  have e : (l.map f).all id = l.all f := by rw [List.all_map]; rfl
  rw [e]; exact q
theorem r_any {p : Addr} {l : List Nat} {f : Nat → Bool} (h : H p = some (.lst (l.map fun c => .bl (f c)))) (q : Q (.bl (l.any f)) H) : rAny [.ref p] H Q := by
  refine ⟨l.map f, by rw [h, List.map_map]; rfl, ?_⟩
  have e : (l.map f).any id = l.any f := by rw [List.any_map]; rfl
  rw [e]; exact q
theorem fr1 {r : Addr} {o : HO} (h : H r = none) : Fr [] H (upd H r o) := Fr.refl.new h
/-! ### signs -/
def lowB (c : Nat) : Bool := decide (c ∈ [97, 98, 99, 100, 101, 102, 103, 104, 105, 106, 107, 108, 109, 110, 111, 112, 113, 114, 115, 116, 117, 118, 119, 120, 121, 122])
def figB (c : Nat) : Bool := decide (c ∈ [48, 49, 50, 51, 52, 53, 54, 55, 56, 57])
def figsB (l : List Nat) : Bool := !l.isEmpty && l.all figB && !(l.getLast? == some 48)
def nameB (l : List Nat) : Bool := decide (1 ≤ l.length) && decide (l.length ≤ 6) && l.all lowB
def lettersB (l : List Nat) : Bool := nameB l && decide (l.length ≤ 3)
def pointsB (l : List Nat) : Bool := l.isEmpty || figsB l
def makerB : List Nat → Bool
  | [] => false
  | c :: l => lowB c && figsB l
theorem atI_last {l : List Nat} {c : Nat} : atI (l ++ [c]) (-1) = some c := by
  unfold atI ixN
  rw [if_neg (by decide), if_pos (by simp; omega)]
  have e : ((-1 : Int) + ((l ++ [c]).length : Nat)).toNat = l.length := by simp; omega
  rw [e]
  simp
theorem cut_from1 {α : Type} {a : α} {l : List α} : cutL (a :: l) (some 1) none = l := by
  unfold cutL
  have e : HT.sIx (a :: l).length 0 (some 1) = 1 := by
    unfold HT.sIx
    simp
  have e2 : HT.sIx (a :: l).length (a :: l).length none = (a :: l).length := rfl
  rw [e, e2]
  simp
end
end U
namespace U
open PySem PySem.Spec PyProof.Rows L2
def refOf : V → Option Addr
  | .ref a => some a
  | _ => none
theorem refOf_ref {a : Addr} : refOf (.ref a) = some a := rfl
theorem refOf_eq {v : V} {a : Addr} (h : refOf v = some a) : v = .ref a := by cases v <;> cases h; rfl
theorem intOf_eq {v : V} {i : Int} (h : intOf v = some i) : v = .int i := by cases v <;> cases h; rfl
theorem strOf_eq {v : V} {l : List Nat} (h : strOf v = some l) : v = sv l := by
  cases v <;> cases h
  exact sv_of _
end U

namespace U
open PySem PySem.Spec PyProof.Rows L2
/-! ### marks: their parts, their text -/
structure Pt where
  l : List Nat
  n : Int
  p : List Nat
  ms : List (List Nat)
  y : Option Int
  c : Option Int
def ov : Option Int → V
  | none => .non
  | some i => .int i
theorem ov_none : ov none = .non := rfl
theorem ov_some {i : Int} : ov (some i) = .int i := rfl
structure Pt.Ok (t : Pt) : Prop where
  l : lettersB t.l = true
  n1 : 1 ≤ t.n
  n2 : t.n ≤ 9999
  p : pointsB t.p = true
  pl : t.p.length ≤ 1000
  mn : t.ms.length ≤ 3
  ms : ∀ m ∈ t.ms, makerB m = true ∧ m.length ≤ 1000
  y : ∀ i, t.y = some i → 1000 ≤ i ∧ i ≤ 2999
  c : ∀ i, t.c = some i → 2 ≤ i ∧ i < 10 ^ 60
def Pt.w0 (t : Pt) : List Nat := (t.l ++ numL t.n.toNat) ++ (if t.p = [] then [] else 46 :: t.p)
def Pt.ws (t : Pt) : List (List Nat) := t.w0 :: (t.ms ++ ((match t.y with | none => [] | some i => [numL i.toNat]) ++ match t.c with | none => [] | some i => [99 :: 46 :: numL i.toNat]))
def Pt.text (t : Pt) : List Nat := TL.joinL [32] t.ws
/-- a mark's fields, one more with each -/
def mF1 (r : Addr) : List (Str × V) := [("kept_makers", .ref r)]
def mF2 (t : Pt) (r : Addr) : List (Str × V) := [("kept_makers", .ref r), ("kept_letters", sv t.l)]
def mF3 (t : Pt) (r : Addr) : List (Str × V) := [("kept_makers", .ref r), ("kept_letters", sv t.l), ("kept_number", .int t.n)]
def mF4 (t : Pt) (r : Addr) : List (Str × V) := [("kept_makers", .ref r), ("kept_letters", sv t.l), ("kept_number", .int t.n), ("kept_points", sv t.p)]
def mF5 (t : Pt) (r : Addr) : List (Str × V) := [("kept_makers", .ref r), ("kept_letters", sv t.l), ("kept_number", .int t.n), ("kept_points", sv t.p), ("kept_year", ov t.y)]
def mF6 (t : Pt) (r : Addr) : List (Str × V) := [("kept_makers", .ref r), ("kept_letters", sv t.l), ("kept_number", .int t.n), ("kept_points", sv t.p), ("kept_year", ov t.y), ("kept_copy", ov t.c)]
def mF (t : Pt) (r : Addr) : List (Str × V) := [("kept_makers", .ref r), ("kept_letters", sv t.l), ("kept_number", .int t.n), ("kept_points", sv t.p), ("kept_year", ov t.y), ("kept_copy", ov t.c), ("kept_text", sv t.text)]
section
variable {t : Pt} {r : Addr}
theorem p1 : putF "kept_makers" (.ref r) [] = mF1 r := rfl
theorem p2 : putF "kept_letters" (sv t.l) (mF1 r) = mF2 t r := rfl
theorem p3 : putF "kept_number" (.int t.n) (mF2 t r) = mF3 t r := rfl
theorem p4 : putF "kept_points" (sv t.p) (mF3 t r) = mF4 t r := rfl
theorem p5 : putF "kept_year" (ov t.y) (mF4 t r) = mF5 t r := rfl
theorem p6 : putF "kept_copy" (ov t.c) (mF5 t r) = mF6 t r := rfl
theorem p7 : putF "kept_text" (sv t.text) (mF6 t r) = mF t r := rfl
theorem f1 : List.lookup ("kept_makers" : Str) (mF6 t r) = some (.ref r) := rfl
theorem f2 : List.lookup ("kept_letters" : Str) (mF6 t r) = some (sv t.l) := rfl
theorem f3 : List.lookup ("kept_number" : Str) (mF6 t r) = some (.int t.n) := rfl
theorem f4 : List.lookup ("kept_points" : Str) (mF6 t r) = some (sv t.p) := rfl
theorem f5 : List.lookup ("kept_year" : Str) (mF6 t r) = some (ov t.y) := rfl
theorem f6 : List.lookup ("kept_copy" : Str) (mF6 t r) = some (ov t.c) := rfl
theorem h1 : List.lookup ("kept_makers" : Str) (mF t r) = some (.ref r) := rfl
theorem h2 : List.lookup ("kept_letters" : Str) (mF t r) = some (sv t.l) := rfl
theorem h3 : List.lookup ("kept_number" : Str) (mF t r) = some (.int t.n) := rfl
theorem h4 : List.lookup ("kept_points" : Str) (mF t r) = some (sv t.p) := rfl
theorem h5 : List.lookup ("kept_year" : Str) (mF t r) = some (ov t.y) := rfl
theorem h6 : List.lookup ("kept_copy" : Str) (mF t r) = some (ov t.c) := rfl
theorem h7 : List.lookup ("kept_text" : Str) (mF t r) = some (sv t.text) := rfl
theorem k1 : (mF1 r).length < 1000 := by show 1 < 1000; decide
theorem k2 : (mF2 t r).length < 1000 := by show 2 < 1000; decide
theorem k3 : (mF3 t r).length < 1000 := by show 3 < 1000; decide
theorem k4 : (mF4 t r).length < 1000 := by show 4 < 1000; decide
theorem k5 : (mF5 t r).length < 1000 := by show 5 < 1000; decide
theorem k6 : (mF6 t r).length < 1000 := by show 6 < 1000; decide
theorem n6 : List.lookup ("text_of" : Str) (mF6 t r) = none := rfl
theorem nk : List.lookup ("key" : Str) (mF t r) = none := rfl
theorem na : List.lookup ("ahead" : Str) (mF t r) = none := rfl
end
/-- the class of marks, as its methods ask for it -/
structure MkC (K : PySem.W.Frag) (C : Addr) : Prop where
  cls : Cls K C
  a1 : NoAttr K C "kept_makers"
  a2 : NoAttr K C "kept_letters"
  a3 : NoAttr K C "kept_number"
  a4 : NoAttr K C "kept_points"
  a5 : NoAttr K C "kept_year"
  a6 : NoAttr K C "kept_copy"
  a7 : NoAttr K C "kept_text"
/-- a mark at x, its makers' tuple at r -/
def Mark (C : Addr) (H : Hp) (x : Addr) (t : Pt) : Prop := ∃ dx r, H x = some (.ins C dx (mF t r)) ∧ H r = some (.tup (t.ms.map sv))
theorem Mark.fr {C : Addr} {H H' : Hp} {x : Addr} {t : Pt} (h : Mark C H x t) (f : Fr [] H H') : Mark C H' x t := by
  obtain ⟨dx, r, h1, h2⟩ := h
  exact ⟨dx, r, f.get (by simp) h1, f.get (by simp) h2⟩
theorem num_len {i : Int} {k : Nat} (h0 : 0 ≤ i) (hk : 0 < k) (h : i < 10 ^ k) : (numL i.toNat).length ≤ k := by
  apply TL.numL_len hk
  have e : ((i.toNat : Nat) : Int) < ((10 ^ k : Nat) : Int) := by
    rw [Int.toNat_of_nonneg h0]
    push_cast
    exact h
  exact_mod_cast e
theorem Pt.Ok.ll {t : Pt} (h : t.Ok) : 1 ≤ t.l.length ∧ t.l.length ≤ 3 := by
  have h1 := h.l
  unfold lettersB nameB at h1
  simp only [Bool.and_eq_true, decide_eq_true_eq] at h1
  omega
theorem Pt.Ok.nl {t : Pt} (h : t.Ok) : (numL t.n.toNat).length ≤ 4 := num_len (by have := h.n1; omega) (by decide) (by have := h.n2; omega)
theorem sum_le {k : Nat} : ∀ (l : List (List Nat)), (∀ m ∈ l, m.length ≤ k) → (l.map List.length).sum ≤ l.length * k
  | [], _ => by simp
  | a :: l, h => by
    have h1 := h a List.mem_cons_self
    have h2 := sum_le l (fun m hm => h m (List.mem_cons_of_mem _ hm))
    simp only [List.map_cons, List.sum_cons, List.length_cons, Nat.add_mul, Nat.one_mul]
    omega
theorem Pt.Ok.w0l {t : Pt} (h : t.Ok) : t.w0.length ≤ 1010 := by
  unfold Pt.w0
  have h1 := h.ll
  have h2 := h.nl
  have h3 := h.pl
  by_cases e : t.p = []
  · simp only [e, if_true, List.append_nil, List.length_append]; omega
  · simp only [e, if_false, List.length_append, List.length_cons]; omega
theorem Pt.Ok.wl {t : Pt} (h : t.Ok) : (∀ m ∈ t.ws, m.length ≤ 1010) ∧ t.ws.length ≤ 6 := by
  constructor
  · intro m hm
    unfold Pt.ws at hm
    simp only [List.mem_cons, List.mem_append] at hm
    rcases hm with rfl | hm | hm | hm
    · exact h.w0l
    · have := (h.ms m hm).2; omega
    · cases e : t.y with
      | none => rw [e] at hm; cases hm
      | some i =>
        rw [e] at hm
        obtain ⟨h1, h2⟩ := h.y i e
        have : (numL i.toNat).length ≤ 4 := num_len (by omega) (by decide) (by omega)
        simp only [List.mem_singleton] at hm
        subst hm; omega
    · cases e : t.c with
      | none => rw [e] at hm; cases hm
      | some i =>
        rw [e] at hm
        obtain ⟨h1, h2⟩ := h.c i e
        have : (numL i.toNat).length ≤ 60 := num_len (by omega) (by decide) h2
        simp only [List.mem_singleton] at hm
        subst hm
        simp only [List.length_cons]; omega
  · unfold Pt.ws
    have := h.mn
    simp only [List.length_cons, List.length_append]
    have e1 : (match t.y with | none => [] | some i => [numL i.toNat] : List (List Nat)).length ≤ 1 := by split <;> simp
    have e2 : (match t.c with | none => [] | some i => [99 :: 46 :: numL i.toNat] : List (List Nat)).length ≤ 1 := by split <;> simp
    omega
theorem Pt.Ok.join {t : Pt} (h : t.Ok) : (t.ws.map List.length).sum + t.ws.length * 1 ≤ 16777216 := by
  have h1 := sum_le t.ws h.wl.1
  have h2 := h.wl.2
  have : t.ws.length * 1010 ≤ 6 * 1010 := Nat.mul_le_mul_right _ h2
  omega
end U
namespace U
open PySem PySem.Spec PyProof.Rows L2
theorem cxK {CX : CXT} {P : Program} {w : World} {K : PySem.W.Frag} {mg : Str → Option Value} {base : Heap} {N : List Str} {qual : Str} {scope : Scope} {f : Addr} {cd : Value} {A : Around} {outer : List Env} {s : Shared} {H : Hp} {E : XK} :
    (cxOf CX P w K mg base N qual scope f cd A outer s H E).K = K := rfl
theorem cxKn {CX : CXT} {P : Program} {w : World} {K : PySem.W.Frag} {mg : Str → Option Value} {base : Heap} {N : List Str} {qual : Str} {scope : Scope} {f : Addr} {cd : Value} {A : Around} {outer : List Env} {s : Shared} {H : Hp} {E : XK} :
    (cxOf CX P w K mg base N qual scope f cd A outer s H E).nox.K = K := rfl
theorem e_isC {C C' p : Addr} {H : Hp} {Q : VK} : rIsC C [.ref p, .ref C'] H Q = optE ((H p).bind insOf) fun z => z.1 = C ∧ C' = C ∧ Q (.bl true) H := by
  apply propext; constructor
  · rintro ⟨a, dx, fs, e, h1, h2⟩
    cases e
    exact ⟨(C, dx, fs), by rw [h1]; rfl, rfl, rfl, h2⟩
  · rintro ⟨z, h1, rfl, rfl, h2⟩
    exact ⟨p, z.2.1, z.2.2, rfl, insOf_bind h1, h2⟩
end U

namespace U
open PySem PySem.Spec PyProof.Rows L2
theorem while_no {c : TT} {tb : TS} {D : Ends} {σ : L2.St} {H : Hp} (h : ∀ R : Hp → Prop, c σ H fun b H1 => if b = true then R H1 else D.nx σ H1) : tWhile c tb D σ H := by
  refine ⟨fun m σ' H' => m = 0 ∧ σ' = σ ∧ H' = H, ⟨0, rfl, rfl, rfl⟩, ?_⟩
  rintro m σ' H' ⟨rfl, rfl, rfl⟩
  exact h _
theorem rev_at {K : PySem.W.Frag} {i : Nat} {σ : L2.St} {H : Hp} {Q : VK} {q : Addr} {xs : List V} (hi : σ[i]? = some (some (.ref q))) (hq : H q = some (.lst xs)) (k : ∀ p, H p = none → Q (.ref p) (upd H p (.lst xs.reverse))) : tRevL K (tVar i) σ H Q :=
  ⟨_, hi, q, xs, rfl, SqL.of hq, k⟩
theorem lt1900 {i : Int} (h : i < 10 ^ 60) : i < 2 ^ 1900 := Int.lt_trans h (by decide +kernel)
theorem sizeL : sizeLine = 16777216 := line
theorem joinL1 {S x : List Nat} : TL.joinL S [x] = x := rfl
theorem pow_ok : CPow 10 60 := ⟨by decide, by decide, by decide⟩
end U
namespace U
open PySem PySem.Spec PyProof.Rows L2
theorem ix10 : ixN 1 0 = some 0 := rfl
theorem txt_fin {t : Pt} {H : Hp} {Q : VK} (ok : t.Ok) (xs : List V) (hxs : xs = t.ws.map sv) (q : Q (sv t.text) H) : optE (strsOf xs) fun ys => (ys.map List.length).sum + ys.length * 1 ≤ 16777216 ∧ Q (sv (TL.joinL [32] ys)) H := by
  subst hxs
  exact optE_of (strsOf_map _) ⟨ok.join, q⟩
end U

namespace U
open PySem PySem.Spec PyProof.Rows L2
/-! ### own ==, < of keys -/
structure EqG (P : Program) (w : World) (K : PySem.W.Frag) (mg : Str → Option Value) (base : Heap) (n : Nat) (C : Addr) (sp : Sp) : Prop where
  ex : ∃ (f : Addr) (fd : FuncData) (ps : List Str), FnOk P w K mg base C8.CX0 n f fd ps sp ∧ PySem.W.findIn K (.ref C) "__eq__" = some (some (.ref f)) ∧ PySem.W.isFn K (.ref f) = true ∧ Binds K fd ps []
theorem eqG {X : Cx} {n j : Nat} {C : Addr} {sp : Sp} (c : EqG X.prog X.w X.K X.mg X.base n C sp) (hr : Room j X.A) (hk : n ≤ j) : OpR X (compareOp .Eq) (rEqI C sp) := by
  obtain ⟨f, fd, ps, h1, h2, h3, h4⟩ := c.ex
  exact eqI ⟨C8.CX0, f, fd, ps, h1, h2, h3, h4, C8.pass0⟩ (hr.mono hk)
theorem ltR {X : Cx} {k : Nat} (hr : Room k X.A) : OpR X (compareOp .Lt) (rLtD X.K) := ltD (by have := hr.un; omega)
theorem eqR {X : Cx} {k : Nat} (hr : Room k X.A) : OpR X (compareOp .Eq) (rEqD X.K) := op_eqD (by have := hr.un; omega)
theorem neR {X : Cx} {k : Nat} (hr : Room k X.A) : OpR X (compareOp .NotEq) (rNeD X.K) := op_neD (by have := hr.un; omega)
theorem e_eqI {C : Addr} {sp : Sp} {a b : Addr} {H : Hp} {Q : VK} : rEqI C sp (.ref a) (.ref b) H Q = optE ((H a).bind insOf) fun z => optE ((H b).bind insOf) fun z' => z.1 = C ∧ z'.1 = C ∧ sp [.ref a, .ref b] H (fun v H' => optE (blOf v) fun c => Q (.bl c) H') L2.E0 := by
  have e : (fun (v : V) (H' : Hp) => ∃ c, v = .bl c ∧ Q (.bl c) H') = fun v H' => optE (blOf v) fun c => Q (.bl c) H' := by
    funext v H'; exact bl_ex
  apply propext; constructor
  · rintro ⟨a', b', dx, dy, fs, gs, h1, h2, h3, h4, h5⟩
    cases h1
    cases h2
    rw [e] at h5
    exact ⟨(C, dx, fs), by rw [h3]; rfl, (C, dy, gs), by rw [h4]; rfl, rfl, rfl, h5⟩
  · rintro ⟨z, h1, z', h2, h3, h4, h5⟩
    rw [← e] at h5
    refine ⟨a, b, z.2.1, z'.2.1, z.2.2, z'.2.2, rfl, rfl, ?_, ?_, h5⟩
    · rw [insOf_bind h1, h3]
    · rw [insOf_bind h2, h4]
/-- a mark's key as data -/
def msD (ms : List (List Nat)) : List PyData := ms.map fun m => .str ⟨m.toArray⟩
def keyL (t : Pt) : List PyData := [.str ⟨t.l.toArray⟩, .int t.n, .str ⟨t.p.toArray⟩, .tuple (msD t.ms), .int (t.y.getD 0), .int (t.c.getD 0)]
def keyD (t : Pt) : PyData := .tuple (keyL t)
theorem dp_ms {K : PySem.W.Frag} {H : Hp} : ∀ ms : List (List Nat), DpAll K H (ms.map sv) (msD ms)
  | [] => .nil
  | m :: ms => .cons (.str _) (dp_ms ms)
theorem dp_key {K : PySem.W.Frag} {H : Hp} {t : Pt} {r z : Addr} (h1 : H r = some (.tup (t.ms.map sv))) (h2 : H z = some (.tup [sv t.l, .int t.n, sv t.p, .ref r, .int (t.y.getD 0), .int (t.c.getD 0)])) : Dp K H (.ref z) (keyD t) :=
  .tup (SqT.of h2) (.cons (.str _) (.cons (.int _) (.cons (.str _) (.cons (.tup (SqT.of h1) (dp_ms _)) (.cons (.int _) (.cons (.int _) .nil))))))
theorem alike_ms : ∀ ms ns : List (List Nat), PySem.W.alikeAll (msD ms) (msD ns) = true
  | [], _ => by rw [msD]; exact PySem.W.alikeAll.eq_2 _
  | _ :: _, [] => by simp [msD, PySem.W.alikeAll]
  | m :: ms, n :: ns => by
    have h := alike_ms ms ns
    simp only [msD, List.map_cons] at h ⊢
    simp [PySem.W.alikeAll, PySem.W.alike, h]
theorem alike_key {t u : Pt} : PySem.W.alike (keyD t) (keyD u) = true := by
  have h := alike_ms t.ms u.ms
  simp [keyD, keyL, PySem.W.alike, PySem.W.alikeAll, h]
theorem key_ne {t : Pt} : keyD t ≠ .none := by intro h; cases h
theorem depth_ms : ∀ ms : List (List Nat), PyData.depthAll (msD ms) = 0
  | [] => by simp [msD, PyData.depthAll]
  | m :: ms => by
    have h := depth_ms ms
    simp only [msD, List.map_cons] at h ⊢
    simp [PyData.depthAll, PyData.depth, h]
theorem depth_key {t : Pt} : (keyD t).depth = 2 := by
  have h := depth_ms t.ms
  simp [keyD, keyL, PyData.depth, PyData.depthAll, h]
theorem key_depth {t u : Pt} : min (keyD t).depth (keyD u).depth ≤ 60 := by rw [depth_key, depth_key]; decide
theorem strOk_of {l : List Nat} (h : ∀ c ∈ l, c < 1114112) : PyData.strOk ⟨l.toArray⟩ = true := by
  unfold PyData.strOk
  rw [← Array.all_toList, List.all_eq_true]
  intro c hc
  exact decide_eq_true (h c hc)
theorem low_lt {c : Nat} (h : lowB c = true) : 97 ≤ c ∧ c ≤ 122 := by
  have h := of_decide_eq_true h
  simp only [List.mem_cons, List.not_mem_nil, or_false] at h
  omega
theorem fig_lt {c : Nat} (h : figB c = true) : 48 ≤ c ∧ c ≤ 57 := by
  have h := of_decide_eq_true h
  simp only [List.mem_cons, List.not_mem_nil, or_false] at h
  omega
theorem figs_all {l : List Nat} (h : figsB l = true) : ∀ c ∈ l, 48 ≤ c ∧ c ≤ 57 := by
  unfold figsB at h
  simp only [Bool.and_eq_true] at h
  intro c hc
  exact fig_lt (List.all_eq_true.mp h.1.2 c hc)
theorem points_all {l : List Nat} (h : pointsB l = true) : ∀ c ∈ l, 48 ≤ c ∧ c ≤ 57 := by
  unfold pointsB at h
  rw [Bool.or_eq_true] at h
  rcases h with h | h
  · rw [List.isEmpty_iff] at h; subst h; simp
  · exact figs_all h
theorem letters_all {l : List Nat} (h : lettersB l = true) : ∀ c ∈ l, 97 ≤ c ∧ c ≤ 122 := by
  unfold lettersB nameB at h
  simp only [Bool.and_eq_true] at h
  intro c hc
  exact low_lt (List.all_eq_true.mp h.1.2 c hc)
theorem maker_at {m : List Nat} (h : makerB m = true) : ∃ c l, m = c :: l ∧ (97 ≤ c ∧ c ≤ 122) ∧ figsB l = true := by
  cases m with
  | nil => cases h
  | cons c l =>
    unfold makerB at h
    rw [Bool.and_eq_true] at h
    exact ⟨c, l, rfl, low_lt h.1, h.2⟩
theorem maker_all {m : List Nat} (h : makerB m = true) : ∀ c ∈ m, c < 128 := by
  obtain ⟨c, l, rfl, h1, h2⟩ := maker_at h
  intro d hd
  rw [List.mem_cons] at hd
  rcases hd with rfl | hd
  · omega
  · have := figs_all h2 d hd; omega
theorem lay_ms : ∀ ms : List (List Nat), (∀ m ∈ ms, makerB m = true) → PyData.canLayAll0 (msD ms) = true
  | [], _ => by simp [msD, PyData.canLayAll0]
  | m :: ms, hm => by
    have h := lay_ms ms (fun x hx => hm x (List.mem_cons_of_mem _ hx))
    have h2 := strOk_of (l := m) (fun c hc => by have := maker_all (hm m List.mem_cons_self) c hc; omega)
    simp only [msD, List.map_cons] at h ⊢
    simp [PyData.canLayAll0, PyData.canLay0, h, h2]
theorem shaped_key {t : Pt} (ok : t.Ok) : SeqAt.shaped (keyD t) = true := by
  have h := lay_ms t.ms (fun m hm => (ok.ms m hm).1)
  have h1 := strOk_of (l := t.l) (fun c hc => by have := letters_all ok.l c hc; omega)
  have h2 := strOk_of (l := t.p) (fun c hc => by have := points_all ok.p c hc; omega)
  unfold SeqAt.shaped
  rw [depth_key]
  simp [keyD, keyL, PyData.canLay0, PyData.canLayAll0, h, h1, h2]
/-- what a key tells -/
def kp (t : Pt) : List Nat × Int × List Nat × List (List Nat) × Int × Int := (t.l, t.n, t.p, t.ms, t.y.getD 0, t.c.getD 0)
theorem eqv_ms : ∀ ms ns : List (List Nat), PyData.eqvAll (msD ms) (msD ns) = decide (ms = ns)
  | [], [] => by simp [msD, PyData.eqvAll]
  | [], n :: ns => by simp [msD, PyData.eqvAll]
  | m :: ms, [] => by simp [msD, PyData.eqvAll]
  | m :: ms, n :: ns => by
    have h := eqv_ms ms ns
    simp only [msD, List.map_cons] at h ⊢
    have e : ((⟨m.toArray⟩ : Str) == ⟨n.toArray⟩) = decide (m = n) := SX.S_beq_eq
    simp [PyData.eqvAll, PyData.eqv, h, e]
theorem eqv_key {t u : Pt} : PyData.eqv (keyD t) (keyD u) = decide (kp t = kp u) := by
  have h := eqv_ms t.ms u.ms
  have e : ∀ m n : List Nat, ((⟨m.toArray⟩ : Str) == ⟨n.toArray⟩) = decide (m = n) := fun m n => SX.S_beq_eq
  rw [Bool.eq_iff_iff]
  simp [keyD, keyL, PyData.eqv, PyData.eqvAll, h, e, kp]
theorem toks_ms_inj : ∀ (ms ns : List (List Nat)) (X Y : List (Int ⊕ List Nat)), PySem.W.keyToksAll (msD ms) ++ X = PySem.W.keyToksAll (msD ns) ++ Y → ms = ns ∧ X = Y
  | [], [], X, Y, h => by simpa [msD, PySem.W.keyToksAll] using h
  | [], n :: ns, X, Y, h => by simp [msD, PySem.W.keyToksAll] at h
  | m :: ms, [], X, Y, h => by simp [msD, PySem.W.keyToksAll] at h
  | m :: ms, n :: ns, X, Y, h => by
    simp only [msD, List.map_cons, PySem.W.keyToksAll, PySem.W.keyToks, List.cons_append, List.nil_append, List.append_assoc, List.cons.injEq, true_and, Sum.inr.injEq] at h
    obtain ⟨h1, h2⟩ := h
    obtain ⟨h3, h4⟩ := toks_ms_inj ms ns X Y h2
    exact ⟨by rw [h1, h3], h4⟩
theorem toks_inj {t u : Pt} (h : PySem.W.keyToks (keyD t) = PySem.W.keyToks (keyD u)) : kp t = kp u := by
  simp only [keyD, keyL, PySem.W.keyToks, PySem.W.keyToksAll, List.cons_append, List.nil_append, List.append_assoc, List.cons.injEq, true_and, Sum.inr.injEq, Sum.inl.injEq] at h
  obtain ⟨h1, h2, h3, h4⟩ := h
  obtain ⟨h5, h6⟩ := toks_ms_inj _ _ _ _ h4
  simp only [List.cons.injEq, true_and, Sum.inl.injEq, and_true] at h6
  simp only [kp, h1, h2, h3, h5, h6.1, h6.2]
theorem lt_irr {t u : Pt} (h : kp t = kp u) : PySem.W.dataLt (keyD t) (keyD u) = false := by
  have e : keyD t = keyD u := by
    simp only [kp, Prod.mk.injEq] at h
    obtain ⟨h1, h2, h3, h4, h5, h6⟩ := h
    simp only [keyD, keyL, h1, h2, h3, h4, h5, h6]
  rw [e]
  exact lex_irrefl _
theorem lt_flip {t u : Pt} (h : kp t ≠ kp u) : PySem.W.dataLt (keyD u) (keyD t) = !PySem.W.dataLt (keyD t) (keyD u) := by
  cases e1 : PySem.W.dataLt (keyD t) (keyD u) with
  | true =>
    cases e2 : PySem.W.dataLt (keyD u) (keyD t) with
    | false => rfl
    | true =>
      have := lex_trans _ _ _ e1 e2
      rw [lex_irrefl] at this; cases this
  | false =>
    cases e2 : PySem.W.dataLt (keyD u) (keyD t) with
    | true => rfl
    | false => exact (h (toks_inj (lex_total _ _ e1 e2))).elim
end U

namespace U
open PySem PySem.Spec PyProof.Rows L2
/-! ### what the laws draw from: a list of one number -/
def Pool (H : Hp) (a : Addr) : Prop := ∃ n : Int, H a = some (.lst [.int n])
theorem Pool.upd {H : Hp} {a : Addr} {m : Int} : Pool (L2.upd H a (.lst [.int m])) a := ⟨m, upd_same⟩
theorem fr_pool {H : Hp} {a : Addr} {o : HO} : Fr [a] H (L2.upd H a o) := Fr.refl.own (.inl (by simp))
theorem lt8000 {k : Int} (h : k < 10 ^ 60) : k < 2 ^ 8000 := Int.lt_trans h (by decide +kernel)
theorem figs_snoc {l : List Nat} {c : Nat} (h : l.all figB = true) (hc : c ∈ [49, 50, 51, 52, 53, 54, 55, 56, 57]) : figsB (l ++ [c]) = true := by
  have h1 : figB c = true := by
    simp only [List.mem_cons, List.not_mem_nil, or_false] at hc
    unfold figB
    rcases hc with rfl | rfl | rfl | rfl | rfl | rfl | rfl | rfl | rfl <;> decide
  have h2 : c ≠ 48 := by
    rintro rfl
    revert hc; decide
  unfold figsB
  rw [List.all_append, h]
  simp [h1, h2]
theorem fig_in {c : Nat} (hc : c ∈ [48, 49, 50, 51, 52, 53, 54, 55, 56, 57]) : figB c = true := decide_eq_true hc
theorem low_in {c : Nat} (hc : c ∈ [97, 98, 99, 100, 101, 102, 103, 104, 105, 106, 107, 108, 109, 110, 111, 112, 113, 114, 115, 116, 117, 118, 119, 120, 121, 122]) : lowB c = true := decide_eq_true hc
theorem all_snoc {f : Nat → Bool} {l : List Nat} {c : Nat} (h : l.all f = true) (hc : f c = true) : (l ++ [c]).all f = true := by
  rw [List.all_append, h]; simp [hc]
theorem maker_cons {c : Nat} {l : List Nat} (hc : lowB c = true) (h : figsB l = true) : makerB (c :: l) = true := by
  simp only [makerB, hc, h, Bool.and_self]
theorem letters_of {l : List Nat} (h : l.all lowB = true) (h1 : 1 ≤ l.length) (h2 : l.length ≤ 3) : lettersB l = true := by
  unfold lettersB nameB
  rw [h, decide_eq_true h1, decide_eq_true h2, decide_eq_true (by omega)]; rfl
theorem take_all {f : Nat → Bool} {l : List Nat} {n : Nat} (h : l.all f = true) : (l.take n).all f = true := by
  rw [List.all_eq_true] at h ⊢
  intro c hc
  exact h c (List.mem_of_mem_take hc)
theorem drop_all {f : Nat → Bool} {l : List Nat} {n : Nat} (h : l.all f = true) : (l.drop n).all f = true := by
  rw [List.all_eq_true] at h ⊢
  intro c hc
  exact h c (List.mem_of_mem_drop hc)
theorem cut_to {α : Type} {l : List α} {r : Int} (h : 0 ≤ r) : cutL l none (some r) = l.take r.toNat := by
  have e : HT.sIx l.length l.length (some r) = min r.toNat l.length := by
    show (if r < 0 then _ else _) = _
    rw [if_neg (by omega)]
  have e0 : HT.sIx l.length 0 none = 0 := rfl
  unfold cutL
  rw [e, e0, List.drop_zero, Nat.sub_zero, ← List.take_take]
  simp
theorem cut_from {α : Type} {l : List α} {r : Int} (h : 0 ≤ r) : cutL l (some r) none = l.drop r.toNat := by
  have e : HT.sIx l.length 0 (some r) = min r.toNat l.length := by
    show (if r < 0 then _ else _) = _
    rw [if_neg (by omega)]
  have e0 : HT.sIx l.length l.length none = l.length := rfl
  unfold cutL
  rw [e, e0]
  by_cases hl : r.toNat ≤ l.length
  · rw [Nat.min_eq_left hl]
    rw [List.take_of_length_le (by simp)]
  · rw [Nat.min_eq_right (by omega)]
    rw [List.drop_of_length_le (Nat.le_refl _), List.drop_of_length_le (by omega)]
    simp
theorem rstrip_tl (x y : Str) : (Txt.rstripChars x y).cps.toList = x.cps.toList.take (x.cps.toList.length - (x.cps.toList.reverse.takeWhile y.cps.contains).length) := by
  have hs : (PySem.stripped y.cps.contains false true x).cps.toList = x.cps.toList.take (x.cps.toList.length - (x.cps.toList.reverse.takeWhile y.cps.contains).length) := by
    show TL.tl (PySem.Builtin.Str.strSub x 0 (x.length - _)) = _
    rw [TL.tl_strSub, List.drop_zero, len_cps]
    rfl
  unfold Txt.rstripChars Txt.stripBy
  split
  · rename_i h
    unfold PySem.stripSame at h
    rw [Bool.and_eq_true] at h
    have h2 : x.length - ((x.cps.toList.drop 0).reverse.takeWhile y.cps.contains).length = x.length := eq_of_beq h.2
    rw [List.drop_zero, len_cps] at h2
    rw [h2, List.take_length]
  · exact hs
theorem rstrip_ok {l m : List Nat} (h : l.all figB = true) (e : Txt.rstripChars ⟨l.toArray⟩ ⟨m.toArray⟩ = Txt.rstripChars ⟨l.toArray⟩ ⟨#[48]⟩) : ∃ l', V.str (Txt.rstripChars ⟨l.toArray⟩ ⟨m.toArray⟩) = sv l' ∧ pointsB l' = true ∧ l'.length ≤ l.length := by
  refine ⟨l.take (l.length - (l.reverse.takeWhile (fun c => (#[48] : Array Nat).contains c)).length), ?_, ?_, by simp⟩
  · rw [e, sv_of]
    exact congrArg sv (rstrip_tl _ _)
  · have hc : ∀ c, (#[48] : Array Nat).contains c = (c == 48) := fun c => by
      rw [Bool.eq_iff_iff]; simp
    have e1 : l.take (l.length - (l.reverse.takeWhile (fun c => (#[48] : Array Nat).contains c)).length) = (l.reverse.dropWhile (fun c => (#[48] : Array Nat).contains c)).reverse := by
      have h1 := List.takeWhile_append_dropWhile (p := fun c => (#[48] : Array Nat).contains c) (l := l.reverse)
      have h2 : l = (l.reverse.dropWhile (fun c => (#[48] : Array Nat).contains c)).reverse ++ (l.reverse.takeWhile (fun c => (#[48] : Array Nat).contains c)).reverse := by
        rw [← List.reverse_append, h1, List.reverse_reverse]
      have h3 : l.length = (l.reverse.dropWhile (fun c => (#[48] : Array Nat).contains c)).reverse.length + (l.reverse.takeWhile (fun c => (#[48] : Array Nat).contains c)).length := by
        have := congrArg List.length h2
        rw [List.length_append, List.length_reverse (as := List.takeWhile _ _)] at this
        exact this
      conv => lhs; arg 2; rw [h2]
      rw [h3, Nat.add_sub_cancel, List.take_left]
    rw [e1]
    have ha : ∀ c ∈ l.reverse.dropWhile (fun c => (#[48] : Array Nat).contains c), figB c = true := fun c hcm =>
      List.all_eq_true.mp h c (List.mem_reverse.mp ((List.dropWhile_sublist _).subset hcm))
    cases e2 : l.reverse.dropWhile (fun c => (#[48] : Array Nat).contains c) with
    | nil => rfl
    | cons d r =>
      rw [e2] at ha
      have hd : d ≠ 48 := by
        rintro rfl
        have := List.head?_dropWhile_not (fun c => (#[48] : Array Nat).contains c) l.reverse
        rw [e2] at this
        simp at this
      have hr : (r.reverse ++ [d]).all figB = true := by
        rw [List.all_eq_true]
        intro c hcm
        exact ha c (by simp at hcm ⊢; rcases hcm with h | h <;> simp [h])
      unfold pointsB figsB
      rw [List.reverse_cons, hr]
      simp [hd]
/-! ### whole numbers by their figures -/
theorem valL_lt : ∀ (l : List Nat), (∀ c ∈ l, c ≤ 57) → valL l < 10 ^ l.length := by
  suffices hh : ∀ (n : Nat) (l : List Nat), l.length = n → (∀ c ∈ l, c ≤ 57) → valL l < 10 ^ l.length from fun l => hh _ l rfl
  intro n
  induction n with
  | zero =>
    intro l hl _
    rw [List.length_eq_zero_iff] at hl
    subst hl; decide
  | succ n ih =>
    intro l0 hl h0
    have hne : l0 ≠ [] := by intro e; rw [e] at hl; simp at hl
    obtain ⟨l, c, rfl⟩ : ∃ l c, l0 = l ++ [c] := ⟨_, _, (List.dropLast_concat_getLast hne).symm⟩
    have h := h0
    have h1 := ih l (by simpa using hl) (fun d hd => h d (by simp [hd]))
    have h2 := h c (by simp)
    show NumText.digitsVal (l ++ [c]) < _
    rw [NumText.digitsVal_snoc, List.length_append, List.length_singleton, Nat.pow_succ]
    have h3 : NumText.digitsVal l < 10 ^ l.length := h1
    omega
theorem num_figs (n : Nat) : (numL n).all figB = true := by
  rw [List.all_eq_true]
  intro c hc
  have h := TL.numL_digits n c hc
  unfold figB
  apply decide_eq_true
  simp only [List.mem_cons, List.not_mem_nil, or_false]
  omega
theorem digs_of {l : List Nat} (h : l.all figB = true) : digs l = true := by
  unfold digs
  rw [List.all_eq_true] at h ⊢
  intro c hc
  have := fig_lt (h c hc)
  simp; omega
theorem figs_le {l : List Nat} (h : l.all figB = true) : ∀ c ∈ l, c ≤ 57 := fun c hc => (fig_lt (List.all_eq_true.mp h c hc)).2
theorem numL_head {n : Nat} (h : 1 ≤ n) : ∃ c r, numL n = c :: r ∧ 49 ≤ c := by
  induction n using Nat.strongRecOn with
  | _ n ih =>
    by_cases h10 : n < 10
    · exact ⟨48 + n, [], TL.numL_lt h10, by omega⟩
    · obtain ⟨c, r, e, hc⟩ := ih (n / 10) (by omega) (by omega)
      exact ⟨c, r ++ [48 + n % 10], by rw [numL, TL.numL_step (by omega)]; rw [numL] at e; rw [e]; rfl, hc⟩
end U
namespace U
open PySem PySem.Spec PyProof.Rows L2
theorem pool_upd {H : Hp} {a : Addr} {m : Int} : Pool (L2.upd H a (.lst [.int m])) a = True := propext ⟨fun _ => trivial, fun _ => Pool.upd⟩
/-- a for over range(n), a list: what is to be shown once the end, the list is known -/
def rngG (g : TG) (tb : TS) (D : Ends) (σ : L2.St) (vs : List V) (H1 : Hp) : Prop := ∃ j : Int, vs = [.int j] ∧ -(2 ^ 62) ≤ j ∧ j < 2 ^ 62 ∧ ∃ W : Nat → Nat → L2.St → Hp → Prop, (∃ m, W 0 m σ H1) ∧ ∀ i m σ H, W i m σ H →
  ((Itr 0 j.toNat).stop i H ∧ D.nx σ H) ∨ ((Itr 0 j.toNat).go i H ∧ ∃ N : L2.St → Hp → Prop, (∀ σ' H', N σ' H' → ∃ m', m' < m ∧ W (i + 1) m' σ' H') ∧ ∀ x H', (Itr 0 j.toNat).yld i H x H' → g x σ H' fun σ2 H2 => tb { D with nx := N, ct := N, bk := D.nx } σ2 H2)
theorem e_forR {ta : TA} {g : TG} {tb : TS} {D : Ends} {σ : L2.St} {H : Hp} : tFor (iRng1 ta) g tb D σ H = ta σ H fun vs H1 => rngG g tb D σ vs H1 := rfl
theorem r_rng {g : TG} {tb : TS} {D : Ends} {σ : L2.St} {H1 : Hp} {n : Int} (h1 : -(2 ^ 62) ≤ n) (h2 : n < 2 ^ 62) (Pv : Nat → L2.St → Hp → Prop) (p0 : Pv 0 σ H1)
    (ps : ∀ i σ H, i < n.toNat → Pv i σ H → g (.int i) σ H fun σ2 H2 => tb { D with nx := Pv (i + 1), ct := Pv (i + 1), bk := D.nx } σ2 H2) (pd : ∀ σ H, Pv n.toNat σ H → D.nx σ H) : rngG g tb D σ [.int n] H1 :=
  ⟨n, rfl, h1, h2, for_range Pv p0 (fun i σ H hi hP => by have := ps i σ H hi hP; simpa using this) pd⟩
def lstG (K : PySem.W.Frag) (g : TG) (tb : TS) (D : Ends) (σ : L2.St) (v : V) (H1 : Hp) : Prop := ∃ a, v = .ref a ∧ (∃ xs, SqL K H1 a xs) ∧ ∃ W : Nat → Nat → L2.St → Hp → Prop, (∃ m, W 0 m σ H1) ∧ ∀ i m σ H, W i m σ H →
  ((Itl K a).stop i H ∧ D.nx σ H) ∨ ((Itl K a).go i H ∧ ∃ N : L2.St → Hp → Prop, (∀ σ' H', N σ' H' → ∃ m', m' < m ∧ W (i + 1) m' σ' H') ∧ ∀ x H', (Itl K a).yld i H x H' → g x σ H' fun σ2 H2 => tb { D with nx := N, ct := N, bk := D.nx } σ2 H2)
theorem e_forL {K : PySem.W.Frag} {te : TE} {g : TG} {tb : TS} {D : Ends} {σ : L2.St} {H : Hp} : tFor (iList K te) g tb D σ H = te σ H fun v H1 => lstG K g tb D σ v H1 := rfl
theorem r_lst {K : PySem.W.Frag} {g : TG} {tb : TS} {D : Ends} {σ : L2.St} {H1 : Hp} {a : Addr} {xs : List V} (ha : H1 a = some (.lst xs)) (Pv : Nat → L2.St → Hp → Prop) (p0 : Pv 0 σ H1) (pl : ∀ i σ H, i ≤ xs.length → Pv i σ H → H a = some (.lst xs))
    (ps : ∀ i x σ H, xs[i]? = some x → Pv i σ H → g x σ H fun σ2 H2 => tb { D with nx := Pv (i + 1), ct := Pv (i + 1), bk := D.nx } σ2 H2) (pd : ∀ σ H, Pv xs.length σ H → D.nx σ H) : lstG K g tb D σ (.ref a) H1 :=
  ⟨a, rfl, ⟨xs, SqL.of ha⟩, for_list Pv p0 (fun i σ H hi hP => SqL.of (pl i σ H hi hP)) ps pd⟩
theorem fr_none {H H' : Hp} {p : Addr} {S : List Addr} (f : Fr S H H') {a : Addr} {o : HO} (h : H' p = none) (ha : H a = some o) (hs : a ∉ S) : p ≠ a := by
  rintro rfl
  rw [f.get hs ha] at h; cases h
theorem mulL {i j : Int} (h : -(2 ^ 64) < i ∧ i < 2 ^ 64) : MulOk i j := .inl (.inl h)
theorem mulR {i j : Int} (h : -(2 ^ 64) < j ∧ j < 2 ^ 64) : MulOk i j := .inl (.inr h)
end U

namespace U
open PySem PySem.Spec PyProof.Rows L2
/-! ### a mark's parts as a list -/
def partsL (t : Pt) (q : Addr) : List V := [sv t.l, .int t.n, sv t.p, .ref q, ov t.y, ov t.c]
def PL (H : Hp) (p : Addr) (t : Pt) : Prop := ∃ q, H p = some (.lst (partsL t q)) ∧ H q = some (.lst (t.ms.map sv))
/-- parts as the laws draw them -/
structure Dr (t : Pt) : Prop where
  ok : t.Ok
  p : t.p.length ≤ 40
  ms : ∀ m ∈ t.ms, m.length ≤ 41
theorem ms_ne {ms : List (List Nat)} {m : Int} : ms.map sv ≠ [V.int m] := by
  cases ms with
  | nil => simp
  | cons a l => intro h; simp at h
theorem PL.fr {H H' : Hp} {p a : Addr} {t : Pt} (h : PL H p t) (f : Fr [a] H H') (hp : Pool H a) : PL H' p t := by
  obtain ⟨q, h1, h2⟩ := h
  obtain ⟨n, hn⟩ := hp
  refine ⟨q, f.get (fun z => ?_) h1, f.get (fun z => ?_) h2⟩
  · simp at z; subst z; rw [hn] at h1; cases h1
  · simp at z; subst z; rw [hn] at h2
    simp only [Option.some.injEq, HO.lst.injEq] at h2
    exact ms_ne h2.symm
theorem PL.fr0 {H H' : Hp} {p : Addr} {t : Pt} (h : PL H p t) (f : Fr [] H H') : PL H' p t := by
  obtain ⟨q, h1, h2⟩ := h
  exact ⟨q, f.get (by simp) h1, f.get (by simp) h2⟩
theorem Mark.pool {C : Addr} {H H' : Hp} {x a : Addr} {t : Pt} (h : Mark C H x t) (f : Fr [a] H H') (hp : Pool H a) : Mark C H' x t := by
  obtain ⟨dx, r, h1, h2⟩ := h
  obtain ⟨n, hn⟩ := hp
  refine ⟨dx, r, f.get (fun z => ?_) h1, f.get (fun z => ?_) h2⟩
  · simp at z; subst z; rw [hn] at h1; cases h1
  · simp at z; subst z; rw [hn] at h2; cases h2
/-! ### the text of parts tells the parts -/
theorem split_pre {f : Nat → Prop} : ∀ {a a' b b' : List Nat}, (∀ c ∈ a, f c) → (∀ c ∈ a', f c) → (∀ c, b.head? = some c → ¬ f c) → (∀ c, b'.head? = some c → ¬ f c) → a ++ b = a' ++ b' → a = a' ∧ b = b'
  | [], [], b, b', _, _, _, _, h => ⟨rfl, h⟩
  | [], c :: a', b, b', _, h2, h3, _, h => by
    have h : b = c :: (a' ++ b') := h
    exact (h3 c (by rw [h]; rfl) (h2 c List.mem_cons_self)).elim
  | c :: a, [], b, b', h1, _, _, h4, h => by
    have h : c :: (a ++ b) = b' := h
    exact (h4 c (by rw [← h]; rfl) (h1 c List.mem_cons_self)).elim
  | c :: a, d :: a', b, b', h1, h2, h3, h4, h => by
    have h : c :: (a ++ b) = d :: (a' ++ b') := h
    injection h with e h
    obtain ⟨h5, h6⟩ := split_pre (f := f) (fun x hx => h1 x (List.mem_cons_of_mem _ hx)) (fun x hx => h2 x (List.mem_cons_of_mem _ hx)) h3 h4 h
    exact ⟨by rw [e, h5], h6⟩
theorem num_sign {n : Nat} : ∀ c ∈ numL n, 48 ≤ c ∧ c ≤ 57 := fun c hc => TL.numL_digits n c hc
theorem num_head {n : Nat} : ∃ c r, numL n = c :: r ∧ 48 ≤ c ∧ c ≤ 57 := by
  cases e : numL n with
  | nil => exact (TL.numL_ne n e).elim
  | cons c r => exact ⟨c, r, rfl, num_sign c (by rw [e]; exact List.mem_cons_self)⟩
theorem tail_inj {p p' : List Nat} (h : (if p = [] then [] else 46 :: p) = (if p' = [] then [] else 46 :: p')) : p = p' := by
  by_cases h1 : p = [] <;> by_cases h2 : p' = [] <;> simp [h1, h2] at h ⊢ <;> first | exact h | (subst h1; exact (h2 rfl).elim) | skip
theorem tail_head {p : List Nat} : ∀ c, (if p = [] then [] else 46 :: p : List Nat).head? = some c → c = 46 := by
  intro c h
  by_cases h1 : p = []
  · rw [if_pos h1] at h; cases h
  · rw [if_neg h1] at h; simp at h; exact h.symm
theorem w0_inj {t u : Pt} (ht : t.Ok) (hu : u.Ok) (h : t.w0 = u.w0) : t.l = u.l ∧ t.n = u.n ∧ t.p = u.p := by
  unfold Pt.w0 at h
  rw [List.append_assoc, List.append_assoc] at h
  have a1 := letters_all ht.l
  have a2 := letters_all hu.l
  obtain ⟨h1, h2⟩ := split_pre (f := fun c => 97 ≤ c ∧ c ≤ 122) a1 a2 (fun c hc => by
    obtain ⟨d, r, e, hd⟩ := num_head (n := t.n.toNat)
    rw [e] at hc; simp at hc; omega) (fun c hc => by
    obtain ⟨d, r, e, hd⟩ := num_head (n := u.n.toNat)
    rw [e] at hc; simp at hc; omega) h
  obtain ⟨h3, h4⟩ := split_pre (f := fun c => 48 ≤ c ∧ c ≤ 57) num_sign num_sign (fun c hc => by have := tail_head c hc; omega) (fun c hc => by have := tail_head c hc; omega) h2
  have h5 := TL.numL_inj h3
  have := ht.n1
  have := hu.n1
  exact ⟨h1, by omega, tail_inj h4⟩
theorem no32 {t : Pt} (ok : t.Ok) : ∀ w ∈ t.ws, (32 : Nat) ∉ w := by
  intro w hw
  unfold Pt.ws at hw
  simp only [List.mem_cons, List.mem_append] at hw
  rcases hw with rfl | hw | hw | hw
  · unfold Pt.w0
    intro h
    simp only [List.mem_append] at h
    rcases h with (h | h) | h
    · have := letters_all ok.l 32 h; omega
    · have := num_sign 32 h; omega
    · by_cases e : t.p = []
      · rw [if_pos e] at h; cases h
      · rw [if_neg e] at h
        rw [List.mem_cons] at h
        rcases h with h | h
        · omega
        · have := points_all ok.p 32 h; omega
  · intro h
    obtain ⟨c, l, rfl, h1, h2⟩ := maker_at (ok.ms w hw).1
    rw [List.mem_cons] at h
    rcases h with h | h
    · omega
    · have := figs_all h2 32 h; omega
  · cases e : t.y with
    | none => rw [e] at hw; cases hw
    | some i =>
      rw [e] at hw
      simp only [List.mem_singleton] at hw
      subst hw
      intro h
      have := num_sign 32 h; omega
  · cases e : t.c with
    | none => rw [e] at hw; cases hw
    | some i =>
      rw [e] at hw
      simp only [List.mem_singleton] at hw
      subst hw
      intro h
      simp only [List.mem_cons] at h
      rcases h with h | h | h
      · omega
      · omega
      · have := num_sign 32 h; omega
/-- the kinds of the words behind the first -/
def isMk (w : List Nat) : Prop := ∃ c d r, w = c :: d :: r ∧ 97 ≤ c ∧ 48 ≤ d
theorem mk_is {m : List Nat} (h : makerB m = true) : isMk m := by
  obtain ⟨c, l, rfl, h1, h2⟩ := maker_at h
  cases l with
  | nil => cases h2
  | cons d r => exact ⟨c, d, r, rfl, h1.1, (figs_all h2 d List.mem_cons_self).1⟩
theorem mk_split : ∀ {a a' b b' : List (List Nat)}, (∀ c ∈ a, isMk c) → (∀ c ∈ a', isMk c) → (∀ c, b.head? = some c → ¬ isMk c) → (∀ c, b'.head? = some c → ¬ isMk c) → a ++ b = a' ++ b' → a = a' ∧ b = b'
  | [], [], b, b', _, _, _, _, h => ⟨rfl, h⟩
  | [], c :: a', b, b', _, h2, h3, _, h => by
    have h : b = c :: (a' ++ b') := h
    exact (h3 c (by rw [h]; rfl) (h2 c List.mem_cons_self)).elim
  | c :: a, [], b, b', h1, _, _, h4, h => by
    have h : c :: (a ++ b) = b' := h
    exact (h4 c (by rw [← h]; rfl) (h1 c List.mem_cons_self)).elim
  | c :: a, d :: a', b, b', h1, h2, h3, h4, h => by
    have h : c :: (a ++ b) = d :: (a' ++ b') := h
    injection h with e h
    obtain ⟨h5, h6⟩ := mk_split (fun x hx => h1 x (List.mem_cons_of_mem _ hx)) (fun x hx => h2 x (List.mem_cons_of_mem _ hx)) h3 h4 h
    exact ⟨by rw [e, h5], h6⟩
theorem num_not {n : Nat} : ¬ isMk (numL n) := by
  rintro ⟨c, d, r, e, h1, h2⟩
  have := num_sign c (by rw [e]; exact List.mem_cons_self)
  omega
theorem cop_not {l : List Nat} : ¬ isMk (99 :: 46 :: l) := by
  rintro ⟨c, d, r, e, h1, h2⟩
  simp only [List.cons.injEq] at e
  omega
theorem num_cop {n : Nat} {l : List Nat} : numL n ≠ 99 :: 46 :: l := by
  intro e
  have := num_sign 99 (by rw [e]; exact List.mem_cons_self)
  omega
theorem text_inj {t u : Pt} (ht : t.Ok) (hu : u.Ok) (h : t.text = u.text) : t = u := by
  have e1 := TL.spl_join (s := 32) (S := []) (parts := t.ws) (by unfold Pt.ws; simp) (no32 ht)
  have e2 := TL.spl_join (s := 32) (S := []) (parts := u.ws) (by unfold Pt.ws; simp) (no32 hu)
  have h0 : TL.joinL [32] t.ws = TL.joinL [32] u.ws := h
  rw [h0, e2] at e1
  unfold Pt.ws at e1
  injection e1 with e3 e4
  obtain ⟨h1, h2, h3⟩ := w0_inj hu ht e3
  obtain ⟨h4, h5⟩ := mk_split (fun m hm => mk_is (hu.ms m hm).1) (fun m hm => mk_is (ht.ms m hm).1) (fun c hc => by
    cases ey : u.y with
    | none =>
      cases ec : u.c with
      | none => rw [ey, ec] at hc; cases hc
      | some j => rw [ey, ec] at hc; simp at hc; subst hc; exact cop_not
    | some i => rw [ey] at hc; simp at hc; subst hc; exact num_not) (fun c hc => by
    cases ey : t.y with
    | none =>
      cases ec : t.c with
      | none => rw [ey, ec] at hc; cases hc
      | some j => rw [ey, ec] at hc; simp at hc; subst hc; exact cop_not
    | some i => rw [ey] at hc; simp at hc; subst hc; exact num_not) e4
  obtain ⟨l, n, p, ms, y, c⟩ := t
  obtain ⟨l', n', p', ms', y', c'⟩ := u
  dsimp only at *
  have hty := ht.y
  have htc := ht.c
  have huy := hu.y
  have huc := hu.c
  dsimp only at hty htc huy huc
  subst h1 h2 h3 h4
  have hyc : y = y' ∧ c = c' := by
    cases y with
    | none =>
      cases y' with
      | none =>
        refine ⟨rfl, ?_⟩
        cases c with
        | none => cases c' with
          | none => rfl
          | some j' => simp at h5
        | some j => cases c' with
          | none => simp at h5
          | some j' =>
            simp at h5
            have := TL.numL_inj h5
            have := htc j rfl
            have := huc j' rfl
            congr 1; omega
      | some i' =>
        cases c with
        | none => simp at h5
        | some j => cases c' with
          | none => simp at h5; exact (num_cop h5).elim
          | some j' => simp at h5
    | some i =>
      cases y' with
      | none =>
        cases c' with
        | none => simp at h5
        | some j => cases c with
          | none => simp at h5; exact (num_cop h5.symm).elim
          | some j' => simp at h5
      | some i' =>
        have h6 : numL i'.toNat = numL i.toNat := by simp at h5; exact h5.1
        have h7 := TL.numL_inj h6
        have := hty i rfl
        have := huy i' rfl
        refine ⟨by congr 1; omega, ?_⟩
        cases c with
        | none => cases c' with
          | none => rfl
          | some j' => simp at h5
        | some j => cases c' with
          | none => simp at h5
          | some j' =>
            simp at h5
            have := TL.numL_inj h5.2
            have := htc j rfl
            have := huc j' rfl
            congr 1; omega
  rw [hyc.1, hyc.2]
theorem kp_inj {t u : Pt} (ht : t.Ok) (hu : u.Ok) (h : kp t = kp u) : t = u := by
  obtain ⟨l, n, p, ms, y, c⟩ := t
  obtain ⟨l', n', p', ms', y', c'⟩ := u
  simp only [kp, Prod.mk.injEq] at h
  obtain ⟨rfl, rfl, rfl, rfl, h5, h6⟩ := h
  have hty := ht.y
  have htc := ht.c
  have huy := hu.y
  have huc := hu.c
  dsimp only at hty htc huy huc
  have h7 : y = y' := by
    cases y <;> cases y' <;> simp at h5 ⊢
    · have := huy _ rfl; omega
    · have := hty _ rfl; omega
    · exact h5
  have h8 : c = c' := by
    cases c <;> cases c' <;> simp at h6 ⊢
    · have := huc _ rfl; omega
    · have := htc _ rfl; omega
    · exact h6
  rw [h7, h8]
theorem text_kp {t u : Pt} (ht : t.Ok) (hu : u.Ok) : t.text = u.text ↔ kp t = kp u :=
  ⟨fun h => by rw [text_inj ht hu h], fun h => by rw [kp_inj ht hu h]⟩
/-- the order that is due -/
def due (t u : Pt) : Int := if kp t = kp u then 0 else if PySem.W.dataLt (keyD t) (keyD u) = true then -1 else 1
theorem due_text {t u : Pt} (ht : t.Ok) (hu : u.Ok) : (if t.text = u.text then 0 else if PySem.W.dataLt (keyD t) (keyD u) = true then -1 else 1 : Int) = due t u := by
  unfold due
  by_cases h : kp t = kp u
  · rw [if_pos h, if_pos ((text_kp ht hu).mpr h)]
  · rw [if_neg h, if_neg (fun z => h ((text_kp ht hu).mp z))]
theorem due_flip {t u : Pt} : due u t = -due t u := by
  unfold due
  by_cases h : kp t = kp u
  · rw [if_pos h, if_pos h.symm]; rfl
  · rw [if_neg h, if_neg (fun z => h z.symm), lt_flip h]
    cases PySem.W.dataLt (keyD t) (keyD u) <;> decide
end U
namespace U
open PySem PySem.Spec PyProof.Rows L2
theorem Pool.new {H : Hp} {a r : Addr} {o : HO} (h : Pool H a) (hr : H r = none) : Pool (L2.upd H r o) a := by
  obtain ⟨n, hn⟩ := h
  exact ⟨n, upd_old2 hr hn⟩
theorem Pool.ne {H : Hp} {a r : Addr} (h : Pool H a) (hr : H r = none) : r ≠ a := by
  obtain ⟨n, hn⟩ := h
  exact ne_new hr hn
theorem atI_nat0 {α : Type} {xs : List α} {i : Int} (h0 : 0 ≤ i) (h1 : i < xs.length) : ∃ c, c ∈ xs ∧ atI xs i = some c := atI_in h0 h1
theorem int_in {f : Int → Prop} {xs : List Int} {i : Int} (h0 : 0 ≤ i) (h1 : i < xs.length) : ∃ c, c ∈ xs ∧ atI (xs.map V.int) i = some (.int c) := by
  obtain ⟨c, hc, e⟩ := atI_in (xs := xs.map V.int) h0 (by rw [List.length_map]; exact h1)
  obtain ⟨d, hd, rfl⟩ := List.mem_map.mp hc
  exact ⟨d, hd, e⟩
end U
namespace U
open PySem PySem.Spec PyProof.Rows L2
section
variable {α : Type} {a b c d e f : α} {l : List α}
theorem at1 : atI (a :: b :: l) 1 = some b := atI_nat (j := 1) rfl
theorem at2 : atI (a :: b :: c :: l) 2 = some c := atI_nat (j := 2) rfl
theorem at3 : atI (a :: b :: c :: d :: l) 3 = some d := atI_nat (j := 3) rfl
theorem at4 : atI (a :: b :: c :: d :: e :: l) 4 = some e := atI_nat (j := 4) rfl
theorem at5 : atI (a :: b :: c :: d :: e :: f :: l) 5 = some f := atI_nat (j := 5) rfl
end
end U
namespace U
open PySem PySem.Spec PyProof.Rows L2
/-- a or b, once a is known -/
def orG (K : PySem.W.Frag) (x : V) (H1 : Hp) (R S : Prop) : Prop := ∃ k, TruV K x H1 k ∧ if k = true then R else S
theorem or_str {K : PySem.W.Frag} {l : List Nat} {H : Hp} {R S : Prop} (hl : l.length ≤ 16777216) (h : if l = [] then S else R) : orG K (sv l) H R S := by
  by_cases e : l = []
  · rw [if_pos e] at h
    refine ⟨false, truB_ok (by rw [b_str (by exact hl)]; subst e; rfl), ?_⟩
    rw [if_neg (by decide)]; exact h
  · rw [if_neg e] at h
    refine ⟨true, truB_ok (by rw [b_str (by exact hl)]; cases l with | nil => exact (e rfl).elim | cons a b => rfl), ?_⟩
    rw [if_pos rfl]; exact h
theorem near_num {D : List Nat} (hD : D.all figB = true) {r : Int} (h0 : 0 ≤ r) (h1 : r < 29) {c : Nat} (hc : figB c = true) :
    digs (cutL D none (some (1 + r)) ++ [c]) = true ∧ cutL D none (some (1 + r)) ++ [c] ≠ [] ∧ (cutL D none (some (1 + r))).length ≤ 29 ∧ (valL (cutL D none (some (1 + r)) ++ [c]) : Int) < 10 ^ 30 := by
  rw [cut_to (by omega)]
  have h2 := all_snoc (take_all (n := (1 + r).toNat) hD) hc
  have h3 : (D.take (1 + r).toNat).length ≤ 29 := by simp; omega
  have h4 := valL_lt _ (figs_le h2)
  have h5 : (D.take (1 + r).toNat ++ [c]).length ≤ 30 := by rw [List.length_append, List.length_singleton]; omega
  refine ⟨digs_of h2, by simp, h3, ?_⟩
  have h6 : 10 ^ (D.take (1 + r).toNat ++ [c]).length ≤ 10 ^ 30 := Nat.pow_le_pow_right (by decide) h5
  have h7 : valL (D.take (1 + r).toNat ++ [c]) < 10 ^ 30 := Nat.lt_of_lt_of_le h4 h6
  exact_mod_cast h7
end U
namespace U
open PySem PySem.Spec PyProof.Rows L2
theorem e_orT {K : PySem.W.Frag} {ta tb : TE} {σ : L2.St} {H : Hp} {Q : VK} : tOrT K ta tb σ H Q = ta σ H fun x H1 => orG K x H1 (Q x H1) (tb σ H1 Q) := rfl
end U
namespace U
open PySem PySem.Spec PyProof.Rows L2
theorem i60 : ixN 6 0 = some 0 := rfl
theorem i61 : ixN 6 1 = some 1 := rfl
theorem i62 : ixN 6 2 = some 2 := rfl
theorem i63 : ixN 6 3 = some 3 := rfl
theorem i64 : ixN 6 4 = some 4 := rfl
theorem i65 : ixN 6 5 = some 5 := rfl
end U
namespace U
open PySem PySem.Spec PyProof.Rows L2
theorem parts_ne {t : Pt} {q : Addr} {ms : List (List Nat)} : partsL t q ≠ ms.map sv := by
  unfold partsL
  cases ms with
  | nil => simp
  | cons a l =>
    cases l with
    | nil => simp
    | cons b l => intro h; simp at h
end U
namespace U
open PySem PySem.Spec PyProof.Rows L2
theorem near_n {n : Int} (h1 : 1 ≤ n) {r : Int} (h0 : 0 ≤ r) (h4 : r < 4) (h9 : n ≤ 9999) {c : Nat} (hc : figB c = true) :
    (cutL (numL n.toNat) none (some (1 + r))).length ≤ 4 ∧ digs (cutL (cutL (numL n.toNat) none (some (1 + r)) ++ [c]) none (some 4)) = true ∧ cutL (cutL (numL n.toNat) none (some (1 + r)) ++ [c]) none (some 4) ≠ [] ∧
    (cutL (cutL (numL n.toNat) none (some (1 + r)) ++ [c]) none (some 4)).length ≤ 4 ∧ 1 ≤ (valL (cutL (cutL (numL n.toNat) none (some (1 + r)) ++ [c]) none (some 4)) : Int) ∧ (valL (cutL (cutL (numL n.toNat) none (some (1 + r)) ++ [c]) none (some 4)) : Int) ≤ 9999 := by
  rw [cut_to (by omega), cut_to (by decide)]
  obtain ⟨d, s, e, hd⟩ := numL_head (n := n.toNat) (by omega)
  have hf := num_figs n.toNat
  have e1 : (1 + r).toNat = r.toNat + 1 := by omega
  have e2 : ((numL n.toNat).take (1 + r).toNat ++ [c]).take (4 : Int).toNat = d :: ((s.take r.toNat ++ [c]).take 3) := by
    rw [e, e1]; rfl
  have hall := take_all (n := (4 : Int).toNat) (all_snoc (take_all (n := (1 + r).toNat) hf) hc)
  have hlen : (((numL n.toNat).take (1 + r).toNat ++ [c]).take (4 : Int).toNat).length ≤ 4 := by rw [List.length_take]; exact Nat.min_le_left _ _
  have hv := valL_lt _ (figs_le hall)
  have hv2 : 10 ^ (((numL n.toNat).take (1 + r).toNat ++ [c]).take (4 : Int).toNat).length ≤ 10 ^ 4 := Nat.pow_le_pow_right (by decide) hlen
  refine ⟨by rw [List.length_take]; omega, digs_of hall, by rw [e2]; simp, hlen, ?_, ?_⟩
  · have := NumText.digitsVal_pos (c := d) (cs := (s.take r.toNat ++ [c]).take 3) hd
    rw [e2]
    show 1 ≤ ((NumText.digitsVal _ : Nat) : Int)
    omega
  · omega
end U
namespace U
open PySem PySem.Spec PyProof.Rows L2
theorem mix {u v : Pt} {r s : Addr} (hu : Dr u) (hv : Dr v) {n : Int} (h0 : 0 ≤ n) (h6 : n < 6) :
    ∃ x z, cutL (partsL u r) none (some (n + 1)) ++ cutL (partsL v s) (some (n + 1)) none = partsL x z ∧ Dr x ∧ ((z = r ∧ x.ms = u.ms) ∨ (z = s ∧ x.ms = v.ms)) := by
  have a := hu.ok
  have b := hv.ok
  obtain rfl | rfl | rfl | rfl | rfl | rfl : n = 0 ∨ n = 1 ∨ n = 2 ∨ n = 3 ∨ n = 4 ∨ n = 5 := by omega
  · exact ⟨⟨u.l, v.n, v.p, v.ms, v.y, v.c⟩, s, rfl, ⟨⟨a.l, b.n1, b.n2, b.p, b.pl, b.mn, b.ms, b.y, b.c⟩, hv.p, hv.ms⟩, .inr ⟨rfl, rfl⟩⟩
  · exact ⟨⟨u.l, u.n, v.p, v.ms, v.y, v.c⟩, s, rfl, ⟨⟨a.l, a.n1, a.n2, b.p, b.pl, b.mn, b.ms, b.y, b.c⟩, hv.p, hv.ms⟩, .inr ⟨rfl, rfl⟩⟩
  · exact ⟨⟨u.l, u.n, u.p, v.ms, v.y, v.c⟩, s, rfl, ⟨⟨a.l, a.n1, a.n2, a.p, a.pl, b.mn, b.ms, b.y, b.c⟩, hu.p, hv.ms⟩, .inr ⟨rfl, rfl⟩⟩
  · exact ⟨⟨u.l, u.n, u.p, u.ms, v.y, v.c⟩, r, rfl, ⟨⟨a.l, a.n1, a.n2, a.p, a.pl, a.mn, a.ms, b.y, b.c⟩, hu.p, hu.ms⟩, .inl ⟨rfl, rfl⟩⟩
  · exact ⟨⟨u.l, u.n, u.p, u.ms, u.y, v.c⟩, r, rfl, ⟨⟨a.l, a.n1, a.n2, a.p, a.pl, a.mn, a.ms, a.y, b.c⟩, hu.p, hu.ms⟩, .inl ⟨rfl, rfl⟩⟩
  · exact ⟨⟨u.l, u.n, u.p, u.ms, u.y, u.c⟩, r, rfl, ⟨⟨a.l, a.n1, a.n2, a.p, a.pl, a.mn, a.ms, a.y, a.c⟩, hu.p, hu.ms⟩, .inl ⟨rfl, rfl⟩⟩
theorem cut_len {α : Type} {l : List α} {lo hi : Option Int} : (cutL l lo hi).length ≤ l.length := by
  unfold cutL
  rw [List.length_take, List.length_drop]; omega
end U
namespace U
open PySem PySem.Spec PyProof.Rows L2
/-- a cut of the script -/
def rSlS (K : PySem.W.Frag) : V → Option Int → Option Int → Hp → VK → Prop := fun x lo hi H Q => ∃ a xs, x = .ref a ∧ SqL K H a xs ∧ ∀ p, H p = none → Q (.ref p) (upd H p (.lst (cutL xs lo hi)))
theorem slS {X : Cx} : SlR X (rSlS X.K) := SlR.imp sl_list (fun x lo hi H Q ⟨a, xs, e, h, q⟩ => ⟨a, xs, e, h, q⟩)
theorem e_slS {K : PySem.W.Frag} {a : Addr} {lo hi : Option Int} {H : Hp} {Q : VK} : rSlS K (.ref a) lo hi H Q = ∃ xs, SqL K H a xs ∧ ∀ p, H p = none → Q (.ref p) (upd H p (.lst (cutL xs lo hi))) := by
  apply propext; constructor
  · rintro ⟨b, xs, e, h⟩; cases e; exact ⟨xs, h⟩
  · rintro ⟨xs, h⟩; exact ⟨a, xs, rfl, h⟩
/-- the parts that the law begins with -/
def p0 : Pt := ⟨[97], 1, [], [], none, none⟩
theorem ok0 : p0.Ok where
  l := by decide
  n1 := by decide
  n2 := by decide
  p := by decide
  pl := by decide
  mn := by decide
  ms := by intro m hm; exact absurd hm (by simp [p0])
  y := by intro i hi; exact absurd hi (by simp [p0])
  c := by intro i hi; exact absurd hi (by simp [p0])
theorem dr0 : Dr p0 := ⟨ok0, by decide, by intro m hm; exact absurd hm (by simp [p0])⟩
theorem pl0 {H : Hp} {b r : Addr} (h1 : H b = some (.lst [sv [97], .int 1, sv [], .ref r, .non, .non])) (h2 : H r = some (.lst [])) : PL H b p0 := ⟨r, h1, h2⟩
theorem SqL_fr {K : PySem.W.Frag} {H H' : Hp} {a : Addr} {xs : List V} (f : Fr [] H H') (h : SqL K H a xs) : SqL K H' a xs := by
  rcases h with (h | ⟨o, h⟩) | h
  · exact .inl (.inl (f.get (by simp) h))
  · exact .inl (.inr ⟨o, f.get (by simp) h⟩)
  · exact .inr h
end U
namespace U
open PySem PySem.Spec PyProof.Rows L2
theorem cut_mem {α : Type} {l : List α} {lo hi : Option Int} {x : α} (h : x ∈ cutL l lo hi) : x ∈ l := by
  unfold cutL at h
  exact List.mem_of_mem_drop (List.mem_of_mem_take h)
theorem cell_int {ns : List Int} {lo hi : Option Int} {i : Nat} {x : V} (h : (cutL (ns.map V.int) lo hi ++ [V.int 7])[i]? = some x) : ∃ c, x = .int c := by
  have hm := List.mem_of_getElem? h
  rw [List.mem_append, List.mem_singleton] at hm
  rcases hm with hm | rfl
  · obtain ⟨c, _, rfl⟩ := List.mem_map.mp (cut_mem hm)
    exact ⟨c, rfl⟩
  · exact ⟨7, rfl⟩
end U
namespace U
open PySem PySem.Spec PyProof.Rows L2
theorem gstr_of {mg : Str → Option Value} {x z : Str} {l : List Nat} (h : ∃ t, mg x = some (.str z t)) (e : z.cps.toList = l) : GStr mg x l := by
  obtain ⟨t, h⟩ := h
  have ez : z = ⟨l.toArray⟩ := TL.ext_tl e
  rw [ez] at h
  exact ⟨⟨t, h⟩⟩
theorem gint_of {mg : Str → Option Value} {x : Str} {i : Int} (h : ∃ t, mg x = some (.int i t)) : GInt mg x i := ⟨h⟩
theorem vals_app {vs zs : List V} {us ws : List Value} (h : Vals vs us) (k : Vals zs ws) : Vals (vs ++ zs) (us ++ ws) := Vals.append h k
end U

namespace U
open PySem PySem.Spec PyProof.Rows L2
/-! ### for a, b, c in zip(xs, ys, us) -/
def Itz3 (K : PySem.W.Frag) (a b c : Addr) : It :=
  ⟨fun i H => ∃ (xs ys us : List V) (x y u : V), SqL K H a xs ∧ SqL K H b ys ∧ SqL K H c us ∧ xs[i]? = some x ∧ ys[i]? = some y ∧ us[i]? = some u,
    fun i H v H' => ∃ T x y u, v = .ref T ∧ H T = none ∧ H' = upd H T (.tup [x, y, u]) ∧ (∀ xs, SqL K H a xs → xs[i]? = some x) ∧ (∀ ys, SqL K H b ys → ys[i]? = some y) ∧ ∀ us, SqL K H c us → us[i]? = some u,
    fun i H => ∃ xs ys us : List V, SqL K H a xs ∧ SqL K H b ys ∧ SqL K H c us ∧ i ≤ xs.length ∧ i ≤ ys.length ∧ i ≤ us.length ∧ (i = xs.length ∨ i = ys.length ∨ i = us.length)⟩
theorem turn_zip3 {P : Program} {w : World} {K : PySem.W.Frag} {elts : List Expr} {kk : Nat} {tpos : Pos} {a b c z TI TO i1 i2 i3 : Addr} (D : ZipSep3 z TI TO i1 i2 i3 [i1, a] [i2, b] [i3, c]) (n1 : a ≠ i1) (n2 : b ≠ i2) (n3 : c ≠ i3) :
    Turn P w K (.Tuple elts kk tpos) (Itz3 K a b c) [z, TI, TO, i1, i2, i3] z (fun i h => IsZip h z TI TO .none ∧ IsTupOf3 h TI (.ref i1) (.ref i2) (.ref i3) ∧ (∃ x y u, IsTupOf3 h TO x y u) ∧ h.IsListIter i1 a i ∧ h.IsListIter i2 b i ∧ h.IsListIter i3 c i) where
  mem := by simp
  obj := fun i h st d hc => by
    obtain ⟨hz, hTI, ⟨x, y, u, hTO⟩, ⟨o1, e1, _, d1⟩, ⟨o2, e2, _, d2⟩, ⟨o3, e3, _, d3⟩⟩ := st
    have e' : d = z ∨ d = TI ∨ d = TO ∨ d = i1 ∨ d = i2 ∨ d = i3 := by simpa using hc
    rcases e' with q | q | q | q | q | q
    · rw [q]; exact ⟨_, hz, fun v q => nomatch q⟩
    · rw [q]; exact ⟨_, hTI, fun v q => nomatch q⟩
    · rw [q]; exact ⟨_, hTO, fun v q => nomatch q⟩
    · rw [q]; exact ⟨o1, e1, fun v q => by rw [d1] at q; cases q⟩
    · rw [q]; exact ⟨o2, e2, fun v q => by rw [d2] at q; cases q⟩
    · rw [q]; exact ⟨o3, e3, fun v q => by rw [d3] at q; cases q⟩
  keep := fun i h h' st k => by
    obtain ⟨hz, hTI, ⟨x, y, u, hTO⟩, h1, h2, h3⟩ := st
    exact ⟨k z (by simp) _ hz, k TI (by simp) _ hTI, ⟨x, y, u, k TO (by simp) _ hTO⟩, h1.at fun o q => k i1 (by simp) o q, h2.at fun o q => k i2 (by simp) o q, h3.at fun o q => k i3 (by simp) o q⟩
  item := by
    intro X hP hw hK hc i pins s σ H E I hf st hg
    subst hP hw hK
    obtain ⟨hz, hTI, ⟨x0, y0, u0, hTO⟩, h1, h2, h3⟩ := st
    obtain ⟨xs, ys, us, x, y, u, hqx, hqy, hqu, hx, hy, hu⟩ := hg
    obtain ⟨its, rv, p, _⟩ := I.list hqx
    obtain ⟨its2, rv2, p2, _⟩ := I.list hqy
    obtain ⟨its3, rv3, p3, _⟩ := I.list hqu
    obtain ⟨v1, hv1, r1⟩ := rv.get hx
    obtain ⟨v2, hv2, r2⟩ := rv2.get hy
    obtain ⟨v3, hv3, r3⟩ := rv3.get hu
    have hzl : z < s.heap.objs.size := Heap.lt_size hz
    have hh := I.ok.hd hc
    have L1 := (List.getElem?_eq_some_iff.mp hv1).1
    have L2 := (List.getElem?_eq_some_iff.mp hv2).1
    have L3 := (List.getElem?_eq_some_iff.mp hv3).1
    refine wpAny_pyNext_zipD3_item D (Draws.list (prog := X.prog) (w := X.w) (A := X.A.in1) hh i1 a n1 its.toArray) (Draws.list (prog := X.prog) (w := X.w) (A := X.A.in1) hh i2 b n2 its2.toArray) (Draws.list (prog := X.prog) (w := X.w) (A := X.A.in1) hh i3 c n3 its3.toArray) hz hTI hTO ⟨h1, p.isList⟩ ⟨h2, p2.isList⟩ ⟨h3, p3.isList⟩ (by simpa using L1) (by simpa using L2) (by simpa using L3)
      fun w1 w2 w3 h' tk y1 y2 y3 z' TO' d1 d2 d3 hT hsz hk => ?_
    have g1 : w1 = v1 := by have := y1; simp at this; rw [hv1] at this; exact (Option.some.inj this).symm
    have g2 : w2 = v2 := by have := y2; simp at this; rw [hv2] at this; exact (Option.some.inj this).symm
    have g3 : w3 = v3 := by have := y3; simp at this; rw [hv3] at this; exact (Option.some.inj this).symm
    subst g1 g2 g3
    refine ⟨_, rfl, wpAny_letOwnedTupleGo_zip (s := { s with heap := h', toks := tk }) z' fun h'' z'' sb => ?_⟩
    have hT2 : h''.get? s.heap.objs.size = some { cls := .type "tuple", data := .seq #[w1, w2, w3] } := (sb.2 _ (Nat.ne_of_gt hzl)).trans hT
    have new : ObjOk X.prog X.w (upd H s.heap.objs.size (.tup [x, y, u])) h'' s.heap.objs.size (.tup [x, y, u]) :=
      ⟨by show 3 ≤ sizeLine; decide, [w1, w2, w3], .cons r1 (.cons r2 (.cons r3 .nil)), ⟨_, hT2, rfl, _, rfl⟩⟩
    have I1 : Inv X pins σ (upd H s.heap.objs.size (.tup [x, y, u])) { s with heap := h'', toks := tk } :=
      I.turnedNew (t' := tk) (ch := [z, TI, TO, i1, i2, i3]) (fun c o hb q => (sb.2 c (fun q' => hb (by simp [q']))).trans (hk c o (fun q' => hb (by simp [q'])) (fun q' => hb (by simp [q'])) (fun q' => hb (by simp [q'])) (fun q' => hb (by simp [q'])) (fun q' => hb (by simp [q'])) q)) hf (Nat.le_refl _) new
    refine ⟨.ref s.heap.objs.size, _, I1, rfl, ⟨_, x, y, u, rfl, I.hok.fresh (Nat.le_refl _), rfl, fun l hl => by rw [I.list_inj hl hqx]; exact hx, fun l hl => by rw [I.list_inj hl hqy]; exact hy, fun l hl => by rw [I.list_inj hl hqu]; exact hu⟩, ⟨z'', ?_, ⟨w1, w2, w3, ?_⟩, ?_, ?_, ?_⟩, fun d hcm => ?_⟩
    · exact (sb.2 _ D.TIz).trans (hk _ _ D.TIz D.TITO D.TIi1 D.TIi2 D.TIi3 hTI)
    · exact (sb.2 _ D.TOz).trans TO'
    · exact d1.1.at fun o q => (sb.2 _ D.zi1.symm).trans q
    · exact d2.1.at fun o q => (sb.2 _ D.zi2.symm).trans q
    · exact d3.1.at fun o q => (sb.2 _ D.zi3.symm).trans q
    · have hlt : d < s.heap.objs.size := by
        have e' : d = z ∨ d = TI ∨ d = TO ∨ d = i1 ∨ d = i2 ∨ d = i3 := by simpa using hcm
        rcases e' with q | q | q | q | q | q
        · rw [q]; exact hzl
        · rw [q]; exact Heap.lt_size hTI
        · rw [q]; exact Heap.lt_size hTO
        · rw [q]; obtain ⟨_, e1, _⟩ := h1; exact Heap.lt_size e1
        · rw [q]; obtain ⟨_, e2, _⟩ := h2; exact Heap.lt_size e2
        · rw [q]; obtain ⟨_, e3, _⟩ := h3; exact Heap.lt_size e3
      rw [upd_ne (Nat.ne_of_lt hlt)]
      exact (hf d hcm).1
  done := by
    intro X hP hw hK hc i pins s σ H E I hf st hg
    subst hP hw hK
    obtain ⟨hz, hTI, ⟨x0, y0, u0, hTO⟩, h1, h2, h3⟩ := st
    obtain ⟨xs, ys, us, hqx, hqy, hqu, b1, b2, b3, hend⟩ := hg
    obtain ⟨its, rv, p, _⟩ := I.list hqx
    obtain ⟨its2, rv2, p2, _⟩ := I.list hqy
    obtain ⟨its3, rv3, p3, _⟩ := I.list hqu
    have l1 := rv.length
    have l2 := rv2.length
    have l3 := rv3.length
    have hh := I.ok.hd hc
    exact wpAny_pyNext_zipD3_end D (Draws.list (prog := X.prog) (w := X.w) (A := X.A.in1) hh i1 a n1 its.toArray) (Draws.list (prog := X.prog) (w := X.w) (A := X.A.in1) hh i2 b n2 its2.toArray) (Draws.list (prog := X.prog) (w := X.w) (A := X.A.in1) hh i3 c n3 its3.toArray) hz hTI hTO ⟨h1, p.isList⟩ ⟨h2, p2.isList⟩ ⟨h3, p3.isList⟩ (by simp; omega) (by simp; omega) (by simp; omega) (by simp; omega)
      fun h' tk hk => ⟨rfl, I.turnedL (t' := tk) (ch := [z, TI, TO, i1, i2, i3]) (fun c o hb q =>
      hk c o (fun q' => hb (by simp [q'])) (fun q' => hb (by simp [q'])) (fun q' => hb (by simp [q'])) (fun q' => hb (by simp [q'])) (fun q' => hb (by simp [q'])) q) hf⟩
  self := fun A i s Q E st h => wpAny_pyIter_zip st.1 h
def iZip3 (K : PySem.W.Frag) (ta : TA) : TI := fun σ H R => ta σ H fun vs H1 => ∃ a b c xs ys us, vs = [.ref a, .ref b, .ref c] ∧ SqL K H1 a xs ∧ SqL K H1 b ys ∧ SqL K H1 c us ∧ R (Itz3 K a b c) H1
theorem pi_zip3 {X : Cx} {e e2 e3 : Expr} {ta : TA} {p pos tpos : Pos} {elts : List Expr} {kk : Nat} (hg : Gl X "zip") (hm : X.mg "zip" = none) (ha : PA X [e, e2, e3] ta)
    (hs : starEach [e, e2, e3] X.env = (false, eval e X.env) :: starEach [e2, e3] X.env := by rfl) (hpl : (backTo pos (starEach [e2, e3] X.env)).any (·.1) = false := by rfl) :
    PI X (.Tuple elts kk tpos) (.Call (.Name "zip" p) [e, e2, e3] [] pos) (iZip3 X.K ta) := by
  refine ⟨fun pins s σ H R I h => ?_⟩
  refine Call_ (ld_blt I hg hm PyProof.Rows.boot_zip (PyProof.Rows.callWith_type1 (thn (ha.run pos pins s σ H _ I h) fun us s1 ⟨vs, H1, I1, r1, q1⟩ => ?_) hs hpl))
  obtain ⟨a, b, c, xs, ys, zs, ex, hqx, hqy, hqz, q⟩ := q1
  subst ex
  cases r1 with
  | cons r rr =>
    cases rr with
    | cons r' rr =>
      cases rr with
      | cons r'' rr =>
        cases rr
        cases r
        cases r'
        cases r''
        obtain ⟨its, rv, p1, _⟩ := I1.list hqx
        obtain ⟨its2, rv2, p2, _⟩ := I1.list hqy
        obtain ⟨its3, rv3, p3, _⟩ := I1.list hqz
        have la : a < s1.heap.objs.size := p1.lt
        have lb : b < s1.heap.objs.size := p2.lt
        have lc : c < s1.heap.objs.size := p3.lt
        have S := zip_sep3 (N := s1.heap.objs.size) (fp1 := [a]) (fp2 := [b]) (fp3 := [c]) (by simpa using la) (by simpa using lb) (by simpa using lc)
        refine zip_begins3 (begins_list a its.toArray) (begins_list b its2.toArray) (begins_list c its3.toArray) p1.isList p2.isList p3.isList fun h' hz hTI hTO g1 g2 g3 hsz hk => wpAny_pyIter_zip hz ?_
        have I2 : Inv X pins σ H1 { s1 with heap := h' } := I1.kept (t' := s1.toks) hk
        refine ⟨s1.heap.objs.size + 5, [s1.heap.objs.size + 5, s1.heap.objs.size + 3, s1.heap.objs.size + 4, s1.heap.objs.size, s1.heap.objs.size + 1, s1.heap.objs.size + 2], _, _, H1, rfl, I2,
          turn_zip3 S (Nat.ne_of_lt la) (Nat.ne_of_lt (Nat.lt_succ_of_lt lb)) (Nat.ne_of_lt (Nat.lt_succ_of_lt (Nat.lt_succ_of_lt lc))), ⟨hz, hTI, ⟨_, _, _, hTO⟩, ⟨_, g1, rfl, rfl⟩, ⟨_, g2, rfl, rfl⟩, ⟨_, g3, rfl, rfl⟩⟩, fun d hcm => ?_, q⟩
        have e' : d = s1.heap.objs.size + 5 ∨ d = s1.heap.objs.size + 3 ∨ d = s1.heap.objs.size + 4 ∨ d = s1.heap.objs.size ∨ d = s1.heap.objs.size + 1 ∨ d = s1.heap.objs.size + 2 := by simpa using hcm
        have hle : s1.heap.objs.size ≤ d := by
          rcases e' with z | z | z | z | z | z
          · rw [z]; exact Nat.le_add_right _ _
          · rw [z]; exact Nat.le_add_right _ _
          · rw [z]; exact Nat.le_add_right _ _
          · rw [z]; exact Nat.le_refl _
          · rw [z]; exact Nat.le_add_right _ _
          · rw [z]; exact Nat.le_add_right _ _
        exact I1.fpOk hle (I1.hok.fresh hle)
end U

namespace U
open PySem PySem.Spec PyProof.Rows L2
/-! ### lists of e for ..: once the iterator is known -/
def lcBody (g : TG) (tt : TT) (te : TE) (vs : List Nat) (σ : L2.St) (Q : VK) (J : It) (H1 : Hp) : Prop := ∀ D, H1 D = none → ∃ W : Nat → Nat → Hp → Prop, (∃ m, W 0 m (upd H1 D (.lst []))) ∧ ∀ i m H, W i m H →
  (J.stop i H ∧ Q (.ref D) H) ∨ (J.go i H ∧ ∃ Nx : Hp → Prop, (∀ H', Nx H' → ∃ m', m' < m ∧ W (i + 1) m' H') ∧ ∀ x H', J.yld i H x H' → g x (wipe σ vs) H' fun σ2 H2 => wipe σ2 vs = wipe σ vs ∧ tt σ2 H2 fun b H3 =>
    if b = true then te σ2 H3 fun y H4 => ∃ acc, H4 D = some (.lst acc) ∧ acc.length < sizeLine ∧ Nx (upd H4 D (.lst (acc ++ [y]))) else Nx H3)
theorem e_lc {wi : TI} {g : TG} {tt : TT} {te : TE} {vs : List Nat} {σ : L2.St} {H : Hp} {Q : VK} : tLc wi g tt te vs σ H Q = wi σ H fun J H1 => lcBody g tt te vs σ Q J H1 := rfl
def forBody (g : TG) (tb : TS) (D : Ends) (σ : L2.St) (J : It) (H1 : Hp) : Prop := ∃ W : Nat → Nat → L2.St → Hp → Prop, (∃ m, W 0 m σ H1) ∧ ∀ i m σ H, W i m σ H →
  (J.stop i H ∧ D.nx σ H) ∨ (J.go i H ∧ ∃ N : L2.St → Hp → Prop, (∀ σ' H', N σ' H' → ∃ m', m' < m ∧ W (i + 1) m' σ' H') ∧ ∀ x H', J.yld i H x H' → g x σ H' fun σ2 H2 => tb { D with nx := N, ct := N, bk := D.nx } σ2 H2)
theorem e_forE {K : PySem.W.Frag} {ta : TA} {g : TG} {tb : TS} {D : Ends} {σ : L2.St} {H : Hp} : tFor (iEnum K ta) g tb D σ H = iEnum K ta σ H fun J H1 => forBody g tb D σ J H1 := rfl
theorem e_for2 {ta : TA} {g : TG} {tb : TS} {D : Ends} {σ : L2.St} {H : Hp} : tFor (iRng2 ta) g tb D σ H = iRng2 ta σ H fun J H1 => forBody g tb D σ J H1 := rfl
theorem e_forZ {K : PySem.W.Frag} {ta : TA} {g : TG} {tb : TS} {D : Ends} {σ : L2.St} {H : Hp} : tFor (iZip K ta) g tb D σ H = iZip K ta σ H fun J H1 => forBody g tb D σ J H1 := rfl
/-- the list of what is known of each -/
theorem lcM {J : It} {n : Nat} {G : Hp → Prop} {Y : Nat → Hp → V → Hp → Prop} (w : Walk J n G Y) {g : TG} {tt : TT} {te : TE} {vs : List Nat} {σ : L2.St} {Q : VK} {H1 : Hp} (ys : List V) (hn : ys.length = n) (hl : ys.length < 16777216) (ht : tt = tYes) (hG : ∀ H, Fr [] H1 H → G H)
    (hs : ∀ i y v H H' (R : VK), ys[i]? = some y → Fr [] H1 H → Y i H v H' → (∀ H4, Fr [] H H4 → R y H4) → g v (wipe σ vs) H' fun σ2 H2 => wipe σ2 vs = wipe σ vs ∧ te σ2 H2 R)
    (hd : ∀ D H, H1 D = none → Fr [] H1 H → H D = some (.lst ys) → Q (.ref D) H) : lcBody g tt te vs σ Q J H1 := by
  subst ht
  intro D hD
  refine lc_it w (fun i H => i ≤ n ∧ H D = some (.lst (ys.take i)) ∧ Fr [] H1 H) ⟨Nat.zero_le _, upd_same, fr1 hD⟩ (fun i H _ hP => hG H hP.2.2) (fun i x H H' hi hP hY => ?_) (fun H hP => ?_)
  · obtain ⟨hin, hDy, f⟩ := hP
    have hlt : i < ys.length := by omega
    exact hs i ys[i] x H H' _ (List.getElem?_eq_getElem hlt) f hY fun H4 f4 => ⟨_, f4.get (by simp) hDy, by rw [List.length_take, line]; omega, by omega, by rw [upd_same, List.take_add_one, List.getElem?_eq_getElem hlt]; rfl, (f.trans f4).own (.inr hD)⟩
  · obtain ⟨_, hDy, f⟩ := hP
    exact hd D H hD f (by rw [hDy, ← hn, List.take_length])
/-- a target of two, three names -/
theorem tgt2 {K : PySem.W.Frag} {n i j : Nat} {T : Addr} {x y : V} {σ : L2.St} {H : Hp} {Q : L2.St → Hp → Prop} (hT : H T = some (.tup [x, y])) (hn : 2 = n) (q : Q ((σ.set i (some x)).set j (some y)) H) : gTup K n (gCons (gName i) (gCons (gName j) gNil)) (.ref T) σ H Q :=
  ⟨T, [x, y], rfl, SqT.of hT, hn, x, [y], rfl, y, [], rfl, rfl, q⟩
theorem tgt3 {K : PySem.W.Frag} {n i j k : Nat} {T : Addr} {x y z : V} {σ : L2.St} {H : Hp} {Q : L2.St → Hp → Prop} (hT : H T = some (.tup [x, y, z])) (hn : 3 = n) (q : Q (((σ.set i (some x)).set j (some y)).set k (some z)) H) : gTup K n (gCons (gName i) (gCons (gName j) (gCons (gName k) gNil))) (.ref T) σ H Q :=
  ⟨T, [x, y, z], rfl, SqT.of hT, hn, x, [y, z], rfl, y, [z], rfl, z, [], rfl, rfl, q⟩
theorem walk_zip3 {K : PySem.W.Frag} {a b c : Addr} {xs ys us : List V} {n : Nat} (h1 : xs.length = n) (h2 : ys.length = n) (h3 : us.length = n) : Walk (Itz3 K a b c) n (fun H => SqL K H a xs ∧ SqL K H b ys ∧ SqL K H c us)
    (fun i H v H' => ∃ T x y u, v = .ref T ∧ H T = none ∧ H' = upd H T (.tup [x, y, u]) ∧ xs[i]? = some x ∧ ys[i]? = some y ∧ us[i]? = some u) where
  goes := fun i H hi ⟨h4, h5, h6⟩ => ⟨xs, ys, us, xs[i], ys[i], us[i], h4, h5, h6, List.getElem?_eq_getElem (by omega), List.getElem?_eq_getElem (by omega), List.getElem?_eq_getElem (by omega)⟩
  stops := fun H ⟨h4, h5, h6⟩ => ⟨xs, ys, us, h4, h5, h6, by omega, by omega, by omega, by omega⟩
  yields := fun i H v H' hi ⟨h4, h5, h6⟩ ⟨T, x, y, u, e1, e2, e3, k1, k2, k3⟩ => ⟨T, x, y, u, e1, e2, e3, k1 _ h4, k2 _ h5, k3 _ h6⟩
/-! ### sum of a list of whole numbers -/
def intsOf : List V → Option (List Int)
  | [] => some []
  | .int i :: r => (intsOf r).map fun l => i :: l
  | _ => none
theorem intsOf_map : ∀ ns : List Int, intsOf (ns.map V.int) = some ns
  | [] => rfl
  | i :: r => by
    show (intsOf (r.map V.int)).map (fun l => i :: l) = some (i :: r)
    rw [intsOf_map r]; rfl
theorem intsOf_some : ∀ {xs : List V} {ns : List Int}, intsOf xs = some ns → xs = ns.map V.int
  | [], ns, h => by cases h; rfl
  | .int i :: r, ns, h => by
    have h : (intsOf r).map (fun l => i :: l) = some ns := h
    cases e : intsOf r with
    | none => rw [e] at h; cases h
    | some z => rw [e] at h; cases h; rw [intsOf_some e]; rfl
  | .non :: _, _, h => by cases h
  | .bl _ :: _, _, h => by cases h
  | .str _ :: _, _, h => by cases h
  | .byt _ :: _, _, h => by cases h
  | .flt _ :: _, _, h => by cases h
  | .ref _ :: _, _, h => by cases h
  | .ty _ :: _, _, h => by cases h
def rSumU : List V → Hp → VK → Prop := fun vs H Q => match vs with
  | [.ref p] => optE ((H p).bind lstOf) fun xs => optE (intsOf xs) fun ns => Q (.int ns.sum) H
  | _ => False
theorem c_sum {X : Cx} (hc : X.calm = true) : CallR X (.builtin "sum") rSumU := CallR.imp (cr_sum hc) (fun vs H Q h => by
  unfold rSumU at h
  split at h
  · obtain ⟨xs, h1, ns, h2, q⟩ := h
    have e := lstOf_bind h1
    rw [intsOf_some h2] at e
    exact ⟨_, ns, rfl, SqL.of e, q⟩
  · exact h.elim)
theorem e_sum {p : Addr} {H : Hp} {Q : VK} : rSumU [.ref p] H Q = optE ((H p).bind lstOf) fun xs => optE (intsOf xs) fun ns => Q (.int ns.sum) H := rfl
theorem int_at {ns : List Int} {i : Int} (h0 : 0 ≤ i) (h1 : i < ns.length) : atI (ns.map V.int) i = some (.int (ns.getD i.toNat 0)) := by
  obtain ⟨n, rfl⟩ := Int.eq_ofNat_of_zero_le h0
  have hn : n < ns.length := by omega
  refine atI_nat ?_
  rw [List.getElem?_map, List.getElem?_eq_getElem hn]
  simp [List.getD, List.getElem?_eq_getElem hn]
theorem atI_lastV {α : Type} {l : List α} {c : α} : atI (l ++ [c]) (-1) = some c := by
  unfold atI ixN
  rw [if_neg (by decide), if_pos (by simp; omega)]
  have e : ((-1 : Int) + ((l ++ [c]).length : Nat)).toNat = l.length := by simp; omega
  rw [e]
  simp
end U
namespace U
open PySem PySem.Spec PyProof.Rows L2
theorem pe_fldK {X : Cx} {K : PySem.W.Frag} {e : Expr} {ta : TE} {f : Str} (hK : X.K = K) (h : PE X e (tFld X.K ta f)) : PE X e (tFld K ta f) := hK ▸ h
theorem pg_tupK {X : Cx} {K : PySem.W.Frag} {e : Expr} {n : Nat} {t : TGs} (hK : X.K = K) (h : PG X e (gTup X.K n t)) : PG X e (gTup K n t) := hK ▸ h
end U

namespace U
open PySem PySem.Spec PyProof.Rows L2
/-! ### the counts, as the program builds them: by their places -/
abbrev iv (l : List Int) : List V := l.map V.int
def sq (n : Nat) (F : Nat → Int) : List Int := (List.range n).map F
theorem sq_len {n : Nat} {F : Nat → Int} : (sq n F).length = n := by unfold sq; simp
theorem sq_get {n : Nat} {F : Nat → Int} {i : Nat} (h : i < n) : (sq n F).getD i 0 = F i := by
  unfold sq
  simp [List.getD, List.getElem?_map, List.getElem?_range h]
theorem sq_succ {n : Nat} {F : Nat → Int} : sq (n + 1) F = sq n F ++ [F n] := by
  unfold sq
  rw [List.range_succ, List.map_append]; rfl
theorem iv_app {a b : List Int} : iv a ++ iv b = iv (a ++ b) := (List.map_append ..).symm
theorem iv_len {a : List Int} : (iv a).length = a.length := List.length_map ..
theorem iv_at {T : List Int} {i : Nat} {y : V} (h : (iv T)[i]? = some y) : i < T.length ∧ y = .int (T.getD i 0) := by
  rw [List.getElem?_map] at h
  cases e : T[i]? with
  | none => rw [e] at h; cases h
  | some z =>
    rw [e] at h
    obtain ⟨hi, e2⟩ := List.getElem?_eq_some_iff.mp e
    refine ⟨hi, ?_⟩
    cases h
    simp [List.getD, e]
theorem iv_ix {T : List Int} {i : Int} (h0 : 0 ≤ i) (h1 : i < T.length) : atI (iv T) i = some (.int (T.getD i.toNat 0)) := int_at h0 h1
theorem sq_ix {n : Nat} {F : Nat → Int} {i : Int} (h0 : 0 ≤ i) (h1 : i < n) : atI (iv (sq n F)) i = some (.int (F i.toNat)) := by
  rw [iv_ix h0 (by rw [sq_len]; exact h1), sq_get (by omega)]
theorem sq_at {n : Nat} {F : Nat → Int} {i : Nat} {y : V} (h : (iv (sq n F))[i]? = some y) : i < n ∧ y = .int (F i) := by
  obtain ⟨h1, h2⟩ := iv_at h
  rw [sq_len] at h1
  rw [sq_get h1] at h2
  exact ⟨h1, h2⟩
theorem sq_last {n : Nat} {F : Nat → Int} : atI (iv (sq (n + 1) F)) (-1) = some (.int (F n)) := by
  rw [sq_succ, ← iv_app]; exact atI_lastV
theorem sq_ext {n : Nat} {F G : Nat → Int} (h : ∀ i, i < n → F i = G i) : sq n F = sq n G := by
  unfold sq
  apply List.map_congr_left
  intro i hi
  exact h i (List.mem_range.mp hi)
theorem list_sq (l : List Int) : l = sq l.length (fun i => l.getD i 0) := by
  apply List.ext_getElem
  · rw [sq_len]
  · intro i h1 h2
    unfold sq
    simp [List.getD, List.getElem?_eq_getElem h1]
theorem sq_set {n k : Nat} {F : Nat → Int} {v : Int} (h : k < n) : (sq n F).set k v = sq n (fun i => if i = k then v else F i) := by
  apply List.ext_getElem
  · simp [sq]
  · intro i h1 h2
    simp only [sq, List.getElem_set, List.getElem_map, List.getElem_range]
    by_cases e : k = i
    · subst e; simp
    · simp [e, Ne.symm e]
def entF (F : Nat → Int) (i : Int) : Int := if i < 0 then 0 else F i.toNat
def gsF (T : Nat → Int) : Nat → Int × Int
  | 0 => (0, T 0)
  | k + 1 => ((gsF T k).1 + 9 * (gsF T k).2, T (k + 1) + ((gsF T k).1 + 9 * (gsF T k).2))
def goF (T : Nat → Int) (k : Nat) : Int := (gsF T k).1
def stF (T : Nat → Int) (k : Nat) : Int := (gsF T k).2
theorem goF_s {T : Nat → Int} {k : Nat} : goF T (k + 1) = goF T k + 9 * stF T k := rfl
theorem stF_s {T : Nat → Int} {k : Nat} : stF T (k + 1) = T (k + 1) + goF T (k + 1) := rfl
def copF : Nat → Int
  | 0 => 1
  | k + 1 => if k + 1 < 4 then 1 else if k + 1 = 4 then 9 else 10 * copF k + 9
def yearF (i : Nat) : Int := copF i + 2000 * entF copF ((i : Int) - 5)
def makF (G : Nat → Int) (i : Nat) : Int := yearF i + 26 * entF G ((i : Int) - 2)
def endF : Nat → Nat → Int
  | 0 => yearF
  | k + 1 => makF (goF (endF k))
def numF (i : Nat) : Int := endF 3 i + entF (goF (endF 3)) ((i : Int) - 1)
def lonF (F : Nat → Int) (k : Nat) (S : Nat → Int) (i : Nat) : Int := (sq k fun z => S z * entF F ((i : Int) - (z : Int))).sum
def wordF : Nat → Int := lonF numF 5 (fun z => [0, 9, 90, 900, 9000].getD z 0)
def sigF : Nat → Int := lonF wordF 4 (fun z => [0, 26, 676, 17576].getD z 0)
/-! ### as the law counts -/
def behF (A O : Nat → Int) : Nat → Nat → Int
  | 0, _ => 0
  | i + 1, m => behF A O i m + (if A i > 0 ∧ i ≤ m then A i * O (m - i) else 0)
def behL (A O : List Int) : List Int := sq 61 (behF (fun i => A.getD i 0) (fun i => O.getD i 0) A.length)
def lngL (T : List Int) : List Int := (T ++ List.replicate 61 0).take 61
def add3 (A B C : List Int) : List Int := sq A.length fun i => A.getD i 0 + B.getD i 0 + C.getD i 0
/-! ### their values -/
def l_cop : List Int := [1, 1, 1, 1, 9, 99, 999, 9999, 99999, 999999, 9999999, 99999999, 999999999, 9999999999, 99999999999, 999999999999, 9999999999999, 99999999999999, 999999999999999, 9999999999999999, 99999999999999999, 999999999999999999, 9999999999999999999, 99999999999999999999, 999999999999999999999, 9999999999999999999999, 99999999999999999999999, 999999999999999999999999, 9999999999999999999999999, 99999999999999999999999999, 999999999999999999999999999, 9999999999999999999999999999, 99999999999999999999999999999, 999999999999999999999999999999, 9999999999999999999999999999999, 99999999999999999999999999999999, 999999999999999999999999999999999, 9999999999999999999999999999999999, 99999999999999999999999999999999999, 999999999999999999999999999999999999, 9999999999999999999999999999999999999, 99999999999999999999999999999999999999, 999999999999999999999999999999999999999, 9999999999999999999999999999999999999999, 99999999999999999999999999999999999999999, 999999999999999999999999999999999999999999, 9999999999999999999999999999999999999999999, 99999999999999999999999999999999999999999999, 999999999999999999999999999999999999999999999, 9999999999999999999999999999999999999999999999, 99999999999999999999999999999999999999999999999, 999999999999999999999999999999999999999999999999, 9999999999999999999999999999999999999999999999999, 99999999999999999999999999999999999999999999999999, 999999999999999999999999999999999999999999999999999, 9999999999999999999999999999999999999999999999999999, 99999999999999999999999999999999999999999999999999999, 999999999999999999999999999999999999999999999999999999, 9999999999999999999999999999999999999999999999999999999, 99999999999999999999999999999999999999999999999999999999, 999999999999999999999999999999999999999999999999999999999]
def l_year : List Int := [1, 1, 1, 1, 9, 2099, 2999, 11999, 101999, 1017999, 10197999, 101997999, 1019997999, 10199997999, 101999997999, 1019999997999, 10199999997999, 101999999997999, 1019999999997999, 10199999999997999, 101999999999997999, 1019999999999997999, 10199999999999997999, 101999999999999997999, 1019999999999999997999, 10199999999999999997999, 101999999999999999997999, 1019999999999999999997999, 10199999999999999999997999, 101999999999999999999997999, 1019999999999999999999997999, 10199999999999999999999997999, 101999999999999999999999997999, 1019999999999999999999999997999, 10199999999999999999999999997999, 101999999999999999999999999997999, 1019999999999999999999999999997999, 10199999999999999999999999999997999, 101999999999999999999999999999997999, 1019999999999999999999999999999997999, 10199999999999999999999999999999997999, 101999999999999999999999999999999997999, 1019999999999999999999999999999999997999, 10199999999999999999999999999999999997999, 101999999999999999999999999999999999997999, 1019999999999999999999999999999999999997999, 10199999999999999999999999999999999999997999, 101999999999999999999999999999999999999997999, 1019999999999999999999999999999999999999997999, 10199999999999999999999999999999999999999997999, 101999999999999999999999999999999999999999997999, 1019999999999999999999999999999999999999999997999, 10199999999999999999999999999999999999999999997999, 101999999999999999999999999999999999999999999997999, 1019999999999999999999999999999999999999999999997999, 10199999999999999999999999999999999999999999999997999, 101999999999999999999999999999999999999999999999997999, 1019999999999999999999999999999999999999999999999997999, 10199999999999999999999999999999999999999999999999997999, 101999999999999999999999999999999999999999999999999997999, 1019999999999999999999999999999999999999999999999999997999]
def l_m1 : List Int := [1, 1, 1, 235, 2583, 28073, 262973, 2613845, 26611625, 266816025, 2670986025, 26733746025, 267575690025, 2678143250025, 26805300050025, 268291680050025, 2685303600050025, 26876904000050025, 269007720000050025, 2692464000000050025, 26948508000000050025, 269723760000000050025, 2699624400000000050025, 27020112000000000050025, 270439800000000000050025, 2706784800000000000050025, 27091716000000000000050025, 271155840000000000000050025, 2713945200000000000000050025, 27163320000000000000000050025, 271871880000000000000000050025, 2721105600000000000000000050025, 27234924000000000000000000050025, 272587920000000000000000000050025, 2728266000000000000000000000050025, 27306528000000000000000000000050025, 273303960000000000000000000000050025, 2735426400000000000000000000000050025, 27378132000000000000000000000000050025, 274020000000000000000000000000000050025, 2742586800000000000000000000000000050025, 27449736000000000000000000000000000050025, 274736040000000000000000000000000000050025, 2749747200000000000000000000000000000050025, 27521340000000000000000000000000000000050025, 275452080000000000000000000000000000000050025, 2756907600000000000000000000000000000000050025, 27592944000000000000000000000000000000000050025, 276168120000000000000000000000000000000000050025, 2764068000000000000000000000000000000000000050025, 27664548000000000000000000000000000000000000050025, 276884160000000000000000000000000000000000000050025, 2771228400000000000000000000000000000000000000050025, 27736152000000000000000000000000000000000000000050025, 277600200000000000000000000000000000000000000000050025, 2778388800000000000000000000000000000000000000000050025, 27807756000000000000000000000000000000000000000000050025, 278316240000000000000000000000000000000000000000000050025, 2785549200000000000000000000000000000000000000000000050025, 27879360000000000000000000000000000000000000000000000050025, 279032280000000000000000000000000000000000000000000000050025]
def l_m2 : List Int := [1, 1, 1, 235, 2583, 28073, 317729, 3763721, 44188301, 503416701, 5645824749, 62685385749, 689288825349, 7517899001349, 81434686601349, 876959577497349, 9396281295497349, 100235253166697349, 1065132784798697349, 11279688890398697349, 119086084439998697349, 1253808650879998697349, 13168123084799998697349, 137987181719999998697349, 1442987177039999998697349, 15061583879999999998697349, 156938545007999999998697349, 1632668363279999999998697349, 16960071275999999999998697349, 175940174303999999999998697349, 1822852209599999999999998697349, 18863585272799999999999998697349, 194992069607999999999999998697349, 2013538715999999999999999998697349, 20772125870399999999999999998697349, 214094230919999999999999999998697349, 2204727882479999999999999999998697349, 22685693068799999999999999999998697349, 233246658239999999999999999999998697349, 2396419709039999999999999999999998697349, 24604286867999999999999999999999998697349, 252449351567999999999999999999999998697349, 2588614195679999999999999999999999998697349, 26527907267999999999999999999999999998697349, 271702310903999999999999999999999999998697349, 2781311342399999999999999999999999999998697349, 28456554268799999999999999999999999999998697349, 291005536247999999999999999999999999999998697349, 2974511149199999999999999999999999999999998697349, 30390227870399999999999999999999999999999998697349, 310359027599999999999999999999999999999999998697349, 3168213616079999999999999999999999999999999998697349, 32328928072799999999999999999999999999999999998697349, 329762784959999999999999999999999999999999999998697349, 3362418743039999999999999999999999999999999999998697349, 34272654875999999999999999999999999999999999999998697349, 349216808327999999999999999999999999999999999999998697349, 3557126530079999999999999999999999999999999999999998697349, 36221408279999999999999999999999999999999999999999998697349, 368721097703999999999999999999999999999999999999999998697349, 3752336977199999999999999999999999999999999999999999998697349]
def l_m3 : List Int := [1, 1, 1, 235, 2583, 28073, 317729, 3763721, 44188301, 516229605, 6043024773, 70770328173, 825502807773, 9576151087005, 110429891153325, 1265592496682925, 14415113333162925, 163206849996362925, 1837277041098026925, 20571500234126666925, 229170051582273866925, 2540941587465633866925, 28048863075009633866925, 308354774509056033866925, 3376938969396480033866925, 36850730495808000033866925, 400796305480560000033866925, 4345622054232960000033866925, 46980631170249600000033866925, 506529931234368000000033866925, 5447343709351200000000033866925, 58442093772096000000000033866925, 625590938508096000000000033866925, 6682456802127360000000000033866925, 71238646975108800000000000033866925, 758014614039360000000000000033866925, 8051314199937600000000000000033866925, 85373819453049600000000000000033866925, 903836244565776000000000000000033866925, 9554268770158080000000000000000033866925, 100851139879680000000000000000000033866925, 1063091116824960000000000000000000033866925, 11191673380164960000000000000000000033866925, 117674136928761600000000000000000000033866925, 1235814517554528000000000000000000000033866925, 12963880897334400000000000000000000000033866925, 135846339274056000000000000000000000000033866925, 1422041733492096000000000000000000000000033866925, 14871244189042560000000000000000000000000033866925, 155371275589324800000000000000000000000000033866925, 1621808051375280000000000000000000000000000033866925, 16914116122665600000000000000000000000000000033866925, 176252474548329600000000000000000000000000000033866925, 1835148757941696000000000000000000000000000000033866925, 19092849565579680000000000000000000000000000000033866925, 198493464824832000000000000000000000000000000000033866925, 2062099139928960000000000000000000000000000000000033866925, 21407797385160960000000000000000000000000000000000033866925, 222097775092593600000000000000000000000000000000000033866925, 2302694484074688000000000000000000000000000000000000033866925, 23859312448785600000000000000000000000000000000000000033866925]
def l_g0 : List Int := [0, 9, 99, 999, 9999, 100071, 1019601, 10223001, 102338001, 1024298001, 10252142001, 102613202001, 1027050002001, 10279680002001, 102888600002001, 1029804000002001, 10307220000002001, 103164000000002001, 1032558000000002001, 10334760000000002001, 103439400000000002001, 1035312000000000002001, 10362300000000000002001, 103714800000000000002001, 1038066000000000000002001, 10389840000000000000002001, 103990200000000000000002001, 1040820000000000000000002001, 10417380000000000000000002001, 104265600000000000000000002001, 1043574000000000000000000002001, 10444920000000000000000000002001, 104541000000000000000000000002001, 1046328000000000000000000000002001, 10472460000000000000000000000002001, 104816400000000000000000000000002001, 1049082000000000000000000000000002001, 10500000000000000000000000000000002001, 105091800000000000000000000000000002001, 1051836000000000000000000000000000002001, 10527540000000000000000000000000000002001, 105367200000000000000000000000000000002001, 1054590000000000000000000000000000000002001, 10555080000000000000000000000000000000002001, 105642600000000000000000000000000000000002001, 1057344000000000000000000000000000000000002001, 10582620000000000000000000000000000000000002001, 105918000000000000000000000000000000000000002001, 1060098000000000000000000000000000000000000002001, 10610160000000000000000000000000000000000000002001, 106193400000000000000000000000000000000000000002001, 1062852000000000000000000000000000000000000000002001, 10637700000000000000000000000000000000000000000002001, 106468800000000000000000000000000000000000000000002001, 1065606000000000000000000000000000000000000000000002001, 10665240000000000000000000000000000000000000000000002001, 106744200000000000000000000000000000000000000000000002001, 1068360000000000000000000000000000000000000000000000002001, 10692780000000000000000000000000000000000000000000000002001, 107019600000000000000000000000000000000000000000000000002001, 1071114000000000000000000000000000000000000000000000000002001]
def l_s0 : List Int := [1, 10, 100, 1000, 10008, 102170, 1022600, 10235000, 102440000, 1025316000, 10262340000, 102715200000, 1028070000000, 10289880000000, 102990600000000, 1030824000000000, 10317420000000000, 103266000000000000, 1033578000000000000, 10344960000000000000, 103541400000000000000, 1036332000000000000000, 10372500000000000000000, 103816800000000000000000, 1039086000000000000000000, 10400040000000000000000000, 104092200000000000000000000, 1041840000000000000000000000, 10427580000000000000000000000, 104367600000000000000000000000, 1044594000000000000000000000000, 10455120000000000000000000000000, 104643000000000000000000000000000, 1047348000000000000000000000000000, 10482660000000000000000000000000000, 104918400000000000000000000000000000, 1050102000000000000000000000000000000, 10510200000000000000000000000000000000, 105193800000000000000000000000000000000, 1052856000000000000000000000000000000000, 10537740000000000000000000000000000000000, 105469200000000000000000000000000000000000, 1055610000000000000000000000000000000000000, 10565280000000000000000000000000000000000000, 105744600000000000000000000000000000000000000, 1058364000000000000000000000000000000000000000, 10592820000000000000000000000000000000000000000, 106020000000000000000000000000000000000000000000, 1061118000000000000000000000000000000000000000000, 10620360000000000000000000000000000000000000000000, 106295400000000000000000000000000000000000000000000, 1063872000000000000000000000000000000000000000000000, 10647900000000000000000000000000000000000000000000000, 106570800000000000000000000000000000000000000000000000, 1066626000000000000000000000000000000000000000000000000, 10675440000000000000000000000000000000000000000000000000, 106846200000000000000000000000000000000000000000000000000, 1069380000000000000000000000000000000000000000000000000000, 10702980000000000000000000000000000000000000000000000000000, 107121600000000000000000000000000000000000000000000000000000, 1072134000000000000000000000000000000000000000000000000000000]
def l_g1 : List Int := [0, 9, 99, 999, 12105, 144297, 1695627, 19323027, 216754875, 2407053375, 26471877975, 288757653975, 3128180253975, 33689983749975, 361003126749975, 3851278967949975, 40927414799949975, 433441880399949975, 4576310939999949975, 48184178879999949975, 506073964799999949975, 5303276219999999949975, 55460276039999999949975, 578899379999999999949975, 6032174807999999999949975, 62755706279999999999949975, 651918125999999999999949975, 6763006703999999999999949975, 70070469599999999999999949975, 725130202799999999999999949975, 7495771907999999999999999949975, 77404565999999999999999999949975, 798535610399999999999999999949975, 8230470419999999999999999999949975, 84757995479999999999999999999949975, 872134348799999999999999999999949975, 8967102239999999999999999999999949975, 92130758039999999999999999999999949975, 945926417999999999999999999999999949975, 9705667367999999999999999999999999949975, 99522853679999999999999999999999999949975, 1019911817999999999999999999999999999949975, 10446165803999999999999999999999999999949975, 106934282399999999999999999999999999999949975, 1094090548799999999999999999999999999999949975, 11188597547999999999999999999999999999999949975, 114365044199999999999999999999999999999999949975, 1168462610399999999999999999999999999999999949975, 11932962599999999999999999999999999999999999949975, 121815139079999999999999999999999999999999999949975, 1243028002799999999999999999999999999999999999949975, 12679260959999999999999999999999999999999999999949975, 129284567039999999999999999999999999999999999999949975, 1317786725999999999999999999999999999999999999999949975, 13427492627999999999999999999999999999999999999999949975, 136773328079999999999999999999999999999999999999999949975, 1392738779999999999999999999999999999999999999999999949975, 14177657603999999999999999999999999999999999999999999949975, 144281422199999999999999999999999999999999999999999999949975, 1467884164799999999999999999999999999999999999999999999949975, 14929755887999999999999999999999999999999999999999999999949975]
def l_s1 : List Int := [1, 10, 100, 1234, 14688, 172370, 1958600, 21936872, 243366500, 2673869400, 29142864000, 315491400000, 3395755944000, 36368127000000, 387808426800000, 4119570648000000, 43612718400000000, 460318784400000000, 4845318660000000000, 50876642880000000000, 533022472800000000000, 5572999980000000000000, 58159900440000000000000, 605919492000000000000000, 6302614608000000000000000, 65462491080000000000000000, 679009842000000000000000000, 7034162544000000000000000000, 72784414800000000000000000000, 752293522800000000000000000000, 7767643788000000000000000000000, 80125671600000000000000000000000, 825770534400000000000000000000000, 8503058340000000000000000000000000, 87486261480000000000000000000000000, 899440876800000000000000000000000000, 9240406200000000000000000000000000000, 94866184440000000000000000000000000000, 973304550000000000000000000000000000000, 9979687368000000000000000000000000000000, 102265440480000000000000000000000000000000, 1047361554000000000000000000000000000000000, 10720901844000000000000000000000000000000000, 109684029600000000000000000000000000000000000, 1121611888800000000000000000000000000000000000, 11464049628000000000000000000000000000000000000, 117121951800000000000000000000000000000000000000, 1196055554400000000000000000000000000000000000000, 12209130720000000000000000000000000000000000000000, 124579207080000000000000000000000000000000000000000, 1270692550800000000000000000000000000000000000000000, 12956145120000000000000000000000000000000000000000000, 132055795440000000000000000000000000000000000000000000, 1345522878000000000000000000000000000000000000000000000, 13705092828000000000000000000000000000000000000000000000, 139551716880000000000000000000000000000000000000000000000, 1420546536000000000000000000000000000000000000000000000000, 14455973844000000000000000000000000000000000000000000000000, 147066971400000000000000000000000000000000000000000000000000, 1495763524800000000000000000000000000000000000000000000000000, 15208788168000000000000000000000000000000000000000000000000000]
def l_g2 : List Int := [0, 9, 99, 999, 12105, 144297, 1695627, 19815831, 232031799, 2718012699, 31710877299, 367921195731, 4243380429051, 48637403718651, 554035128198651, 6273263461398651, 70625270811462651, 790819239774102651, 8810309676241302651, 97689291825601302651, 1078410118269601302651, 11855875942656001302651, 129843037284480001302651, 1416943480608000001302651, 15411319441560000001302651, 167100079008960000001302651, 1806555045009600000001302651, 19477997355168000000001302651, 209473988821200000000001302651, 2247380529696000000000001302651, 24057266865696000000000001302651, 256978338543360000000000001302651, 2739555652888800000000000001302651, 29150485155360000000000000001302651, 309626699997600000000000000001302651, 3283216132809600000000000000001302651, 34759009406376000000000000000001302651, 367432645006080000000000000000001302651, 3878497687680000000000000000000001302651, 40884196800960000000000000000000001302651, 430409745390960000000000000000000001302651, 4525536035721600000000000000000000001302651, 47527404521328000000000000000000000001302651, 498571572974400000000000000000000000001302651, 5224466895156000000000000000000000000001302651, 54689989749696000000000000000000000000001302651, 571931699578560000000000000000000000000001302651, 5975425984204800000000000000000000000000001302651, 62373309668280000000000000000000000000000001302651, 650503697025600000000000000000000000000000001302651, 6778549021089600000000000000000000000000000001302651, 70578721459296000000000000000000000000000000001302651, 734301137137680000000000000000000000000000000001302651, 7633971724032000000000000000000000000000000000001302651, 79307582304960000000000000000000000000000000000001302651, 823337591736960000000000000000000000000000000000001302651, 8541829811253600000000000000000000000000000000000001302651, 88561249387488000000000000000000000000000000000000001302651, 917626632645600000000000000000000000000000000000000001302651, 9502259000976000000000000000000000000000000000000000001302651, 98341079889096000000000000000000000000000000000000000001302651]
def l_s2 : List Int := [1, 10, 100, 1234, 14688, 172370, 2013356, 23579552, 276220100, 3221429400, 37356702048, 430606581480, 4932669254400, 56155302720000, 635469814800000, 7150223038896000, 80021552106960000, 891054492940800000, 9875442461040000000, 108968980716000000000, 1197496202709600000000, 13109684593536000000000, 143011160369280000000000, 1554930662328000000000000, 16854306618600000000000000, 182161662888960000000000000, 1963493590017600000000000000, 21110665718448000000000000000, 226434060097200000000000000000, 2423320704000000000000000000000, 25880119075296000000000000000000, 275841923816160000000000000000000, 2934547722496800000000000000000000, 31164023871360000000000000000000000, 330398825868000000000000000000000000, 3497310363729600000000000000000000000, 36963737288856000000000000000000000000, 390118338074880000000000000000000000000, 4111744345920000000000000000000000000000, 43280616510000000000000000000000000000000, 455014032258960000000000000000000000000000, 4777985387289600000000000000000000000000000, 50116018717008000000000000000000000000000000, 525099480242400000000000000000000000000000000, 5496169206060000000000000000000000000000000000, 57471301092096000000000000000000000000000000000, 600388253847360000000000000000000000000000000000, 6266431520452800000000000000000000000000000000000, 65347820817480000000000000000000000000000000000000, 680893924896000000000000000000000000000000000000000, 7088908048689600000000000000000000000000000000000000, 73746935075376000000000000000000000000000000000000000, 766630065210480000000000000000000000000000000000000000, 7963734508992000000000000000000000000000000000000000000, 82670001048000000000000000000000000000000000000000000000, 857610246612960000000000000000000000000000000000000000000, 8891046619581600000000000000000000000000000000000000000000, 92118375917568000000000000000000000000000000000000000000000, 953848040925600000000000000000000000000000000000000000000000, 9870980098680000000000000000000000000000000000000000000000000, 102093416866296000000000000000000000000000000000000000000000000]
def l_pg : List Int := [0, 9, 99, 999, 12105, 144297, 1695627, 19815831, 232031799, 2718012699, 31826193435, 372649157307, 4363424526627, 51063770536227, 596823065145315, 6962099671833075, 81011329188477075, 939849311883237075, 10867354768799637075, 125209041057878613075, 1437233912685926133075, 16434869591099726133075, 187217170198187966133075, 2124611469656966366133075, 24021307667151167966133075, 270605527396079999966133075, 3037711848423071999966133075, 33984285233555759999966133075, 378953450823654239999966133075, 4212360188768788799999966133075, 46682371268797199999999966133075, 515849806072132799999999966133075, 5684476904670191999999999966133075, 62475087493274783999999999966133075, 684892986151894079999999999966133075, 7490077684294919999999999999966133075, 81722908369303439999999999999966133075, 889690911492472799999999999999966133075, 9665273490002174399999999999999966133075, 104787261101113727999999999999999966133075, 1133861029942559999999999999999999966133075, 12246270558342719999999999999999999966133075, 132030525634851839999999999999999999966133075, 1421030316770003039999999999999999999966133075, 15269370400058884799999999999999999999966133075, 163816034658579599999999999999999999999966133075, 1754835274661805599999999999999999999999966133075, 18770969800084559999999999999999999999999966133075, 200508073602274463999999999999999999999999966133075, 2138921933724127679999999999999999999999999966133075, 22787560817545199999999999999999999999999999966133075, 242471880637829519999999999999999999999999999966133075, 2576945851482285599999999999999999999999999999966133075, 27355730785757822399999999999999999999999999999966133075, 290073646679053487999999999999999999999999999999966133075, 3072572112880751999999999999999999999999999999999966133075, 32512162312231007999999999999999999999999999999999966133075, 343680515381670719999999999999999999999999999999999966133075, 3629475330283155839999999999999999999999999999999999966133075, 38293633278664900799999999999999999999999999999999999966133075, 403660583143321199999999999999999999999999999999999999966133075]
def l_ps : List Int := [1, 10, 100, 1234, 14688, 172370, 2013356, 23579552, 276220100, 3234242304, 37869218208, 443419485480, 5188927334400, 60639921623232, 707252956298640, 8227692168516000, 95426442521640000, 1103056161879600000, 12704631809897664000, 145780541292005280000, 1666403964268200000000, 18975811178565360000000, 215266033273197600000000, 2432966244166022400000000, 27398246636547648000000000, 307456257891888000000000000, 3438508153903632000000000000, 38329907287788720000000000000, 425934081993903840000000000000, 4718890120003156800000000000000, 52129714978148400000000000000000, 574291899844228800000000000000000, 6310067843178288000000000000000000, 69157544295402144000000000000000000, 756131633127002880000000000000000000, 8248092298334280000000000000000000000, 89774222569241040000000000000000000000, 975064730945522400000000000000000000000, 10569109734567950400000000000000000000000, 114341529871271808000000000000000000000000, 1234712169822240000000000000000000000000000, 13309361675167680000000000000000000000000000, 143222199015016800000000000000000000000000000, 1538704453698764640000000000000000000000000000, 16505184917613412800000000000000000000000000000, 176779915555914000000000000000000000000000000000, 1890681613935861600000000000000000000000000000000, 20193011533576656000000000000000000000000000000000, 215379317791317024000000000000000000000000000000000, 2294293209313452480000000000000000000000000000000000, 24409368868920480000000000000000000000000000000000000, 259385996760495120000000000000000000000000000000000000, 2753198326030615200000000000000000000000000000000000000, 29190879543699518400000000000000000000000000000000000000, 309166496244633168000000000000000000000000000000000000000, 3271065577705584000000000000000000000000000000000000000000, 34574261452159968000000000000000000000000000000000000000000, 365088312766831680000000000000000000000000000000000000000000, 3851573105375749440000000000000000000000000000000000000000000, 40596327762739588800000000000000000000000000000000000000000000, 427519895592106800000000000000000000000000000000000000000000000]
def l_num : List Int := [1, 1, 10, 334, 3582, 40178, 462026, 5459348, 64004132, 748261404, 8761037472, 102596521608, 1198151965080, 13939575613632, 161493661689552, 1862415561828240, 21377213004996000, 244218179184840000, 2777126352981264000, 31438855002926304000, 354379092640152480000, 3978175500151560000000, 44483732666109360000000, 495571944707244000000000, 5501550439053446400000000, 60872038162959168000000000, 671401832876640000000000000, 7383333902656032000000000000, 80964916403805360000000000000, 885483382058022240000000000000, 9659703898119988800000000000000, 105124465040893200000000000000000, 1141440744580228800000000000000000, 12366933706797552000000000000000000, 133713734468383584000000000000000000, 1442907600191254080000000000000000000, 15541391884232520000000000000000000000, 167096727822353040000000000000000000000, 1793527156058248800000000000000000000000, 19219542260160254400000000000000000000000, 205638400980793728000000000000000000000000, 2196952146767520000000000000000000000000000, 23437943938507680000000000000000000000000000, 249704662563613440000000000000000000000000000, 2656844834324531040000000000000000000000000000, 28233251297393284800000000000000000000000000000, 299662373932635600000000000000000000000000000000, 3176877008153901600000000000000000000000000000000, 33642213989127120000000000000000000000000000000000, 355879349191599264000000000000000000000000000000000, 3760729985099407680000000000000000000000000000000000, 39701676940210800000000000000000000000000000000000000, 418724355186159120000000000000000000000000000000000000, 4412094609423981600000000000000000000000000000000000000, 46448580351337502400000000000000000000000000000000000000, 488567111503885488000000000000000000000000000000000000000, 5134671252809712000000000000000000000000000000000000000000, 53919959697391968000000000000000000000000000000000000000000, 565778290474264320000000000000000000000000000000000000000000, 5932169814357843840000000000000000000000000000000000000000000, 62152945727450500800000000000000000000000000000000000000000000]
def l_word : List Int := [0, 9, 99, 1080, 13806, 80298, 1074582, 14004054, 159114672, 1844803908, 21566371716, 252930714408, 2961334518552, 34636340991240, 404476064075088, 4709710223476848, 54625155346502640, 630812793652790400, 7251529743964584000, 82975005064417536000, 945082345105970496000, 10716286114371437280000, 120986804518442812800000, 1360280267411098608000000, 15233453226212814720000000, 169954367875995441600000000, 1889356227212946528000000000, 20932642828069382880000000000, 231174958380946156800000000000, 2545294291928899632000000000000, 27943809923144871360000000000000, 305949269355631012800000000000000, 3341112827685306048000000000000000, 36397252501732637280000000000000000, 395581423993282339200000000000000000, 4289864499317476656000000000000000000, 46423611541215665280000000000000000000, 501378975358028740800000000000000000000, 5404636270369685088000000000000000000000, 58153871006066567520000000000000000000000, 624652906384895097600000000000000000000000, 6698549403095167728000000000000000000000000, 71719357847847583680000000000000000000000000, 766717629879802564800000000000000000000000000, 8184759458456123712000000000000000000000000000, 87251742005210580960000000000000000000000000000, 928890988519568572800000000000000000000000000000, 9876456296123714928000000000000000000000000000000, 104883036403897054080000000000000000000000000000000, 1112494254851906827200000000000000000000000000000000, 11786864074478066016000000000000000000000000000000000, 124745596956738125280000000000000000000000000000000000, 1318852131295427308800000000000000000000000000000000000, 13929241250608264368000000000000000000000000000000000000, 146972122563654544320000000000000000000000000000000000000, 1549292750139636273600000000000000000000000000000000000000, 16316880580312360128000000000000000000000000000000000000000, 171695655111656688480000000000000000000000000000000000000000, 1805147673544936252800000000000000000000000000000000000000000, 18963109118097366192000000000000000000000000000000000000000000, 199049579474844562560000000000000000000000000000000000000000000]
def l_sign : List Int := [0, 0, 234, 8658, 253188, 2829060, 30402684, 324874836, 2501840484, 32490575208, 401661672984, 4604412581496, 53579339341632, 627026409702576, 7347917236748400, 85978959674100480, 1004646614387191776, 11713089452263164576, 136105604537037415488, 1575060952222495895040, 18146549899836358790400, 208116131176223015616000, 2375867793277496037312000, 27000633628377142171776000, 305503811553348286894080000, 3442083320867586719500800000, 38624913925713213366528000000, 431755588495625959768320000000, 4808571492914251689369600000000, 53368340519174251079808000000000, 590364053801818465927680000000000, 6510289067849212458508800000000000, 71580788986234679304192000000000000, 784831042813418780924160000000000000, 8582285194754886138700800000000000000, 93613058774393542720128000000000000000, 1018667629572166087188480000000000000000, 11059701409716151910515200000000000000000, 119816873201174506695936000000000000000000, 1295394126820045774030080000000000000000000, 13977771635820351023308800000000000000000000, 150544879454125857287808000000000000000000000, 1618540085999289437637120000000000000000000000, 17371822183157286795225600000000000000000000000, 186150648590820501239808000000000000000000000000, 1991644297252374881076480000000000000000000000000, 21277271748819224613196800000000000000000000000000, 226988675538855965983872000000000000000000000000000, 2418254789422026114293760000000000000000000000000000, 25729631416900891932940800000000000000000000000000000, 273414379095854399639808000000000000000000000000000000, 2901928830051213354113280000000000000000000000000000000, 30764504658499478278963200000000000000000000000000000000, 325784101929462571015296000000000000000000000000000000000, 3446232925383153024238080000000000000000000000000000000000, 36417587331714635244556800000000000000000000000000000000000, 384455110577351869605888000000000000000000000000000000000000, 4054742820361307755249920000000000000000000000000000000000000, 42724667681648476491801600000000000000000000000000000000000000, 449785595447218305595008000000000000000000000000000000000000000, 4731043498629386384609280000000000000000000000000000000000000000]
def l_tens : List Int := [1, 10, 100, 1000, 10000, 100000, 1000000, 10000000, 100000000, 1000000000, 10000000000, 100000000000, 1000000000000, 10000000000000, 100000000000000, 1000000000000000, 10000000000000000, 100000000000000000, 1000000000000000000, 10000000000000000000, 100000000000000000000, 1000000000000000000000, 10000000000000000000000, 100000000000000000000000, 1000000000000000000000000, 10000000000000000000000000, 100000000000000000000000000, 1000000000000000000000000000, 10000000000000000000000000000, 100000000000000000000000000000, 1000000000000000000000000000000, 10000000000000000000000000000000, 100000000000000000000000000000000, 1000000000000000000000000000000000, 10000000000000000000000000000000000, 100000000000000000000000000000000000, 1000000000000000000000000000000000000, 10000000000000000000000000000000000000, 100000000000000000000000000000000000000, 1000000000000000000000000000000000000000, 10000000000000000000000000000000000000000, 100000000000000000000000000000000000000000, 1000000000000000000000000000000000000000000, 10000000000000000000000000000000000000000000, 100000000000000000000000000000000000000000000, 1000000000000000000000000000000000000000000000, 10000000000000000000000000000000000000000000000, 100000000000000000000000000000000000000000000000, 1000000000000000000000000000000000000000000000000, 10000000000000000000000000000000000000000000000000, 100000000000000000000000000000000000000000000000000, 1000000000000000000000000000000000000000000000000000, 10000000000000000000000000000000000000000000000000000, 100000000000000000000000000000000000000000000000000000, 1000000000000000000000000000000000000000000000000000000, 10000000000000000000000000000000000000000000000000000000, 100000000000000000000000000000000000000000000000000000000, 1000000000000000000000000000000000000000000000000000000000, 10000000000000000000000000000000000000000000000000000000000, 100000000000000000000000000000000000000000000000000000000000]
def l_maker : List Int := [0, 0, 0, 234, 2340, 23400, 234000, 2340000, 23400000, 234000000, 2340000000, 23400000000, 234000000000, 2340000000000, 23400000000000, 234000000000000, 2340000000000000, 23400000000000000, 234000000000000000, 2340000000000000000, 23400000000000000000, 234000000000000000000, 2340000000000000000000, 23400000000000000000000, 234000000000000000000000, 2340000000000000000000000, 23400000000000000000000000, 234000000000000000000000000, 2340000000000000000000000000, 23400000000000000000000000000, 234000000000000000000000000000, 2340000000000000000000000000000, 23400000000000000000000000000000, 234000000000000000000000000000000, 2340000000000000000000000000000000, 23400000000000000000000000000000000, 234000000000000000000000000000000000, 2340000000000000000000000000000000000, 23400000000000000000000000000000000000, 234000000000000000000000000000000000000, 2340000000000000000000000000000000000000, 23400000000000000000000000000000000000000, 234000000000000000000000000000000000000000, 2340000000000000000000000000000000000000000, 23400000000000000000000000000000000000000000, 234000000000000000000000000000000000000000000, 2340000000000000000000000000000000000000000000, 23400000000000000000000000000000000000000000000, 234000000000000000000000000000000000000000000000, 2340000000000000000000000000000000000000000000000, 23400000000000000000000000000000000000000000000000, 234000000000000000000000000000000000000000000000000, 2340000000000000000000000000000000000000000000000000, 23400000000000000000000000000000000000000000000000000, 234000000000000000000000000000000000000000000000000000, 2340000000000000000000000000000000000000000000000000000, 23400000000000000000000000000000000000000000000000000000, 234000000000000000000000000000000000000000000000000000000, 2340000000000000000000000000000000000000000000000000000000, 23400000000000000000000000000000000000000000000000000000000, 234000000000000000000000000000000000000000000000000000000000]
def l_two : List Int := [0, 0, 0, 0, 0, 0, 54756, 1095120, 16426800, 219024000, 2737800000, 32853600000, 383292000000, 4380480000000, 49280400000000, 547560000000000, 6023160000000000, 65707200000000000, 711828000000000000, 7665840000000000000, 82134000000000000000, 876096000000000000000, 9308520000000000000000, 98560800000000000000000, 1040364000000000000000000, 10951200000000000000000000, 114987600000000000000000000, 1204632000000000000000000000, 12593880000000000000000000000, 131414400000000000000000000000, 1368900000000000000000000000000, 14236560000000000000000000000000, 147841200000000000000000000000000, 1533168000000000000000000000000000, 15879240000000000000000000000000000, 164268000000000000000000000000000000, 1697436000000000000000000000000000000, 17521920000000000000000000000000000000, 180694800000000000000000000000000000000, 1861704000000000000000000000000000000000, 19164600000000000000000000000000000000000, 197121600000000000000000000000000000000000, 2025972000000000000000000000000000000000000, 20807280000000000000000000000000000000000000, 213548400000000000000000000000000000000000000, 2190240000000000000000000000000000000000000000, 22449960000000000000000000000000000000000000000, 229975200000000000000000000000000000000000000000, 2354508000000000000000000000000000000000000000000, 24092640000000000000000000000000000000000000000000, 246402000000000000000000000000000000000000000000000, 2518776000000000000000000000000000000000000000000000, 25735320000000000000000000000000000000000000000000000, 262828800000000000000000000000000000000000000000000000, 2683044000000000000000000000000000000000000000000000000, 27378000000000000000000000000000000000000000000000000000, 279255600000000000000000000000000000000000000000000000000, 2847312000000000000000000000000000000000000000000000000000, 29020680000000000000000000000000000000000000000000000000000, 295682400000000000000000000000000000000000000000000000000000, 3011580000000000000000000000000000000000000000000000000000000]
def l_tri : List Int := [0, 0, 0, 0, 0, 0, 0, 0, 0, 12812904, 384387120, 7687742400, 128129040000, 1921935600000, 26907098400000, 358761312000000, 4612645440000000, 57658068000000000, 704709720000000000, 8456516640000000000, 99940651200000000000, 1165974264000000000000, 13453549200000000000000, 153754848000000000000000, 1742554944000000000000000, 19603743120000000000000000, 219100658400000000000000000, 2434451760000000000000000000, 26907098400000000000000000000, 295978082400000000000000000000, 3241664712000000000000000000000, 35363615040000000000000000000000, 384387120000000000000000000000000, 4164193800000000000000000000000000, 44973293040000000000000000000000000, 484327771200000000000000000000000000, 5202039024000000000000000000000000000, 55736132400000000000000000000000000000, 595800036000000000000000000000000000000, 6355200384000000000000000000000000000000, 67652133120000000000000000000000000000000, 718803914400000000000000000000000000000000, 7623677880000000000000000000000000000000000, 80721295200000000000000000000000000000000000, 853339406400000000000000000000000000000000000, 9007471512000000000000000000000000000000000000, 94943618640000000000000000000000000000000000000, 999406512000000000000000000000000000000000000000, 10506581280000000000000000000000000000000000000000, 110319103440000000000000000000000000000000000000000, 1157005231200000000000000000000000000000000000000000, 12121007184000000000000000000000000000000000000000000, 126847749600000000000000000000000000000000000000000000, 1326135564000000000000000000000000000000000000000000000, 13850749224000000000000000000000000000000000000000000000, 144529557120000000000000000000000000000000000000000000000, 1506797510400000000000000000000000000000000000000000000000, 15695807400000000000000000000000000000000000000000000000000, 163364526000000000000000000000000000000000000000000000000000, 1698991070400000000000000000000000000000000000000000000000000, 17656181712000000000000000000000000000000000000000000000000000]
def l_makers : List Int := [0, 0, 0, 234, 2340, 23400, 288756, 3435120, 39826800, 465836904, 5462187120, 63941342400, 745421040000, 8642415600000, 99587498400000, 1140321312000000, 12975805440000000, 146765268000000000, 1650537720000000000, 18462356640000000000, 205474651200000000000, 2276070264000000000000, 25102069200000000000000, 275715648000000000000000, 3016918944000000000000000, 32894943120000000000000000, 357488258400000000000000000, 3873083760000000000000000000, 41840978400000000000000000000, 450792482400000000000000000000, 4844564712000000000000000000000, 51940175040000000000000000000000, 555628320000000000000000000000000, 5931361800000000000000000000000000, 63192533040000000000000000000000000, 671995771200000000000000000000000000, 7133475024000000000000000000000000000, 75598052400000000000000000000000000000, 799894836000000000000000000000000000000, 8450904384000000000000000000000000000000, 89156733120000000000000000000000000000000, 939325514400000000000000000000000000000000, 9883649880000000000000000000000000000000000, 103868575200000000000000000000000000000000000, 1090287806400000000000000000000000000000000000, 11431711512000000000000000000000000000000000000, 119733578640000000000000000000000000000000000000, 1252781712000000000000000000000000000000000000000, 13095089280000000000000000000000000000000000000000, 136751743440000000000000000000000000000000000000000, 1426807231200000000000000000000000000000000000000000, 14873783184000000000000000000000000000000000000000000, 154923069600000000000000000000000000000000000000000000, 1612364364000000000000000000000000000000000000000000000, 16767793224000000000000000000000000000000000000000000000, 174247557120000000000000000000000000000000000000000000000, 1809453110400000000000000000000000000000000000000000000000, 18777119400000000000000000000000000000000000000000000000000, 194725206000000000000000000000000000000000000000000000000000, 2018073470400000000000000000000000000000000000000000000000000, 20901761712000000000000000000000000000000000000000000000000000]
def l_f1 : List Int := [0, 0, 234, 8424, 242424, 2424240, 21902400, 158184000, 0, 0, 0, 0, 0, 0, 0, 0, 0, 0, 0, 0, 0, 0, 0, 0, 0, 0, 0, 0, 0, 0, 0, 0, 0, 0, 0, 0, 0, 0, 0, 0, 0, 0, 0, 0, 0, 0, 0, 0, 0, 0, 0, 0, 0, 0, 0, 0, 0, 0, 0, 0, 0]
def l_f2 : List Int := [0, 0, 234, 8424, 244530, 2521116, 25052976, 211507920, 730360800, 8727264000, 87272640000, 872726400000, 8727264000000, 87272640000000, 872726400000000, 8727264000000000, 87272640000000000, 872726400000000000, 8727264000000000000, 87272640000000000000, 872726400000000000000, 8727264000000000000000, 87272640000000000000000, 872726400000000000000000, 8727264000000000000000000, 87272640000000000000000000, 872726400000000000000000000, 8727264000000000000000000000, 87272640000000000000000000000, 872726400000000000000000000000, 8727264000000000000000000000000, 87272640000000000000000000000000, 872726400000000000000000000000000, 8727264000000000000000000000000000, 87272640000000000000000000000000000, 872726400000000000000000000000000000, 8727264000000000000000000000000000000, 87272640000000000000000000000000000000, 872726400000000000000000000000000000000, 8727264000000000000000000000000000000000, 87272640000000000000000000000000000000000, 872726400000000000000000000000000000000000, 8727264000000000000000000000000000000000000, 87272640000000000000000000000000000000000000, 872726400000000000000000000000000000000000000, 8727264000000000000000000000000000000000000000, 87272640000000000000000000000000000000000000000, 872726400000000000000000000000000000000000000000, 8727264000000000000000000000000000000000000000000, 87272640000000000000000000000000000000000000000000, 872726400000000000000000000000000000000000000000000, 8727264000000000000000000000000000000000000000000000, 87272640000000000000000000000000000000000000000000000, 872726400000000000000000000000000000000000000000000000, 8727264000000000000000000000000000000000000000000000000, 87272640000000000000000000000000000000000000000000000000, 872726400000000000000000000000000000000000000000000000000, 8727264000000000000000000000000000000000000000000000000000, 87272640000000000000000000000000000000000000000000000000000, 872726400000000000000000000000000000000000000000000000000000, 8727264000000000000000000000000000000000000000000000000000000]
def l_f3 : List Int := [0, 0, 234, 8424, 244530, 2575872, 27571752, 293915700, 2157192648, 29447372448, 363249998280, 4137283062432, 48263515777152, 567635657369040, 6643779226928064, 77685150458620224, 907766433723427200, 10580585143860576000, 122884596253224000000, 1421246994120120960000, 16363798251078470400000, 187536267145356480000000, 2139313749115420800000000, 24293512740515616000000000, 274659346222013376000000000, 3092158529579283840000000000, 34671646920871584000000000000, 387273016570190400000000000000, 4309973166381667200000000000000, 47800119100845945600000000000000, 528396461276883264000000000000000, 5822949490392528000000000000000000, 63980847589138272000000000000000000, 701048863429087680000000000000000000, 7661279332481823360000000000000000000, 83515750694448134400000000000000000000, 908249406113799360000000000000000000000, 9855154523519510400000000000000000000000, 106706746725475104000000000000000000000000, 1153017272418014016000000000000000000000000, 12434766894375546240000000000000000000000000, 133855753990918752000000000000000000000000000, 1438371645428727360000000000000000000000000000, 15430308275919888000000000000000000000000000000, 165264690799478649600000000000000000000000000000, 1767331708232935104000000000000000000000000000000, 18871970499022492800000000000000000000000000000000, 201235475459854368000000000000000000000000000000000, 2142916643917632960000000000000000000000000000000000, 22789945394553317760000000000000000000000000000000000, 242070026280745478400000000000000000000000000000000000, 2568145635569816640000000000000000000000000000000000000, 27214424793382320000000000000000000000000000000000000000, 288070261570851552000000000000000000000000000000000000000, 3046037866276481856000000000000000000000000000000000000000, 32175600526379456640000000000000000000000000000000000000000, 339538099638872160000000000000000000000000000000000000000000, 3579612519124624320000000000000000000000000000000000000000000, 37703664424414684800000000000000000000000000000000000000000000, 396775458793506873600000000000000000000000000000000000000000000, 4171888777201239744000000000000000000000000000000000000000000000]
def l_f4 : List Int := [0, 0, 234, 8424, 244530, 2575872, 27571752, 294383700, 2174040648, 29936432448, 368401742280, 4192426566432, 48851347177152, 571950042665040, 6702673971824064, 78411650455180224, 916040999848291200, 10677112175414880000, 124019867567962080000, 1434534552573977088000, 16519168551995710848000, 189351800012803334400000, 2160474919403141952000000, 24539281933022064000000000, 277501840210253617920000000, 3124886126081440780800000000, 35046719455162296960000000000, 391551644068421241600000000000, 4358560191862698432000000000000, 48349437793289972352000000000000, 534580778336041831680000000000000, 5892292784234271168000000000000000, 64755393622278652800000000000000000, 709668809761851014400000000000000000, 7756879570683515251200000000000000000, 84572543617001900928000000000000000000, 919895305094584416000000000000000000000, 9983116218697786944000000000000000000000, 108108844452333279360000000000000000000000, 1168339831082977662720000000000000000000000, 12601798395764442508800000000000000000000000, 135672252803146350720000000000000000000000000, 1458081954475766380800000000000000000000000000, 15643721769370838208000000000000000000000000000, 167570725344314677632000000000000000000000000000, 1792201242021686196480000000000000000000000000000, 19139682007004330304000000000000000000000000000000, 204112218750711822720000000000000000000000000000000, 2173777260469472736000000000000000000000000000000000, 23120474776152275059200000000000000000000000000000000, 245604689697211348608000000000000000000000000000000000, 2605889576567861625600000000000000000000000000000000000, 27616895744302028736000000000000000000000000000000000000, 292356094858686817920000000000000000000000000000000000000, 3091617757065588491520000000000000000000000000000000000000, 32659740578940947596800000000000000000000000000000000000000, 344674390910011793280000000000000000000000000000000000000000, 3634041368711388960000000000000000000000000000000000000000000, 38279804947556387904000000000000000000000000000000000000000000, 402867534526059837312000000000000000000000000000000000000000000, 4236239978253998657280000000000000000000000000000000000000000000]
def l_f5 : List Int := [0, 0, 234, 8424, 244530, 2575872, 27573624, 294472152, 2176965648, 29988734724, 369171097776, 4202750908512, 48974926760136, 573447070360944, 6720890827045824, 78631042437352080, 918667654713091296, 10708442837875972800, 124392515084774250912, 1438955347685458479552, 16571488947613862895360, 189969581276386656825600, 2167751662101273021696000, 24624765835099646134464000, 278503177924971144722304000, 3136579509314238432606720000, 35182830604845626647027200000, 393130674569912746401792000000, 4376815904418625729601280000000, 48559769026259999390438400000000, 536995713282644214847872000000000, 5919925014047393992581120000000000, 65070499918385466845683200000000000, 713250253827184101619968000000000000, 7797454151941467357776640000000000000, 85030773579638656581427200000000000000, 925054570797772544468352000000000000000, 10041033780143985823326720000000000000000, 108757171791458354785420800000000000000000, 1175577253618871267334144000000000000000000, 12682377509000305249278720000000000000000000, 136567107818305506264499200000000000000000000, 1467995206545163580349312000000000000000000000, 15753282097157997357588480000000000000000000000, 168778826407663214444582400000000000000000000000, 1805493648661554379836672000000000000000000000000, 19285627451566849732120320000000000000000000000000, 205711403790036741370675200000000000000000000000000, 2191266113883170148309888000000000000000000000000000, 23311376627478865818647040000000000000000000000000000, 247684747678953507706867200000000000000000000000000000, 2628514450955358954473472000000000000000000000000000000, 27862575828448264924849920000000000000000000000000000000, 295019597270963092736332800000000000000000000000000000000, 3120448823453690453222784000000000000000000000000000000000, 32971354406331482220318720000000000000000000000000000000000, 348037523245637234361331200000000000000000000000000000000000, 3670287709783955885644032000000000000000000000000000000000000, 38669924861287168736551680000000000000000000000000000000000000, 407060927765569829103206400000000000000000000000000000000000000, 4281257903182168079014272000000000000000000000000000000000000000]

theorem up_to {F : Nat → Int} {l : List Int} (h : (List.range 61).all (fun i => decide (F i = l.getD i 0)) = true) : ∀ i, i < 61 → F i = l.getD i 0 := by
  intro i hi
  exact of_decide_eq_true (List.all_eq_true.mp h i (List.mem_range.mpr hi))
theorem ent_of {F : Nat → Int} {l : List Int} (h : ∀ i, i < 61 → F i = l.getD i 0) {i : Int} (hi : i < 61) : entF F i = entF (fun j => l.getD j 0) i := by
  unfold entF
  by_cases e : i < 0
  · rw [if_pos e, if_pos e]
  · rw [if_neg e, if_neg e]; exact h _ (by omega)
theorem gs_of {T : Nat → Int} {t g s : List Int} (h : ∀ i, i < 61 → T i = t.getD i 0) (h0 : g.getD 0 0 = 0) (h1 : s.getD 0 0 = t.getD 0 0)
    (hc : (List.range 60).all (fun k => decide (g.getD (k + 1) 0 = g.getD k 0 + 9 * s.getD k 0) && decide (s.getD (k + 1) 0 = t.getD (k + 1) 0 + g.getD (k + 1) 0)) = true) : ∀ i, i < 61 → goF T i = g.getD i 0 ∧ stF T i = s.getD i 0 := by
  intro i
  induction i with
  | zero => intro _; exact ⟨h0.symm, (h 0 (by decide)).trans h1.symm⟩
  | succ k ih =>
    intro hk
    obtain ⟨h2, h3⟩ := ih (by omega)
    have q := List.all_eq_true.mp hc k (List.mem_range.mpr (by omega))
    rw [Bool.and_eq_true] at q
    have q1 := of_decide_eq_true q.1
    have q2 := of_decide_eq_true q.2
    refine ⟨by rw [goF_s, h2, h3, q1], ?_⟩
    rw [stF_s, goF_s, h2, h3, ← q1, h _ hk, q2]
theorem c_cop : ∀ i, i < 61 → copF i = l_cop.getD i 0 := by
  intro i
  have hc : (List.range 60).all (fun k => decide (l_cop.getD (k + 1) 0 = if k + 1 < 4 then 1 else if k + 1 = 4 then 9 else 10 * l_cop.getD k 0 + 9)) = true := by decide +kernel
  induction i with
  | zero => intro _; rfl
  | succ k ih =>
    intro hk
    have q := of_decide_eq_true (List.all_eq_true.mp hc k (List.mem_range.mpr (by omega)))
    rw [q]
    show (if k + 1 < 4 then 1 else if k + 1 = 4 then 9 else 10 * copF k + 9) = _
    rw [ih (by omega)]
theorem c_year : ∀ i, i < 61 → yearF i = l_year.getD i 0 := by
  have hc : (List.range 61).all (fun i => decide (l_cop.getD i 0 + 2000 * entF (fun j => l_cop.getD j 0) ((i : Int) - 5) = l_year.getD i 0)) = true := by decide +kernel
  intro i hi
  have q := of_decide_eq_true (List.all_eq_true.mp hc i (List.mem_range.mpr hi))
  rw [← q]
  show copF i + 2000 * entF copF ((i : Int) - 5) = _
  rw [c_cop i hi, ent_of c_cop (by omega)]
theorem mak_of {G : Nat → Int} {g m : List Int} (h : ∀ i, i < 61 → G i = g.getD i 0) (hc : (List.range 61).all (fun i => decide (l_year.getD i 0 + 26 * entF (fun j => g.getD j 0) ((i : Int) - 2) = m.getD i 0)) = true) : ∀ i, i < 61 → makF G i = m.getD i 0 := by
  intro i hi
  have q := of_decide_eq_true (List.all_eq_true.mp hc i (List.mem_range.mpr hi))
  rw [← q]
  show yearF i + 26 * entF G ((i : Int) - 2) = _
  rw [c_year i hi, ent_of h (by omega)]
theorem c_g0 : ∀ i, i < 61 → goF (endF 0) i = l_g0.getD i 0 ∧ stF (endF 0) i = l_s0.getD i 0 := gs_of (t := l_year) c_year (by decide +kernel) (by decide +kernel) (by decide +kernel)
theorem c_e1 : ∀ i, i < 61 → endF 1 i = l_m1.getD i 0 := mak_of (g := l_g0) (fun i hi => (c_g0 i hi).1) (by decide +kernel)
theorem c_g1 : ∀ i, i < 61 → goF (endF 1) i = l_g1.getD i 0 ∧ stF (endF 1) i = l_s1.getD i 0 := gs_of (t := l_m1) c_e1 (by decide +kernel) (by decide +kernel) (by decide +kernel)
theorem c_e2 : ∀ i, i < 61 → endF 2 i = l_m2.getD i 0 := mak_of (g := l_g1) (fun i hi => (c_g1 i hi).1) (by decide +kernel)
theorem c_g2 : ∀ i, i < 61 → goF (endF 2) i = l_g2.getD i 0 ∧ stF (endF 2) i = l_s2.getD i 0 := gs_of (t := l_m2) c_e2 (by decide +kernel) (by decide +kernel) (by decide +kernel)
theorem c_e3 : ∀ i, i < 61 → endF 3 i = l_m3.getD i 0 := mak_of (g := l_g2) (fun i hi => (c_g2 i hi).1) (by decide +kernel)
theorem c_pg : ∀ i, i < 61 → goF (endF 3) i = l_pg.getD i 0 ∧ stF (endF 3) i = l_ps.getD i 0 := gs_of (t := l_m3) c_e3 (by decide +kernel) (by decide +kernel) (by decide +kernel)
theorem c_num : ∀ i, i < 61 → numF i = l_num.getD i 0 := by
  have hc : (List.range 61).all (fun i => decide (l_m3.getD i 0 + entF (fun j => l_pg.getD j 0) ((i : Int) - 1) = l_num.getD i 0)) = true := by decide +kernel
  intro i hi
  have q := of_decide_eq_true (List.all_eq_true.mp hc i (List.mem_range.mpr hi))
  rw [← q]
  show endF 3 i + entF (goF (endF 3)) ((i : Int) - 1) = _
  rw [c_e3 i hi, ent_of (fun i hi => (c_pg i hi).1) (by omega)]
theorem lon_of {F : Nat → Int} {f r : List Int} {k : Nat} {S : Nat → Int} (h : ∀ i, i < 61 → F i = f.getD i 0) (hc : (List.range 61).all (fun i => decide (lonF (fun j => f.getD j 0) k S i = r.getD i 0)) = true) : ∀ i, i < 61 → lonF F k S i = r.getD i 0 := by
  intro i hi
  have q := of_decide_eq_true (List.all_eq_true.mp hc i (List.mem_range.mpr hi))
  rw [← q]
  unfold lonF
  congr 1
  refine sq_ext fun z _ => ?_
  rw [ent_of h (by omega)]
theorem c_word : ∀ i, i < 61 → wordF i = l_word.getD i 0 := lon_of c_num (by decide +kernel)
theorem c_sig : ∀ i, i < 61 → sigF i = l_sign.getD i 0 := lon_of c_word (by decide +kernel)
theorem lst_of {l r : List Int} (h1 : l.length = 61) (h2 : r.length = 61) (hc : (List.range 61).all (fun i => decide (l.getD i 0 = r.getD i 0)) = true) : l = r := by
  rw [list_sq l, list_sq r, h1, h2]
  exact sq_ext (up_to hc)
theorem beh_of {A O R : List Int} (h2 : R.length = 61) (hc : (List.range 61).all (fun m => decide (behF (fun i => A.getD i 0) (fun i => O.getD i 0) A.length m = R.getD m 0)) = true) : behL A O = R := by
  rw [list_sq R, h2]
  exact sq_ext (up_to hc)
theorem b_two : behL l_maker l_maker = l_two := beh_of (by decide +kernel) (by decide +kernel)
theorem b_tri : behL l_two l_maker = l_tri := beh_of (by decide +kernel) (by decide +kernel)
theorem b_f1 : behL (lngL [0, 26, 676, 17576]) (lngL [0, 9, 90, 900, 9000]) = l_f1 := beh_of (by decide +kernel) (by decide +kernel)
theorem b_f2 : behL (lngL ([1, 0] ++ l_tens.map (9 * ·))) l_f1 = l_f2 := beh_of (by decide +kernel) (by decide +kernel)
theorem b_f3 : behL ([1] ++ l_makers.drop 1) l_f2 = l_f3 := beh_of (by decide +kernel) (by decide +kernel)
theorem b_f4 : behL (lngL [1, 0, 0, 0, 0, 2000]) l_f3 = l_f4 := beh_of (by decide +kernel) (by decide +kernel)
theorem b_f5 : behL (lngL ([1, 0, 0, 0, 8] ++ l_tens.map (90 * ·))) l_f4 = l_f5 := beh_of (by decide +kernel) (by decide +kernel)
theorem b_maker : lngL ([0, 0, 0] ++ l_tens.map (234 * ·)) = l_maker := by decide +kernel
theorem b_makers : add3 l_maker l_two l_tri = l_makers := by decide +kernel
/-- both count alike -/
theorem agree1 : ∀ n, n < 61 → sigF n = (l_f5.take (n + 1)).sum := by
  have hc : (List.range 61).all (fun n => decide (l_sign.getD n 0 = (l_f5.take (n + 1)).sum)) = true := by decide +kernel
  intro n hn
  rw [c_sig n hn]
  exact of_decide_eq_true (List.all_eq_true.mp hc n (List.mem_range.mpr hn))
theorem agree2 : ∀ n, n < 61 → sigF n - entF sigF ((n : Int) - 1) = l_f5.getD n 0 := by
  have hc : (List.range 61).all (fun n => decide (l_sign.getD n 0 - entF (fun j => l_sign.getD j 0) ((n : Int) - 1) = l_f5.getD n 0)) = true := by decide +kernel
  intro n hn
  rw [c_sig n hn, ent_of c_sig (by omega)]
  exact of_decide_eq_true (List.all_eq_true.mp hc n (List.mem_range.mpr hn))
end U

namespace U
open PySem PySem.Spec PyProof.Rows L2
section
variable {K : PySem.W.Frag} {g : TG} {tt : TT} {te : TE} {vs : List Nat} {σ : L2.St} {H : Hp} {Q : VK}
theorem e_lcE {ta : TA} : tLc (iEnum K ta) g tt te vs σ H Q = iEnum K ta σ H fun J H1 => lcBody g tt te vs σ Q J H1 := rfl
theorem e_lcR {ta : TA} : tLc (iRng1 ta) g tt te vs σ H Q = iRng1 ta σ H fun J H1 => lcBody g tt te vs σ Q J H1 := rfl
theorem e_lcL {tl : TE} : tLc (iList K tl) g tt te vs σ H Q = iList K tl σ H fun J H1 => lcBody g tt te vs σ Q J H1 := rfl
theorem e_lcZ {ta : TA} : tLc (iZip K ta) g tt te vs σ H Q = iZip K ta σ H fun J H1 => lcBody g tt te vs σ Q J H1 := rfl
theorem e_lcZ3 {ta : TA} : tLc (iZip3 K ta) g tt te vs σ H Q = iZip3 K ta σ H fun J H1 => lcBody g tt te vs σ Q J H1 := rfl
end

def fg1 (q : Addr) : List (Str × V) := [("tails", (.ref q))]
def fg2 (q : Addr) (g : Addr) : List (Str × V) := [("tails", (.ref q)), ("going", (.ref g))]
def fg3 (q : Addr) (g : Addr) (s : Addr) : List (Str × V) := [("tails", (.ref q)), ("going", (.ref g)), ("stopping", (.ref s))]
theorem fgp1 {q : Addr} : putF "tails" (.ref q) ([] : List (Str × V)) = fg1 q := rfl
theorem fgn1 {q : Addr} : (fg1 q).length < 1000 := by show 1 < 1000; decide
theorem fgl1_1 {q : Addr} : List.lookup ("tails" : Str) (fg1 q) = some (.ref q) := rfl
theorem fgp2 {q : Addr} {g : Addr} : putF "going" (.ref g) (fg1 q) = fg2 q g := rfl
theorem fgn2 {q : Addr} {g : Addr} : (fg2 q g).length < 1000 := by show 2 < 1000; decide
theorem fgl2_1 {q : Addr} {g : Addr} : List.lookup ("tails" : Str) (fg2 q g) = some (.ref q) := rfl
theorem fgl2_2 {q : Addr} {g : Addr} : List.lookup ("going" : Str) (fg2 q g) = some (.ref g) := rfl
theorem fgp3 {q : Addr} {g : Addr} {s : Addr} : putF "stopping" (.ref s) (fg2 q g) = fg3 q g s := rfl
theorem fgn3 {q : Addr} {g : Addr} {s : Addr} : (fg3 q g s).length < 1000 := by show 3 < 1000; decide
theorem fgl3_1 {q : Addr} {g : Addr} {s : Addr} : List.lookup ("tails" : Str) (fg3 q g s) = some (.ref q) := rfl
theorem fgl3_2 {q : Addr} {g : Addr} {s : Addr} : List.lookup ("going" : Str) (fg3 q g s) = some (.ref g) := rfl
theorem fgl3_3 {q : Addr} {g : Addr} {s : Addr} : List.lookup ("stopping" : Str) (fg3 q g s) = some (.ref s) := rfl
def ct1 (c1 : Addr) : List (Str × V) := [("by_copy", (.ref c1))]
def ct2 (c1 : Addr) (c2 : Addr) : List (Str × V) := [("by_copy", (.ref c1)), ("by_year", (.ref c2))]
def ct3 (c1 : Addr) (c2 : Addr) (c3 : Addr) : List (Str × V) := [("by_copy", (.ref c1)), ("by_year", (.ref c2)), ("by_makers", (.ref c3))]
def ct4 (c1 : Addr) (c2 : Addr) (c3 : Addr) (c4 : Addr) : List (Str × V) := [("by_copy", (.ref c1)), ("by_year", (.ref c2)), ("by_makers", (.ref c3)), ("by_figures", (.ref c4))]
def ct5 (c1 : Addr) (c2 : Addr) (c3 : Addr) (c4 : Addr) (c5 : Addr) : List (Str × V) := [("by_copy", (.ref c1)), ("by_year", (.ref c2)), ("by_makers", (.ref c3)), ("by_figures", (.ref c4)), ("by_points", (.ref c5))]
def ct6 (c1 : Addr) (c2 : Addr) (c3 : Addr) (c4 : Addr) (c5 : Addr) (c6 : Addr) : List (Str × V) := [("by_copy", (.ref c1)), ("by_year", (.ref c2)), ("by_makers", (.ref c3)), ("by_figures", (.ref c4)), ("by_points", (.ref c5)), ("by_number", (.ref c6))]
def ct7 (c1 : Addr) (c2 : Addr) (c3 : Addr) (c4 : Addr) (c5 : Addr) (c6 : Addr) (c7 : Addr) : List (Str × V) := [("by_copy", (.ref c1)), ("by_year", (.ref c2)), ("by_makers", (.ref c3)), ("by_figures", (.ref c4)), ("by_points", (.ref c5)), ("by_number", (.ref c6)), ("by_word", (.ref c7))]
def ct8 (c1 : Addr) (c2 : Addr) (c3 : Addr) (c4 : Addr) (c5 : Addr) (c6 : Addr) (c7 : Addr) (c8 : Addr) : List (Str × V) := [("by_copy", (.ref c1)), ("by_year", (.ref c2)), ("by_makers", (.ref c3)), ("by_figures", (.ref c4)), ("by_points", (.ref c5)), ("by_number", (.ref c6)), ("by_word", (.ref c7)), ("by_sign", (.ref c8))]
theorem ctp1 {c1 : Addr} : putF "by_copy" (.ref c1) ([] : List (Str × V)) = ct1 c1 := rfl
theorem ctn1 {c1 : Addr} : (ct1 c1).length < 1000 := by show 1 < 1000; decide
theorem ctl1_1 {c1 : Addr} : List.lookup ("by_copy" : Str) (ct1 c1) = some (.ref c1) := rfl
theorem ctp2 {c1 : Addr} {c2 : Addr} : putF "by_year" (.ref c2) (ct1 c1) = ct2 c1 c2 := rfl
theorem ctn2 {c1 : Addr} {c2 : Addr} : (ct2 c1 c2).length < 1000 := by show 2 < 1000; decide
theorem ctl2_1 {c1 : Addr} {c2 : Addr} : List.lookup ("by_copy" : Str) (ct2 c1 c2) = some (.ref c1) := rfl
theorem ctl2_2 {c1 : Addr} {c2 : Addr} : List.lookup ("by_year" : Str) (ct2 c1 c2) = some (.ref c2) := rfl
theorem ctp3 {c1 : Addr} {c2 : Addr} {c3 : Addr} : putF "by_makers" (.ref c3) (ct2 c1 c2) = ct3 c1 c2 c3 := rfl
theorem ctn3 {c1 : Addr} {c2 : Addr} {c3 : Addr} : (ct3 c1 c2 c3).length < 1000 := by show 3 < 1000; decide
theorem ctl3_1 {c1 : Addr} {c2 : Addr} {c3 : Addr} : List.lookup ("by_copy" : Str) (ct3 c1 c2 c3) = some (.ref c1) := rfl
theorem ctl3_2 {c1 : Addr} {c2 : Addr} {c3 : Addr} : List.lookup ("by_year" : Str) (ct3 c1 c2 c3) = some (.ref c2) := rfl
theorem ctl3_3 {c1 : Addr} {c2 : Addr} {c3 : Addr} : List.lookup ("by_makers" : Str) (ct3 c1 c2 c3) = some (.ref c3) := rfl
theorem ctp4 {c1 : Addr} {c2 : Addr} {c3 : Addr} {c4 : Addr} : putF "by_figures" (.ref c4) (ct3 c1 c2 c3) = ct4 c1 c2 c3 c4 := rfl
theorem ctn4 {c1 : Addr} {c2 : Addr} {c3 : Addr} {c4 : Addr} : (ct4 c1 c2 c3 c4).length < 1000 := by show 4 < 1000; decide
theorem ctl4_1 {c1 : Addr} {c2 : Addr} {c3 : Addr} {c4 : Addr} : List.lookup ("by_copy" : Str) (ct4 c1 c2 c3 c4) = some (.ref c1) := rfl
theorem ctl4_2 {c1 : Addr} {c2 : Addr} {c3 : Addr} {c4 : Addr} : List.lookup ("by_year" : Str) (ct4 c1 c2 c3 c4) = some (.ref c2) := rfl
theorem ctl4_3 {c1 : Addr} {c2 : Addr} {c3 : Addr} {c4 : Addr} : List.lookup ("by_makers" : Str) (ct4 c1 c2 c3 c4) = some (.ref c3) := rfl
theorem ctl4_4 {c1 : Addr} {c2 : Addr} {c3 : Addr} {c4 : Addr} : List.lookup ("by_figures" : Str) (ct4 c1 c2 c3 c4) = some (.ref c4) := rfl
theorem ctp5 {c1 : Addr} {c2 : Addr} {c3 : Addr} {c4 : Addr} {c5 : Addr} : putF "by_points" (.ref c5) (ct4 c1 c2 c3 c4) = ct5 c1 c2 c3 c4 c5 := rfl
theorem ctn5 {c1 : Addr} {c2 : Addr} {c3 : Addr} {c4 : Addr} {c5 : Addr} : (ct5 c1 c2 c3 c4 c5).length < 1000 := by show 5 < 1000; decide
theorem ctl5_1 {c1 : Addr} {c2 : Addr} {c3 : Addr} {c4 : Addr} {c5 : Addr} : List.lookup ("by_copy" : Str) (ct5 c1 c2 c3 c4 c5) = some (.ref c1) := rfl
theorem ctl5_2 {c1 : Addr} {c2 : Addr} {c3 : Addr} {c4 : Addr} {c5 : Addr} : List.lookup ("by_year" : Str) (ct5 c1 c2 c3 c4 c5) = some (.ref c2) := rfl
theorem ctl5_3 {c1 : Addr} {c2 : Addr} {c3 : Addr} {c4 : Addr} {c5 : Addr} : List.lookup ("by_makers" : Str) (ct5 c1 c2 c3 c4 c5) = some (.ref c3) := rfl
theorem ctl5_4 {c1 : Addr} {c2 : Addr} {c3 : Addr} {c4 : Addr} {c5 : Addr} : List.lookup ("by_figures" : Str) (ct5 c1 c2 c3 c4 c5) = some (.ref c4) := rfl
theorem ctl5_5 {c1 : Addr} {c2 : Addr} {c3 : Addr} {c4 : Addr} {c5 : Addr} : List.lookup ("by_points" : Str) (ct5 c1 c2 c3 c4 c5) = some (.ref c5) := rfl
theorem ctp6 {c1 : Addr} {c2 : Addr} {c3 : Addr} {c4 : Addr} {c5 : Addr} {c6 : Addr} : putF "by_number" (.ref c6) (ct5 c1 c2 c3 c4 c5) = ct6 c1 c2 c3 c4 c5 c6 := rfl
theorem ctn6 {c1 : Addr} {c2 : Addr} {c3 : Addr} {c4 : Addr} {c5 : Addr} {c6 : Addr} : (ct6 c1 c2 c3 c4 c5 c6).length < 1000 := by show 6 < 1000; decide
theorem ctl6_1 {c1 : Addr} {c2 : Addr} {c3 : Addr} {c4 : Addr} {c5 : Addr} {c6 : Addr} : List.lookup ("by_copy" : Str) (ct6 c1 c2 c3 c4 c5 c6) = some (.ref c1) := rfl
theorem ctl6_2 {c1 : Addr} {c2 : Addr} {c3 : Addr} {c4 : Addr} {c5 : Addr} {c6 : Addr} : List.lookup ("by_year" : Str) (ct6 c1 c2 c3 c4 c5 c6) = some (.ref c2) := rfl
theorem ctl6_3 {c1 : Addr} {c2 : Addr} {c3 : Addr} {c4 : Addr} {c5 : Addr} {c6 : Addr} : List.lookup ("by_makers" : Str) (ct6 c1 c2 c3 c4 c5 c6) = some (.ref c3) := rfl
theorem ctl6_4 {c1 : Addr} {c2 : Addr} {c3 : Addr} {c4 : Addr} {c5 : Addr} {c6 : Addr} : List.lookup ("by_figures" : Str) (ct6 c1 c2 c3 c4 c5 c6) = some (.ref c4) := rfl
theorem ctl6_5 {c1 : Addr} {c2 : Addr} {c3 : Addr} {c4 : Addr} {c5 : Addr} {c6 : Addr} : List.lookup ("by_points" : Str) (ct6 c1 c2 c3 c4 c5 c6) = some (.ref c5) := rfl
theorem ctl6_6 {c1 : Addr} {c2 : Addr} {c3 : Addr} {c4 : Addr} {c5 : Addr} {c6 : Addr} : List.lookup ("by_number" : Str) (ct6 c1 c2 c3 c4 c5 c6) = some (.ref c6) := rfl
theorem ctp7 {c1 : Addr} {c2 : Addr} {c3 : Addr} {c4 : Addr} {c5 : Addr} {c6 : Addr} {c7 : Addr} : putF "by_word" (.ref c7) (ct6 c1 c2 c3 c4 c5 c6) = ct7 c1 c2 c3 c4 c5 c6 c7 := rfl
theorem ctn7 {c1 : Addr} {c2 : Addr} {c3 : Addr} {c4 : Addr} {c5 : Addr} {c6 : Addr} {c7 : Addr} : (ct7 c1 c2 c3 c4 c5 c6 c7).length < 1000 := by show 7 < 1000; decide
theorem ctl7_1 {c1 : Addr} {c2 : Addr} {c3 : Addr} {c4 : Addr} {c5 : Addr} {c6 : Addr} {c7 : Addr} : List.lookup ("by_copy" : Str) (ct7 c1 c2 c3 c4 c5 c6 c7) = some (.ref c1) := rfl
theorem ctl7_2 {c1 : Addr} {c2 : Addr} {c3 : Addr} {c4 : Addr} {c5 : Addr} {c6 : Addr} {c7 : Addr} : List.lookup ("by_year" : Str) (ct7 c1 c2 c3 c4 c5 c6 c7) = some (.ref c2) := rfl
theorem ctl7_3 {c1 : Addr} {c2 : Addr} {c3 : Addr} {c4 : Addr} {c5 : Addr} {c6 : Addr} {c7 : Addr} : List.lookup ("by_makers" : Str) (ct7 c1 c2 c3 c4 c5 c6 c7) = some (.ref c3) := rfl
theorem ctl7_4 {c1 : Addr} {c2 : Addr} {c3 : Addr} {c4 : Addr} {c5 : Addr} {c6 : Addr} {c7 : Addr} : List.lookup ("by_figures" : Str) (ct7 c1 c2 c3 c4 c5 c6 c7) = some (.ref c4) := rfl
theorem ctl7_5 {c1 : Addr} {c2 : Addr} {c3 : Addr} {c4 : Addr} {c5 : Addr} {c6 : Addr} {c7 : Addr} : List.lookup ("by_points" : Str) (ct7 c1 c2 c3 c4 c5 c6 c7) = some (.ref c5) := rfl
theorem ctl7_6 {c1 : Addr} {c2 : Addr} {c3 : Addr} {c4 : Addr} {c5 : Addr} {c6 : Addr} {c7 : Addr} : List.lookup ("by_number" : Str) (ct7 c1 c2 c3 c4 c5 c6 c7) = some (.ref c6) := rfl
theorem ctl7_7 {c1 : Addr} {c2 : Addr} {c3 : Addr} {c4 : Addr} {c5 : Addr} {c6 : Addr} {c7 : Addr} : List.lookup ("by_word" : Str) (ct7 c1 c2 c3 c4 c5 c6 c7) = some (.ref c7) := rfl
theorem ctp8 {c1 : Addr} {c2 : Addr} {c3 : Addr} {c4 : Addr} {c5 : Addr} {c6 : Addr} {c7 : Addr} {c8 : Addr} : putF "by_sign" (.ref c8) (ct7 c1 c2 c3 c4 c5 c6 c7) = ct8 c1 c2 c3 c4 c5 c6 c7 c8 := rfl
theorem ctn8 {c1 : Addr} {c2 : Addr} {c3 : Addr} {c4 : Addr} {c5 : Addr} {c6 : Addr} {c7 : Addr} {c8 : Addr} : (ct8 c1 c2 c3 c4 c5 c6 c7 c8).length < 1000 := by show 8 < 1000; decide
theorem ctl8_1 {c1 : Addr} {c2 : Addr} {c3 : Addr} {c4 : Addr} {c5 : Addr} {c6 : Addr} {c7 : Addr} {c8 : Addr} : List.lookup ("by_copy" : Str) (ct8 c1 c2 c3 c4 c5 c6 c7 c8) = some (.ref c1) := rfl
theorem ctl8_2 {c1 : Addr} {c2 : Addr} {c3 : Addr} {c4 : Addr} {c5 : Addr} {c6 : Addr} {c7 : Addr} {c8 : Addr} : List.lookup ("by_year" : Str) (ct8 c1 c2 c3 c4 c5 c6 c7 c8) = some (.ref c2) := rfl
theorem ctl8_3 {c1 : Addr} {c2 : Addr} {c3 : Addr} {c4 : Addr} {c5 : Addr} {c6 : Addr} {c7 : Addr} {c8 : Addr} : List.lookup ("by_makers" : Str) (ct8 c1 c2 c3 c4 c5 c6 c7 c8) = some (.ref c3) := rfl
theorem ctl8_4 {c1 : Addr} {c2 : Addr} {c3 : Addr} {c4 : Addr} {c5 : Addr} {c6 : Addr} {c7 : Addr} {c8 : Addr} : List.lookup ("by_figures" : Str) (ct8 c1 c2 c3 c4 c5 c6 c7 c8) = some (.ref c4) := rfl
theorem ctl8_5 {c1 : Addr} {c2 : Addr} {c3 : Addr} {c4 : Addr} {c5 : Addr} {c6 : Addr} {c7 : Addr} {c8 : Addr} : List.lookup ("by_points" : Str) (ct8 c1 c2 c3 c4 c5 c6 c7 c8) = some (.ref c5) := rfl
theorem ctl8_6 {c1 : Addr} {c2 : Addr} {c3 : Addr} {c4 : Addr} {c5 : Addr} {c6 : Addr} {c7 : Addr} {c8 : Addr} : List.lookup ("by_number" : Str) (ct8 c1 c2 c3 c4 c5 c6 c7 c8) = some (.ref c6) := rfl
theorem ctl8_7 {c1 : Addr} {c2 : Addr} {c3 : Addr} {c4 : Addr} {c5 : Addr} {c6 : Addr} {c7 : Addr} {c8 : Addr} : List.lookup ("by_word" : Str) (ct8 c1 c2 c3 c4 c5 c6 c7 c8) = some (.ref c7) := rfl
theorem ctl8_8 {c1 : Addr} {c2 : Addr} {c3 : Addr} {c4 : Addr} {c5 : Addr} {c6 : Addr} {c7 : Addr} {c8 : Addr} : List.lookup ("by_sign" : Str) (ct8 c1 c2 c3 c4 c5 c6 c7 c8) = some (.ref c8) := rfl
theorem ctm1 {c1 : Addr} : List.lookup ("longer" : Str) (ct1 c1) = none := rfl
theorem ctm2 {c1 : Addr} {c2 : Addr} : List.lookup ("longer" : Str) (ct2 c1 c2) = none := rfl
theorem ctm3 {c1 : Addr} {c2 : Addr} {c3 : Addr} : List.lookup ("longer" : Str) (ct3 c1 c2 c3) = none := rfl
theorem ctm4 {c1 : Addr} {c2 : Addr} {c3 : Addr} {c4 : Addr} : List.lookup ("longer" : Str) (ct4 c1 c2 c3 c4) = none := rfl
theorem ctm5 {c1 : Addr} {c2 : Addr} {c3 : Addr} {c4 : Addr} {c5 : Addr} : List.lookup ("longer" : Str) (ct5 c1 c2 c3 c4 c5) = none := rfl
theorem ctm6 {c1 : Addr} {c2 : Addr} {c3 : Addr} {c4 : Addr} {c5 : Addr} {c6 : Addr} : List.lookup ("longer" : Str) (ct6 c1 c2 c3 c4 c5 c6) = none := rfl
theorem ctm7 {c1 : Addr} {c2 : Addr} {c3 : Addr} {c4 : Addr} {c5 : Addr} {c6 : Addr} {c7 : Addr} : List.lookup ("longer" : Str) (ct7 c1 c2 c3 c4 c5 c6 c7) = none := rfl
theorem ctm8 {c1 : Addr} {c2 : Addr} {c3 : Addr} {c4 : Addr} {c5 : Addr} {c6 : Addr} {c7 : Addr} {c8 : Addr} : List.lookup ("longer" : Str) (ct8 c1 c2 c3 c4 c5 c6 c7 c8) = none := rfl
theorem nil_len : ([] : List (Str × V)).length < 1000 := by decide
structure FgC (K : PySem.W.Frag) (C : Addr) : Prop where
  cls : Cls K C
  a_tails : NoAttr K C "tails"
  a_going : NoAttr K C "going"
  a_stopping : NoAttr K C "stopping"

structure CtC (K : PySem.W.Frag) (C : Addr) : Prop where
  cls : Cls K C
  a_by_copy : NoAttr K C "by_copy"
  a_by_year : NoAttr K C "by_year"
  a_by_makers : NoAttr K C "by_makers"
  a_by_figures : NoAttr K C "by_figures"
  a_by_points : NoAttr K C "by_points"
  a_by_number : NoAttr K C "by_number"
  a_by_word : NoAttr K C "by_word"
  a_by_sign : NoAttr K C "by_sign"

/-- a Figures of a table, a Counts up to n -/
def Figs (C : Addr) (H : Hp) (x : Addr) (n : Nat) (T : Nat → Int) : Prop := ∃ dx q g s, H x = some (.ins C dx (fg3 q g s)) ∧ H g = some (.lst (iv (sq n (goF T)))) ∧ H s = some (.lst (iv (sq n (stF T))))
theorem Figs.fr {C : Addr} {H H' : Hp} {x : Addr} {n : Nat} {T : Nat → Int} (h : Figs C H x n T) (f : Fr [] H H') : Figs C H' x n T := by
  obtain ⟨dx, q, g, s, h1, h2, h3⟩ := h
  exact ⟨dx, q, g, s, f.get (by simp) h1, f.get (by simp) h2, f.get (by simp) h3⟩
def Cnts (C : Addr) (H : Hp) (x : Addr) (n : Nat) : Prop := ∃ dx fs s, H x = some (.ins C dx fs) ∧ List.lookup ("by_sign" : Str) fs = some (.ref s) ∧ H s = some (.lst (iv (sq (n + 1) sigF)))
theorem Cnts.fr {C : Addr} {H H' : Hp} {x : Addr} {n : Nat} (h : Cnts C H x n) (f : Fr [] H H') : Cnts C H' x n := by
  obtain ⟨dx, fs, s, h1, h2, h3⟩ := h
  exact ⟨dx, fs, s, f.get (by simp) h1, h2, f.get (by simp) h3⟩
theorem iv_refs {n : Nat} {F : Nat → Int} {rs : List Addr} : iv (sq (n + 1) F) ≠ rs.map V.ref := by
  intro h
  have e := congrArg List.getLast? h
  rw [sq_succ, ← iv_app, List.getLast?_map] at e
  simp [iv] at e
  cases hq : rs.getLast? with
  | none => rw [hq] at e; cases e
  | some r => rw [hq] at e; cases e
def repL (k : Nat) (xs : List V) : List V := (List.replicate k xs).flatten
theorem e_mul2' {p : Addr} {i : Int} {H : Hp} {Q : VK} : rMul (.ref p) (.int i) H Q = optE ((H p).bind lstOf) fun xs => 0 ≤ i ∧ i < 2 ^ 63 ∧ xs.length * i.toNat ≤ 16777216 ∧ ∀ r, H r = none → Q (.ref r) (upd H r (.lst (repL i.toNat xs))) := e_mul2
def repZ (k : Nat) (z : Int) : List Int := List.replicate k z
theorem repZ_len {k : Nat} {z : Int} : (repZ k z).length = k := List.length_replicate ..
theorem rep_iv {k : Nat} {z : Int} : repL k [V.int z] = iv (repZ k z) := by
  unfold repL repZ
  induction k with
  | zero => rfl
  | succ k ih => rw [List.replicate_succ, List.flatten_cons, ih]; rfl
theorem rep_sq {k : Nat} {z : Int} : repZ k z = sq k (fun _ => z) := by
  unfold repZ
  apply List.ext_getElem
  · simp [sq]
  · intro i h1 h2; simp [sq]
theorem mulW {i j : Int} (h1 : i.natAbs < 2 ^ 1000) (h2 : j.natAbs < 2 ^ 1000) : MulOk i j := by
  have lg : ∀ n : Nat, n < 2 ^ 1000 → n.log2 < 1000 := fun n h => by
    by_cases e : n = 0
    · subst e; decide
    · exact (Nat.log2_lt e).mpr h
  refine .inr ?_
  show i.natAbs.log2 + j.natAbs.log2 < 1000000
  have a := lg _ h1
  have b := lg _ h2
  omega
theorem ixN_of {n k : Nat} {i : Int} (h : i = k) (hk : k < n) : ixN n i = some k := by
  subst h
  unfold ixN
  rw [if_pos (by omega), if_pos (by omega)]; simp
theorem iv_set {l : List Int} {k : Nat} {v : Int} : (iv l).set k (.int v) = iv (l.set k v) := (List.map_set ..).symm
theorem iv_cut {l : List Int} {lo hi : Option Int} : cutL (iv l) lo hi = iv (cutL l lo hi) := by
  unfold cutL
  rw [List.length_map]
  show List.take _ (List.drop _ (List.map V.int l)) = List.map V.int (List.take _ (List.drop _ l))
  rw [List.map_take, List.map_drop]
theorem lc_scale {K : PySem.W.Frag} {p : Addr} {T : List Int} {c : Int} {i : Nat} {σ : L2.St} {Q : VK} {H1 : Hp} {g : TG} {tt : TT} {te : TE} (hg : g = gName i) (ht : tt = tYes) (he : te = tOp rMul (tC (.int c)) (tVar i)) (hi : i < σ.length) (ha : H1 p = some (.lst (iv T))) (hl : T.length < 16777216) (hc : -(2 ^ 64) < c ∧ c < 2 ^ 64)
    (hd : ∀ D H, H1 D = none → Fr [] H1 H → H D = some (.lst (iv (T.map (c * ·)))) → Q (.ref D) H) : lcBody g tt te [i] σ Q (Itl K p) H1 := by
  subst hg ht he
  refine lcM walk_list (iv (T.map (c * ·))) (by rw [iv_len, iv_len, List.length_map]) (by rw [iv_len, List.length_map]; exact hl) rfl (fun H f => SqL_fr f (SqL.of ha)) ?_ hd
  rintro j y v H H' R hy f ⟨rfl, hv⟩ kR
  obtain ⟨h1, rfl⟩ := iv_at hv
  have h2 : y = .int (c * T.getD j 0) := by
    obtain ⟨h3, h4⟩ := iv_at hy
    rw [h4]
    simp [List.getD, List.getElem?_map, List.getElem?_eq_getElem h1]
  subst h2
  have hw : (wipe σ [i]).length = σ.length := wipe_length ..
  refine ⟨by simp [wipe], .int (T.getD j 0), ?_, mulL hc, kR _ .refl⟩
  rw [List.getElem?_set_self (by rw [hw]; exact hi)]
theorem bnd_of {l : List Int} (h : l.all (fun z => decide (z.natAbs < 2 ^ 1000)) = true) : ∀ i, (l.getD i 0).natAbs < 2 ^ 1000 := by
  intro i
  by_cases hi : i < l.length
  · have := List.all_eq_true.mp h l[i] (List.getElem_mem hi)
    simp only [List.getD, List.getElem?_eq_getElem hi, Option.getD_some]
    exact of_decide_eq_true this
  · have e : l.getD i 0 = 0 := by simp [List.getD, List.getElem?_eq_none (show l.length ≤ i by omega)]
    rw [e]
    decide +kernel
theorem tens_step {i : Nat} (h : i < 59) : iv (l_tens.take (i + 1)) ++ [V.int (10 * l_tens.getD i 0)] = iv (l_tens.take (i + 1 + 1)) := by
  have hc : (List.range 59).all (fun i => decide (10 * l_tens.getD i 0 = l_tens.getD (i + 1) 0)) = true := by decide +kernel
  have q := of_decide_eq_true (List.all_eq_true.mp hc i (List.mem_range.mpr h))
  have hl : l_tens.length = 60 := by decide +kernel
  rw [q, List.take_add_one (i := i + 1), ← iv_app]
  simp [List.getD, List.getElem?_eq_getElem (show i + 1 < l_tens.length by omega), iv]
theorem tens_last {i : Nat} (h : i < 60) : atI (iv (l_tens.take (i + 1))) (-1) = some (.int (l_tens.getD i 0)) := by
  have hl : l_tens.length = 60 := by decide +kernel
  rw [List.take_add_one, ← iv_app]
  have e : iv (l_tens[i]?.toList) = [V.int (l_tens.getD i 0)] := by
    simp [List.getD, List.getElem?_eq_getElem (show i < l_tens.length by omega), iv]
  rw [e]
  exact atI_lastV
theorem tens_all : l_tens.take 60 = l_tens := by decide +kernel
theorem tens_len : l_tens.length = 60 := by decide +kernel
theorem n_maker : l_maker.length = 61 ∧ (∀ i, (l_maker.getD i 0).natAbs < 2 ^ 1000) := ⟨by decide +kernel, bnd_of (by decide +kernel)⟩
theorem n_two : l_two.length = 61 ∧ (∀ i, (l_two.getD i 0).natAbs < 2 ^ 1000) := ⟨by decide +kernel, bnd_of (by decide +kernel)⟩
theorem n_tri : l_tri.length = 61 := by decide +kernel
theorem n_makers : l_makers.length = 61 := by decide +kernel
theorem n_a1 : (lngL [0, 26, 676, 17576]).length = 61 ∧ (∀ i, ((lngL [0, 26, 676, 17576]).getD i 0).natAbs < 2 ^ 1000) := ⟨by decide +kernel, bnd_of (by decide +kernel)⟩
theorem n_o1 : (lngL [0, 9, 90, 900, 9000]).length = 61 ∧ (∀ i, ((lngL [0, 9, 90, 900, 9000]).getD i 0).natAbs < 2 ^ 1000) := ⟨by decide +kernel, bnd_of (by decide +kernel)⟩
theorem n_a2 : (lngL ([1, 0] ++ l_tens.map (9 * ·))).length = 61 ∧ (∀ i, ((lngL ([1, 0] ++ l_tens.map (9 * ·))).getD i 0).natAbs < 2 ^ 1000) := ⟨by decide +kernel, bnd_of (by decide +kernel)⟩
theorem n_f1 : l_f1.length = 61 ∧ (∀ i, (l_f1.getD i 0).natAbs < 2 ^ 1000) := ⟨by decide +kernel, bnd_of (by decide +kernel)⟩
theorem n_f2 : l_f2.length = 61 ∧ (∀ i, (l_f2.getD i 0).natAbs < 2 ^ 1000) := ⟨by decide +kernel, bnd_of (by decide +kernel)⟩
theorem n_f3 : l_f3.length = 61 ∧ (∀ i, (l_f3.getD i 0).natAbs < 2 ^ 1000) := ⟨by decide +kernel, bnd_of (by decide +kernel)⟩
theorem n_f4 : l_f4.length = 61 ∧ (∀ i, (l_f4.getD i 0).natAbs < 2 ^ 1000) := ⟨by decide +kernel, bnd_of (by decide +kernel)⟩
theorem n_a3 : ([1] ++ l_makers.drop 1).length = 61 ∧ (∀ i, (([1] ++ l_makers.drop 1).getD i 0).natAbs < 2 ^ 1000) := ⟨by decide +kernel, bnd_of (by decide +kernel)⟩
theorem n_a4 : (lngL [1, 0, 0, 0, 0, 2000]).length = 61 ∧ (∀ i, ((lngL [1, 0, 0, 0, 0, 2000]).getD i 0).natAbs < 2 ^ 1000) := ⟨by decide +kernel, bnd_of (by decide +kernel)⟩
theorem n_a5 : (lngL ([1, 0, 0, 0, 8] ++ l_tens.map (90 * ·))).length = 61 ∧ (∀ i, ((lngL ([1, 0, 0, 0, 8] ++ l_tens.map (90 * ·))).getD i 0).natAbs < 2 ^ 1000) := ⟨by decide +kernel, bnd_of (by decide +kernel)⟩
theorem n_f5 : l_f5.length = 61 := by decide +kernel
theorem iv_int {i : Int} : [V.int i] = iv [i] := rfl
theorem iv_nil : ([] : List V) = iv [] := rfl
end U

namespace U
open PySem PySem.Spec PyProof.Rows L2
/-! ### ranks: what stands ahead of figures that are followed by what has rank r -/
/-- signs d (from 48 on) at n signs left: what stands ahead of texts that begin with d -/
def dg (T : Nat → Int) (d : Nat) (n : Nat) : Int := if d = 48 then 0 else goF T n + ((d : Int) - 49) * stF T n
def blk (T : Nat → Int) (d : Nat) (n : Nat) : Int := if d = 48 then goF T n else stF T n
def gv (T : Nat → Int) : List Nat → Nat → Int → Int
  | [], _, r => r
  | [d], n, r => dg T d (n - 1) + r
  | d :: e :: ds, n, r => dg T d (n - 1) + (if d = 48 then 0 else T (n - 1)) + gv T (e :: ds) (n - 1) r
theorem gs_pos {T : Nat → Int} (hT : ∀ i, 0 ≤ T i) : ∀ n, 0 ≤ goF T n ∧ 0 ≤ stF T n
  | 0 => ⟨Int.le_refl _, hT 0⟩
  | n + 1 => by
    obtain ⟨h1, h2⟩ := gs_pos hT n
    have h3 := hT (n + 1)
    rw [stF_s, goF_s]
    exact ⟨by omega, by omega⟩
theorem st_eq {T : Nat → Int} {n : Nat} : stF T n = T n + goF T n := by
  cases n with
  | zero => show T 0 = T 0 + 0; omega
  | succ n => exact stF_s
def FigOk (ds : List Nat) : Prop := ds ≠ [] ∧ (∀ d ∈ ds, 48 ≤ d ∧ d ≤ 57) ∧ ds.getLast? ≠ some 48
theorem FigOk.tail {d e : Nat} {ds : List Nat} (h : FigOk (d :: e :: ds)) : FigOk (e :: ds) := by
  obtain ⟨_, h2, h3⟩ := h
  refine ⟨by simp, fun x hx => h2 x (List.mem_cons_of_mem _ hx), ?_⟩
  rwa [List.getLast?_cons_cons] at h3
theorem dg_next {T : Nat → Int} (hT : ∀ i, 0 ≤ T i) {d e n : Nat} (h : d < e) (hd : 48 ≤ d) : dg T d n + blk T d n ≤ dg T e n := by
  obtain ⟨h1, h2⟩ := gs_pos hT n
  unfold dg blk
  rw [if_neg (show ¬ e = 48 by omega)]
  by_cases e1 : d = 48
  · rw [if_pos e1, if_pos e1]
    have : 0 ≤ ((e : Int) - 49) * stF T n := Int.mul_nonneg (by omega) h2
    omega
  · rw [if_neg e1, if_neg e1]
    have : ((d : Int) - 49) * stF T n + stF T n ≤ ((e : Int) - 49) * stF T n := by
      have : ((d : Int) - 49) * stF T n + stF T n = ((d : Int) - 49 + 1) * stF T n := by rw [Int.add_mul, Int.one_mul]
      rw [this]
      exact Int.mul_le_mul_of_nonneg_right (by omega) h2
    omega
theorem dg_pos {T : Nat → Int} (hT : ∀ i, 0 ≤ T i) {d n : Nat} (hd : 48 ≤ d) : 0 ≤ dg T d n := by
  obtain ⟨h1, h2⟩ := gs_pos hT n
  unfold dg
  by_cases e1 : d = 48
  · rw [if_pos e1]; exact Int.le_refl _
  · rw [if_neg e1]
    have : 0 ≤ ((d : Int) - 49) * stF T n := Int.mul_nonneg (by omega) h2
    omega
/-- the value lies in the block of its first sign -/
theorem gv_in {T : Nat → Int} (hT : ∀ i, 0 ≤ T i) : ∀ (ds : List Nat) (d n : Nat) (r : Int), FigOk (d :: ds) → (d :: ds).length ≤ n → 0 ≤ r → r < T (n - (d :: ds).length) → dg T d (n - 1) ≤ gv T (d :: ds) n r ∧ gv T (d :: ds) n r < dg T d (n - 1) + blk T d (n - 1)
  | [], d, n, r, ok, hl, h0, h1 => by
    have hd : d ≠ 48 := by
      rintro rfl
      exact ok.2.2 rfl
    obtain ⟨g1, g2⟩ := gs_pos hT (n - 1)
    have e := st_eq (T := T) (n := n - 1)
    have h1 : r < T (n - 1) := h1
    have hb : blk T d (n - 1) = stF T (n - 1) := if_neg hd
    show dg T d (n - 1) ≤ dg T d (n - 1) + r ∧ dg T d (n - 1) + r < _
    rw [hb]
    omega
  | e :: ds, d, n, r, ok, hl, h0, h1 => by
    obtain ⟨g1, g2⟩ := gs_pos hT (n - 1)
    obtain ⟨k1, k2⟩ := gs_pos hT (n - 1 - 1)
    have hl2 : (e :: ds).length ≤ n - 1 := by simp only [List.length_cons] at hl ⊢; omega
    have hn : n - 1 - (e :: ds).length = n - (d :: e :: ds).length := by simp only [List.length_cons]; omega
    obtain ⟨i1, i2⟩ := gv_in hT ds e (n - 1) r ok.tail hl2 h0 (by rw [hn]; exact h1)
    have he := ok.tail.2.1 e List.mem_cons_self
    have hn1 : 1 ≤ n - 1 := by simp only [List.length_cons] at hl2; omega
    have top : gv T (e :: ds) (n - 1) r < goF T (n - 1) := by
      obtain ⟨m, hm⟩ : ∃ m, n - 1 = m + 1 := ⟨n - 2, by omega⟩
      rw [hm] at i2 ⊢
      rw [goF_s]
      have q : dg T e m + blk T e m ≤ goF T m + 9 * stF T m := by
        obtain ⟨w1, w2⟩ := gs_pos hT m
        unfold dg blk
        by_cases e1 : e = 48
        · rw [if_pos e1, if_pos e1]; omega
        · rw [if_neg e1, if_neg e1]
          have : ((e : Int) - 49) * stF T m ≤ 8 * stF T m := Int.mul_le_mul_of_nonneg_right (by omega) w2
          omega
      exact Int.lt_of_lt_of_le i2 q
    have low : 0 ≤ gv T (e :: ds) (n - 1) r := Int.le_trans (dg_pos hT he.1) i1
    have es := st_eq (T := T) (n := n - 1)
    have t1 := hT (n - 1)
    show dg T d (n - 1) ≤ dg T d (n - 1) + (if d = 48 then 0 else T (n - 1)) + gv T (e :: ds) (n - 1) r ∧ _ + gv T (e :: ds) (n - 1) r < _
    unfold blk
    by_cases e1 : d = 48
    · simp only [if_pos e1]; omega
    · simp only [if_neg e1]; omega
/-- figures with what follows them: below all that may go on -/
theorem gv_lt {T : Nat → Int} (hT : ∀ i, 0 ≤ T i) {ds : List Nat} {n : Nat} {r : Int} (ok : FigOk ds) (hl : ds.length ≤ n) (h0 : 0 ≤ r) (h1 : r < T (n - ds.length)) : 0 ≤ gv T ds n r ∧ gv T ds n r < goF T n := by
  cases ds with
  | nil => exact (ok.1 rfl).elim
  | cons d ds =>
    obtain ⟨i1, i2⟩ := gv_in hT ds d n r ok hl h0 h1
    have hd := ok.2.1 d List.mem_cons_self
    refine ⟨Int.le_trans (dg_pos hT hd.1) i1, ?_⟩
    obtain ⟨m, hm⟩ : ∃ m, n = m + 1 := ⟨n - 1, by simp only [List.length_cons] at hl; omega⟩
    rw [hm] at i2 ⊢
    rw [goF_s]
    have q : dg T d m + blk T d m ≤ goF T m + 9 * stF T m := by
      obtain ⟨w1, w2⟩ := gs_pos hT m
      unfold dg blk
      by_cases e1 : d = 48
      · rw [if_pos e1, if_pos e1]; omega
      · rw [if_neg e1, if_neg e1]
        have : ((d : Int) - 49) * stF T m ≤ 8 * stF T m := Int.mul_le_mul_of_nonneg_right (by omega) w2
        omega
    exact Int.lt_of_lt_of_le i2 q
theorem gv_mono {T : Nat → Int} (hT : ∀ i, 0 ≤ T i) : ∀ (ds es : List Nat) (n : Nat) (r s : Int), FigOk ds → FigOk es → ds.length ≤ n → es.length ≤ n → 0 ≤ r → r < T (n - ds.length) → 0 ≤ s → s < T (n - es.length) → ds < es → gv T ds n r < gv T es n s
  | [], _, _, _, _, h, _, _, _, _, _, _, _, _ => (h.1 rfl).elim
  | _ :: _, [], _, _, _, _, h, _, _, _, _, _, _, _ => (h.1 rfl).elim
  | d :: ds, e :: es, n, r, s, o1, o2, l1, l2, r0, r1, s0, s1, hlt => by
    obtain ⟨a1, a2⟩ := gv_in hT ds d n r o1 l1 r0 r1
    obtain ⟨b1, b2⟩ := gv_in hT es e n s o2 l2 s0 s1
    have hd := o1.2.1 d List.mem_cons_self
    rcases List.cons_lt_cons_iff.mp hlt with h | ⟨rfl, h⟩
    · have := dg_next hT (n := n - 1) h hd.1
      omega
    · cases es with
      | nil => exact absurd h (List.not_lt_nil _)
      | cons e2 es =>
        cases ds with
        | nil =>
          have hd0 : d ≠ 48 := by rintro rfl; exact o1.2.2 rfl
          have r1 : r < T (n - 1) := r1
          have l3 : (e2 :: es).length ≤ n - 1 := by simp only [List.length_cons] at l2 ⊢; omega
          have hn : n - 1 - (e2 :: es).length = n - (d :: e2 :: es).length := by simp only [List.length_cons]; omega
          have g := (gv_lt hT (ds := e2 :: es) (n := n - 1) (r := s) o2.tail l3 s0 (by rw [hn]; exact s1)).1
          show dg T d (n - 1) + r < dg T d (n - 1) + (if d = 48 then 0 else T (n - 1)) + gv T (e2 :: es) (n - 1) s
          rw [if_neg hd0]
          omega
        | cons d2 ds =>
          have l3 : (e2 :: es).length ≤ n - 1 := by simp only [List.length_cons] at l2 ⊢; omega
          have l4 : (d2 :: ds).length ≤ n - 1 := by simp only [List.length_cons] at l1 ⊢; omega
          have hn : n - 1 - (e2 :: es).length = n - (d :: e2 :: es).length := by simp only [List.length_cons]; omega
          have hm : n - 1 - (d2 :: ds).length = n - (d :: d2 :: ds).length := by simp only [List.length_cons]; omega
          have g := gv_mono hT (d2 :: ds) (e2 :: es) (n - 1) r s o1.tail o2.tail l4 l3 r0 (by rw [hm]; exact r1) s0 (by rw [hn]; exact s1) h
          show dg T d (n - 1) + (if d = 48 then 0 else T (n - 1)) + gv T (d2 :: ds) (n - 1) r < dg T d (n - 1) + (if d = 48 then 0 else T (n - 1)) + gv T (e2 :: es) (n - 1) s
          omega
theorem gv_rest {T : Nat → Int} : ∀ (ds : List Nat) (n : Nat) (r s : Int), r < s → gv T ds n r < gv T ds n s
  | [], _, _, _, h => h
  | [d], n, r, s, h => by show dg T d (n - 1) + r < dg T d (n - 1) + s; omega
  | d :: e :: ds, n, r, s, h => by
    have g := gv_rest (T := T) (e :: ds) (n - 1) r s h
    show dg T d (n - 1) + (if d = 48 then 0 else T (n - 1)) + gv T (e :: ds) (n - 1) r < dg T d (n - 1) + (if d = 48 then 0 else T (n - 1)) + gv T (e :: ds) (n - 1) s
    omega
end U

namespace U
open PySem PySem.Spec PyProof.Rows L2
/-! ### copies, years -/
theorem copF_eq : ∀ k, copF k = if k < 4 then 1 else 10 ^ (k - 3) - 1
  | 0 => rfl
  | k + 1 => by
    show (if k + 1 < 4 then 1 else if k + 1 = 4 then 9 else 10 * copF k + 9) = _
    by_cases h1 : k + 1 < 4
    · rw [if_pos h1, if_pos h1]
    · rw [if_neg h1, if_neg h1]
      by_cases h2 : k + 1 = 4
      · rw [if_pos h2, h2]; rfl
      · rw [if_neg h2, copF_eq k, if_neg (by omega)]
        have e : k + 1 - 3 = (k - 3) + 1 := by omega
        rw [e, Int.pow_succ]
        omega
theorem copF_pos (k : Nat) : 1 ≤ copF k := by
  rw [copF_eq]
  by_cases h : k < 4
  · rw [if_pos h]; exact Int.le_refl _
  · rw [if_neg h]
    have e : k - 3 = (k - 4) + 1 := by omega
    rw [e, Int.pow_succ]
    have : (0 : Int) < 10 ^ (k - 4) := Int.pow_pos (by decide)
    omega
theorem num_lt_pow (n : Nat) : n < 10 ^ (numL n).length := by
  have h := valL_lt (numL n) (figs_le (num_figs n))
  have e : valL (numL n) = n := TL.numL_val n
  rwa [e] at h
def clen : Option Int → Nat
  | none => 0
  | some i => 3 + (numL i.toNat).length
def ylen : Option Int → Nat
  | none => 0
  | some _ => 5
def copR : Option Int → Int
  | none => 0
  | some i => i - 1
theorem copR_lt {c : Option Int} {n : Nat} (hc : ∀ i, c = some i → 2 ≤ i) (hl : clen c ≤ n) : 0 ≤ copR c ∧ copR c < copF n := by
  cases c with
  | none => exact ⟨Int.le_refl _, copF_pos n⟩
  | some i =>
    have h2 := hc i rfl
    have h3 := num_lt_pow i.toNat
    have hl : 3 + (numL i.toNat).length ≤ n := hl
    have h0 : 1 ≤ (numL i.toNat).length := by
      cases e : numL i.toNat with
      | nil => exact (TL.numL_ne _ e).elim
      | cons a b => simp
    have h4 : 10 ^ (numL i.toNat).length ≤ 10 ^ (n - 3) := Nat.pow_le_pow_right (by decide) (by omega)
    have h5 : i.toNat < 10 ^ (n - 3) := Nat.lt_of_lt_of_le h3 h4
    have h6 : (i.toNat : Int) < 10 ^ (n - 3) := by exact_mod_cast h5
    show 0 ≤ i - 1 ∧ i - 1 < copF n
    rw [copF_eq, if_neg (by omega)]
    omega
def endR (y c : Option Int) (n : Nat) : Int := match y with
  | none => copR c
  | some i => copF n + (i - 1000) * copF (n - 5) + copR c
theorem yearF_eq {n : Nat} (h : 5 ≤ n) : yearF n = copF n + 2000 * copF (n - 5) := by
  show copF n + 2000 * entF copF ((n : Int) - 5) = _
  unfold entF
  rw [if_neg (by omega), show ((n : Int) - 5).toNat = n - 5 by omega]
theorem ent_pos {F : Nat → Int} (h : ∀ i, 0 ≤ F i) (i : Int) : 0 ≤ entF F i := by
  unfold entF
  by_cases e : i < 0
  · rw [if_pos e]; exact Int.le_refl _
  · rw [if_neg e]; exact h _
theorem yearF_ge (n : Nat) : copF n ≤ yearF n := by
  have := ent_pos (fun i => Int.le_trans (by decide) (copF_pos i)) ((n : Int) - 5)
  show copF n ≤ copF n + 2000 * entF copF ((n : Int) - 5)
  omega
theorem endR_lt {y c : Option Int} {n : Nat} (hy : ∀ i, y = some i → 1000 ≤ i ∧ i ≤ 2999) (hc : ∀ i, c = some i → 2 ≤ i) (hl : ylen y + clen c ≤ n) : 0 ≤ endR y c n ∧ endR y c n < yearF n := by
  cases y with
  | none =>
    have hl : 0 + clen c ≤ n := hl
    obtain ⟨h1, h2⟩ := copR_lt hc (by omega : clen c ≤ n)
    exact ⟨h1, Int.lt_of_lt_of_le h2 (yearF_ge n)⟩
  | some i =>
    obtain ⟨y1, y2⟩ := hy i rfl
    have hl : 5 + clen c ≤ n := hl
    obtain ⟨h1, h2⟩ := copR_lt hc (by omega : clen c ≤ n - 5)
    have p1 := copF_pos n
    have p2 := copF_pos (n - 5)
    rw [yearF_eq (by omega)]
    show 0 ≤ copF n + (i - 1000) * copF (n - 5) + copR c ∧ copF n + (i - 1000) * copF (n - 5) + copR c < _
    have m1 : 0 ≤ (i - 1000) * copF (n - 5) := Int.mul_nonneg (by omega) (by omega)
    have m2 : (i - 1000) * copF (n - 5) ≤ 1999 * copF (n - 5) := Int.mul_le_mul_of_nonneg_right (by omega) (by omega)
    omega
/-- the order of year and copy -/
def endLt (y c y' c' : Option Int) : Prop := y.getD 0 < y'.getD 0 ∨ (y = y' ∧ c.getD 0 < c'.getD 0)
theorem endR_mono {y c y' c' : Option Int} {n : Nat} (hy : ∀ i, y = some i → 1000 ≤ i ∧ i ≤ 2999) (hc : ∀ i, c = some i → 2 ≤ i) (hl : ylen y + clen c ≤ n) (hy' : ∀ i, y' = some i → 1000 ≤ i ∧ i ≤ 2999) (hc' : ∀ i, c' = some i → 2 ≤ i) (hl' : ylen y' + clen c' ≤ n) (h : endLt y c y' c') : endR y c n < endR y' c' n := by
  have cop : c.getD 0 < c'.getD 0 → copR c < copR c' := fun h => by
    cases c with
    | none =>
      cases c' with
      | none => exact absurd h (by decide)
      | some j => have := hc' j rfl; show 0 < j - 1; omega
    | some i =>
      have := hc i rfl
      cases c' with
      | none => simp at h; omega
      | some j => simp at h; show i - 1 < j - 1; omega
  rcases h with h | ⟨rfl, h⟩
  · cases y' with
    | none =>
      cases y with
      | none => exact absurd h (by decide)
      | some i => have := hy i rfl; simp at h; omega
    | some j =>
      have hl' : 5 + clen c' ≤ n := hl'
      obtain ⟨h3, h4⟩ := copR_lt hc' (by omega : clen c' ≤ n - 5)
      obtain ⟨j1, j2⟩ := hy' j rfl
      have p2 := copF_pos (n - 5)
      show _ < copF n + (j - 1000) * copF (n - 5) + copR c'
      have m1 : 0 ≤ (j - 1000) * copF (n - 5) := Int.mul_nonneg (by omega) (by omega)
      cases y with
      | none =>
        have hl : 0 + clen c ≤ n := hl
        obtain ⟨h1, h2⟩ := copR_lt hc (by omega : clen c ≤ n)
        show copR c < _
        omega
      | some i =>
        have hl : 5 + clen c ≤ n := hl
        obtain ⟨h1, h2⟩ := copR_lt hc (by omega : clen c ≤ n - 5)
        have h : i < j := h
        show copF n + (i - 1000) * copF (n - 5) + copR c < _
        have m2 : (i - 1000) * copF (n - 5) + copF (n - 5) ≤ (j - 1000) * copF (n - 5) := by
          have e : (i - 1000) * copF (n - 5) + copF (n - 5) = (i - 1000 + 1) * copF (n - 5) := by rw [Int.add_mul, Int.one_mul]
          rw [e]
          exact Int.mul_le_mul_of_nonneg_right (by omega) (by omega)
        omega
  · have := cop h
    cases y with
    | none => exact this
    | some i =>
      show copF n + (i - 1000) * copF (n - 5) + copR c < copF n + (i - 1000) * copF (n - 5) + copR c'
      omega
/-! ### makers -/
theorem endF_pos : ∀ k n, 0 ≤ endF k n
  | 0, n => Int.le_trans (Int.le_trans (by decide) (copF_pos n)) (yearF_ge n)
  | k + 1, n => by
    have h1 := Int.le_trans (Int.le_trans (by decide : (0 : Int) ≤ 1) (copF_pos n)) (yearF_ge n)
    have h2 := ent_pos (fun i => (gs_pos (endF_pos k) i).1) ((n : Int) - 2)
    show 0 ≤ yearF n + 26 * entF (goF (endF k)) ((n : Int) - 2)
    omega
def mlen : List (List Nat) → Nat
  | [] => 0
  | m :: ms => 1 + m.length + mlen ms
def mkR : Nat → List (List Nat) → Nat → Int → Int
  | _, [], _, e => e
  | k, m :: ms, n, e => yearF n + ((m.headD 97 : Nat) - 97 : Int) * goF (endF (k - 1)) (n - 2) + gv (endF (k - 1)) m.tail (n - 2) (mkR (k - 1) ms (n - 1 - m.length) e)
theorem figs_ok {l : List Nat} (h : figsB l = true) : FigOk l := by
  have h1 := figs_all h
  unfold figsB at h
  simp only [Bool.and_eq_true, Bool.not_eq_true', List.isEmpty_eq_false_iff, beq_eq_false_iff_ne] at h
  exact ⟨h.1.1, h1, h.2⟩
theorem endF_s {k n : Nat} (h : 2 ≤ n) : endF (k + 1) n = yearF n + 26 * goF (endF k) (n - 2) := by
  show yearF n + 26 * entF (goF (endF k)) ((n : Int) - 2) = _
  unfold entF
  rw [if_neg (by omega), show ((n : Int) - 2).toNat = n - 2 by omega]
theorem mkR_lt : ∀ (ms : List (List Nat)) (k n : Nat) (e : Int), ms.length ≤ k → (∀ m ∈ ms, makerB m = true) → mlen ms ≤ n → 0 ≤ e → e < yearF (n - mlen ms) → 0 ≤ mkR k ms n e ∧ mkR k ms n e < endF k n
  | [], k, n, e, _, _, _, h0, h1 => by
    refine ⟨h0, ?_⟩
    show e < endF k n
    have h1 : e < yearF n := h1
    cases k with
    | zero => exact h1
    | succ k =>
      have h2 := ent_pos (fun i => (gs_pos (endF_pos k) i).1) ((n : Int) - 2)
      show e < yearF n + 26 * entF (goF (endF k)) ((n : Int) - 2)
      omega
  | m :: ms, 0, n, e, hk, _, _, _, _ => absurd hk (by simp)
  | m :: ms, k + 1, n, e, hk, hm, hl, h0, h1 => by
    obtain ⟨c, l, rfl, hc, hf⟩ := maker_at (hm m List.mem_cons_self)
    have fo := figs_ok hf
    have hl : 1 + (l.length + 1) + mlen ms ≤ n := hl
    have i := mkR_lt ms k (n - 1 - (l.length + 1)) e (by simp at hk; omega) (fun x hx => hm x (List.mem_cons_of_mem _ hx)) (by omega) h0 (by
      have e1 : n - 1 - (l.length + 1) - mlen ms = n - mlen ((c :: l) :: ms) := by show _ = n - (1 + (l.length + 1) + mlen ms); omega
      rw [e1]; exact h1)
    have e2 : n - 1 - (l.length + 1) = n - 2 - l.length := by omega
    rw [e2] at i
    obtain ⟨g1, g2⟩ := gv_lt (endF_pos k) (n := n - 2) fo (by omega) i.1 i.2
    obtain ⟨w1, w2⟩ := gs_pos (endF_pos k) (n - 2)
    have hy := Int.le_trans (Int.le_trans (by decide : (0 : Int) ≤ 1) (copF_pos n)) (yearF_ge n)
    rw [endF_s (by omega)]
    show 0 ≤ yearF n + ((c : Int) - 97) * goF (endF k) (n - 2) + gv (endF k) l (n - 2) (mkR k ms (n - 1 - (l.length + 1)) e) ∧ yearF n + ((c : Int) - 97) * goF (endF k) (n - 2) + gv (endF k) l (n - 2) (mkR k ms (n - 1 - (l.length + 1)) e) < _
    rw [e2]
    have m1 : 0 ≤ ((c : Int) - 97) * goF (endF k) (n - 2) := Int.mul_nonneg (by omega) w1
    have m2 : ((c : Int) - 97) * goF (endF k) (n - 2) ≤ 25 * goF (endF k) (n - 2) := Int.mul_le_mul_of_nonneg_right (by omega) w1
    omega
/-- the order of makers, then of what follows -/
theorem mkR_mono : ∀ (ms ns : List (List Nat)) (k n : Nat) (e f : Int), ms.length ≤ k → ns.length ≤ k → (∀ m ∈ ms, makerB m = true) → (∀ m ∈ ns, makerB m = true) → mlen ms ≤ n → mlen ns ≤ n → 0 ≤ e → e < yearF (n - mlen ms) → 0 ≤ f → f < yearF (n - mlen ns) → ms < ns → mkR k ms n e < mkR k ns n f
  | _, [], _, _, _, _, _, _, _, _, _, _, _, _, _, _, h => absurd h (List.not_lt_nil _)
  | [], m :: ns, 0, _, _, _, _, hk, _, _, _, _, _, _, _, _, _ => absurd hk (by simp)
  | m :: ms, m' :: ns, 0, _, _, _, hk, _, _, _, _, _, _, _, _, _, _ => absurd hk (by simp)
  | [], m :: ns, k + 1, n, e, f, _, hk, _, hm, _, hl, e0, e1, f0, f1, _ => by
    have e1 : e < yearF n := e1
    obtain ⟨c, l, rfl, hc, hf⟩ := maker_at (hm m List.mem_cons_self)
    have fo := figs_ok hf
    have hl : 1 + (l.length + 1) + mlen ns ≤ n := hl
    have i := mkR_lt ns k (n - 1 - (l.length + 1)) f (by simp at hk; omega) (fun x hx => hm x (List.mem_cons_of_mem _ hx)) (by omega) f0 (by
      have e1 : n - 1 - (l.length + 1) - mlen ns = n - mlen ((c :: l) :: ns) := by show _ = n - (1 + (l.length + 1) + mlen ns); omega
      rw [e1]; exact f1)
    have e2 : n - 1 - (l.length + 1) = n - 2 - l.length := by omega
    rw [e2] at i
    obtain ⟨g1, g2⟩ := gv_lt (endF_pos k) (n := n - 2) fo (by omega) i.1 i.2
    obtain ⟨w1, w2⟩ := gs_pos (endF_pos k) (n - 2)
    show e < yearF n + ((c : Int) - 97) * goF (endF k) (n - 2) + gv (endF k) l (n - 2) (mkR k ns (n - 1 - (l.length + 1)) f)
    rw [e2]
    have m1 : 0 ≤ ((c : Int) - 97) * goF (endF k) (n - 2) := Int.mul_nonneg (by omega) w1
    omega
  | m :: ms, m' :: ns, k + 1, n, e, f, hk, hk', hm, hm', hl, hl', e0, e1, f0, f1, h => by
    obtain ⟨c, l, rfl, hc, hf⟩ := maker_at (hm m List.mem_cons_self)
    obtain ⟨c', l', rfl, hc', hf'⟩ := maker_at (hm' m' List.mem_cons_self)
    have fo := figs_ok hf
    have fo' := figs_ok hf'
    have hl : 1 + (l.length + 1) + mlen ms ≤ n := hl
    have hl' : 1 + (l'.length + 1) + mlen ns ≤ n := hl'
    have q1 : n - 1 - (l.length + 1) - mlen ms = n - mlen ((c :: l) :: ms) := by show _ = n - (1 + (l.length + 1) + mlen ms); omega
    have q2 : n - 1 - (l'.length + 1) - mlen ns = n - mlen ((c' :: l') :: ns) := by show _ = n - (1 + (l'.length + 1) + mlen ns); omega
    have i := mkR_lt ms k (n - 1 - (l.length + 1)) e (by simp at hk; omega) (fun x hx => hm x (List.mem_cons_of_mem _ hx)) (by omega) e0 (by rw [q1]; exact e1)
    have i' := mkR_lt ns k (n - 1 - (l'.length + 1)) f (by simp at hk'; omega) (fun x hx => hm' x (List.mem_cons_of_mem _ hx)) (by omega) f0 (by rw [q2]; exact f1)
    have e2 : n - 1 - (l.length + 1) = n - 2 - l.length := by omega
    have e2' : n - 1 - (l'.length + 1) = n - 2 - l'.length := by omega
    obtain ⟨w1, w2⟩ := gs_pos (endF_pos k) (n - 2)
    have j := i
    have j' := i'
    rw [e2] at j
    rw [e2'] at j'
    obtain ⟨g1, g2⟩ := gv_lt (endF_pos k) (n := n - 2) fo (by omega) j.1 j.2
    obtain ⟨g1', g2'⟩ := gv_lt (endF_pos k) (n := n - 2) fo' (by omega) j'.1 j'.2
    show yearF n + ((c : Int) - 97) * goF (endF k) (n - 2) + gv (endF k) l (n - 2) (mkR k ms (n - 1 - (l.length + 1)) e) < yearF n + ((c' : Int) - 97) * goF (endF k) (n - 2) + gv (endF k) l' (n - 2) (mkR k ns (n - 1 - (l'.length + 1)) f)
    have step : c < c' → ((c : Int) - 97) * goF (endF k) (n - 2) + goF (endF k) (n - 2) ≤ ((c' : Int) - 97) * goF (endF k) (n - 2) := fun hcc => by
      have e : ((c : Int) - 97) * goF (endF k) (n - 2) + goF (endF k) (n - 2) = ((c : Int) - 97 + 1) * goF (endF k) (n - 2) := by rw [Int.add_mul, Int.one_mul]
      rw [e]
      exact Int.mul_le_mul_of_nonneg_right (by omega) w1
    rcases List.cons_lt_cons_iff.mp h with h | ⟨h, h2⟩
    · rcases List.cons_lt_cons_iff.mp h with h5 | ⟨rfl, h5⟩
      · have := step h5
        rw [e2, e2']
        omega
      · have := gv_mono (endF_pos k) l l' (n - 2) _ _ fo fo' (by omega) (by omega) j.1 j.2 j'.1 j'.2 h5
        rw [e2, e2']
        omega
    · injection h with h3 h4
      subst h3 h4
      have r := mkR_mono ms ns k (n - 1 - (l.length + 1)) e f (by simp at hk; omega) (by simp at hk'; omega) (fun x hx => hm x (List.mem_cons_of_mem _ hx)) (fun x hx => hm' x (List.mem_cons_of_mem _ hx)) (by omega) (by omega) e0 (by rw [q1]; exact e1) f0 (by rw [q2]; exact f1) h2
      have := gv_rest (T := endF k) l (n - 2) _ _ r
      omega
theorem mkR_rest : ∀ (ms : List (List Nat)) (k n : Nat) (e f : Int), e < f → mkR k ms n e < mkR k ms n f
  | [], _, _, _, _, h => h
  | m :: ms, k, n, e, f, h => by
    have r := mkR_rest ms (k - 1) (n - 1 - m.length) e f h
    have := gv_rest (T := endF (k - 1)) m.tail (n - 2) _ _ r
    show _ + gv _ _ _ _ < _ + gv _ _ _ _
    omega
end U

namespace U
open PySem PySem.Spec PyProof.Rows L2
/-! ### points -/
theorem numF_s {n : Nat} (h : 1 ≤ n) : numF n = endF 3 n + goF (endF 3) (n - 1) := by
  show endF 3 n + entF (goF (endF 3)) ((n : Int) - 1) = _
  unfold entF
  rw [if_neg (by omega), show ((n : Int) - 1).toNat = n - 1 by omega]
theorem numF_ge (n : Nat) : endF 3 n ≤ numF n := by
  have := ent_pos (fun i => (gs_pos (endF_pos 3) i).1) ((n : Int) - 1)
  show endF 3 n ≤ endF 3 n + entF (goF (endF 3)) ((n : Int) - 1)
  omega
theorem numF_pos (n : Nat) : 0 ≤ numF n := Int.le_trans (endF_pos 3 n) (numF_ge n)
def plen (p : List Nat) : Nat := if p = [] then 0 else 1 + p.length
def ptR (p : List Nat) (n : Nat) (r : Int) : Int := if p = [] then r else endF 3 n + gv (endF 3) p (n - 1) r
theorem pts_ok {p : List Nat} (h : pointsB p = true) (hp : p ≠ []) : FigOk p := by
  unfold pointsB at h
  rw [Bool.or_eq_true, List.isEmpty_iff] at h
  exact figs_ok (h.resolve_left hp)
theorem ptR_lt {p : List Nat} {n : Nat} {r : Int} (h : pointsB p = true) (hl : plen p ≤ n) (h0 : 0 ≤ r) (h1 : r < endF 3 (n - plen p)) : 0 ≤ ptR p n r ∧ ptR p n r < numF n := by
  unfold ptR
  unfold plen at hl h1
  by_cases e : p = []
  · rw [if_pos e] at hl h1 ⊢
    exact ⟨h0, Int.lt_of_lt_of_le h1 (numF_ge n)⟩
  · rw [if_neg e] at hl h1 ⊢
    have e1 : n - (1 + p.length) = n - 1 - p.length := by omega
    rw [e1] at h1
    obtain ⟨g1, g2⟩ := gv_lt (endF_pos 3) (n := n - 1) (pts_ok h e) (by omega) h0 h1
    rw [numF_s (by omega)]
    have := endF_pos 3 n
    omega
theorem ptR_mono {p q : List Nat} {n : Nat} {r s : Int} (h : pointsB p = true) (hl : plen p ≤ n) (h0 : 0 ≤ r) (h1 : r < endF 3 (n - plen p)) (h' : pointsB q = true) (hl' : plen q ≤ n) (h0' : 0 ≤ s) (h1' : s < endF 3 (n - plen q)) (hlt : p < q) : ptR p n r < ptR q n s := by
  have hq : q ≠ [] := by rintro rfl; exact List.not_lt_nil _ hlt
  unfold ptR
  unfold plen at hl h1 hl' h1'
  rw [if_neg hq] at hl' h1' ⊢
  have e1 : n - (1 + q.length) = n - 1 - q.length := by omega
  rw [e1] at h1'
  obtain ⟨g1, g2⟩ := gv_lt (endF_pos 3) (n := n - 1) (pts_ok h' hq) (by omega) h0' h1'
  by_cases e : p = []
  · rw [if_pos e] at hl h1 ⊢
    have h1 : r < endF 3 n := h1
    omega
  · rw [if_neg e] at hl h1 ⊢
    have e1 : n - (1 + p.length) = n - 1 - p.length := by omega
    rw [e1] at h1
    have := gv_mono (endF_pos 3) p q (n - 1) r s (pts_ok h e) (pts_ok h' hq) (by omega) (by omega) h0 h1 h0' h1' hlt
    omega
theorem ptR_rest {p : List Nat} {n : Nat} {r s : Int} (h : r < s) : ptR p n r < ptR p n s := by
  unfold ptR
  by_cases e : p = []
  · rw [if_pos e, if_pos e]; exact h
  · rw [if_neg e, if_neg e]
    have := gv_rest (T := endF 3) p (n - 1) r s h
    omega
/-! ### numbers -/
def kz (m : Int) (z : Int) : Int := max 0 (min m (10 * z) - z)
def nuB (m : Int) (n : Nat) : Int := kz m 1 * entF numF ((n : Int) - 1) + kz m 10 * entF numF ((n : Int) - 2) + kz m 100 * entF numF ((n : Int) - 3) + kz m 1000 * entF numF ((n : Int) - 4)
theorem kz_mono {m k z : Int} (h : m ≤ k) : kz m z ≤ kz k z := by unfold kz; omega
theorem kz_pos {m z : Int} : 0 ≤ kz m z := by unfold kz; omega
theorem nuB_mono {m k : Int} (n : Nat) (h : m ≤ k) : nuB m n ≤ nuB k n := by
  have a := fun z : Int => Int.mul_le_mul_of_nonneg_right (kz_mono (z := z) h) (ent_pos numF_pos ((n : Int) - 1))
  have b := fun z : Int => Int.mul_le_mul_of_nonneg_right (kz_mono (z := z) h) (ent_pos numF_pos ((n : Int) - 2))
  have c := fun z : Int => Int.mul_le_mul_of_nonneg_right (kz_mono (z := z) h) (ent_pos numF_pos ((n : Int) - 3))
  have d := fun z : Int => Int.mul_le_mul_of_nonneg_right (kz_mono (z := z) h) (ent_pos numF_pos ((n : Int) - 4))
  have := a 1
  have := b 10
  have := c 100
  have := d 1000
  unfold nuB
  omega
theorem nuB_pos {m : Int} (n : Nat) : 0 ≤ nuB m n := by
  have a := Int.mul_nonneg (kz_pos (m := m) (z := 1)) (ent_pos numF_pos ((n : Int) - 1))
  have b := Int.mul_nonneg (kz_pos (m := m) (z := 10)) (ent_pos numF_pos ((n : Int) - 2))
  have c := Int.mul_nonneg (kz_pos (m := m) (z := 100)) (ent_pos numF_pos ((n : Int) - 3))
  have d := Int.mul_nonneg (kz_pos (m := m) (z := 1000)) (ent_pos numF_pos ((n : Int) - 4))
  unfold nuB
  omega
theorem len_1 {m : Int} (h0 : 1 ≤ m) (h1 : m < 10) : (numL m.toNat).length = 1 := by
  show (TL.numL m.toNat).length = 1
  rw [TL.numL_lt (by omega)]; rfl
theorem len_s {m : Int} (h0 : 10 ≤ m) : (numL m.toNat).length = (numL (m / 10).toNat).length + 1 := by
  have e : (m / 10).toNat = m.toNat / 10 := by omega
  rw [e]
  show (TL.numL m.toNat).length = (TL.numL (m.toNat / 10)).length + 1
  rw [TL.numL_step (by omega), List.length_append]; rfl
theorem num_size {m : Int} (h0 : 1 ≤ m) (h1 : m ≤ 9999) : (m < 10 ∧ (numL m.toNat).length = 1) ∨ (10 ≤ m ∧ m < 100 ∧ (numL m.toNat).length = 2) ∨ (100 ≤ m ∧ m < 1000 ∧ (numL m.toNat).length = 3) ∨ (1000 ≤ m ∧ (numL m.toNat).length = 4) := by
  by_cases a : m < 10
  · exact .inl ⟨a, len_1 h0 a⟩
  · have s1 := len_s (m := m) (by omega)
    by_cases b : m < 100
    · rw [len_1 (m := m / 10) (by omega) (by omega)] at s1
      exact .inr (.inl ⟨by omega, b, s1⟩)
    · have s2 := len_s (m := m / 10) (by omega)
      by_cases c : m < 1000
      · rw [len_1 (m := m / 10 / 10) (by omega) (by omega)] at s2
        exact .inr (.inr (.inl ⟨by omega, c, by omega⟩))
      · have s3 := len_s (m := m / 10 / 10) (by omega)
        rw [len_1 (m := m / 10 / 10 / 10) (by omega) (by omega)] at s3
        exact .inr (.inr (.inr ⟨by omega, by omega⟩))
theorem entF_nat {F : Nat → Int} {n k : Nat} (h : k ≤ n) : entF F ((n : Int) - (k : Int)) = F (n - k) := by
  unfold entF
  rw [if_neg (by omega), show ((n : Int) - (k : Int)).toNat = n - k by omega]
theorem nuB_step {m : Int} {n : Nat} (h0 : 1 ≤ m) (h1 : m ≤ 9999) (hl : (numL m.toNat).length ≤ n) : nuB (m + 1) n = nuB m n + numF (n - (numL m.toNat).length) := by
  unfold nuB
  rcases num_size h0 h1 with ⟨a, e⟩ | ⟨a, b, e⟩ | ⟨a, b, e⟩ | ⟨a, e⟩
  · rw [e] at hl ⊢
    have k1 : kz (m + 1) 1 = kz m 1 + 1 := by unfold kz; omega
    have k2 : kz (m + 1) 10 = kz m 10 := by unfold kz; omega
    have k3 : kz (m + 1) 100 = kz m 100 := by unfold kz; omega
    have k4 : kz (m + 1) 1000 = kz m 1000 := by unfold kz; omega
    rw [k1, k2, k3, k4, Int.add_mul, Int.one_mul, show entF numF ((n : Int) - 1) = numF (n - 1) from entF_nat (k := 1) hl]
    omega
  · rw [e] at hl ⊢
    have k1 : kz (m + 1) 1 = kz m 1 := by unfold kz; omega
    have k2 : kz (m + 1) 10 = kz m 10 + 1 := by unfold kz; omega
    have k3 : kz (m + 1) 100 = kz m 100 := by unfold kz; omega
    have k4 : kz (m + 1) 1000 = kz m 1000 := by unfold kz; omega
    rw [k1, k2, k3, k4, Int.add_mul, Int.one_mul, show entF numF ((n : Int) - 2) = numF (n - 2) from entF_nat (k := 2) hl]
    omega
  · rw [e] at hl ⊢
    have k1 : kz (m + 1) 1 = kz m 1 := by unfold kz; omega
    have k2 : kz (m + 1) 10 = kz m 10 := by unfold kz; omega
    have k3 : kz (m + 1) 100 = kz m 100 + 1 := by unfold kz; omega
    have k4 : kz (m + 1) 1000 = kz m 1000 := by unfold kz; omega
    rw [k1, k2, k3, k4, Int.add_mul, Int.one_mul, show entF numF ((n : Int) - 3) = numF (n - 3) from entF_nat (k := 3) hl]
    omega
  · rw [e] at hl ⊢
    have k1 : kz (m + 1) 1 = kz m 1 := by unfold kz; omega
    have k2 : kz (m + 1) 10 = kz m 10 := by unfold kz; omega
    have k3 : kz (m + 1) 100 = kz m 100 := by unfold kz; omega
    have k4 : kz (m + 1) 1000 = kz m 1000 + 1 := by unfold kz; omega
    rw [k1, k2, k3, k4, Int.add_mul, Int.one_mul, show entF numF ((n : Int) - 4) = numF (n - 4) from entF_nat (k := 4) hl]
    omega
theorem wordF_eq (n : Nat) : wordF n = nuB 10000 n := by
  show (sq 5 fun z => [0, 9, 90, 900, 9000].getD z 0 * entF numF ((n : Int) - (z : Int))).sum = _
  have k1 : kz 10000 1 = 9 := by decide
  have k2 : kz 10000 10 = 90 := by decide
  have k3 : kz 10000 100 = 900 := by decide
  have k4 : kz 10000 1000 = 9000 := by decide
  unfold nuB
  rw [k1, k2, k3, k4]
  show 0 * entF numF ((n : Int) - 0) + (9 * entF numF ((n : Int) - 1) + (90 * entF numF ((n : Int) - 2) + (900 * entF numF ((n : Int) - 3) + (9000 * entF numF ((n : Int) - 4) + 0)))) = _
  omega
theorem wordF_pos (n : Nat) : 0 ≤ wordF n := by rw [wordF_eq]; exact nuB_pos n
def nuR (m : Int) (n : Nat) (r : Int) : Int := nuB m n + r
theorem nuR_lt {m : Int} {n : Nat} {r : Int} (h0 : 1 ≤ m) (h1 : m ≤ 9999) (hl : (numL m.toNat).length ≤ n) (r0 : 0 ≤ r) (r1 : r < numF (n - (numL m.toNat).length)) : 0 ≤ nuR m n r ∧ nuR m n r < wordF n := by
  have a := nuB_pos (m := m) n
  have b := nuB_step h0 h1 hl
  have c := nuB_mono n (show m + 1 ≤ 10000 by omega)
  rw [wordF_eq]
  unfold nuR
  omega
theorem nuR_mono {m k : Int} {n : Nat} {r s : Int} (h0 : 1 ≤ m) (h1 : m ≤ 9999) (hl : (numL m.toNat).length ≤ n) (r1 : r < numF (n - (numL m.toNat).length)) (s0 : 0 ≤ s) (h : m < k) : nuR m n r < nuR k n s := by
  have b := nuB_step h0 h1 hl
  have c := nuB_mono n (show m + 1 ≤ k by omega)
  unfold nuR
  omega
/-! ### letters -/
def begF : Nat → Nat → Int
  | 0, n => wordF n
  | k + 1, 0 => wordF 0
  | k + 1, n + 1 => wordF (n + 1) + 26 * begF k n
theorem begF_pos : ∀ k n, wordF n ≤ begF k n
  | 0, n => Int.le_refl _
  | k + 1, 0 => Int.le_refl _
  | k + 1, n + 1 => by
    have := begF_pos k n
    have := wordF_pos n
    show wordF (n + 1) ≤ wordF (n + 1) + 26 * begF k n
    omega
def leV : Nat → List Nat → Nat → Int → Int
  | _, [], _, r => r
  | k, [d], n, r => ((d : Int) - 97) * begF k (n - 1) + r
  | k, d :: e :: ds, n, r => ((d : Int) - 97) * begF k (n - 1) + wordF (n - 1) + leV (k - 1) (e :: ds) (n - 1) r
def LetOk (l : List Nat) : Prop := l ≠ [] ∧ ∀ d ∈ l, 97 ≤ d ∧ d ≤ 122
theorem LetOk.tail {d e : Nat} {l : List Nat} (h : LetOk (d :: e :: l)) : LetOk (e :: l) := ⟨by simp, fun x hx => h.2 x (List.mem_cons_of_mem _ hx)⟩
theorem leV_in : ∀ (l : List Nat) (d k n : Nat) (r : Int), LetOk (d :: l) → l.length ≤ k → (d :: l).length ≤ n → 0 ≤ r → r < wordF (n - (d :: l).length) → ((d : Int) - 97) * begF k (n - 1) ≤ leV k (d :: l) n r ∧ leV k (d :: l) n r < ((d : Int) - 97) * begF k (n - 1) + begF k (n - 1)
  | [], d, k, n, r, ok, hk, hl, h0, h1 => by
    have h1 : r < wordF (n - 1) := h1
    have := begF_pos k (n - 1)
    show ((d : Int) - 97) * begF k (n - 1) ≤ ((d : Int) - 97) * begF k (n - 1) + r ∧ ((d : Int) - 97) * begF k (n - 1) + r < _
    omega
  | e :: l, d, 0, n, r, _, hk, _, _, _ => absurd hk (by simp)
  | e :: l, d, k + 1, n, r, ok, hk, hl, h0, h1 => by
    have hl2 : (e :: l).length ≤ n - 1 := by simp only [List.length_cons] at hl ⊢; omega
    have hn : n - 1 - (e :: l).length = n - (d :: e :: l).length := by simp only [List.length_cons]; omega
    obtain ⟨i1, i2⟩ := leV_in l e k (n - 1) r ok.tail (by simp at hk; omega) hl2 h0 (by rw [hn]; exact h1)
    have he := ok.2 e (by simp)
    obtain ⟨m, hm⟩ : ∃ m, n - 1 = m + 1 := ⟨n - 2, by simp only [List.length_cons] at hl; omega⟩
    have bp := begF_pos k m
    have wp := wordF_pos m
    show ((d : Int) - 97) * begF (k + 1) (n - 1) ≤ ((d : Int) - 97) * begF (k + 1) (n - 1) + wordF (n - 1) + leV k (e :: l) (n - 1) r ∧ ((d : Int) - 97) * begF (k + 1) (n - 1) + wordF (n - 1) + leV k (e :: l) (n - 1) r < _
    rw [hm] at i1 i2 ⊢
    have i1 : ((e : Int) - 97) * begF k m ≤ leV k (e :: l) (m + 1) r := i1
    have i2 : leV k (e :: l) (m + 1) r < ((e : Int) - 97) * begF k m + begF k m := i2
    have q1 : 0 ≤ ((e : Int) - 97) * begF k m := Int.mul_nonneg (by omega) (by omega)
    have q2 : ((e : Int) - 97) * begF k m ≤ 25 * begF k m := Int.mul_le_mul_of_nonneg_right (by omega) (by omega)
    have q3 : begF (k + 1) (m + 1) = wordF (m + 1) + 26 * begF k m := rfl
    have wp2 := wordF_pos (m + 1)
    omega
theorem sigF_eq {n : Nat} (h : 1 ≤ n) : sigF n = 26 * begF 2 (n - 1) := by
  show (sq 4 fun z => [0, 26, 676, 17576].getD z 0 * entF wordF ((n : Int) - (z : Int))).sum = _
  show 0 * entF wordF ((n : Int) - 0) + (26 * entF wordF ((n : Int) - 1) + (676 * entF wordF ((n : Int) - 2) + (17576 * entF wordF ((n : Int) - 3) + 0))) = _
  obtain ⟨m, rfl⟩ : ∃ m, n = m + 1 := ⟨n - 1, by omega⟩
  have e1 : entF wordF (((m + 1 : Nat) : Int) - 1) = wordF m := entF_nat (k := 1) (by omega)
  rw [e1]
  show _ = 26 * begF 2 m
  cases m with
  | zero =>
    have e2 : entF wordF (((0 + 1 : Nat) : Int) - 2) = 0 := if_pos (by decide)
    have e3 : entF wordF (((0 + 1 : Nat) : Int) - 3) = 0 := if_pos (by decide)
    rw [e2, e3]
    show _ = 26 * wordF 0
    omega
  | succ m =>
    have e2 : entF wordF (((m + 1 + 1 : Nat) : Int) - 2) = wordF m := entF_nat (n := m + 1 + 1) (k := 2) (by omega)
    rw [e2]
    show _ = 26 * (wordF (m + 1) + 26 * begF 1 m)
    cases m with
    | zero =>
      have e3 : entF wordF (((0 + 1 + 1 : Nat) : Int) - 3) = 0 := if_pos (by decide)
      rw [e3]
      show _ = 26 * (wordF (0 + 1) + 26 * wordF 0)
      omega
    | succ m =>
      have e3 : entF wordF (((m + 1 + 1 + 1 : Nat) : Int) - 3) = wordF m := entF_nat (n := m + 1 + 1 + 1) (k := 3) (by omega)
      rw [e3]
      show _ = 26 * (wordF (m + 1 + 1) + 26 * (wordF (m + 1) + 26 * wordF m))
      omega
theorem leV_lt {l : List Nat} {n : Nat} {r : Int} (ok : LetOk l) (hk : l.length ≤ 3) (hl : l.length ≤ n) (h0 : 0 ≤ r) (h1 : r < wordF (n - l.length)) : 0 ≤ leV 2 l n r ∧ leV 2 l n r < sigF n := by
  cases l with
  | nil => exact (ok.1 rfl).elim
  | cons d l =>
    obtain ⟨i1, i2⟩ := leV_in l d 2 n r ok (by simp at hk; omega) hl h0 h1
    have hd := ok.2 d List.mem_cons_self
    have bp := begF_pos 2 (n - 1)
    have wp := wordF_pos (n - 1)
    have q1 : 0 ≤ ((d : Int) - 97) * begF 2 (n - 1) := Int.mul_nonneg (by omega) (by omega)
    have q2 : ((d : Int) - 97) * begF 2 (n - 1) ≤ 25 * begF 2 (n - 1) := Int.mul_le_mul_of_nonneg_right (by omega) (by omega)
    rw [sigF_eq (by simp only [List.length_cons] at hl; omega)]
    omega
theorem leV_mono : ∀ (l m : List Nat) (k n : Nat) (r s : Int), LetOk l → LetOk m → l.length ≤ k + 1 → m.length ≤ k + 1 → l.length ≤ n → m.length ≤ n → 0 ≤ r → r < wordF (n - l.length) → 0 ≤ s → s < wordF (n - m.length) → l < m → leV k l n r < leV k m n s
  | [], _, _, _, _, _, h, _, _, _, _, _, _, _, _, _, _ => (h.1 rfl).elim
  | _ :: _, [], _, _, _, _, _, h, _, _, _, _, _, _, _, _, _ => (h.1 rfl).elim
  | d :: l, e :: m, k, n, r, s, o1, o2, k1, k2, l1, l2, r0, r1, s0, s1, hlt => by
    obtain ⟨a1, a2⟩ := leV_in l d k n r o1 (by simp at k1; omega) l1 r0 r1
    obtain ⟨b1, b2⟩ := leV_in m e k n s o2 (by simp at k2; omega) l2 s0 s1
    have bp := begF_pos k (n - 1)
    have wp := wordF_pos (n - 1)
    rcases List.cons_lt_cons_iff.mp hlt with h | ⟨rfl, h⟩
    · have : ((d : Int) - 97) * begF k (n - 1) + begF k (n - 1) ≤ ((e : Int) - 97) * begF k (n - 1) := by
        have q : ((d : Int) - 97) * begF k (n - 1) + begF k (n - 1) = ((d : Int) - 97 + 1) * begF k (n - 1) := by rw [Int.add_mul, Int.one_mul]
        rw [q]
        exact Int.mul_le_mul_of_nonneg_right (by omega) (by omega)
      omega
    · cases m with
      | nil => exact absurd h (List.not_lt_nil _)
      | cons e2 m =>
        cases k with
        | zero => simp at k2
        | succ k =>
          have l3 : (e2 :: m).length ≤ n - 1 := by simp only [List.length_cons] at l2 ⊢; omega
          have hn : n - 1 - (e2 :: m).length = n - (d :: e2 :: m).length := by simp only [List.length_cons]; omega
          cases l with
          | nil =>
            have r1 : r < wordF (n - 1) := r1
            obtain ⟨g1, g2⟩ := leV_in m e2 k (n - 1) s o2.tail (by simp at k2; omega) l3 s0 (by rw [hn]; exact s1)
            have he := o2.2 e2 (by simp)
            have bp2 := begF_pos k (n - 1 - 1)
            have wp2 := wordF_pos (n - 1 - 1)
            have q1 : 0 ≤ ((e2 : Int) - 97) * begF k (n - 1 - 1) := Int.mul_nonneg (by omega) (by omega)
            show ((d : Int) - 97) * begF (k + 1) (n - 1) + r < ((d : Int) - 97) * begF (k + 1) (n - 1) + wordF (n - 1) + leV k (e2 :: m) (n - 1) s
            omega
          | cons d2 l =>
            have l4 : (d2 :: l).length ≤ n - 1 := by simp only [List.length_cons] at l1 ⊢; omega
            have hm : n - 1 - (d2 :: l).length = n - (d :: d2 :: l).length := by simp only [List.length_cons]; omega
            have g := leV_mono (d2 :: l) (e2 :: m) k (n - 1) r s o1.tail o2.tail (by simp at k1 ⊢; omega) (by simp at k2 ⊢; omega) l4 l3 r0 (by rw [hm]; exact r1) s0 (by rw [hn]; exact s1) h
            show ((d : Int) - 97) * begF (k + 1) (n - 1) + wordF (n - 1) + leV k (d2 :: l) (n - 1) r < ((d : Int) - 97) * begF (k + 1) (n - 1) + wordF (n - 1) + leV k (e2 :: m) (n - 1) s
            omega
theorem leV_rest : ∀ (l : List Nat) (k n : Nat) (r s : Int), r < s → leV k l n r < leV k l n s
  | [], _, _, _, _, h => h
  | [d], k, n, r, s, h => by show _ + r < _ + s; omega
  | d :: e :: l, k, n, r, s, h => by
    have g := leV_rest (e :: l) (k - 1) (n - 1) r s h
    show _ + leV (k - 1) (e :: l) (n - 1) r < _ + leV (k - 1) (e :: l) (n - 1) s
    omega
end U

namespace U
open PySem PySem.Spec PyProof.Rows L2
/-! ### the rank of a mark among those of at most L signs -/
def Pt.nlen (t : Pt) : Nat := (numL t.n.toNat).length
def Pt.slen (t : Pt) : Nat := t.l.length + t.nlen + plen t.p + mlen t.ms + ylen t.y + clen t.c
def rankE (t : Pt) (n : Nat) : Int := endR t.y t.c n
def rankM (t : Pt) (n : Nat) : Int := mkR 3 t.ms n (rankE t (n - mlen t.ms))
def rankP (t : Pt) (n : Nat) : Int := ptR t.p n (rankM t (n - plen t.p))
def rankN (t : Pt) (n : Nat) : Int := nuR t.n n (rankP t (n - t.nlen))
def rank (t : Pt) (n : Nat) : Int := leV 2 t.l n (rankN t (n - t.l.length))
theorem let_ok {l : List Nat} (h : lettersB l = true) : LetOk l ∧ l.length ≤ 3 := by
  have a := letters_all h
  unfold lettersB nameB at h
  simp only [Bool.and_eq_true, decide_eq_true_eq] at h
  exact ⟨⟨by rintro rfl; simp at h, a⟩, h.2⟩
section
variable {t u : Pt} {n : Nat}
theorem rankE_in (ok : t.Ok) (h : ylen t.y + clen t.c ≤ n) : 0 ≤ rankE t n ∧ rankE t n < yearF n := endR_lt ok.y (fun i hi => (ok.c i hi).1) h
theorem rankM_in (ok : t.Ok) (h : mlen t.ms + ylen t.y + clen t.c ≤ n) : 0 ≤ rankM t n ∧ rankM t n < endF 3 n := by
  have i := rankE_in (n := n - mlen t.ms) ok (by omega)
  exact mkR_lt t.ms 3 n _ ok.mn (fun m hm => (ok.ms m hm).1) (by omega) i.1 i.2
theorem rankP_in (ok : t.Ok) (h : plen t.p + mlen t.ms + ylen t.y + clen t.c ≤ n) : 0 ≤ rankP t n ∧ rankP t n < numF n := by
  have i := rankM_in (n := n - plen t.p) ok (by omega)
  exact ptR_lt ok.p (by omega) i.1 i.2
theorem rankN_in (ok : t.Ok) (h : t.nlen + plen t.p + mlen t.ms + ylen t.y + clen t.c ≤ n) : 0 ≤ rankN t n ∧ rankN t n < wordF n := by
  have i := rankP_in (n := n - t.nlen) ok (by omega)
  exact nuR_lt ok.n1 ok.n2 (show t.nlen ≤ n by omega) i.1 i.2
theorem rank_in (ok : t.Ok) (h : t.slen ≤ n) : 0 ≤ rank t n ∧ rank t n < sigF n := by
  unfold Pt.slen at h
  have i := rankN_in (n := n - t.l.length) ok (by omega)
  obtain ⟨a, b⟩ := let_ok ok.l
  exact leV_lt a b (by omega) i.1 i.2
/-- which of two marks is ahead, part by part -/
def ptLt (t u : Pt) : Prop := t.l < u.l ∨ (t.l = u.l ∧ (t.n < u.n ∨ (t.n = u.n ∧ (t.p < u.p ∨ (t.p = u.p ∧ (t.ms < u.ms ∨ (t.ms = u.ms ∧ endLt t.y t.c u.y u.c)))))))
theorem rank_mono (ok : t.Ok) (ok' : u.Ok) (h : t.slen ≤ n) (h' : u.slen ≤ n) (hlt : ptLt t u) : rank t n < rank u n := by
  unfold Pt.slen at h h'
  obtain ⟨a, b⟩ := let_ok ok.l
  obtain ⟨a', b'⟩ := let_ok ok'.l
  have i := rankN_in (n := n - t.l.length) ok (by omega)
  have i' := rankN_in (n := n - u.l.length) ok' (by omega)
  have j := rankP_in (n := n - t.l.length - t.nlen) ok (by omega)
  have j' := rankP_in (n := n - u.l.length - u.nlen) ok' (by omega)
  have k := rankM_in (n := n - t.l.length - t.nlen - plen t.p) ok (by omega)
  have k' := rankM_in (n := n - u.l.length - u.nlen - plen u.p) ok' (by omega)
  have e := rankE_in (n := n - t.l.length - t.nlen - plen t.p - mlen t.ms) ok (by omega)
  have e' := rankE_in (n := n - u.l.length - u.nlen - plen u.p - mlen u.ms) ok' (by omega)
  rcases hlt with hlt | ⟨hl, hlt⟩
  · exact leV_mono t.l u.l 2 n _ _ a a' b b' (by omega) (by omega) i.1 i.2 i'.1 i'.2 hlt
  unfold rank
  rw [← hl]
  rw [← hl] at i' j' k' e' h'
  refine leV_rest _ _ _ _ _ ?_
  unfold rankN
  rcases hlt with hlt | ⟨hn, hlt⟩
  · exact nuR_mono ok.n1 ok.n2 (show t.nlen ≤ _ by omega) j.2 j'.1 hlt
  have hnl : u.nlen = t.nlen := by unfold Pt.nlen; rw [hn]
  rw [hnl] at j' k' e' h' ⊢
  rw [← hn]
  unfold nuR
  refine Int.add_lt_add_left ?_ _
  unfold rankP
  rcases hlt with hlt | ⟨hp, hlt⟩
  · exact ptR_mono ok.p (by omega) k.1 k.2 ok'.p (by omega) k'.1 k'.2 hlt
  rw [← hp]
  rw [← hp] at k' e' h'
  refine ptR_rest ?_
  unfold rankM
  rcases hlt with hlt | ⟨hm, hlt⟩
  · exact mkR_mono t.ms u.ms 3 _ _ _ ok.mn ok'.mn (fun m hm => (ok.ms m hm).1) (fun m hm => (ok'.ms m hm).1) (by omega) (by omega) e.1 e.2 e'.1 e'.2 hlt
  rw [← hm]
  rw [← hm] at e' h'
  refine mkR_rest _ _ _ _ _ ?_
  exact endR_mono ok.y (fun i hi => (ok.c i hi).1) (by omega) ok'.y (fun i hi => (ok'.c i hi).1) (by omega) hlt
end
/-! ### the order of keys is that of the parts -/
theorem lexA {x y : Int ⊕ List Nat} {r t : List (Int ⊕ List Nat)} (h : lexLt itemOrd (x :: r) (y :: t) = true) : itemLt x y = true ∨ (x = y ∧ lexLt itemOrd r t = true) := by
  by_cases e : x = y
  · subst e
    rw [lex_self] at h
    exact .inr ⟨rfl, h⟩
  · rw [lex_diff (O := itemOrd) e] at h
    exact .inl h
theorem ms_lex : ∀ (ms ns : List (List Nat)) (X Y : List (Int ⊕ List Nat)), lexLt itemOrd (PySem.W.keyToksAll (msD ms) ++ X) (PySem.W.keyToksAll (msD ns) ++ Y) = true → ms < ns ∨ (ms = ns ∧ lexLt itemOrd X Y = true)
  | [], [], X, Y, h => by
    simp only [msD, List.map_nil, PySem.W.keyToksAll, List.cons_append, List.nil_append] at h
    rw [lex_self] at h
    exact .inr ⟨rfl, h⟩
  | [], n :: ns, X, Y, h => .inl (List.nil_lt_cons ..)
  | m :: ms, [], X, Y, h => by
    simp only [msD, List.map_nil, List.map_cons, PySem.W.keyToksAll, PySem.W.keyToks, List.cons_append, List.nil_append] at h
    rcases lexA h with h | ⟨h, _⟩
    · exact absurd h (by decide)
    · exact absurd h (by decide)
  | m :: ms, n :: ns, X, Y, h => by
    simp only [msD, List.map_cons, PySem.W.keyToksAll, PySem.W.keyToks, List.cons_append, List.nil_append, List.append_assoc] at h
    rw [lex_self] at h
    rcases lexA h with h | ⟨h, h2⟩
    · exact .inl (List.cons_lt_cons_iff.mpr (.inl (of_decide_eq_true h)))
    · injection h with h
      have h : m = n := h
      subst h
      rcases ms_lex ms ns X Y h2 with h3 | ⟨rfl, h3⟩
      · exact .inl (List.cons_lt_cons_iff.mpr (.inr ⟨rfl, h3⟩))
      · exact .inr ⟨rfl, h3⟩
theorem lt_parts {t u : Pt} (ok : t.Ok) (ok' : u.Ok) (h : PySem.W.dataLt (keyD t) (keyD u) = true) : ptLt t u := by
  have h : lexLt itemOrd (PySem.W.keyToks (keyD t)) (PySem.W.keyToks (keyD u)) = true := h
  simp only [keyD, keyL, PySem.W.keyToks, PySem.W.keyToksAll, List.cons_append, List.nil_append, List.append_assoc] at h
  unfold ptLt
  rw [lex_self] at h
  rcases lexA h with h | ⟨h0, h⟩
  · exact .inl (of_decide_eq_true h)
  refine .inr ⟨by injection h0, ?_⟩
  rw [lex_self] at h
  rcases lexA h with h | ⟨h0, h⟩
  · exact .inl (of_decide_eq_true h)
  refine .inr ⟨by injection h0, ?_⟩
  rw [lex_self] at h
  rcases lexA h with h | ⟨h0, h⟩
  · exact .inl (of_decide_eq_true h)
  refine .inr ⟨by injection h0, ?_⟩
  rw [lex_self] at h
  rcases ms_lex _ _ _ _ h with h | ⟨h0, h⟩
  · exact .inl h
  refine .inr ⟨h0, ?_⟩
  rw [lex_self] at h
  unfold endLt
  rcases lexA h with h | ⟨h0, h⟩
  · exact .inl (of_decide_eq_true h)
  have hy : t.y.getD 0 = u.y.getD 0 := by injection h0
  have hyy : t.y = u.y := by
    have a := ok.y
    have b := ok'.y
    cases e : t.y <;> cases e' : u.y <;> rw [e, e'] at hy <;> simp at hy ⊢
    · have := b _ e'; omega
    · have := a _ e; omega
    · exact hy
  rw [lex_self] at h
  rcases lexA h with h | ⟨h0, h⟩
  · exact .inr ⟨hyy, of_decide_eq_true h⟩
  · rw [lex_irrefl] at h; cases h
/-! ### the text's length -/
theorem join_len : ∀ (w : List Nat) (ws : List (List Nat)), (TL.joinL [32] (w :: ws)).length = w.length + (ws.map fun x => 1 + x.length).sum
  | w, [] => by show w.length = _; simp
  | w, x :: ws => by
    have h := join_len x ws
    show (w ++ ([32] ++ TL.joinL [32] (x :: ws))).length = _
    rw [List.length_append, List.length_append, h]
    simp
    omega
theorem mlen_eq : ∀ ms : List (List Nat), (ms.map fun x => 1 + x.length).sum = mlen ms
  | [] => rfl
  | m :: ms => by
    show (1 + m.length) + (ms.map fun x => 1 + x.length).sum = 1 + m.length + mlen ms
    rw [mlen_eq ms]
theorem year_len {i : Int} (h : 1000 ≤ i ∧ i ≤ 2999) : (numL i.toNat).length = 4 := by
  rcases num_size (m := i) (by omega) (by omega) with h1 | h1 | h1 | h1 <;> omega
theorem text_len {t : Pt} (ok : t.Ok) : t.text.length = t.slen := by
  unfold Pt.text Pt.ws
  rw [join_len, List.map_append, List.sum_append, mlen_eq, List.map_append, List.sum_append]
  have e1 : t.w0.length = t.l.length + t.nlen + plen t.p := by
    unfold Pt.w0 plen Pt.nlen
    by_cases e : t.p = []
    · rw [if_pos e, if_pos e]; simp
    · rw [if_neg e, if_neg e]; simp; omega
  rw [e1]
  unfold Pt.slen
  cases ey : t.y with
  | none =>
    cases ec : t.c with
    | none => simp [ylen, clen]
    | some j => simp [ylen, clen]; omega
  | some i =>
    have y4 := year_len (ok.y i ey)
    cases ec : t.c with
    | none => simp [ylen, clen, y4]; omega
    | some j => simp [ylen, clen, y4]; omega
end U

namespace U
open PySem PySem.Spec PyProof.Rows L2
/-! ### for i, c in enumerate(text), for i, x in enumerate(tuple) -/
def Itxs (x : Str) : It := ⟨fun i _ => i < x.cps.size, fun i H v H' => ∃ T c, v = .ref T ∧ H T = none ∧ H' = upd H T (.tup [.int (i : Nat), .str ⟨#[c]⟩]) ∧ x.cps[i]? = some c, fun i _ => i = x.cps.size⟩
def Itxt (K : PySem.W.Frag) (a : Addr) : It :=
  ⟨fun i H => ∃ (xs : List V) (x : V), SqT K H a xs ∧ xs[i]? = some x, fun i H v H' => ∃ T x, v = .ref T ∧ H T = none ∧ H' = upd H T (.tup [.int (i : Nat), x]) ∧ ∀ xs, SqT K H a xs → xs[i]? = some x, fun i H => ∃ xs : List V, SqT K H a xs ∧ i = xs.length⟩
theorem turn_enumS {P : Program} {w : World} {K : PySem.W.Frag} {elts : List Expr} {kk : Nat} {tpos : Pos} (x : Str) (t : Tok) (e it : Addr) :
    Turn P w K (.Tuple elts kk tpos) (Itxs x) [e, it] e (fun i h => (∃ old, IsEnum h e it ((i : Nat) : Int) old) ∧ h.IsStrIter it (strIterType x) x t i ∧ e ≠ it) where
  mem := by simp
  obj := fun i h st b hb => by
    obtain ⟨⟨old, he⟩, ⟨o, ho, hc, hd⟩, _⟩ := st
    have e' : b = e ∨ b = it := by simpa using hb
    rcases e' with z | z
    · rw [z]; exact ⟨_, he, fun v q => nomatch q⟩
    · rw [z]; exact ⟨o, ho, fun v q => by rw [hd] at q; cases q⟩
  keep := fun i h h' st k => by
    obtain ⟨⟨old, he⟩, ⟨o, ho, r⟩, hne⟩ := st
    exact ⟨⟨old, k e (by simp) _ he⟩, ⟨o, k it (by simp) _ ho, r⟩, hne⟩
  item := by
    intro X hP hw hK hc i pins s σ H E I hf st hg
    subst hP hw hK
    obtain ⟨⟨old, he⟩, hit, hne⟩ := st
    have hel : e < s.heap.objs.size := Heap.lt_size he
    have hil : it < s.heap.objs.size := by obtain ⟨_, q, _⟩ := hit; exact Heap.lt_size q
    refine wpAny_pyNext_enum_itemD (Draws.text (prog := X.prog) (w := X.w) (A := X.A.in1) (I.ok.hd hc) it x t) he hit hg hne (by simpa using hne) fun x' h' tk px ho hit' hT hsz hk => ?_
    obtain ⟨c, u, hcx, rfl⟩ := px
    refine ⟨_, rfl, wpAny_letOwnedTupleGo_enum (s := { s with heap := h', toks := tk + 1 }) ho fun h'' he' sb => ?_⟩
    have hT2 : h''.get? s.heap.objs.size = some { cls := .type "tuple", data := .seq #[.int i tk, .str ⟨#[c]⟩ u] } := (sb.2 _ (Nat.ne_of_gt hel)).trans hT
    have new : ObjOk X.prog X.w (upd H s.heap.objs.size (.tup [.int (i : Nat), .str ⟨#[c]⟩])) h'' s.heap.objs.size (.tup [.int (i : Nat), .str ⟨#[c]⟩]) :=
      ⟨by show 2 ≤ sizeLine; decide, [.int i tk, .str ⟨#[c]⟩ u], .cons ⟨_, rfl⟩ (.cons ⟨_, rfl⟩ .nil), ⟨_, hT2, rfl, _, rfl⟩⟩
    have I1 : Inv X pins σ (upd H s.heap.objs.size (.tup [.int (i : Nat), .str ⟨#[c]⟩])) { s with heap := h'', toks := tk + 1 } :=
      I.turnedNew (t' := tk + 1) (ch := [e, it]) (fun b ob hb q => (sb.2 b (fun z => hb (by simp [z]))).trans (hk b ob (fun z => hb (by simp [z])) (fun z => hb (by simp [z])) q)) hf (Nat.le_refl _) new
    refine ⟨.ref s.heap.objs.size, _, I1, rfl, ⟨_, c, rfl, I.hok.fresh (Nat.le_refl _), rfl, hcx⟩, ⟨⟨.str ⟨#[c]⟩ u, ?_⟩, ?_, hne⟩, fun b hb => ?_⟩
    · have e1 : ((i + 1 : Nat) : Int) = (i : Int) + 1 := by omega
      rw [e1]; exact he'
    · obtain ⟨o, ho', r⟩ := hit'
      exact ⟨o, (sb.2 it (Ne.symm hne)).trans ho', r⟩
    · have hb' : b < s.heap.objs.size := by
        have e' : b = e ∨ b = it := by simpa using hb
        rcases e' with z | z
        · rw [z]; exact hel
        · rw [z]; exact hil
      rw [upd_ne (Nat.ne_of_lt hb')]
      exact (hf b hb).1
  done := by
    intro X hP hw hK hc i pins s σ H E I hf st hg
    subst hP hw hK
    obtain ⟨⟨old, he⟩, hit, hne⟩ := st
    have hg : i = x.cps.size := hg
    subst hg
    obtain ⟨f0, f1, f2, f3, f4, f5⟩ := hf it (by simp)
    exact wpAny_pyNext_enum_endD (Draws.text (prog := X.prog) (w := X.w) (A := X.A.in1) (I.ok.hd hc) it x t) he hit fun h' eb => ⟨rfl, I.turned (t' := s.toks) (fun b o hb q => eb b o hb q) f0 f1 f3 f4 f5⟩
  self := fun A i s Q E st h => let ⟨⟨_, he⟩, _⟩ := st; wpAny_pyIter_enum he h
theorem turn_enumT {P : Program} {w : World} {K : PySem.W.Frag} {elts : List Expr} {kk : Nat} {tpos : Pos} (a e it : Addr) (na : a ≠ it) (nea : e ≠ a) :
    Turn P w K (.Tuple elts kk tpos) (Itxt K a) [e, it] e (fun i h => (∃ old, IsEnum h e it ((i : Nat) : Int) old) ∧ h.IsTupleIter it a i ∧ e ≠ it) where
  mem := by simp
  obj := fun i h st b hb => by
    obtain ⟨⟨old, he⟩, ⟨o, ho, hc, hd⟩, _⟩ := st
    have e' : b = e ∨ b = it := by simpa using hb
    rcases e' with z | z
    · rw [z]; exact ⟨_, he, fun v q => nomatch q⟩
    · rw [z]; exact ⟨o, ho, fun v q => by rw [hd] at q; cases q⟩
  keep := fun i h h' st k => let ⟨⟨old, he⟩, hi, hne⟩ := st; ⟨⟨old, k e (by simp) _ he⟩, hi.at fun o q => k it (by simp) o q, hne⟩
  item := by
    intro X hP hw hK hc i pins s σ H E I hf st hg
    subst hP hw hK
    obtain ⟨⟨old, he⟩, hit, hne⟩ := st
    obtain ⟨xs, x, hq, hx⟩ := hg
    obtain ⟨its, rv, p, hz⟩ := I.tuple hq
    obtain ⟨u, hu, ru⟩ := rv.get hx
    have hel : e < s.heap.objs.size := Heap.lt_size he
    have hil : it < s.heap.objs.size := by obtain ⟨_, q, _⟩ := hit; exact Heap.lt_size q
    have L1 := (List.getElem?_eq_some_iff.mp hu).1
    refine wpAny_pyNext_enum_itemD (Draws.tuple (prog := X.prog) (w := X.w) (A := X.A.in1) (I.ok.hd hc) it a na its.toArray) he ⟨hit, p⟩ (by simpa using L1) hne (by simp [hne, nea]) fun x' h' tk px ho hit' hT hsz hk => ?_
    have g1 : x' = u := by simp at px; rw [hu] at px; exact (Option.some.inj px).symm
    subst g1
    refine ⟨_, rfl, wpAny_letOwnedTupleGo_enum (s := { s with heap := h', toks := tk + 1 }) ho fun h'' he' sb => ?_⟩
    have hT2 : h''.get? s.heap.objs.size = some { cls := .type "tuple", data := .seq #[.int i tk, x'] } := (sb.2 _ (Nat.ne_of_gt hel)).trans hT
    have new : ObjOk X.prog X.w (upd H s.heap.objs.size (.tup [.int (i : Nat), x])) h'' s.heap.objs.size (.tup [.int (i : Nat), x]) :=
      ⟨by show 2 ≤ sizeLine; decide, [.int i tk, x'], .cons ⟨_, rfl⟩ (.cons ru .nil), ⟨_, hT2, rfl, _, rfl⟩⟩
    have I1 : Inv X pins σ (upd H s.heap.objs.size (.tup [.int (i : Nat), x])) { s with heap := h'', toks := tk + 1 } :=
      I.turnedNew (t' := tk + 1) (ch := [e, it]) (fun b ob hb q => (sb.2 b (fun z => hb (by simp [z]))).trans (hk b ob (fun z => hb (by simp [z])) (fun z => hb (by simp [z])) q)) hf (Nat.le_refl _) new
    refine ⟨.ref s.heap.objs.size, _, I1, rfl, ⟨_, x, rfl, I.hok.fresh (Nat.le_refl _), rfl, fun ys hy => by rw [I.tuple_inj hy hq]; exact hx⟩, ⟨⟨x', ?_⟩, hit'.1.at fun o q => (sb.2 it (Ne.symm hne)).trans q, hne⟩, fun b hb => ?_⟩
    · have e1 : ((i + 1 : Nat) : Int) = (i : Int) + 1 := by omega
      rw [e1]; exact he'
    · have hb' : b < s.heap.objs.size := by
        have e' : b = e ∨ b = it := by simpa using hb
        rcases e' with z | z
        · rw [z]; exact hel
        · rw [z]; exact hil
      rw [upd_ne (Nat.ne_of_lt hb')]
      exact (hf b hb).1
  done := by
    intro X hP hw hK hc i pins s σ H E I hf st hg
    subst hP hw hK
    obtain ⟨⟨old, he⟩, hit, hne⟩ := st
    obtain ⟨xs, hq, hx⟩ := hg
    obtain ⟨its, rv, p, hz⟩ := I.tuple hq
    have hl := rv.length
    have hn : i = its.toArray.size := by simp; omega
    subst hn
    obtain ⟨f0, f1, f2, f3, f4, f5⟩ := hf it (by simp)
    exact wpAny_pyNext_enum_endD (Draws.tuple (prog := X.prog) (w := X.w) (A := X.A.in1) (I.ok.hd hc) it a na its.toArray) he ⟨hit, p⟩ fun h' eb => ⟨rfl, I.turned (t' := s.toks) (fun b o hb q => eb b o hb q) f0 f1 f3 f4 f5⟩
  self := fun A i s Q E st h => let ⟨⟨_, he⟩, _⟩ := st; wpAny_pyIter_enum he h
theorem meets_enumerate_newB1 {v : Value} {o : Obj} {H : Heap → Prop} (B : Begins v o H) :
    Meets (Builtin.«enumerate.__new__» ⟨[.type "enumerate", v], []⟩) (fun _ R s => H s.heap ∧
      R (.ok (.ret (.ref (s.heap.push o).objs.size))) { s with heap := (s.heap.push o).push { cls := .type "enumerate", data := .fields #[.none, .bool false, .ref s.heap.objs.size, rawInt 0, .none, .none] } }) :=
  .of_wp fun prog w A R s h => by
    obtain ⟨hp, g, d, tk, os⟩ := s; obtain ⟨h1, h⟩ := h
    have hsub := sub_enumerate
    have q1 : ∀ {A' : Around} {E : Value → Shared → Prop} {Q : Value → Shared → Prop}, Q (.ref hp.objs.size) ⟨hp.push o, g, d, tk, os⟩ → wpAny (model prog w) A' (pyIter v) Q E ⟨hp, g, d, tk, os⟩ :=
      fun q => B.iter prog w _ _ ⟨hp, g, d, tk, os⟩ _ h1 q
    wp_walk using q1
    refine wpAny_stack_any fun st => wpAny_pure ?_
    split
    · rename_i c _ _ _ _ _
      cases (c == Value.type "enumerate")
      · wp_walk using q1
        exact ⟨_, rfl, h⟩
      · wp_walk using q1
        exact ⟨_, rfl, h⟩
    · wp_walk using q1
      exact ⟨_, rfl, h⟩
section
variable {prog : Program} {w : World} {A : Around} {E : Value → Shared → Prop} {s : Shared}
theorem enum_begins1 {v : Value} {o : Obj} {H : Heap → Prop} {Q : Value → Shared → Prop} (B : Begins v o H) (h1 : H s.heap)
    (h : ∀ h', IsEnum h' (s.heap.objs.size + 1) s.heap.objs.size 0 .none → h'.get? s.heap.objs.size = some o → h'.objs.size = s.heap.objs.size + 2 →
      (∀ b o, s.heap.get? b = some o → h'.get? b = some o) → Q (.ref (s.heap.objs.size + 1)) { s with heap := h' }) :
    wpAny (model prog w) A (call (.type "enumerate") [v]) Q E s := by
  refine callType_new F.called_enumerate (by decide) (F.typeCall_enumerate_1 _) (F.newCall_enumerate_1 _) (fun obj => F.args_object_init_2 obj _) F.entry_enumerate_new
    (meets_enumerate_newB1 B) ⟨h1, ?_⟩
  have hz : (s.heap.push o).objs.size = s.heap.objs.size + 1 := Heap.size_push ..
  show _ ∧ _
  rw [hz]
  have he : IsEnum ((s.heap.push o).push { cls := .type "enumerate", data := .fields #[.none, .bool false, .ref s.heap.objs.size, rawInt 0, .none, .none] }) (s.heap.objs.size + 1) s.heap.objs.size 0 .none := by
    have := Heap.get?_push_size (s.heap.push o) (o := { cls := .type "enumerate", data := .fields #[.none, .bool false, .ref s.heap.objs.size, rawInt 0, .none, .none] }) rfl
    rw [hz] at this; exact this
  refine ⟨⟨_, he, rfl⟩, h _ he (Heap.get?_push_of_some _ (Heap.get?_push_size _ B.free)) (by rw [Heap.size_push, hz]) fun b o x => Heap.get?_push_of_some _ (Heap.get?_push_of_some _ x)⟩
end
def iEnumS (ta : TA) : TI := fun σ H R => ta σ H fun vs H1 => ∃ x, vs = [.str x] ∧ R (Itxs x) H1
def iEnumT (K : PySem.W.Frag) (ta : TA) : TI := fun σ H R => ta σ H fun vs H1 => ∃ a xs, vs = [.ref a] ∧ SqT K H1 a xs ∧ R (Itxt K a) H1
theorem pi_enumS {X : Cx} {e : Expr} {ta : TA} {p pos tpos : Pos} {elts : List Expr} {kk : Nat} (hg : Gl X "enumerate") (hm : X.mg "enumerate" = none) (ha : PA X [e] ta) (hs : starEach [e] X.env = [(false, eval e X.env)] := by rfl) :
    PI X (.Tuple elts kk tpos) (.Call (.Name "enumerate" p) [e] [] pos) (iEnumS ta) := by
  refine ⟨fun pins s σ H R I h => ?_⟩
  refine Call_ (ld_blt I hg hm boot_enumerate (PyProof.Rows.callWith_type1 (thn (ha.run pos pins s σ H _ I h) fun us s1 ⟨vs, H1, I1, r1, q1⟩ => ?_) hs rfl))
  obtain ⟨x, ex, q⟩ := q1
  subst ex
  cases r1 with
  | cons r rr =>
    cases rr
    obtain ⟨t, rfl⟩ := r
    refine call_enumerate_str fun h' he hit hsz hk => wpAny_pyIter_enum he ?_
    have I2 : Inv X pins σ H1 { s1 with heap := h' } := I1.kept (t' := s1.toks) hk
    refine ⟨s1.heap.objs.size + 1, [s1.heap.objs.size + 1, s1.heap.objs.size], _, _, H1, rfl, I2, turn_enumS x t (s1.heap.objs.size + 1) s1.heap.objs.size, ⟨⟨.none, he⟩, hit, Nat.succ_ne_self _⟩, fun b hb => ?_, q⟩
    have e' : b = s1.heap.objs.size + 1 ∨ b = s1.heap.objs.size := by simpa using hb
    have hle : s1.heap.objs.size ≤ b := by
      rcases e' with z | z
      · rw [z]; exact Nat.le_add_right _ _
      · rw [z]; exact Nat.le_refl _
    exact I1.fpOk hle (I1.hok.fresh hle)
theorem pi_enumT {X : Cx} {e : Expr} {ta : TA} {p pos tpos : Pos} {elts : List Expr} {kk : Nat} (hg : Gl X "enumerate") (hm : X.mg "enumerate" = none) (ha : PA X [e] ta) (hs : starEach [e] X.env = [(false, eval e X.env)] := by rfl) :
    PI X (.Tuple elts kk tpos) (.Call (.Name "enumerate" p) [e] [] pos) (iEnumT X.K ta) := by
  refine ⟨fun pins s σ H R I h => ?_⟩
  refine Call_ (ld_blt I hg hm boot_enumerate (PyProof.Rows.callWith_type1 (thn (ha.run pos pins s σ H _ I h) fun us s1 ⟨vs, H1, I1, r1, q1⟩ => ?_) hs rfl))
  obtain ⟨a, xs, ex, hq, q⟩ := q1
  subst ex
  cases r1 with
  | cons r rr =>
    cases rr
    cases r
    obtain ⟨its, rv, p', hz⟩ := I1.tuple hq
    have p2 : s1.heap.IsTuple a its.toArray := p'
    have la : a < s1.heap.objs.size := by obtain ⟨_, q', _⟩ := p2; exact Heap.lt_size q'
    refine enum_begins1 (begins_tuple a its.toArray) p2 fun h' he g1 hsz hk => wpAny_pyIter_enum he ?_
    have I2 : Inv X pins σ H1 { s1 with heap := h' } := I1.kept (t' := s1.toks) hk
    refine ⟨s1.heap.objs.size + 1, [s1.heap.objs.size + 1, s1.heap.objs.size], _, _, H1, rfl, I2, turn_enumT a (s1.heap.objs.size + 1) s1.heap.objs.size (Nat.ne_of_lt la) (Nat.ne_of_gt (Nat.lt_succ_of_lt la)), ⟨⟨.none, he⟩, ⟨_, g1, rfl, rfl⟩, Nat.succ_ne_self _⟩, fun b hb => ?_, q⟩
    have e' : b = s1.heap.objs.size + 1 ∨ b = s1.heap.objs.size := by simpa using hb
    have hle : s1.heap.objs.size ≤ b := by
      rcases e' with z | z
      · rw [z]; exact Nat.le_add_right _ _
      · rw [z]; exact Nat.le_refl _
    exact I1.fpOk hle (I1.hok.fresh hle)
theorem e_forES {ta : TA} {g : TG} {tb : TS} {D : Ends} {σ : L2.St} {H : Hp} : tFor (iEnumS ta) g tb D σ H = iEnumS ta σ H fun J H1 => forBody g tb D σ J H1 := rfl
theorem e_forET {K : PySem.W.Frag} {ta : TA} {g : TG} {tb : TS} {D : Ends} {σ : L2.St} {H : Hp} : tFor (iEnumT K ta) g tb D σ H = iEnumT K ta σ H fun J H1 => forBody g tb D σ J H1 := rfl
theorem e_iEnumS {ta : TA} {σ : L2.St} {H : Hp} {R : It → Hp → Prop} : iEnumS ta σ H R = ta σ H fun vs H1 => ∃ x, vs = [.str x] ∧ R (Itxs x) H1 := rfl
theorem e_iEnumT {K : PySem.W.Frag} {ta : TA} {σ : L2.St} {H : Hp} {R : It → Hp → Prop} : iEnumT K ta σ H R = ta σ H fun vs H1 => ∃ a xs, vs = [.ref a] ∧ SqT K H1 a xs ∧ R (Itxt K a) H1 := rfl
theorem walk_enumS {l : List Nat} : Walk (Itxs ⟨l.toArray⟩) l.length (fun _ => True) (YPair (fun i => some (.int (i : Nat))) (fun i => l[i]?.map fun c => sv [c])) := by
  refine ⟨fun i _ hi _ => by show i < l.toArray.size; simpa using hi, fun _ _ => by show l.length = l.toArray.size; simp, fun i H v H' _ _ y => ?_⟩
  obtain ⟨T, c, h1, h2, h3, h4⟩ := y
  have h4 : l[i]? = some c := by simpa using h4
  exact ⟨T, .int (i : Nat), sv [c], h1, h2, h3, rfl, by simp only [h4]; rfl⟩
theorem walk_enumT {K : PySem.W.Frag} {a : Addr} {xs : List V} : Walk (Itxt K a) xs.length (fun H => SqT K H a xs) (YPair (fun i => some (.int (i : Nat))) (fun i => xs[i]?)) := by
  refine ⟨fun i _ hi q => ⟨xs, xs[i], q, by simp [hi]⟩, fun _ q => ⟨xs, q, rfl⟩, fun i H v H' _ q y => ?_⟩
  obtain ⟨T, x, h1, h2, h3, h4⟩ := y
  exact ⟨T, .int (i : Nat), x, h1, h2, h3, rfl, h4 xs q⟩
end U

namespace U
open PySem PySem.Spec PyProof.Rows L2
/-! ### text.index(text), > of data -/
def rIndex1 : V → List V → Hp → VK → Prop := fun x vs H Q => match x, vs with
  | .str a, [.str b] => ∃ k, Txt.index0 a b = some k ∧ Q (.int (k : Nat)) H
  | _, _ => False
theorem m_index {X : Cx} : MtR X "str.index" rIndex1 := by
  intro pins s σ H x xs v us Q I rx rs h
  unfold rIndex1 at h
  split at h
  · rename_i a b
    obtain ⟨k, hk, hq⟩ := h
    obtain ⟨t, rfl⟩ := rx
    cases rs with
    | cons r1 rs =>
      cases rs
      obtain ⟨u, rfl⟩ := r1
      unfold Txt.index0 at hk
      cases q : Builtin.Str.occurrences a b 0 a.length 1 with
      | nil => rw [q] at hk; cases hk
      | cons j rest =>
        rw [q] at hk
        cases hk
        exact PySem.SC.index q ⟨.int (k : Nat), H, I.tok _, ⟨_, rfl⟩, hq⟩
  · exact h.elim
def idxL (a b : List Nat) : Option Nat := Txt.index0 ⟨a.toArray⟩ ⟨b.toArray⟩
theorem e_index {a b : List Nat} {H : Hp} {Q : VK} : rIndex1 (sv a) [sv b] H Q = optE (idxL a b) fun k => Q (.int (k : Nat)) H := by
  apply propext; constructor
  · rintro ⟨k, h1, h2⟩; exact ⟨k, h1, h2⟩
  · rintro ⟨k, h1, h2⟩; exact ⟨k, h1, h2⟩
theorem idx_abc : ∀ c, 97 ≤ c → c ≤ 122 → idxL [97, 98, 99, 100, 101, 102, 103, 104, 105, 106, 107, 108, 109, 110, 111, 112, 113, 114, 115, 116, 117, 118, 119, 120, 121, 122] [c] = some (c - 97) := by
  intro c h1 h2
  obtain ⟨d, rfl⟩ : ∃ d, c = 97 + d := ⟨c - 97, by omega⟩
  have hd : d < 26 := by omega
  have key : ∀ d < 26, idxL [97, 98, 99, 100, 101, 102, 103, 104, 105, 106, 107, 108, 109, 110, 111, 112, 113, 114, 115, 116, 117, 118, 119, 120, 121, 122] [97 + d] = some (97 + d - 97) := by decide +kernel
  exact key d hd
def rGtD (K : PySem.W.Frag) : R2 := fun x y H Q => ∃ d e, Dp K H x d ∧ Dp K H y e ∧ PySem.W.alike d e = true ∧ d ≠ .none ∧ min d.depth e.depth ≤ 60 ∧ Q (.bl (PySem.W.dataLt e d)) H
theorem gtR {X : Cx} {k : Nat} (hr : Room k X.A) : OpR X (compareOp .Gt) (rGtD X.K) := by
  intro pins s σ H x y v u Q I rx ry h
  obtain ⟨d, e, hd, he, ha, hn, hz, q⟩ := h
  obtain ⟨as, r1⟩ := Dp.reads I d x v hd rx
  obtain ⟨bs, r2⟩ := Dp.reads I e y u he ry
  have hu : X.A.units + 64 < cLine := by have := hr.un; omega
  show wpAny (model X.prog X.w) X.A (richCompare .Gt v u) (EP X pins σ Q) X.xe s
  exact PySem.W.rcGt_alike d e X.A s v u as bs r1 r2 ha hn (by omega) X.prog X.w X.xe _ ⟨.bl _, H, I, rfl, q⟩
theorem e_lcV {K : PySem.W.Frag} {ta : TA} {g : TG} {tt : TT} {te : TE} {vs : List Nat} {σ : L2.St} {H : Hp} {Q : VK} : tLc (iRev K ta) g tt te vs σ H Q = iRev K ta σ H fun J H1 => lcBody g tt te vs σ Q J H1 := rfl
theorem tgt6 {K : PySem.W.Frag} {n i1 i2 i3 i4 i5 i6 : Nat} {T : Addr} {x1 x2 x3 x4 x5 x6 : V} {σ : L2.St} {H : Hp} {Q : L2.St → Hp → Prop} (hT : H T = some (.tup [x1, x2, x3, x4, x5, x6])) (hn : 6 = n)
    (q : Q ((((((σ.set i1 (some x1)).set i2 (some x2)).set i3 (some x3)).set i4 (some x4)).set i5 (some x5)).set i6 (some x6)) H) :
    gTup K n (gCons (gName i1) (gCons (gName i2) (gCons (gName i3) (gCons (gName i4) (gCons (gName i5) (gCons (gName i6) gNil)))))) (.ref T) σ H Q :=
  ⟨T, _, rfl, SqT.of hT, hn, x1, _, rfl, x2, _, rfl, x3, _, rfl, x4, _, rfl, x5, _, rfl, x6, _, rfl, rfl, q⟩
/-! ### the tables, whole -/
def FgX (C : Addr) (H : Hp) (x : Addr) (n : Nat) (T : Nat → Int) : Prop := ∃ dx q g s, H x = some (.ins C dx (fg3 q g s)) ∧ H q = some (.lst (iv (sq n T))) ∧ H g = some (.lst (iv (sq n (goF T)))) ∧ H s = some (.lst (iv (sq n (stF T))))
def NotFg : HO → Prop
  | .lst xs => ∀ m F, xs ≠ iv (sq (m + 1) F)
  | .ins _ _ fs => ∀ q g s, fs ≠ fg3 q g s
  | _ => False
theorem FgX.keep {S : List Addr} {C : Addr} {H H' : Hp} {x : Addr} {n : Nat} {T : Nat → Int} (h : FgX C H x (n + 1) T) (f : Fr S H H') (hS : ∀ b ∈ S, ∃ o, H b = some o ∧ NotFg o) : FgX C H' x (n + 1) T := by
  obtain ⟨dx, q, g, s, h1, h2, h3, h4⟩ := h
  refine ⟨dx, q, g, s, f.get (fun z => ?_) h1, f.get (fun z => ?_) h2, f.get (fun z => ?_) h3, f.get (fun z => ?_) h4⟩
  · obtain ⟨o, e, k⟩ := hS _ z
    rw [h1] at e
    cases e
    exact k _ _ _ rfl
  · obtain ⟨o, e, k⟩ := hS _ z
    rw [h2] at e
    cases e
    exact k _ _ rfl
  · obtain ⟨o, e, k⟩ := hS _ z
    rw [h3] at e
    cases e
    exact k _ _ rfl
  · obtain ⟨o, e, k⟩ := hS _ z
    rw [h4] at e
    cases e
    exact k _ _ rfl
theorem FgX.fr {C : Addr} {H H' : Hp} {x : Addr} {n : Nat} {T : Nat → Int} (h : FgX C H x n T) (f : Fr [] H H') : FgX C H' x n T := by
  obtain ⟨dx, q, g, s, h1, h2, h3, h4⟩ := h
  exact ⟨dx, q, g, s, f.get (by simp) h1, f.get (by simp) h2, f.get (by simp) h3, f.get (by simp) h4⟩
/-- an int list that stays where the changed places hold no int lists -/
theorem iv_keep {S : List Addr} {H H' : Hp} {p : Addr} {n : Nat} {F : Nat → Int} (h : H p = some (.lst (iv (sq (n + 1) F)))) (f : Fr S H H') (hS : ∀ b ∈ S, ∃ o, H b = some o ∧ NotFg o) : H' p = some (.lst (iv (sq (n + 1) F))) := by
  refine f.get (fun z => ?_) h
  obtain ⟨o, e, k⟩ := hS _ z
  rw [h] at e
  cases e
  exact k _ _ rfl
theorem notFg_refs {rs : List Addr} : NotFg (.lst (rs.map V.ref)) := fun m F e => iv_refs e.symm
theorem notFg_last {xs : List V} {r : Addr} : NotFg (.lst (xs ++ [.ref r])) := fun m F e => by
  have q1 := congrArg List.getLast? e
  rw [sq_succ, ← iv_app] at q1
  simp [iv] at q1
structure CnX (C CF : Addr) (H : Hp) (x : Addr) (n : Nat) (c1 c2 c3 c4 c5 c6 c7 c8 e1 e2 e3 f0 f1 f2 : Addr) : Prop where
  x : ∃ dx, H x = some (.ins C dx (ct8 c1 c2 c3 c4 c5 c6 c7 c8))
  copy : H c1 = some (.lst (iv (sq (n + 1) copF)))
  year : H c2 = some (.lst (iv (sq (n + 1) yearF)))
  mks : ∃ e0 : Addr, H c3 = some (.lst [.ref e0, .ref e1, .ref e2, .ref e3])
  ends : H e3 = some (.lst (iv (sq (n + 1) (endF 3))))
  fg : H c4 = some (.lst [.ref f0, .ref f1, .ref f2])
  g0 : FgX CF H f0 (n + 1) (endF 0)
  g1 : FgX CF H f1 (n + 1) (endF 1)
  g2 : FgX CF H f2 (n + 1) (endF 2)
  pt : FgX CF H c5 (n + 1) (endF 3)
  num : H c6 = some (.lst (iv (sq (n + 1) numF)))
  word : H c7 = some (.lst (iv (sq (n + 1) wordF)))
  sign : H c8 = some (.lst (iv (sq (n + 1) sigF)))
def CnA (C CF : Addr) (H : Hp) (x : Addr) (n : Nat) : Prop := ∃ c1 c2 c3 c4 c5 c6 c7 c8 e1 e2 e3 f0 f1 f2, CnX C CF H x n c1 c2 c3 c4 c5 c6 c7 c8 e1 e2 e3 f0 f1 f2
theorem CnA.fr {C CF : Addr} {H H' : Hp} {x : Addr} {n : Nat} (h : CnA C CF H x n) (f : Fr [] H H') : CnA C CF H' x n := by
  obtain ⟨c1, c2, c3, c4, c5, c6, c7, c8, e1, e2, e3, f0, f1, f2, ⟨dx, k1⟩, k2, k3, ⟨e0, k4⟩, k5, k6, k7, k8, k9, k10, k11, k12, k13⟩ := h
  have g : ∀ {b : Addr} {o : HO}, H b = some o → H' b = some o := fun e => f.get (by simp) e
  exact ⟨c1, c2, c3, c4, c5, c6, c7, c8, e1, e2, e3, f0, f1, f2, ⟨dx, g k1⟩, g k2, g k3, ⟨e0, g k4⟩, g k5, g k6, k7.fr f, k8.fr f, k9.fr f, k10.fr f, g k11, g k12, g k13⟩
end U

namespace U
open PySem PySem.Spec PyProof.Rows L2
/-! ### the walk's sums, step by step -/
theorem val_1 {c : Nat} (h1 : 48 ≤ c) (h2 : c ≤ 57) : valL [c] = c - 48 := by
  obtain ⟨d, rfl⟩ : ∃ d, c = 48 + d := ⟨c - 48, by omega⟩
  have key : ∀ d < 10, valL [48 + d] = 48 + d - 48 := by decide +kernel
  exact key d (by omega)
theorem digs_1 {c : Nat} (h1 : 48 ≤ c) (h2 : c ≤ 57) : digs [c] = true := by
  obtain ⟨d, rfl⟩ : ∃ d, c = 48 + d := ⟨c - 48, by omega⟩
  have key : ∀ d < 10, digs [48 + d] = true := by decide +kernel
  exact key d (by omega)
def gvT (T : Nat → Int) (l : List Nat) (n : Nat) : Int := match l.getLast? with | none => 0 | some d => if d = 48 then 0 else T n
theorem gv_snoc {T : Nat → Int} : ∀ (l : List Nat) (c n : Nat), gv T (l ++ [c]) n 0 = gv T l n 0 + gvT T l (n - l.length) + dg T c (n - l.length - 1)
  | [], c, n => by
    show dg T c (n - 1) + 0 = 0 + 0 + dg T c (n - 0 - 1)
    rw [Nat.sub_zero]; omega
  | [d], c, n => by
    show dg T d (n - 1) + (if d = 48 then 0 else T (n - 1)) + (dg T c (n - 1 - 1) + 0) = dg T d (n - 1) + 0 + (if d = 48 then 0 else T (n - 1)) + dg T c (n - 1 - 1)
    omega
  | d :: e :: ds, c, n => by
    have ih := gv_snoc (T := T) (e :: ds) c (n - 1)
    have h1 : n - 1 - (e :: ds).length = n - (d :: e :: ds).length := by simp only [List.length_cons]; omega
    have h2 : gvT T (d :: e :: ds) (n - (d :: e :: ds).length) = gvT T (e :: ds) (n - (d :: e :: ds).length) := by unfold gvT; rw [List.getLast?_cons_cons]
    rw [h1] at ih
    rw [h2]
    show dg T d (n - 1) + (if d = 48 then 0 else T (n - 1)) + gv T ((e :: ds) ++ [c]) (n - 1) 0 = dg T d (n - 1) + (if d = 48 then 0 else T (n - 1)) + gv T (e :: ds) (n - 1) 0 + _ + _
    omega
theorem take_last {l : List Nat} {i : Nat} {d : Nat} (h : l[i]? = some d) : (l.take (i + 1)).getLast? = some d := by
  rw [List.take_add_one, h]; simp
theorem gv_step0 {T : Nat → Int} {ds : List Nat} {k c : Nat} (hc : ds[0]? = some c) : gv T (ds.take 1) k 0 = gv T (ds.take 0) k 0 + dg T c (k - 0 - 1) := by
  have h := gv_snoc (T := T) (ds.take 0) c k
  rw [show ds.take 1 = ds.take 0 ++ [c] by rw [List.take_add_one, hc]; rfl, h]
  show _ + 0 + dg T c (k - 0 - 1) = _
  omega
theorem gv_stepS {T : Nat → Int} {ds : List Nat} {k i c d : Nat} (hd : ds[i]? = some d) (hc : ds[i + 1]? = some c) : gv T (ds.take (i + 1 + 1)) k 0 = gv T (ds.take (i + 1)) k 0 + (if d = 48 then 0 else T (k - (i + 1))) + dg T c (k - (i + 1) - 1) := by
  have h := gv_snoc (T := T) (ds.take (i + 1)) c k
  have hl : (ds.take (i + 1)).length = i + 1 := by
    have := (List.getElem?_eq_some_iff.mp hc).1
    rw [List.length_take]; omega
  rw [show ds.take (i + 1 + 1) = ds.take (i + 1) ++ [c] by rw [List.take_add_one, hc]; rfl, h, hl]
  unfold gvT
  rw [take_last hd]
theorem entF_1 {F : Nat → Int} {n k : Nat} (h : k + 1 ≤ n) : entF F ((n : Int) - (k : Int) - 1) = F (n - k - 1) := by
  have := entF_nat (F := F) h
  rw [show (n : Int) - (k : Int) - 1 = (n : Int) - ((k + 1 : Nat) : Int) by omega, this, Nat.sub_sub]
end U
namespace U
open PySem PySem.Spec PyProof.Rows L2
/-- nothing is promised -/
def spNo : Sp := fun _ _ _ _ => False
theorem fnNo {P : Program} {w : World} {K : PySem.W.Frag} {mg : Str → Option Value} {base : Heap} {CX : CXT} {k : Nat} {f : Addr} {fd : FuncData} {ps : List Str} : FnOk P w K mg base CX k f fd ps spNo :=
  ⟨fun _ _ _ _ h => h.elim, fun _ _ _ _ _ _ _ _ _ _ _ _ _ h => h.elim⟩
/-- what begun counts, at any whole number of signs -/
def begI (k : Nat) (i : Int) : Int := if i < 0 then 0 else begF k i.toNat
theorem begI_0 {i : Int} : begI 0 i = entF wordF i := rfl
theorem begI_s {k : Nat} {i : Int} : begI (k + 1) i = entF wordF i + 26 * begI k (i - 1) := by
  unfold begI entF
  by_cases h : i < 0
  · rw [if_pos h, if_pos h, if_pos (by omega)]; rfl
  · rw [if_neg h, if_neg h]
    by_cases h0 : i = 0
    · subst h0; rw [if_pos (by decide)]; show wordF 0 = wordF 0 + 26 * 0; omega
    · rw [if_neg (by omega)]
      obtain ⟨n, rfl⟩ : ∃ n : Nat, i = (n : Int) + 1 := ⟨(i - 1).toNat, by omega⟩
      rw [show ((n : Int) + 1).toNat = n + 1 by omega, show ((n : Int) + 1 - 1).toNat = n by omega]
      rfl
end U
namespace U
open PySem PySem.Spec PyProof.Rows L2
theorem le_snoc : ∀ (l : List Nat) (c k n : Nat), leV k (l ++ [c]) n 0 = leV k l n 0 + (if l = [] then 0 else wordF (n - l.length)) + ((c : Int) - 97) * begF (k - l.length) (n - l.length - 1)
  | [], c, k, n => by
    show ((c : Int) - 97) * begF k (n - 1) + 0 = 0 + (if ([] : List Nat) = [] then 0 else wordF (n - 0)) + ((c : Int) - 97) * begF (k - 0) (n - 0 - 1)
    rw [if_pos rfl, Nat.sub_zero, Nat.sub_zero]; omega
  | [d], c, k, n => by
    show ((d : Int) - 97) * begF k (n - 1) + wordF (n - 1) + (((c : Int) - 97) * begF (k - 1) (n - 1 - 1) + 0) = ((d : Int) - 97) * begF k (n - 1) + 0 + (if [d] = [] then 0 else wordF (n - 1)) + ((c : Int) - 97) * begF (k - 1) (n - 1 - 1)
    rw [if_neg (by simp)]; omega
  | d :: e :: ds, c, k, n => by
    have ih := le_snoc (e :: ds) c (k - 1) (n - 1)
    have h1 : n - 1 - (e :: ds).length = n - (d :: e :: ds).length := by simp only [List.length_cons]; omega
    have h2 : k - 1 - (e :: ds).length = k - (d :: e :: ds).length := by simp only [List.length_cons]; omega
    rw [h1, h2, if_neg (by simp)] at ih
    rw [if_neg (by simp)]
    show ((d : Int) - 97) * begF k (n - 1) + wordF (n - 1) + leV (k - 1) ((e :: ds) ++ [c]) (n - 1) 0 = ((d : Int) - 97) * begF k (n - 1) + wordF (n - 1) + leV (k - 1) (e :: ds) (n - 1) 0 + _ + _
    omega
theorem le_step {l : List Nat} {k n i c : Nat} (hc : l[i]? = some c) : leV k (l.take (i + 1)) n 0 = leV k (l.take i) n 0 + (if i = 0 then 0 else wordF (n - i)) + ((c : Int) - 97) * begF (k - i) (n - i - 1) := by
  have h := le_snoc (l.take i) c k n
  have hl : (l.take i).length = i := by
    have := (List.getElem?_eq_some_iff.mp hc).1
    rw [List.length_take]; omega
  rw [show l.take (i + 1) = l.take i ++ [c] by rw [List.take_add_one, hc]; rfl, h, hl]
  by_cases e : i = 0
  · subst e; rw [if_pos rfl, if_pos (by simp)]
  · rw [if_neg e, if_neg (fun z => e (by rw [← hl, z]; rfl))]
theorem begI_nat {e k i : Nat} (h : i + 1 ≤ k) : begI e ((k : Int) - (i : Int) - 1) = begF e (k - i - 1) := by
  unfold begI
  rw [if_neg (by omega), show ((k : Int) - (i : Int) - 1).toNat = k - i - 1 by omega]
end U

namespace U
open PySem PySem.Spec PyProof.Rows L2
/-! ### numbers, makers: the walk's sums -/
def nuS (m : Int) (k : Nat) : Nat → Int
  | 0 => 0
  | i + 1 => nuS m k i + max 0 (min m (10 * 10 ^ i) - 10 ^ i) * entF numF ((k : Int) - (1 + (i : Int)))
theorem nuS_eq {m : Int} {k : Nat} : nuS m k 4 = nuB m k := by
  show (((0 + max 0 (min m (10 * 10 ^ 0) - 10 ^ 0) * entF numF ((k : Int) - (1 + ((0 : Nat) : Int)))) + max 0 (min m (10 * 10 ^ 1) - 10 ^ 1) * entF numF ((k : Int) - (1 + ((1 : Nat) : Int)))) + max 0 (min m (10 * 10 ^ 2) - 10 ^ 2) * entF numF ((k : Int) - (1 + ((2 : Nat) : Int)))) + max 0 (min m (10 * 10 ^ 3) - 10 ^ 3) * entF numF ((k : Int) - (1 + ((3 : Nat) : Int))) = nuB m k
  unfold nuB kz
  have e1 : (k : Int) - (1 + ((0 : Nat) : Int)) = (k : Int) - 1 := by omega
  have e2 : (k : Int) - (1 + ((1 : Nat) : Int)) = (k : Int) - 2 := by omega
  have e3 : (k : Int) - (1 + ((2 : Nat) : Int)) = (k : Int) - 3 := by omega
  have e4 : (k : Int) - (1 + ((3 : Nat) : Int)) = (k : Int) - 4 := by omega
  rw [e1, e2, e3, e4]
  simp only [show (10 : Int) ^ 0 = 1 by decide, show (10 : Int) ^ 1 = 10 by decide, show (10 : Int) ^ 2 = 100 by decide, show (10 : Int) ^ 3 = 1000 by decide]
  omega
theorem gv_add {T : Nat → Int} : ∀ (ds : List Nat) (n : Nat) (r : Int), ds ≠ [] → gv T ds n r = gv T ds n 0 + r
  | [], _, _, h => (h rfl).elim
  | [d], n, r, _ => by show dg T d (n - 1) + r = dg T d (n - 1) + 0 + r; omega
  | d :: e :: ds, n, r, _ => by
    have := gv_add (T := T) (e :: ds) (n - 1) r (by simp)
    show _ + _ + gv T (e :: ds) (n - 1) r = _ + _ + gv T (e :: ds) (n - 1) 0 + r
    omega
def mkB (k : Nat) (m : List Nat) (n : Nat) : Int := yearF n + ((m.headD 97 : Nat) - 97 : Int) * goF (endF k) (n - 2) + gv (endF k) m.tail (n - 2) 0
theorem mkR_add : ∀ (ms : List (List Nat)) (k n : Nat) (e : Int), (∀ m ∈ ms, m.tail ≠ []) → mkR k ms n e = mkR k ms n 0 + e
  | [], _, _, e, _ => by show e = 0 + e; omega
  | m :: ms, k, n, e, h => by
    have ih := mkR_add ms (k - 1) (n - 1 - m.length) e (fun x hx => h x (List.mem_cons_of_mem _ hx))
    have g1 := gv_add (T := endF (k - 1)) m.tail (n - 2) (mkR (k - 1) ms (n - 1 - m.length) e) (h m List.mem_cons_self)
    have g2 := gv_add (T := endF (k - 1)) m.tail (n - 2) (mkR (k - 1) ms (n - 1 - m.length) 0) (h m List.mem_cons_self)
    show _ + _ + gv (endF (k - 1)) m.tail (n - 2) (mkR (k - 1) ms (n - 1 - m.length) e) = _ + _ + gv (endF (k - 1)) m.tail (n - 2) (mkR (k - 1) ms (n - 1 - m.length) 0) + e
    omega
theorem mk_snoc : ∀ (ms : List (List Nat)) (m : List Nat) (k n : Nat), (∀ m ∈ ms, m.tail ≠ []) → m.tail ≠ [] → mkR k (ms ++ [m]) n 0 = mkR k ms n 0 + mkB (k - ms.length - 1) m (n - mlen ms)
  | [], m, k, n, _, hm => by
    have g := gv_add (T := endF (k - 1)) m.tail (n - 2) 0 hm
    show yearF n + ((m.headD 97 : Nat) - 97 : Int) * goF (endF (k - 1)) (n - 2) + gv (endF (k - 1)) m.tail (n - 2) 0 = 0 + mkB (k - 0 - 1) m (n - 0)
    unfold mkB
    rw [Nat.sub_zero, Nat.sub_zero]; omega
  | x :: ms, m, k, n, h, hm => by
    have hx := h x List.mem_cons_self
    have ih := mk_snoc ms m (k - 1) (n - 1 - x.length) (fun y hy => h y (List.mem_cons_of_mem _ hy)) hm
    have g1 := gv_add (T := endF (k - 1)) x.tail (n - 2) (mkR (k - 1) (ms ++ [m]) (n - 1 - x.length) 0) hx
    have g2 := gv_add (T := endF (k - 1)) x.tail (n - 2) (mkR (k - 1) ms (n - 1 - x.length) 0) hx
    have e1 : k - 1 - ms.length - 1 = k - (x :: ms).length - 1 := by simp only [List.length_cons]; omega
    have e2 : n - 1 - x.length - mlen ms = n - mlen (x :: ms) := by show _ = n - (1 + x.length + mlen ms); omega
    rw [e1, e2] at ih
    show _ + _ + gv (endF (k - 1)) x.tail (n - 2) (mkR (k - 1) (ms ++ [m]) (n - 1 - x.length) 0) = _ + _ + gv (endF (k - 1)) x.tail (n - 2) (mkR (k - 1) ms (n - 1 - x.length) 0) + _
    omega
theorem mlen_snoc : ∀ (ms : List (List Nat)) (m : List Nat), mlen (ms ++ [m]) = mlen ms + (1 + m.length)
  | [], m => by show 1 + m.length + 0 = 0 + (1 + m.length); omega
  | x :: ms, m => by
    have := mlen_snoc ms m
    show 1 + x.length + mlen (ms ++ [m]) = 1 + x.length + mlen ms + (1 + m.length)
    omega
theorem mlen_take : ∀ (ms : List (List Nat)) (i : Nat), mlen (ms.take i) ≤ mlen ms
  | [], i => by simp
  | m :: ms, 0 => Nat.zero_le _
  | m :: ms, i + 1 => by
    have := mlen_take ms i
    show 1 + m.length + mlen (ms.take i) ≤ 1 + m.length + mlen ms
    omega
theorem mk_step {ms : List (List Nat)} {k n i : Nat} {m : List Nat} (h : ∀ m ∈ ms, m.tail ≠ []) (hm : ms[i]? = some m) : mkR k (ms.take (i + 1)) n 0 = mkR k (ms.take i) n 0 + mkB (k - i - 1) m (n - mlen (ms.take i)) ∧ mlen (ms.take (i + 1)) = mlen (ms.take i) + (1 + m.length) := by
  have hl : (ms.take i).length = i := by
    have := (List.getElem?_eq_some_iff.mp hm).1
    rw [List.length_take]; omega
  have e : ms.take (i + 1) = ms.take i ++ [m] := by rw [List.take_add_one, hm]; rfl
  have s1 := mk_snoc (ms.take i) m k n (fun x hx => h x (List.mem_of_mem_take hx)) (h m (List.mem_of_getElem? hm))
  rw [hl] at s1
  exact ⟨by rw [e, s1], by rw [e, mlen_snoc]⟩
end U

/-! what is new in a heap: x itself, and what was not there -/
namespace U
open PySem PySem.Spec PyProof.Rows L2
def HN (H : Hp) (x : Addr) (H' : Hp) : Hp := fun a => if (a == x || (H a).isNone) = true then H' a else none
theorem HN.of {H H' : Hp} {x a : Addr} {o : HO} (h : H a = none) (e : H' a = some o) : HN H x H' a = some o := by
  unfold HN; rw [if_pos (by rw [h]; simp)]; exact e
theorem HN.at {H H' : Hp} {x : Addr} {o : HO} (e : H' x = some o) : HN H x H' x = some o := by
  unfold HN; rw [if_pos (by simp)]; exact e
theorem HN.get {H H' : Hp} {x a : Addr} {o : HO} (e : HN H x H' a = some o) : H' a = some o := by
  unfold HN at e; split at e
  · exact e
  · cases e
theorem HN.new {H H' : Hp} {x a : Addr} {o : HO} (e : HN H x H' a = some o) (hx : a ≠ x) : H a = none := by
  unfold HN at e; split at e
  · rename_i h
    simp only [Bool.or_eq_true, beq_iff_eq, Option.isNone_iff_eq_none] at h
    rcases h with h | h
    · exact (hx h).elim
    · exact h
  · cases e
theorem Fr.hn {S : List Addr} {H H1 H2 : Hp} {x : Addr} (f : Fr S H1 H2) : Fr S (HN H x H1) (HN H x H2) := fun b hb hs => by
  unfold HN at hs ⊢
  split at hs
  · rename_i h; rw [if_pos h, if_pos h]; exact f b hb hs
  · cases hs
def FgN (C : Addr) (H H' : Hp) (x q : Addr) (n : Nat) (T : Nat → Int) : Prop := ∃ dx g s, H' x = some (.ins C dx (fg3 q g s)) ∧ H' g = some (.lst (iv (sq n (goF T)))) ∧ H' s = some (.lst (iv (sq n (stF T)))) ∧ H g = none ∧ H s = none
theorem upd_none {H : Hp} {p a : Addr} {o : HO} (h : upd H p o a = none) : H a = none := by
  by_cases e : a = p
  · subst e; rw [upd_same] at h; cases h
  · rw [upd_ne e] at h; exact h
structure CnY (C CF : Addr) (H : Hp) (x : Addr) (n : Nat) (c1 c2 c3 c4 c5 c6 c7 c8 e0 e1 e2 e3 f0 f1 f2 : Addr) : Prop where
  x : ∃ dx, H x = some (.ins C dx (ct8 c1 c2 c3 c4 c5 c6 c7 c8))
  copy : H c1 = some (.lst (iv (sq (n + 1) copF)))
  year : H c2 = some (.lst (iv (sq (n + 1) yearF)))
  mks : H c3 = some (.lst [.ref e0, .ref e1, .ref e2, .ref e3])
  m0 : H e0 = some (.lst (iv (sq (n + 1) (endF 0))))
  m1 : H e1 = some (.lst (iv (sq (n + 1) (endF 1))))
  m2 : H e2 = some (.lst (iv (sq (n + 1) (endF 2))))
  m3 : H e3 = some (.lst (iv (sq (n + 1) (endF 3))))
  fg : H c4 = some (.lst [.ref f0, .ref f1, .ref f2])
  g0 : FgX CF H f0 (n + 1) (endF 0)
  g1 : FgX CF H f1 (n + 1) (endF 1)
  g2 : FgX CF H f2 (n + 1) (endF 2)
  pt : FgX CF H c5 (n + 1) (endF 3)
  num : H c6 = some (.lst (iv (sq (n + 1) numF)))
  word : H c7 = some (.lst (iv (sq (n + 1) wordF)))
  sign : H c8 = some (.lst (iv (sq (n + 1) sigF)))
def CnB (C CF : Addr) (H : Hp) (x : Addr) (n : Nat) : Prop := ∃ c1 c2 c3 c4 c5 c6 c7 c8 e0 e1 e2 e3 f0 f1 f2, CnY C CF H x n c1 c2 c3 c4 c5 c6 c7 c8 e0 e1 e2 e3 f0 f1 f2
end U

/-! len(x), str(x), repr(x) of own instances -/
namespace U
open PySem PySem.Spec PyProof.Rows L2
structure OwG (P : Program) (w : World) (K : PySem.W.Frag) (mg : Str → Option Value) (base : Heap) (n : Nat) (C : Addr) (nm : Str) (sp : Sp) : Prop where
  ex : ∃ (f : Addr) (fd : FuncData) (ps : List Str), FnOk P w K mg base C8.CX0 n f fd ps sp ∧ PySem.W.findIn K (.ref C) nm = some (some (.ref f)) ∧ PySem.W.isFn K (.ref f) = true ∧ Binds K fd ps []
theorem run_sub {X : Cx} {k : Nat} {f : Addr} {fd : FuncData} {ps : List Str} {sp : Sp} {A1 : Around} {pins : List (Addr × Obj)} {σ : L2.St} {H : Hp} {s : Shared} {Q : VK} {us : List Value} {vs : List V} (F : FnOk X.prog X.w X.K X.mg X.base C8.CX0 k f fd ps sp) (sb : Room k A1) (fr : A1.frames = X.A.frames) (hb : Binds X.K fd ps [])
    (I : Inv X pins σ H s) (r : Vals vs us) (h : sp vs H Q L2.E0) : wpAny (model X.prog X.w) A1 (call (.ref f) us) (EP X pins σ Q) X.xe s := by
  have e0 : Env0 X.prog X.w X.K X.mg X.base A1 X.stack s H := by
    have e := I.env0
    exact ⟨by rw [fr]; exact e.frames, e.mod, e.bs, e.bsz, e.funs, e.frf, e.hok, e.bare⟩
  have hl : us.length = ps.length := by rw [← r.length]; exact F.len _ _ _ _ h
  refine wpAny_call (codeAny_mono (F.run A1 X.stack s H ⟨us, []⟩ us vs Q L2.E0 sb e0 (by
    have := hb s us I.kIn (by simpa using hl)
    simpa using this) r h) fun r s' hq => ?_)
  cases r with
  | error e => exact C8.pass0 (E := L2.E0) pins σ H s e s' I hq
  | ok fl =>
    cases fl with
    | ret u => exact I.after hq
    | next => exact False.elim hq
    | brk => exact False.elim hq
    | cont => exact False.elim hq
def rLenI (C : Addr) (sp : Sp) : List V → Hp → VK → Prop := fun xs H Q => ∃ a dx fs, xs = [.ref a] ∧ H a = some (.ins C dx fs) ∧ sp [.ref a] H (fun v H' => ∃ i : Int, v = .int i ∧ (0 ≤ i ∧ i < 2 ^ 63) ∧ Q (.int i) H') L2.E0
def rStrI (C : Addr) (sp : Sp) : List V → Hp → VK → Prop := fun xs H Q => ∃ a dx fs, xs = [.ref a] ∧ H a = some (.ins C dx fs) ∧ sp [.ref a] H (fun v H' => ∃ z, v = .str z ∧ Q (.str z) H') L2.E0
section
variable {X : Cx} {n j : Nat} {C : Addr} {sp : Sp}
theorem call_lenI (c : OwG X.prog X.w X.K X.mg X.base n C "__len__" sp) (hr : Room j X.A) (hk : n + 1 ≤ j) : CallR X (.builtin "len") (rLenI C sp) := by
  intro pins s σ H xs us Q I rv h
  obtain ⟨a, dx, fs, rfl, ha, hq⟩ := h
  obtain ⟨u, rfl, ru⟩ := rv.one
  cases ru
  obtain ⟨f, fd, ps, F, hs, hf, hb⟩ := c.ex
  obtain ⟨mA, J, _⟩ := ins_get I.hok ha
  obtain ⟨od, J, _⟩ := J.look
  obtain ⟨m, hF⟩ := I.fr
  have sb : Room n X.A.in1 := (hr.mono hk).in1
  refine PySem.W.len_K hF I.ok.mod.kin J hs hf ?_
  refine thn (run_sub F sb rfl hb I (vs := [V.ref a]) (us := [Value.ref a]) (.cons rfl .nil) hq) fun r s' hq => ?_
  obtain ⟨z, H', I', rz, i, rfl, hi, q⟩ := hq
  obtain ⟨t, rfl⟩ := rz
  exact ⟨hi, .int i, H', I'.tok _, ⟨_, rfl⟩, q⟩
theorem call_strI (c : OwG X.prog X.w X.K X.mg X.base n C "__str__" sp) (hr : Room j X.A) (hk : n + 2 ≤ j) : CallR X (.type "str") (rStrI C sp) := by
  intro pins s σ H xs us Q I rv h
  obtain ⟨a, dx, fs, rfl, ha, hq⟩ := h
  obtain ⟨u, rfl, ru⟩ := rv.one
  cases ru
  obtain ⟨f, fd, ps, F, hs, hf, hb⟩ := c.ex
  obtain ⟨mA, J, _⟩ := ins_get I.hok ha
  obtain ⟨od, J, _⟩ := J.look
  have sb : Room n X.A.in1.in1 := (hr.mono hk).in1.in1
  refine PySem.W.kso_call sb.units0 I.kIn J hs hf ?_
  refine thn (run_sub F sb rfl hb I (vs := [V.ref a]) (us := [Value.ref a]) (.cons rfl .nil) hq) fun r s' hq => ?_
  obtain ⟨z, H', I', rz, i, rfl, q⟩ := hq
  obtain ⟨t, rfl⟩ := rz
  exact ⟨.str i, H', I', ⟨_, rfl⟩, q⟩
theorem call_reprI (c : OwG X.prog X.w X.K X.mg X.base n C "__repr__" sp) (hr : Room j X.A) (hk : n + 1 ≤ j) : CallR X (.builtin "repr") (rStrI C sp) := by
  intro pins s σ H xs us Q I rv h
  obtain ⟨a, dx, fs, rfl, ha, hq⟩ := h
  obtain ⟨u, rfl, ru⟩ := rv.one
  cases ru
  obtain ⟨f, fd, ps, F, hs, hf, hb⟩ := c.ex
  obtain ⟨mA, J, _⟩ := ins_get I.hok ha
  obtain ⟨od, J, _⟩ := J.look
  obtain ⟨m, hF⟩ := I.fr
  have sb : Room n X.A.in1 := (hr.mono hk).in1
  refine PySem.W.repr_K sb.units0 hF I.ok.mod.kin J hs hf ?_
  refine thn (run_sub F sb rfl hb I (vs := [V.ref a]) (us := [Value.ref a]) (.cons rfl .nil) hq) fun r s' hq => ?_
  obtain ⟨z, H', I', rz, i, rfl, q⟩ := hq
  obtain ⟨t, rfl⟩ := rz
  exact ⟨.str i, H', I', ⟨_, rfl⟩, q⟩
end
end U

/-! the order of keys is that of the numbers -/
namespace U
open PySem PySem.Spec PyProof.Rows L2
theorem toks_ms : ∀ (ms ns : List (List Nat)) (X Y : List (Int ⊕ List Nat)), PySem.W.keyToksAll (msD ms) ++ X = PySem.W.keyToksAll (msD ns) ++ Y → ms = ns ∧ X = Y
  | [], [], X, Y, h => by simpa [msD, PySem.W.keyToksAll] using h
  | [], n :: ns, X, Y, h => by simp [msD, PySem.W.keyToksAll] at h
  | m :: ms, [], X, Y, h => by simp [msD, PySem.W.keyToksAll] at h
  | m :: ms, n :: ns, X, Y, h => by
    simp only [msD, List.map_cons, PySem.W.keyToksAll, PySem.W.keyToks, List.cons_append, List.nil_append, List.append_assoc, List.cons.injEq, Sum.inr.injEq, true_and] at h
    obtain ⟨h1, h2⟩ := toks_ms ms ns X Y h.2
    exact ⟨by rw [h1, h.1], h2⟩
theorem toks_inj2 {t u : Pt} (ok : t.Ok) (ok' : u.Ok) (h : PySem.W.keyToks (keyD t) = PySem.W.keyToks (keyD u)) : t = u := by
  simp only [keyD, keyL, PySem.W.keyToks, PySem.W.keyToksAll, List.cons_append, List.nil_append, List.append_assoc, List.cons.injEq, Sum.inr.injEq, Sum.inl.injEq, true_and] at h
  obtain ⟨h1, h2, h3, h4⟩ := h
  obtain ⟨h4, h5⟩ := toks_ms _ _ _ _ h4
  simp only [List.cons.injEq, Sum.inl.injEq, true_and, and_true] at h5
  obtain ⟨hy, hc⟩ := h5
  have hyy : t.y = u.y := by
    have a := ok.y
    have b := ok'.y
    cases e : t.y <;> cases e' : u.y <;> rw [e, e'] at hy <;> simp at hy ⊢
    · have := b _ e'; omega
    · have := a _ e; omega
    · exact hy
  have hcc : t.c = u.c := by
    have a := ok.c
    have b := ok'.c
    cases e : t.c <;> cases e' : u.c <;> rw [e, e'] at hc <;> simp at hc ⊢
    · have := b _ e'; omega
    · have := a _ e; omega
    · exact hc
  obtain ⟨l, n, p, ms, y, c⟩ := t
  obtain ⟨l', n', p', ms', y', c'⟩ := u
  simp only at *
  rw [h1, h2, h3, h4, hyy, hcc]
theorem key_tri {t u : Pt} (ok : t.Ok) (ok' : u.Ok) (h1 : PySem.W.dataLt (keyD t) (keyD u) = false) (h2 : PySem.W.dataLt (keyD u) (keyD t) = false) : t = u := toks_inj2 ok ok' (lex_total _ _ h1 h2)
theorem rank_cmp {t u : Pt} {n : Nat} (ok : t.Ok) (ok' : u.Ok) (h : t.slen ≤ n) (h' : u.slen ≤ n) : (PySem.W.dataLt (keyD t) (keyD u) = true) = (rank t n < rank u n) := by
  apply propext; constructor
  · exact fun e => rank_mono ok ok' h h' (lt_parts ok ok' e)
  · intro e
    cases h1 : PySem.W.dataLt (keyD t) (keyD u) with
    | true => rfl
    | false =>
      cases h2 : PySem.W.dataLt (keyD u) (keyD t) with
      | true => have := rank_mono ok' ok h' h (lt_parts ok' ok h2); omega
      | false => have := key_tri ok ok' h1 h2; subst this; omega
end U

namespace U
open PySem PySem.Spec PyProof.Rows L2
/-! ### the figures of a number -/
theorem p10_le {i j : Nat} (h : i ≤ j) : (10 : Int) ^ i ≤ 10 ^ j := by
  obtain ⟨k, rfl⟩ := Nat.le.dest h
  induction k with
  | zero => exact Int.le_refl _
  | succ k ih =>
    have ih := ih (by omega)
    rw [show i + (k + 1) = (i + k) + 1 by omega, Int.pow_succ]
    have : (0 : Int) < 10 ^ (i + k) := Int.pow_pos (by decide)
    omega
def fnd (T : Nat → Int) : Nat → Bool → Int → List Nat × Int × Nat
  | 0, _, x => ([], x, 0)
  | n + 1, b, x => if b = true ∧ x < T (n + 1) then ([], x, n + 1) else
      if (if b = true then x - T (n + 1) else x) < goF T n then (48 :: (fnd T n false (if b = true then x - T (n + 1) else x)).1, (fnd T n false (if b = true then x - T (n + 1) else x)).2)
      else ((49 + (((if b = true then x - T (n + 1) else x) - goF T n) / stF T n).toNat) :: (fnd T n true (((if b = true then x - T (n + 1) else x) - goF T n) % stF T n)).1, (fnd T n true (((if b = true then x - T (n + 1) else x) - goF T n) % stF T n)).2)
structure FndOk (T : Nat → Int) (n : Nat) (b : Bool) (x : Int) (r : List Nat × Int × Nat) : Prop where
  le : r.1.length ≤ n
  lf : r.2.2 = n - r.1.length
  r0 : 0 ≤ r.2.1
  r1 : r.2.1 < T r.2.2
  dg : ∀ d ∈ r.1, 48 ≤ d ∧ d ≤ 57
  ne : r.1 ≠ [] → r.1.getLast? ≠ some 48 ∧ (if b = true then T n else 0) + gv T r.1 n r.2.1 = x
  nb : b = false → r.1 ≠ []
  em : r.1 = [] → r.2.1 = x
theorem div_lt {z s : Int} {k : Int} (h0 : 0 ≤ z) (h1 : z < k * s) (hs : 0 ≤ s) : 0 < s ∧ 0 ≤ z / s ∧ z / s < k ∧ 0 ≤ z % s ∧ z % s < s ∧ s * (z / s) + z % s = z := by
  have sp : 0 < s := by
    rcases Int.lt_or_eq_of_le hs with h | h
    · exact h
    · rw [← h, Int.mul_zero] at h1; omega
  refine ⟨sp, Int.ediv_nonneg h0 hs, Int.ediv_lt_of_lt_mul sp h1, Int.emod_nonneg _ (by omega), Int.emod_lt_of_pos _ sp, Int.mul_ediv_add_emod z s⟩
theorem last_cons {d : Nat} {l : List Nat} (h : l ≠ [] → l.getLast? ≠ some 48) (h0 : l = [] → d ≠ 48) : (d :: l).getLast? ≠ some 48 := by
  cases l with
  | nil => simpa using h0 rfl
  | cons e l => rw [List.getLast?_cons_cons]; exact h (by simp)
theorem gv_cons {T : Nat → Int} {d : Nat} {l : List Nat} {n : Nat} {r : Int} (h : l ≠ []) : gv T (d :: l) (n + 1) r = dg T d n + (if d = 48 then 0 else T n) + gv T l n r := by
  cases l with
  | nil => exact (h rfl).elim
  | cons e l => rfl
theorem fnd_ok {T : Nat → Int} (hT : ∀ i, 0 ≤ T i) : ∀ (n : Nat) (b : Bool) (x : Int), 0 ≤ x → x < (if b = true then stF T n else goF T n) → FndOk T n b x (fnd T n b x)
  | 0, b, x, h0, h1 => by
    cases b with
    | false => have h1 : x < 0 := h1; omega
    | true =>
      have h1 : x < T 0 := h1
      exact ⟨Nat.le_refl _, rfl, h0, h1, fun d hd => (by cases hd), fun z => (z rfl).elim, fun z => (by cases z), fun _ => rfl⟩
  | n + 1, b, x, h0, h1 => by
    rw [fnd]
    by_cases c0 : b = true ∧ x < T (n + 1)
    · rw [if_pos c0]
      exact ⟨Nat.zero_le _, rfl, h0, c0.2, fun d hd => (by cases hd), fun z => (z rfl).elim, fun z => (by rw [c0.1] at z; cases z), fun _ => rfl⟩
    rw [if_neg c0]
    generalize hy : (if b = true then x - T (n + 1) else x) = y
    have y0 : 0 ≤ y := by
      cases b with
      | false => simp at hy; omega
      | true => simp at hy c0; omega
    have y1 : y < goF T (n + 1) := by
      cases b with
      | false => simp at hy h1; omega
      | true => simp at hy h1; rw [stF_s] at h1; omega
    have yx : (if b = true then T (n + 1) else 0) + y = x := by
      cases b with
      | false => simp at hy ⊢; omega
      | true => simp at hy ⊢; omega
    rw [goF_s] at y1
    obtain ⟨g1, g2⟩ := gs_pos hT n
    clear hy
    by_cases c1 : y < goF T n
    · rw [if_pos c1]
      have k := fnd_ok hT n false y y0 c1
      generalize fnd T n false y = r at k
      obtain ⟨ds, q, m⟩ := r
      have ne := k.nb rfl
      obtain ⟨l1, l2⟩ := k.ne ne
      dsimp only at ne l1 l2
      have le := k.le
      have lf := k.lf
      dsimp only at le lf
      refine ⟨by simp only [List.length_cons]; omega, by simp only [List.length_cons]; omega, k.r0, k.r1, fun d hd => ?_, fun _ => ⟨last_cons (fun _ => l1) (fun z => (ne z).elim), ?_⟩, fun _ => by simp, fun z => by cases z⟩
      · rcases List.mem_cons.mp hd with rfl | hd
        · omega
        · exact k.dg d hd
      · rw [gv_cons ne]
        simp only [dg, if_true, Bool.false_eq_true, if_false] at l2 ⊢
        omega
    · rw [if_neg c1]
      obtain ⟨sp, d0, d1, m0, m1, dm⟩ := div_lt (z := y - goF T n) (s := stF T n) (k := 9) (by omega) (by omega) g2
      have k := fnd_ok hT n true ((y - goF T n) % stF T n) m0 m1
      generalize fnd T n true ((y - goF T n) % stF T n) = r at k
      generalize (y - goF T n) / stF T n = w at *
      generalize (y - goF T n) % stF T n = v at *
      obtain ⟨ds, q, m⟩ := r
      have le := k.le
      have lf := k.lf
      dsimp only at le lf
      have hd : ¬ (49 + w.toNat = 48) := by omega
      refine ⟨by simp only [List.length_cons]; omega, by simp only [List.length_cons]; omega, k.r0, k.r1, fun d hd => ?_, fun _ => ⟨last_cons (fun z => (k.ne z).1) (fun _ => by omega), ?_⟩, fun _ => by simp, fun z => by cases z⟩
      · rcases List.mem_cons.mp hd with rfl | hd
        · omega
        · exact k.dg d hd
      · have e : dg T (49 + w.toNat) n = goF T n + w * stF T n := by
          unfold dg
          rw [if_neg hd, show ((49 + w.toNat : Nat) : Int) - 49 = w by omega]
        have e2 : w * stF T n = stF T n * w := Int.mul_comm _ _
        by_cases hn : ds = []
        · have em := k.em hn
          subst hn
          show _ + (dg T (49 + w.toNat) n + q) = x
          dsimp only at em
          rw [e]
          omega
        · obtain ⟨l1, l2⟩ := k.ne hn
          dsimp only at l2 ⊢
          rw [if_pos rfl] at l2
          rw [gv_cons hn, e, if_neg hd]
          omega
theorem fnd_fig {T : Nat → Int} {n : Nat} {b : Bool} {x : Int} {r : List Nat × Int × Nat} (k : FndOk T n b x r) (h : r.1 ≠ []) : figsB r.1 = true := by
  have h1 := k.dg
  have h2 := (k.ne h).1
  unfold figsB
  simp only [Bool.and_eq_true, Bool.not_eq_true', List.isEmpty_eq_false_iff, beq_eq_false_iff_ne]
  refine ⟨⟨h, ?_⟩, ?_⟩
  · rw [List.all_eq_true]; intro d hd; have := h1 d hd; simp [figB]; omega
  · simpa using h2
/-! ### the letters of a number -/
def lfd : Nat → Nat → Bool → Int → List Nat × Int × Nat
  | 0, n, _, x => ([], x, n)
  | _ + 1, 0, _, x => ([], x, 0)
  | j + 1, n + 1, b, x => if b = true ∧ x < wordF (n + 1) then ([], x, n + 1) else
      ((97 + ((if b = true then x - wordF (n + 1) else x) / begF j n).toNat) :: (lfd j n true ((if b = true then x - wordF (n + 1) else x) % begF j n)).1, (lfd j n true ((if b = true then x - wordF (n + 1) else x) % begF j n)).2)
structure LfdOk (j n : Nat) (b : Bool) (x : Int) (r : List Nat × Int × Nat) : Prop where
  le : r.1.length ≤ n
  lj : r.1.length ≤ j
  lf : r.2.2 = n - r.1.length
  r0 : 0 ≤ r.2.1
  r1 : r.2.1 < wordF r.2.2
  dg : ∀ d ∈ r.1, 97 ≤ d ∧ d ≤ 122
  ne : r.1 ≠ [] → (if b = true then wordF n else 0) + leV (j - 1) r.1 n r.2.1 = x
  nb : b = false → r.1 ≠ []
  em : r.1 = [] → r.2.1 = x
theorem leV_cons {k d : Nat} {l : List Nat} {n : Nat} {r : Int} (h : l ≠ []) : leV k (d :: l) (n + 1) r = ((d : Int) - 97) * begF k n + wordF n + leV (k - 1) l n r := by
  cases l with
  | nil => exact (h rfl).elim
  | cons e l => rfl
/-- what may go on behind j more letters -/
def begT (j n : Nat) (b : Bool) : Int := if b = true then begF j n else 26 * begF (j - 1) (n - 1)
theorem lfd_ok : ∀ (j n : Nat) (b : Bool) (x : Int), (b = false → 0 < j ∧ 0 < n) → 0 ≤ x → x < begT j n b → LfdOk j n b x (lfd j n b x)
  | 0, n, b, x, hb, h0, h1 => by
    cases b with
    | false => have := (hb rfl).1; omega
    | true =>
      have h1 : x < wordF n := h1
      rw [lfd]
      exact ⟨Nat.zero_le _, Nat.zero_le _, rfl, h0, h1, fun d hd => (by cases hd), fun z => (z rfl).elim, fun z => (by cases z), fun _ => rfl⟩
  | j + 1, 0, b, x, hb, h0, h1 => by
    cases b with
    | false => have := (hb rfl).2; omega
    | true =>
      have h1 : x < wordF 0 := h1
      rw [lfd]
      exact ⟨Nat.zero_le _, Nat.zero_le _, rfl, h0, h1, fun d hd => (by cases hd), fun z => (z rfl).elim, fun z => (by cases z), fun _ => rfl⟩
  | j + 1, n + 1, b, x, hb, h0, h1 => by
    rw [lfd]
    by_cases c0 : b = true ∧ x < wordF (n + 1)
    · rw [if_pos c0]
      exact ⟨Nat.zero_le _, Nat.zero_le _, rfl, h0, c0.2, fun d hd => (by cases hd), fun z => (z rfl).elim, fun z => (by rw [c0.1] at z; cases z), fun _ => rfl⟩
    rw [if_neg c0]
    generalize hy : (if b = true then x - wordF (n + 1) else x) = y
    have y0 : 0 ≤ y := by
      cases b with
      | false => simp at hy; omega
      | true => simp at hy c0; omega
    have y1 : y < 26 * begF j n := by
      cases b with
      | false => simp at hy; have h1 : x < 26 * begF j n := h1; omega
      | true => simp at hy; have h1 : x < wordF (n + 1) + 26 * begF j n := h1; omega
    have yx : (if b = true then wordF (n + 1) else 0) + y = x := by
      cases b with
      | false => simp at hy ⊢; omega
      | true => simp at hy ⊢; omega
    clear hy
    have bp := begF_pos j n
    have wp := wordF_pos n
    obtain ⟨sp, d0, d1, m0, m1, dm⟩ := div_lt (z := y) (s := begF j n) (k := 26) y0 y1 (by omega)
    have k := lfd_ok j n true (y % begF j n) (fun z => by cases z) m0 m1
    generalize lfd j n true (y % begF j n) = r at k
    generalize y / begF j n = w at *
    generalize y % begF j n = v at *
    obtain ⟨ds, q, m⟩ := r
    have le := k.le
    have lj := k.lj
    have lf := k.lf
    dsimp only at le lf lj
    refine ⟨by simp only [List.length_cons]; omega, by simp only [List.length_cons]; omega, by simp only [List.length_cons]; omega, k.r0, k.r1, fun d hd => ?_, fun _ => ?_, fun _ => by simp, fun z => by cases z⟩
    · rcases List.mem_cons.mp hd with rfl | hd
      · omega
      · exact k.dg d hd
    · have e : (((97 + w.toNat : Nat) : Int) - 97) * begF j n = begF j n * w := by
        rw [show ((97 + w.toNat : Nat) : Int) - 97 = w by omega, Int.mul_comm]
      by_cases hn : ds = []
      · have em := k.em hn
        subst hn
        show _ + ((((97 + w.toNat : Nat) : Int) - 97) * begF j n + q) = x
        dsimp only at em
        rw [e]
        omega
      · have l2 := k.ne hn
        dsimp only at l2 ⊢
        rw [if_pos rfl] at l2
        rw [show j + 1 - 1 = j from rfl, leV_cons hn, e]
        omega
/-! ### the number of a number -/
def nfd : Nat → Nat → Nat → Int → Int × Int × Nat
  | 0, i, n, x => (0, x, n)
  | f + 1, i, n, x => if x < 9 * 10 ^ i * entF numF ((n : Int) - 1) then (10 ^ i + x / entF numF ((n : Int) - 1), x % entF numF ((n : Int) - 1), n - 1) else nfd f (i + 1) (n - 1) (x - 9 * 10 ^ i * entF numF ((n : Int) - 1))
theorem ent_z {n k : Nat} (h : n < k) : entF numF ((n : Int) - (k : Int)) = 0 := if_pos (by omega)
/-- the number lies in the i-th size -/
theorem nfd_at {n i : Nat} {x : Int} (hi : i < 4) (E : Int) (hE : E = entF numF ((n : Int) - ((i + 1 : Nat) : Int))) (z : Int) (hz : z = 10 ^ i) (q : Int) (q0 : 0 ≤ q) (q1 : q < 9 * z) :
    nuB (z + q) n = nuB z n + q * E ∧ (numL (z + q).toNat).length = i + 1 ∧ 1 ≤ z + q ∧ z + q ≤ 9999 := by
  have hi4 : i = 0 ∨ i = 1 ∨ i = 2 ∨ i = 3 := by omega
  unfold nuB
  rcases hi4 with rfl | rfl | rfl | rfl
  · have hz : z = 1 := hz
    subst hz
    have hE : E = entF numF ((n : Int) - 1) := hE
    have k1 : kz (1 + q) 1 = kz 1 1 + q := by unfold kz; omega
    have k2 : kz (1 + q) 10 = kz 1 10 := by unfold kz; omega
    have k3 : kz (1 + q) 100 = kz 1 100 := by unfold kz; omega
    have k4 : kz (1 + q) 1000 = kz 1 1000 := by unfold kz; omega
    rw [k1, k2, k3, k4, Int.add_mul, ← hE]
    rcases num_size (m := 1 + q) (by omega) (by omega) with h | h | h | h
    · exact ⟨by omega, h.2, by omega, by omega⟩
    all_goals omega
  · have hz : z = 10 := hz
    subst hz
    have hE : E = entF numF ((n : Int) - 2) := hE
    have k1 : kz (10 + q) 1 = kz 10 1 := by unfold kz; omega
    have k2 : kz (10 + q) 10 = kz 10 10 + q := by unfold kz; omega
    have k3 : kz (10 + q) 100 = kz 10 100 := by unfold kz; omega
    have k4 : kz (10 + q) 1000 = kz 10 1000 := by unfold kz; omega
    rw [k1, k2, k3, k4, Int.add_mul, ← hE]
    rcases num_size (m := 10 + q) (by omega) (by omega) with h | h | h | h
    · omega
    · exact ⟨by omega, h.2.2, by omega, by omega⟩
    all_goals omega
  · have hz : z = 100 := hz
    subst hz
    have hE : E = entF numF ((n : Int) - 3) := hE
    have k1 : kz (100 + q) 1 = kz 100 1 := by unfold kz; omega
    have k2 : kz (100 + q) 10 = kz 100 10 := by unfold kz; omega
    have k3 : kz (100 + q) 100 = kz 100 100 + q := by unfold kz; omega
    have k4 : kz (100 + q) 1000 = kz 100 1000 := by unfold kz; omega
    rw [k1, k2, k3, k4, Int.add_mul, ← hE]
    rcases num_size (m := 100 + q) (by omega) (by omega) with h | h | h | h
    · omega
    · omega
    · exact ⟨by omega, h.2.2, by omega, by omega⟩
    · omega
  · have hz : z = 1000 := hz
    subst hz
    have hE : E = entF numF ((n : Int) - 4) := hE
    have k1 : kz (1000 + q) 1 = kz 1000 1 := by unfold kz; omega
    have k2 : kz (1000 + q) 10 = kz 1000 10 := by unfold kz; omega
    have k3 : kz (1000 + q) 100 = kz 1000 100 := by unfold kz; omega
    have k4 : kz (1000 + q) 1000 = kz 1000 1000 + q := by unfold kz; omega
    rw [k1, k2, k3, k4, Int.add_mul, ← hE]
    rcases num_size (m := 1000 + q) (by omega) (by omega) with h | h | h | h
    · omega
    · omega
    · omega
    · exact ⟨by omega, h.2, by omega, by omega⟩
structure NfdOk (n : Nat) (x : Int) (r : Int × Int × Nat) : Prop where
  n1 : 1 ≤ r.1
  n2 : r.1 ≤ 9999
  le : (numL r.1.toNat).length ≤ n
  lf : r.2.2 = n - (numL r.1.toNat).length
  r0 : 0 ≤ r.2.1
  r1 : r.2.1 < numF r.2.2
  eq : nuR r.1 n r.2.1 = x
theorem nuB_ten {n i : Nat} (hi : i < 4) : nuB (10 ^ (i + 1)) n = nuB (10 ^ i) n + 9 * 10 ^ i * entF numF ((n : Int) - ((i + 1 : Nat) : Int)) := by
  have hi4 : i = 0 ∨ i = 1 ∨ i = 2 ∨ i = 3 := by omega
  unfold nuB
  rcases hi4 with rfl | rfl | rfl | rfl
  · have k1 : kz (10 ^ (0 + 1)) 1 = kz (10 ^ 0) 1 + 9 := by decide
    have k2 : kz (10 ^ (0 + 1)) 10 = kz (10 ^ 0) 10 := by decide
    have k3 : kz (10 ^ (0 + 1)) 100 = kz (10 ^ 0) 100 := by decide
    have k4 : kz (10 ^ (0 + 1)) 1000 = kz (10 ^ 0) 1000 := by decide
    rw [k1, k2, k3, k4, Int.add_mul]
    show _ = _ + 9 * 1 * entF numF ((n : Int) - 1)
    omega
  · have k1 : kz (10 ^ (1 + 1)) 1 = kz (10 ^ 1) 1 := by decide
    have k2 : kz (10 ^ (1 + 1)) 10 = kz (10 ^ 1) 10 + 90 := by decide
    have k3 : kz (10 ^ (1 + 1)) 100 = kz (10 ^ 1) 100 := by decide
    have k4 : kz (10 ^ (1 + 1)) 1000 = kz (10 ^ 1) 1000 := by decide
    rw [k1, k2, k3, k4, Int.add_mul]
    show _ = _ + 9 * 10 * entF numF ((n : Int) - 2)
    omega
  · have k1 : kz (10 ^ (2 + 1)) 1 = kz (10 ^ 2) 1 := by decide
    have k2 : kz (10 ^ (2 + 1)) 10 = kz (10 ^ 2) 10 := by decide
    have k3 : kz (10 ^ (2 + 1)) 100 = kz (10 ^ 2) 100 + 900 := by decide
    have k4 : kz (10 ^ (2 + 1)) 1000 = kz (10 ^ 2) 1000 := by decide
    rw [k1, k2, k3, k4, Int.add_mul]
    show _ = _ + 9 * 100 * entF numF ((n : Int) - 3)
    omega
  · have k1 : kz (10 ^ (3 + 1)) 1 = kz (10 ^ 3) 1 := by decide
    have k2 : kz (10 ^ (3 + 1)) 10 = kz (10 ^ 3) 10 := by decide
    have k3 : kz (10 ^ (3 + 1)) 100 = kz (10 ^ 3) 100 := by decide
    have k4 : kz (10 ^ (3 + 1)) 1000 = kz (10 ^ 3) 1000 + 9000 := by decide
    rw [k1, k2, k3, k4, Int.add_mul]
    show _ = _ + 9 * 1000 * entF numF ((n : Int) - 4)
    omega
theorem nuB_one {n : Nat} : nuB 1 n = 0 := by
  unfold nuB
  have k1 : kz 1 1 = 0 := by decide
  have k2 : kz 1 10 = 0 := by decide
  have k3 : kz 1 100 = 0 := by decide
  have k4 : kz 1 1000 = 0 := by decide
  rw [k1, k2, k3, k4]
  omega
theorem nfd_ok {n : Nat} {x : Int} (h0 : 0 ≤ x) (h1 : x < wordF n) : ∀ (f i m : Nat) (y : Int), f + i = 4 → m = n - i → 0 ≤ y → nuB (10 ^ i) n + y = x → NfdOk n x (nfd f i m y)
  | 0, i, m, y, hf, hm, y0, e => by
    have hi : i = 4 := by omega
    subst hi
    rw [wordF_eq] at h1
    have e : nuB 10000 n + y = x := e
    omega
  | f + 1, i, m, y, hf, hm, y0, e => by
    rw [nfd]
    have hi : i < 4 := by omega
    have zp : (0 : Int) < 10 ^ i := Int.pow_pos (by decide)
    by_cases hin : i < n
    · have hE : entF numF ((m : Int) - 1) = entF numF ((n : Int) - ((i + 1 : Nat) : Int)) := by congr 1; omega
      by_cases c : y < 9 * 10 ^ i * entF numF ((m : Int) - 1)
      · rw [if_pos c]
        obtain ⟨sp, d0, d1, m0, m1, dm⟩ := div_lt y0 c (ent_pos numF_pos _)
        obtain ⟨a1, a2, a3, a4⟩ := nfd_at (n := n) (x := x) hi _ hE (10 ^ i) rfl _ d0 d1
        refine ⟨a3, a4, by dsimp only; omega, by dsimp only; omega, m0, ?_, ?_⟩
        · have e2 : entF numF ((m : Int) - 1) = numF (m - 1) := entF_nat (k := 1) (by omega)
          dsimp only
          rw [e2] at m1 ⊢
          exact m1
        · dsimp only
          unfold nuR
          rw [a1, ← e]
          rw [Int.mul_comm (y / _)]
          omega
      · rw [if_neg c]
        refine nfd_ok h0 h1 f (i + 1) (m - 1) _ (by omega) (by omega) (by omega) ?_
        rw [nuB_ten hi, ← hE]
        omega
    · have hm0 : m = 0 := by omega
      have hE : entF numF ((m : Int) - 1) = 0 := by subst hm0; exact if_pos (by decide)
      rw [hE, Int.mul_zero, if_neg (by omega)]
      refine nfd_ok h0 h1 f (i + 1) (m - 1) _ (by omega) (by omega) (by omega) ?_
      rw [nuB_ten hi]
      have : entF numF ((n : Int) - ((i + 1 : Nat) : Int)) = 0 := if_pos (by omega)
      rw [this, Int.mul_zero]
      omega
/-! ### makers, year, copy -/
def mfd : Nat → Nat → Int → List (List Nat) × Int × Nat
  | 0, n, x => ([], x, n)
  | k + 1, n, x => if x < yearF n then ([], x, n) else
      ((((97 + ((x - yearF n) / goF (endF k) (n - 2)).toNat) :: (fnd (endF k) (n - 2) false ((x - yearF n) % goF (endF k) (n - 2))).1) :: (mfd k (fnd (endF k) (n - 2) false ((x - yearF n) % goF (endF k) (n - 2))).2.2 (fnd (endF k) (n - 2) false ((x - yearF n) % goF (endF k) (n - 2))).2.1).1), (mfd k (fnd (endF k) (n - 2) false ((x - yearF n) % goF (endF k) (n - 2))).2.2 (fnd (endF k) (n - 2) false ((x - yearF n) % goF (endF k) (n - 2))).2.1).2)
structure MfdOk (k n : Nat) (x : Int) (r : List (List Nat) × Int × Nat) : Prop where
  le : mlen r.1 ≤ n
  lk : r.1.length ≤ k
  lf : r.2.2 = n - mlen r.1
  r0 : 0 ≤ r.2.1
  r1 : r.2.1 < yearF r.2.2
  mks : ∀ m ∈ r.1, makerB m = true
  eq : mkR k r.1 n r.2.1 = x
theorem endF_small {k n : Nat} (h : n < 2) : endF (k + 1) n = yearF n := by
  show yearF n + 26 * entF (goF (endF k)) ((n : Int) - 2) = _
  unfold entF
  rw [if_pos (by omega)]
  omega
theorem mfd_ok : ∀ (k n : Nat) (x : Int), 0 ≤ x → x < endF k n → MfdOk k n x (mfd k n x)
  | 0, n, x, h0, h1 => ⟨Nat.zero_le _, Nat.le_refl _, rfl, h0, h1, fun m hm => (by cases hm), rfl⟩
  | k + 1, n, x, h0, h1 => by
    rw [mfd]
    by_cases c0 : x < yearF n
    · rw [if_pos c0]
      exact ⟨Nat.zero_le _, Nat.zero_le _, rfl, h0, c0, fun m hm => (by cases hm), rfl⟩
    rw [if_neg c0]
    have hn : 2 ≤ n := by
      rcases Nat.lt_or_ge n 2 with h | h
      · rw [endF_small h] at h1; exact (c0 h1).elim
      · exact h
    rw [endF_s hn] at h1
    obtain ⟨g1, g2⟩ := gs_pos (endF_pos k) (n - 2)
    obtain ⟨sp, d0, d1, m0, m1, dm⟩ := div_lt (z := x - yearF n) (s := goF (endF k) (n - 2)) (k := 26) (by omega) (by omega) g1
    generalize (x - yearF n) / goF (endF k) (n - 2) = w at *
    generalize (x - yearF n) % goF (endF k) (n - 2) = v at *
    have f := fnd_ok (endF_pos k) (n - 2) false v m0 m1
    generalize fnd (endF k) (n - 2) false v = r at f
    obtain ⟨ds, q, m⟩ := r
    have ne := f.nb rfl
    have fg := fnd_fig f ne
    obtain ⟨l1, l2⟩ := f.ne ne
    have le := f.le
    have lf := f.lf
    dsimp only at ne fg l1 l2 le lf ⊢
    have j := mfd_ok k m q f.r0 f.r1
    generalize mfd k m q = r2 at j
    obtain ⟨ms, q2, m2⟩ := r2
    have jle := j.le
    have jk := j.lk
    have jlf := j.lf
    have jeq := j.eq
    dsimp only at jle jk jlf jeq ⊢
    have hl : mlen (((97 + w.toNat) :: ds) :: ms) = 1 + (ds.length + 1) + mlen ms := rfl
    refine ⟨by rw [hl]; omega, by simp only [List.length_cons]; omega, by rw [hl]; dsimp only; omega, j.r0, j.r1, fun x hx => ?_, ?_⟩
    · rcases List.mem_cons.mp hx with rfl | hx
      · exact maker_cons (by simp [lowB, ]; omega) fg
      · exact j.mks x hx
    · show yearF n + (((97 + w.toNat : Nat) : Int) - 97) * goF (endF k) (n - 2) + gv (endF k) ds (n - 2) (mkR k ms (n - 1 - (ds.length + 1)) q2) = x
      rw [show n - 1 - (ds.length + 1) = m by omega, jeq]
      rw [show ((97 + w.toNat : Nat) : Int) - 97 = w by omega]
      simp only [Bool.false_eq_true, if_false] at l2
      rw [Int.mul_comm w]
      omega
def yfd (n : Nat) (x : Int) : Option Int × Int × Nat := if x < copF n then (none, x, n) else (some (1000 + (x - copF n) / copF (n - 5)), (x - copF n) % copF (n - 5), n - 5)
def cfd (x : Int) : Option Int := if x = 0 then none else some (x + 1)
structure YfdOk (n : Nat) (x : Int) (y c : Option Int) : Prop where
  le : ylen y + clen c ≤ n
  vy : ∀ i, y = some i → 1000 ≤ i ∧ i ≤ 2999
  vc : ∀ i, c = some i → 2 ≤ i
  eq : endR y c n = x
theorem numL_pow : ∀ (k : Nat) (m : Nat), 0 < k → m < 10 ^ k → (numL m).length ≤ k
  | 0, _, h, _ => by omega
  | k + 1, m, _, h => by
    show (TL.numL m).length ≤ k + 1
    by_cases hm : m < 10
    · rw [TL.numL_lt hm]; simp
    · rw [TL.numL_step (by omega), List.length_append]
      have hk : 0 < k := by
        rcases Nat.eq_zero_or_pos k with rfl | h2
        · simp at h; omega
        · exact h2
      have i := numL_pow k (m / 10) hk (by rw [Nat.pow_succ] at h; exact Nat.div_lt_of_lt_mul (by rw [Nat.mul_comm]; exact h))
      have i : (TL.numL (m / 10)).length ≤ k := i
      simp; omega
theorem cfd_ok {n : Nat} {x : Int} (h0 : 0 ≤ x) (h1 : x < copF n) : clen (cfd x) ≤ n ∧ (∀ i, cfd x = some i → 2 ≤ i) ∧ copR (cfd x) = x := by
  unfold cfd
  by_cases c : x = 0
  · rw [if_pos c]; subst c; exact ⟨Nat.zero_le _, fun i e => (by cases e), rfl⟩
  · rw [if_neg c]
    refine ⟨?_, fun i e => (by cases e; omega), by show x + 1 - 1 = x; omega⟩
    show 3 + (numL (x + 1).toNat).length ≤ n
    rw [copF_eq] at h1
    by_cases hn : n < 4
    · rw [if_pos hn] at h1; omega
    · rw [if_neg hn] at h1
      have h2 : (x + 1).toNat < 10 ^ (n - 3) := by
        have : (((x + 1).toNat : Nat) : Int) < ((10 ^ (n - 3) : Nat) : Int) := by
          have e : ((10 ^ (n - 3) : Nat) : Int) = 10 ^ (n - 3) := by simp
          rw [e]; omega
        exact_mod_cast this
      have := numL_pow (n - 3) _ (by omega) h2
      omega
theorem yfd_ok {n : Nat} {x : Int} (h0 : 0 ≤ x) (h1 : x < yearF n) : YfdOk n x (yfd n x).1 (cfd (yfd n x).2.1) ∧ 0 ≤ (yfd n x).2.1 ∧ (yfd n x).2.1 < copF n := by
  unfold yfd
  by_cases c : x < copF n
  · rw [if_pos c]
    obtain ⟨a, b, d⟩ := cfd_ok h0 c
    exact ⟨⟨by show 0 + clen (cfd x) ≤ n; omega, fun i e => (by cases e), b, d⟩, h0, c⟩
  · rw [if_neg c]
    have hn : 5 ≤ n := by
      rcases Nat.lt_or_ge n 5 with h | h
      · have : yearF n = copF n := by
          show copF n + 2000 * entF copF ((n : Int) - 5) = _
          unfold entF
          rw [if_pos (by omega)]
          omega
        rw [this] at h1; exact (c h1).elim
      · exact h
    rw [yearF_eq hn] at h1
    have cp := copF_pos (n - 5)
    obtain ⟨sp, d0, d1, m0, m1, dm⟩ := div_lt (z := x - copF n) (s := copF (n - 5)) (k := 2000) (by omega) (by omega) (by omega)
    dsimp only
    generalize (x - copF n) / copF (n - 5) = w at *
    generalize (x - copF n) % copF (n - 5) = v at *
    obtain ⟨a, b, d⟩ := cfd_ok m0 m1
    have mono : copF (n - 5) ≤ copF n := by
      rw [copF_eq, copF_eq]
      by_cases h9 : n - 5 < 4
      · rw [if_pos h9]
        split
        · omega
        · have : n - 3 = (n - 4) + 1 := by omega
          rw [this, Int.pow_succ]
          have : (0 : Int) < 10 ^ (n - 4) := Int.pow_pos (by decide)
          omega
      · rw [if_neg h9, if_neg (by omega)]
        have : (10 : Int) ^ (n - 5 - 3) ≤ 10 ^ (n - 3) := p10_le (by omega)
        omega
    refine ⟨⟨by show 5 + clen (cfd v) ≤ n; omega, fun i e => (by cases e; omega), b, ?_⟩, m0, by omega⟩
    show copF n + (1000 + w - 1000) * copF (n - 5) + copR (cfd v) = x
    rw [d, show 1000 + w - 1000 = w by omega, Int.mul_comm w]
    omega
end U

namespace U
open PySem PySem.Spec PyProof.Rows L2
/-! ### the mark of a number -/
def pfd (n : Nat) (x : Int) : List Nat × Int × Nat := if x < endF 3 n then ([], x, n) else fnd (endF 3) (n - 1) false (x - endF 3 n)
structure PfdOk (n : Nat) (x : Int) (r : List Nat × Int × Nat) : Prop where
  le : plen r.1 ≤ n
  lf : r.2.2 = n - plen r.1
  r0 : 0 ≤ r.2.1
  r1 : r.2.1 < endF 3 r.2.2
  ok : pointsB r.1 = true
  eq : ptR r.1 n r.2.1 = x
theorem pfd_ok {n : Nat} {x : Int} (h0 : 0 ≤ x) (h1 : x < numF n) : PfdOk n x (pfd n x) := by
  unfold pfd
  by_cases c : x < endF 3 n
  · rw [if_pos c]
    exact ⟨Nat.zero_le _, rfl, h0, c, rfl, if_pos rfl⟩
  · rw [if_neg c]
    have hn : 1 ≤ n := by
      rcases Nat.eq_zero_or_pos n with h | h
      · subst h
        have : numF 0 = endF 3 0 := by
          show endF 3 0 + entF (goF (endF 3)) (((0 : Nat) : Int) - 1) = _
          unfold entF
          rw [if_pos (by decide)]
          omega
        rw [this] at h1; exact (c h1).elim
      · exact h
    rw [numF_s hn] at h1
    have f := fnd_ok (endF_pos 3) (n - 1) false (x - endF 3 n) (by omega) (by show _ < goF (endF 3) (n - 1); omega)
    generalize fnd (endF 3) (n - 1) false (x - endF 3 n) = r at f
    obtain ⟨ds, q, m⟩ := r
    have ne := f.nb rfl
    have fg := fnd_fig f ne
    obtain ⟨l1, l2⟩ := f.ne ne
    have le := f.le
    have lf := f.lf
    dsimp only at ne fg l1 l2 le lf ⊢
    have hp : plen ds = 1 + ds.length := if_neg ne
    refine ⟨by dsimp only; rw [hp]; omega, by dsimp only; rw [hp]; omega, f.r0, f.r1, ?_, ?_⟩
    · show pointsB ds = true
      unfold pointsB
      rw [fg, Bool.or_true]
    · show ptR ds n q = x
      unfold ptR
      rw [if_neg ne]
      simp only [Bool.false_eq_true, if_false] at l2
      omega
def unL (n : Nat) (x : Int) := lfd 3 n false x
def unN (n : Nat) (x : Int) := nfd 4 0 (unL n x).2.2 (unL n x).2.1
def unP (n : Nat) (x : Int) := pfd (unN n x).2.2 (unN n x).2.1
def unM (n : Nat) (x : Int) := mfd 3 (unP n x).2.2 (unP n x).2.1
def unY (n : Nat) (x : Int) := yfd (unM n x).2.2 (unM n x).2.1
def unr (n : Nat) (x : Int) : Pt := ⟨(unL n x).1, (unN n x).1, (unP n x).1, (unM n x).1, (unY n x).1, cfd (unY n x).2.1⟩
structure UnOk (n : Nat) (x : Int) : Prop where
  L : LfdOk 3 n false x (unL n x)
  N : NfdOk (unL n x).2.2 (unL n x).2.1 (unN n x)
  P : PfdOk (unN n x).2.2 (unN n x).2.1 (unP n x)
  M : MfdOk 3 (unP n x).2.2 (unP n x).2.1 (unM n x)
  Y : YfdOk (unM n x).2.2 (unM n x).2.1 (unY n x).1 (cfd (unY n x).2.1) ∧ 0 ≤ (unY n x).2.1 ∧ (unY n x).2.1 < copF (unM n x).2.2
  n1 : 1 ≤ n
theorem un_ok {n : Nat} {x : Int} (h0 : 0 ≤ x) (h1 : x < sigF n) : UnOk n x := by
  have hn : 1 ≤ n := by
    rcases Nat.eq_zero_or_pos n with h | h
    · subst h
      have e : sigF 0 = 0 := by
        show (sq 4 fun z => [0, 26, 676, 17576].getD z 0 * entF wordF (((0 : Nat) : Int) - (z : Int))).sum = _
        show 0 * entF wordF (((0 : Nat) : Int) - 0) + (26 * entF wordF (((0 : Nat) : Int) - 1) + (676 * entF wordF (((0 : Nat) : Int) - 2) + (17576 * entF wordF (((0 : Nat) : Int) - 3) + 0))) = _
        have e1 : entF wordF (((0 : Nat) : Int) - 1) = 0 := if_pos (by decide)
        have e2 : entF wordF (((0 : Nat) : Int) - 2) = 0 := if_pos (by decide)
        have e3 : entF wordF (((0 : Nat) : Int) - 3) = 0 := if_pos (by decide)
        rw [e1, e2, e3]
        omega
      rw [e] at h1; omega
    · exact h
  rw [sigF_eq hn] at h1
  have L := lfd_ok 3 n false x (fun _ => ⟨by decide, hn⟩) h0 h1
  have N := nfd_ok (n := (unL n x).2.2) (x := (unL n x).2.1) L.r0 L.r1 4 0 (unL n x).2.2 (unL n x).2.1 rfl rfl L.r0 (by
    show nuB 1 _ + _ = _; rw [nuB_one]; omega)
  have P := pfd_ok (n := (unN n x).2.2) (x := (unN n x).2.1) N.r0 N.r1
  have M := mfd_ok 3 (unP n x).2.2 (unP n x).2.1 P.r0 P.r1
  have Y := yfd_ok (n := (unM n x).2.2) (x := (unM n x).2.1) M.r0 M.r1
  exact ⟨L, N, P, M, Y, hn⟩
theorem let_of {l : List Nat} (h0 : l ≠ []) (h1 : l.length ≤ 3) (h : ∀ d ∈ l, 97 ≤ d ∧ d ≤ 122) : lettersB l = true := by
  refine letters_of ?_ ?_ h1
  · rw [List.all_eq_true]; intro d hd; have := h d hd; simp [lowB]; omega
  · cases l with
    | nil => exact (h0 rfl).elim
    | cons a b => simp
theorem mlen_mem : ∀ {ms : List (List Nat)} {m : List Nat}, m ∈ ms → m.length ≤ mlen ms
  | x :: ms, m, h => by
    rcases List.mem_cons.mp h with rfl | h
    · show m.length ≤ 1 + m.length + mlen ms; omega
    · have := mlen_mem h
      show m.length ≤ 1 + x.length + mlen ms; omega
theorem unr_ok {n : Nat} {x : Int} (hn : n ≤ 60) (h0 : 0 ≤ x) (h1 : x < sigF n) : (unr n x).Ok ∧ (unr n x).slen ≤ n ∧ rank (unr n x) n = x := by
  have u := un_ok h0 h1
  have L1 := u.L.le
  have L2 := u.L.lf
  have N1 := u.N.le
  have N2 := u.N.lf
  have P1 := u.P.le
  have P2 := u.P.lf
  have M1 := u.M.le
  have M2 := u.M.lf
  have Y1 := u.Y.1.le
  have Ln := u.L.nb rfl
  refine ⟨⟨let_of Ln u.L.lj u.L.dg, u.N.n1, u.N.n2, u.P.ok, ?_, u.M.lk, fun m hm => ⟨u.M.mks m hm, ?_⟩, u.Y.1.vy, fun i hi => ⟨u.Y.1.vc i hi, ?_⟩⟩, ?_, ?_⟩
  · show (unP n x).1.length ≤ 1000
    have : (unP n x).1.length ≤ plen (unP n x).1 := by
      unfold plen
      split
      · rename_i h; rw [h]; simp
      · omega
    omega
  · have := mlen_mem hm
    have : mlen (unr n x).ms = mlen (unM n x).1 := rfl
    omega
  · have hi : cfd (unY n x).2.1 = some i := hi
    have c : clen (cfd (unY n x).2.1) ≤ 60 := by omega
    rw [hi] at c
    have c : 3 + (numL i.toNat).length ≤ 60 := c
    have h3 := num_lt_pow i.toNat
    have h4 : 10 ^ (numL i.toNat).length ≤ 10 ^ 60 := Nat.pow_le_pow_right (by decide) (by omega)
    have h5 : i.toNat < 10 ^ 60 := Nat.lt_of_lt_of_le h3 h4
    have := u.Y.1.vc i hi
    have h6 : (i.toNat : Int) < ((10 ^ 60 : Nat) : Int) := by exact_mod_cast h5
    rw [show ((10 ^ 60 : Nat) : Int) = 10 ^ 60 from by simp] at h6
    omega
  · show (unL n x).1.length + (numL (unN n x).1.toNat).length + plen (unP n x).1 + mlen (unM n x).1 + ylen (unY n x).1 + clen (cfd (unY n x).2.1) ≤ n
    omega
  · show leV 2 (unL n x).1 n (nuR (unN n x).1 (n - (unL n x).1.length) (ptR (unP n x).1 (n - (unL n x).1.length - (numL (unN n x).1.toNat).length) (mkR 3 (unM n x).1 (n - (unL n x).1.length - (numL (unN n x).1.toNat).length - plen (unP n x).1) (endR (unY n x).1 (cfd (unY n x).2.1) (n - (unL n x).1.length - (numL (unN n x).1.toNat).length - plen (unP n x).1 - mlen (unM n x).1))))) = x
    rw [← L2, ← N2, ← P2, ← M2, u.Y.1.eq, u.M.eq, u.P.eq, u.N.eq]
    have := u.L.ne Ln
    simp only [Bool.false_eq_true, if_false, show 3 - 1 = 2 from rfl] at this
    omega
theorem rank_inj {t u : Pt} {n : Nat} (ok : t.Ok) (ok' : u.Ok) (h : t.slen ≤ n) (h' : u.slen ≤ n) (e : rank t n = rank u n) : t = u := by
  have a := rank_cmp ok ok' h h'
  have b := rank_cmp ok' ok h' h
  refine key_tri ok ok' ?_ ?_
  · cases h1 : PySem.W.dataLt (keyD t) (keyD u) with
    | false => rfl
    | true => rw [a] at h1; omega
  · cases h1 : PySem.W.dataLt (keyD u) (keyD t) with
    | false => rfl
    | true => rw [b] at h1; omega
theorem unr_rank {t : Pt} {n : Nat} (hn : n ≤ 60) (ok : t.Ok) (h : t.slen ≤ n) : unr n (rank t n) = t := by
  obtain ⟨a, b⟩ := rank_in ok h
  obtain ⟨k1, k2, k3⟩ := unr_ok hn a b
  exact rank_inj k1 ok k2 h k3
end U

namespace Z
open PySem PySem.Spec PyProof.Rows L2
/-! ### values as trees -/
inductive Tr where
  | non | bl (b : Bool) | int (i : Int) | str (l : List Nat) | ty (n : String) | adr (a : Addr) | scr (ns : List Int)
  | lst (ts : List Tr) | tup (ts : List Tr) | ins (C : Addr) (ns : List Str) (ts : List Tr)
/-- who holds an address: nobody of ours, all (it stays as it is), the slot i -/
abbrev Wd := Addr → Option (Option Nat)
mutual
def Rp (K : PySem.W.Frag) (W : Wd) (H : Hp) : Tr → V → Prop
  | .non, v => v = .non
  | .bl b, v => v = .bl b
  | .int i, v => v = .int i
  | .str l, v => v = U.sv l
  | .ty n, v => v = .ty n
  | .adr a, v => v = .ref a
  | .scr ns, v => ∃ a, v = .ref a ∧ SqL K H a (ns.map V.int) ∧ (W a = some none ∨ ∀ H', SqL K H' a (ns.map V.int))
  | .lst ts, v => ∃ a vs, v = .ref a ∧ W a = some none ∧ H a = some (.lst vs) ∧ Rps K W H ts vs
  | .tup ts, v => ∃ a vs, v = .ref a ∧ W a = some none ∧ H a = some (.tup vs) ∧ Rps K W H ts vs
  | .ins C ns ts, v => ∃ a dx vs, v = .ref a ∧ W a = some none ∧ H a = some (.ins C dx (ns.zip vs)) ∧ ns.length = ts.length ∧ Rps K W H ts vs
def Rps (K : PySem.W.Frag) (W : Wd) (H : Hp) : List Tr → List V → Prop
  | [], vs => vs = []
  | t :: ts, vs => ∃ v r, vs = v :: r ∧ Rp K W H t v ∧ Rps K W H ts r
end
section
variable {K : PySem.W.Frag} {W W' : Wd} {H H' : Hp}
theorem rp_non {v : V} : Rp K W H .non v = (v = .non) := by rw [Rp]
theorem rp_bl {b : Bool} {v : V} : Rp K W H (.bl b) v = (v = .bl b) := by rw [Rp]
theorem rp_int {i : Int} {v : V} : Rp K W H (.int i) v = (v = .int i) := by rw [Rp]
theorem rp_str {l : List Nat} {v : V} : Rp K W H (.str l) v = (v = U.sv l) := by rw [Rp]
theorem rp_ty {n : String} {v : V} : Rp K W H (.ty n) v = (v = .ty n) := by rw [Rp]
theorem rp_adr {a : Addr} {v : V} : Rp K W H (.adr a) v = (v = .ref a) := by rw [Rp]
theorem rp_scr {ns : List Int} {v : V} : Rp K W H (.scr ns) v = ∃ a, v = .ref a ∧ SqL K H a (ns.map V.int) ∧ (W a = some none ∨ ∀ H', SqL K H' a (ns.map V.int)) := by rw [Rp]
theorem rp_lst {ts : List Tr} {v : V} : Rp K W H (.lst ts) v = ∃ a vs, v = .ref a ∧ W a = some none ∧ H a = some (.lst vs) ∧ Rps K W H ts vs := by rw [Rp]
theorem rp_tup {ts : List Tr} {v : V} : Rp K W H (.tup ts) v = ∃ a vs, v = .ref a ∧ W a = some none ∧ H a = some (.tup vs) ∧ Rps K W H ts vs := by rw [Rp]
theorem rp_ins {C : Addr} {ns : List Str} {ts : List Tr} {v : V} : Rp K W H (.ins C ns ts) v = ∃ a dx vs, v = .ref a ∧ W a = some none ∧ H a = some (.ins C dx (ns.zip vs)) ∧ ns.length = ts.length ∧ Rps K W H ts vs := by rw [Rp]
theorem rps_nil {vs : List V} : Rps K W H [] vs = (vs = []) := by rw [Rps]
theorem rps_cons {t : Tr} {ts : List Tr} {vs : List V} : Rps K W H (t :: ts) vs = ∃ v r, vs = v :: r ∧ Rp K W H t v ∧ Rps K W H ts r := by rw [Rps]
/-- what all hold stays -/
def Fz (H : Hp) (W : Wd) (H' : Hp) (W' : Wd) : Prop := ∀ a, W a = some none → W' a = some none ∧ H' a = H a
theorem Fz.refl : Fz H W H W := fun _ h => ⟨h, rfl⟩
theorem Fz.trans {H1 H2 H3 : Hp} {W1 W2 W3 : Wd} (a : Fz H1 W1 H2 W2) (b : Fz H2 W2 H3 W3) : Fz H1 W1 H3 W3 := fun x h => by
  obtain ⟨h1, e1⟩ := a x h
  obtain ⟨h2, e2⟩ := b x h1
  exact ⟨h2, e2.trans e1⟩
theorem sql_eq {a : Addr} {xs : List V} (e : H' a = H a) (h : SqL K H a xs) : SqL K H' a xs := by
  rcases h with (h | ⟨o, h⟩) | h
  · exact .inl (.inl (e.trans h))
  · exact .inl (.inr ⟨o, e.trans h⟩)
  · exact .inr h
mutual
theorem Rp.st (f : Fz H W H' W') : ∀ (t : Tr) (v : V), Rp K W H t v → Rp K W' H' t v
  | .non, v, h => by rw [rp_non] at h ⊢; exact h
  | .bl b, v, h => by rw [rp_bl] at h ⊢; exact h
  | .int i, v, h => by rw [rp_int] at h ⊢; exact h
  | .str l, v, h => by rw [rp_str] at h ⊢; exact h
  | .ty n, v, h => by rw [rp_ty] at h ⊢; exact h
  | .adr a, v, h => by rw [rp_adr] at h ⊢; exact h
  | .scr ns, v, h => by
    rw [rp_scr] at h ⊢
    obtain ⟨a, e, h1, h2⟩ := h
    rcases h2 with h2 | h2
    · exact ⟨a, e, sql_eq (f a h2).2 h1, .inl (f a h2).1⟩
    · exact ⟨a, e, h2 _, .inr h2⟩
  | .lst ts, v, h => by
    rw [rp_lst] at h ⊢
    obtain ⟨a, vs, e, h1, h2, h3⟩ := h
    exact ⟨a, vs, e, (f a h1).1, (f a h1).2.trans h2, Rps.st f ts vs h3⟩
  | .tup ts, v, h => by
    rw [rp_tup] at h ⊢
    obtain ⟨a, vs, e, h1, h2, h3⟩ := h
    exact ⟨a, vs, e, (f a h1).1, (f a h1).2.trans h2, Rps.st f ts vs h3⟩
  | .ins C ns ts, v, h => by
    rw [rp_ins] at h ⊢
    obtain ⟨a, dx, vs, e, h1, h2, h4, h3⟩ := h
    exact ⟨a, dx, vs, e, (f a h1).1, (f a h1).2.trans h2, h4, Rps.st f ts vs h3⟩
theorem Rps.st (f : Fz H W H' W') : ∀ (ts : List Tr) (vs : List V), Rps K W H ts vs → Rps K W' H' ts vs
  | [], vs, h => by rw [rps_nil] at h ⊢; exact h
  | t :: ts, vs, h => by
    rw [rps_cons] at h ⊢
    obtain ⟨v, r, e, h1, h2⟩ := h
    exact ⟨v, r, e, Rp.st f t v h1, Rps.st f ts r h2⟩
end
theorem Rps.len : ∀ {ts : List Tr} {vs : List V}, Rps K W H ts vs → vs.length = ts.length
  | [], vs, h => by rw [rps_nil] at h; subst h; rfl
  | t :: ts, vs, h => by
    rw [rps_cons] at h
    obtain ⟨v, r, rfl, _, h2⟩ := h
    rw [List.length_cons, List.length_cons, Rps.len h2]
theorem Rps.get : ∀ {ts : List Tr} {vs : List V} {i : Nat} {t : Tr}, Rps K W H ts vs → ts[i]? = some t → ∃ v, vs[i]? = some v ∧ Rp K W H t v
  | [], vs, i, t, h, e => by simp at e
  | t0 :: ts, vs, i, t, h, e => by
    rw [rps_cons] at h
    obtain ⟨v, r, rfl, h1, h2⟩ := h
    cases i with
    | zero => simp at e; subst e; exact ⟨v, rfl, h1⟩
    | succ i => simpa using Rps.get (i := i) h2 (by simpa using e)
theorem Rps.getV : ∀ {ts : List Tr} {vs : List V} {i : Nat} {v : V}, Rps K W H ts vs → vs[i]? = some v → ∃ t, ts[i]? = some t ∧ Rp K W H t v
  | [], vs, i, v, h, e => by rw [rps_nil] at h; subst h; simp at e
  | t0 :: ts, vs, i, v, h, e => by
    rw [rps_cons] at h
    obtain ⟨w, r, rfl, h1, h2⟩ := h
    cases i with
    | zero => simp at e; subst e; exact ⟨t0, rfl, h1⟩
    | succ i => simpa using Rps.getV (i := i) h2 (by simpa using e)
theorem Rps.append : ∀ {ts us : List Tr} {vs ws : List V}, Rps K W H ts vs → Rps K W H us ws → Rps K W H (ts ++ us) (vs ++ ws)
  | [], us, vs, ws, h, k => by rw [rps_nil] at h; subst h; exact k
  | t :: ts, us, vs, ws, h, k => by
    rw [rps_cons] at h
    obtain ⟨v, r, rfl, h1, h2⟩ := h
    rw [List.cons_append, rps_cons]
    exact ⟨v, r ++ ws, rfl, h1, Rps.append h2 k⟩
theorem Rps.set : ∀ {ts : List Tr} {vs : List V} {t : Tr} {v : V} (i : Nat), Rps K W H ts vs → Rp K W H t v → Rps K W H (ts.set i t) (vs.set i v)
  | [], vs, t, v, i, h, k => by rw [rps_nil] at h; subst h; simp [rps_nil]
  | t0 :: ts, vs, t, v, i, h, k => by
    rw [rps_cons] at h
    obtain ⟨w, r, rfl, h1, h2⟩ := h
    cases i with
    | zero => rw [List.set_cons_zero, rps_cons]; exact ⟨v, r, rfl, k, h2⟩
    | succ i => rw [List.set_cons_succ, rps_cons]; exact ⟨w, r.set i v, rfl, h1, Rps.set i h2 k⟩
theorem Rps.take : ∀ {ts : List Tr} {vs : List V} (i : Nat), Rps K W H ts vs → Rps K W H (ts.take i) (vs.take i)
  | [], vs, i, h => by rw [rps_nil] at h; subst h; simp [rps_nil]
  | t0 :: ts, vs, i, h => by
    rw [rps_cons] at h
    obtain ⟨w, r, rfl, h1, h2⟩ := h
    cases i with
    | zero => simp [rps_nil]
    | succ i => rw [List.take_succ_cons, rps_cons]; exact ⟨w, r.take i, rfl, h1, Rps.take i h2⟩
theorem Rps.drop : ∀ {ts : List Tr} {vs : List V} (i : Nat), Rps K W H ts vs → Rps K W H (ts.drop i) (vs.drop i)
  | [], vs, i, h => by rw [rps_nil] at h; subst h; simp [rps_nil]
  | t0 :: ts, vs, i, h => by
    have h0 := h
    rw [rps_cons] at h
    obtain ⟨w, r, rfl, h1, h2⟩ := h
    cases i with
    | zero => exact h0
    | succ i => exact Rps.drop i h2
theorem Rps.reverse : ∀ {ts : List Tr} {vs : List V}, Rps K W H ts vs → Rps K W H ts.reverse vs.reverse
  | [], vs, h => by rw [rps_nil] at h; subst h; simp [rps_nil]
  | t0 :: ts, vs, h => by
    rw [rps_cons] at h
    obtain ⟨w, r, rfl, h1, h2⟩ := h
    rw [List.reverse_cons, List.reverse_cons]
    exact Rps.append (Rps.reverse h2) (by rw [rps_cons]; exact ⟨w, [], rfl, h1, by rw [rps_nil]⟩)
theorem Rps.cut {ts : List Tr} {vs : List V} {lo hi : Option Int} (h : Rps K W H ts vs) : Rps K W H (U.cutL ts lo hi) (U.cutL vs lo hi) := by
  unfold U.cutL
  rw [h.len]
  exact (h.drop _).take _
/-- what stands at a -/
def Nd (K : PySem.W.Frag) (W : Wd) (H : Hp) : Tr → Addr → Prop
  | .lst ts, a => ∃ vs, H a = some (.lst vs) ∧ Rps K W H ts vs
  | .tup ts, a => ∃ vs, H a = some (.tup vs) ∧ Rps K W H ts vs
  | .ins C ns ts, a => ∃ dx vs, H a = some (.ins C dx (ns.zip vs)) ∧ ns.length = ts.length ∧ Rps K W H ts vs
  | _, _ => False
theorem Nd.is {t : Tr} {a : Addr} (h : Nd K W H t a) : (H a).isSome = true := by
  unfold Nd at h
  split at h
  · obtain ⟨vs, e, _⟩ := h; rw [e]; rfl
  · obtain ⟨vs, e, _⟩ := h; rw [e]; rfl
  · obtain ⟨dx, vs, e, _⟩ := h; rw [e]; rfl
  · exact h.elim
theorem Nd.st {t : Tr} {a : Addr} (f : Fz H W H' W') (e : H' a = H a) (h : Nd K W H t a) : Nd K W' H' t a := by
  unfold Nd at h ⊢
  split at h
  · obtain ⟨vs, e1, h1⟩ := h; exact ⟨vs, e.trans e1, h1.st f⟩
  · obtain ⟨vs, e1, h1⟩ := h; exact ⟨vs, e.trans e1, h1.st f⟩
  · obtain ⟨dx, vs, e1, h1, h2⟩ := h; exact ⟨dx, vs, e.trans e1, h1, h2.st f⟩
  · exact h.elim
/-- .. once all hold it -/
theorem Nd.rp {t : Tr} {a : Addr} (h : Nd K W H t a) (w : W a = some none) : Rp K W H t (.ref a) := by
  unfold Nd at h
  split at h
  · obtain ⟨vs, e, h1⟩ := h; rw [rp_lst]; exact ⟨a, vs, rfl, w, e, h1⟩
  · obtain ⟨vs, e, h1⟩ := h; rw [rp_tup]; exact ⟨a, vs, rfl, w, e, h1⟩
  · obtain ⟨dx, vs, e, h1, h2⟩ := h; rw [rp_ins]; exact ⟨a, dx, vs, rfl, w, e, h1, h2⟩
  · exact h.elim
/-- read, whoever holds the top -/
def Rw (K : PySem.W.Frag) (W : Wd) (H : Hp) (t : Tr) (v : V) : Prop := Rp K W H t v ∨ ∃ a, v = .ref a ∧ Nd K W H t a
theorem Rw.lst {ts : List Tr} {v : V} (h : Rw K W H (.lst ts) v) : ∃ a vs, v = .ref a ∧ H a = some (.lst vs) ∧ Rps K W H ts vs := by
  rcases h with h | ⟨a, e, vs, h1, h2⟩
  · rw [rp_lst] at h; obtain ⟨a, vs, e, _, h1, h2⟩ := h; exact ⟨a, vs, e, h1, h2⟩
  · exact ⟨a, vs, e, h1, h2⟩
theorem Rw.ins {C : Addr} {ns : List Str} {ts : List Tr} {v : V} (h : Rw K W H (.ins C ns ts) v) : ∃ a dx vs, v = .ref a ∧ H a = some (.ins C dx (ns.zip vs)) ∧ ns.length = ts.length ∧ Rps K W H ts vs := by
  rcases h with h | ⟨a, e, dx, vs, h1, h2⟩
  · rw [rp_ins] at h; obtain ⟨a, dx, vs, e, _, h1, h2⟩ := h; exact ⟨a, dx, vs, e, h1, h2⟩
  · exact ⟨a, dx, vs, e, h1, h2⟩
theorem Rw.tup {ts : List Tr} {v : V} (h : Rw K W H (.tup ts) v) : ∃ a vs, v = .ref a ∧ H a = some (.tup vs) ∧ Rps K W H ts vs := by
  rcases h with h | ⟨a, e, vs, h1, h2⟩
  · rw [rp_tup] at h; obtain ⟨a, vs, e, _, h1, h2⟩ := h; exact ⟨a, vs, e, h1, h2⟩
  · exact ⟨a, vs, e, h1, h2⟩
theorem Rw.scr {ns : List Int} {v : V} (h : Rw K W H (.scr ns) v) : ∃ a, v = .ref a ∧ SqL K H a (ns.map V.int) := by
  rcases h with h | ⟨a, e, h⟩
  · rw [rp_scr] at h; obtain ⟨a, e, h, _⟩ := h; exact ⟨a, e, h⟩
  · exact h.elim
theorem Rw.non {v : V} (h : Rw K W H .non v) : v = .non := by
  rcases h with h | ⟨a, e, h⟩
  · rw [rp_non] at h; exact h
  · exact h.elim
theorem Rw.bl {b : Bool} {v : V} (h : Rw K W H (.bl b) v) : v = .bl b := by
  rcases h with h | ⟨a, e, h⟩
  · rw [rp_bl] at h; exact h
  · exact h.elim
theorem Rw.int {i : Int} {v : V} (h : Rw K W H (.int i) v) : v = .int i := by
  rcases h with h | ⟨a, e, h⟩
  · rw [rp_int] at h; exact h
  · exact h.elim
theorem Rw.str {l : List Nat} {v : V} (h : Rw K W H (.str l) v) : v = U.sv l := by
  rcases h with h | ⟨a, e, h⟩
  · rw [rp_str] at h; exact h
  · exact h.elim
theorem Rw.ty {n : String} {v : V} (h : Rw K W H (.ty n) v) : v = .ty n := by
  rcases h with h | ⟨a, e, h⟩
  · rw [rp_ty] at h; exact h
  · exact h.elim
theorem Rw.adr {b : Addr} {v : V} (h : Rw K W H (.adr b) v) : v = .ref b := by
  rcases h with h | ⟨a, e, h⟩
  · rw [rp_adr] at h; exact h
  · exact h.elim
end
/-! ### slots -/
inductive Sl where
  | fz (t : Tr) | mu (t : Tr) | pm (t : Tr)
abbrev G := List (Option Sl)
inductive R where
  | fz (t : Tr) | mu (t : Tr) | bor (i : Nat)
/-- a def's entry: the heap, who held what, the addresses of the parameters that it changes -/
structure Ctx where
  K : PySem.W.Frag
  H0 : Hp
  W0 : Wd
  pa : Nat → Option Addr
def SlotOk (c : Ctx) (H : Hp) (W : Wd) (i : Nat) (v : V) : Sl → Prop
  | .fz t => Rp c.K W H t v
  | .mu t => ∃ a, v = .ref a ∧ W a = some (some i) ∧ c.H0 a = none ∧ Nd c.K W H t a
  | .pm t => ∃ a, v = .ref a ∧ W a = some (some i) ∧ c.pa i = some a ∧ Nd c.K W H t a
structure Step (H : Hp) (W : Wd) (H' : Hp) (W' : Wd) : Prop where
  fz : Fz H W H' W'
  fo : ∀ a o, W a = none → H a = some o → W' a = none ∧ H' a = some o
  dm : ∀ a, (H a).isSome = true → (H' a).isSome = true
theorem Step.refl {H : Hp} {W : Wd} : Step H W H W := ⟨.refl, fun _ _ h e => ⟨h, e⟩, fun _ h => h⟩
theorem Step.trans {H1 H2 H3 : Hp} {W1 W2 W3 : Wd} (a : Step H1 W1 H2 W2) (b : Step H2 W2 H3 W3) : Step H1 W1 H3 W3 :=
  ⟨a.fz.trans b.fz, fun x o h e => by obtain ⟨h1, e1⟩ := a.fo x o h e; exact b.fo x o h1 e1, fun x h => b.dm x (a.dm x h)⟩
def Dom (H : Hp) (W : Wd) : Prop := ∀ a, (W a).isSome = true → (H a).isSome = true
structure Env (c : Ctx) (H : Hp) (W : Wd) (Γ : G) (σ : L2.St) : Prop where
  dom : Dom H W
  len : Γ.length = σ.length
  sl : ∀ (i : Nat) (s : Sl), Γ[i]? = some (some s) → ∃ v, σ[i]? = some (some v) ∧ SlotOk c H W i v s
  en : Step c.H0 c.W0 H W
  pin : ∀ (i : Nat) (a : Addr), c.pa i = some a → ∃ t, Γ[i]? = some (some (.pm t))
/-- the content of what was read -/
def slT : Sl → Tr
  | .fz t => t
  | .mu t => t
  | .pm t => t
def con (Γ : G) : R → Option Tr
  | .fz t => some t
  | .mu t => some t
  | .bor i => match Γ[i]? with
    | some (some s) => some (slT s)
    | _ => none
/-- v bears r: H the heap at the start of the expression -/
def RR (c : Ctx) (H : Hp) (H' : Hp) (W' : Wd) (σ : L2.St) (v : V) : R → Prop
  | .fz t => Rp c.K W' H' t v
  | .mu t => ∃ a, v = .ref a ∧ H a = none ∧ W' a = none ∧ Nd c.K W' H' t a
  | .bor i => σ[i]? = some (some v)
section
variable {c : Ctx} {H H1 H2 H' : Hp} {W W1 W2 W' : Wd} {Γ Γ1 Γ' : G} {σ : L2.St} {v : V} {r : R}
theorem none_of {a : Addr} (d : ∀ a, (H a).isSome = true → (H1 a).isSome = true) (h : H1 a = none) : H a = none := by
  cases e : H a with
  | none => rfl
  | some o => have := d a (by rw [e]; rfl); rw [h] at this; cases this
theorem Dom.none {a : Addr} (d : Dom H W) (h : H a = none) : W a = none := by
  cases e : W a with
  | none => rfl
  | some o => have := d a (by rw [e]; rfl); rw [h] at this; cases this
/-- what was read is borne still -/
theorem RR.st (s : Step H1 W1 H2 W2) (h : RR c H H1 W1 σ v r) : RR c H H2 W2 σ v r := by
  cases r with
  | fz t => exact Rp.st s.fz t v h
  | mu t =>
    obtain ⟨a, e, h1, h2, h3⟩ := h
    have e0 := h3.is
    cases e1 : H1 a with
    | none => rw [e1] at e0; cases e0
    | some o =>
      obtain ⟨h4, h5⟩ := s.fo a o h2 e1
      exact ⟨a, e, h1, h4, h3.st s.fz (h5.trans e1.symm)⟩
  | bor i => exact h
theorem RR.early (d : ∀ a, (H a).isSome = true → (H1 a).isSome = true) (h : RR c H1 H2 W2 σ v r) : RR c H H2 W2 σ v r := by
  cases r with
  | fz t => exact h
  | mu t => obtain ⟨a, e, h1, h2⟩ := h; exact ⟨a, e, none_of d h1, h2⟩
  | bor i => exact h
/-- the content, read -/
theorem RR.rw {t : Tr} (E : Env c H' W' Γ σ) (h : RR c H H' W' σ v r) (e : con Γ r = some t) : Rw c.K W' H' t v := by
  cases r with
  | fz u => cases e; exact .inl h
  | mu u => cases e; obtain ⟨a, e, _, _, h⟩ := h; exact .inr ⟨a, e, h⟩
  | bor i =>
    have e : (match Γ[i]? with
      | some (some s) => some (slT s)
      | _ => none) = some t := e
    split at e
    · rename_i s hs
      cases e
      obtain ⟨w, hw, ok⟩ := E.sl i s hs
      have h : σ[i]? = some (some v) := h
      rw [h] at hw; cases hw
      cases s with
      | fz t => exact .inl ok
      | mu t => obtain ⟨a, e, _, _, h⟩ := ok; exact .inr ⟨a, e, h⟩
      | pm t => obtain ⟨a, e, _, _, h⟩ := ok; exact .inr ⟨a, e, h⟩
    · cases e
/-- a new object, the rest as it was -/
def Grow (H H' : Hp) : Prop := ∀ a o, H a = some o → H' a = some o
theorem Grow.refl : Grow H H := fun _ _ h => h
theorem Grow.trans (a : Grow H H1) (b : Grow H1 H2) : Grow H H2 := fun x o h => b x o (a x o h)
theorem Grow.new {p : Addr} {o : HO} (hp : H p = none) : Grow H (upd H p o) := fun a u h => U.upd_old2 hp h
theorem Grow.fz (g : Grow H H') (d : Dom H W) : Fz H W H' W := fun a h => by
  have := d a (by rw [h]; rfl)
  cases e : H a with
  | none => rw [e] at this; cases this
  | some o => exact ⟨h, g a o e⟩
theorem Grow.dm (g : Grow H H') : ∀ a, (H a).isSome = true → (H' a).isSome = true := fun a h => by
  cases e : H a with
  | none => rw [e] at h; cases h
  | some o => rw [g a o e]; rfl
theorem Grow.step (g : Grow H H') (d : Dom H W) : Step H W H' W := ⟨g.fz d, fun a o h e => ⟨h, g a o e⟩, g.dm⟩
theorem Grow.dom (g : Grow H H') (d : Dom H W) : Dom H' W := fun a h => g.dm a (d a h)
/-- slots are kept where their objects are -/
theorem SlotOk.st {i : Nat} {s : Sl} (f : Fz H W H' W') (h : SlotOk c H W i v s) (k : ∀ a, v = .ref a → W a = some (some i) → H' a = H a ∧ W' a = W a) : SlotOk c H' W' i v s := by
  cases s with
  | fz t => exact Rp.st f t v h
  | mu t =>
    obtain ⟨a, e, h1, h2, h3⟩ := h
    obtain ⟨k1, k2⟩ := k a e h1
    exact ⟨a, e, k2.trans h1, h2, h3.st f k1⟩
  | pm t =>
    obtain ⟨a, e, h1, h2, h3⟩ := h
    obtain ⟨k1, k2⟩ := k a e h1
    exact ⟨a, e, k2.trans h1, h2, h3.st f k1⟩
theorem Env.grow (E : Env c H W Γ σ) (g : Grow H H') : Env c H' W Γ σ where
  dom := g.dom E.dom
  len := E.len
  sl := fun i s hs => by
    obtain ⟨v, hv, ok⟩ := E.sl i s hs
    refine ⟨v, hv, ok.st (g.fz E.dom) fun a e h => ⟨?_, rfl⟩⟩
    have := E.dom a (by rw [h]; rfl)
    cases e2 : H a with
    | none => rw [e2] at this; cases this
    | some o => exact g a o e2
  en := E.en.trans (g.step E.dom)
  pin := E.pin
end
/-! ### an expression's reading by trees -/
def RE (c : Ctx) (te : L2.TE) (f : G → (R → G → Prop) → Prop) : Prop := ∀ (Γ : G) (σ : L2.St) (H : Hp) (W : Wd) (P : R → G → Prop) (Q : VK), Env c H W Γ σ → f Γ P →
  (∀ r Γ' v H' W', P r Γ' → Env c H' W' Γ' σ → Step H W H' W' → RR c H H' W' σ v r → Q v H') → te σ H Q
def RA (c : Ctx) (ta : L2.TA) (f : G → (List R → G → Prop) → Prop) : Prop := ∀ (Γ : G) (σ : L2.St) (H : Hp) (W : Wd) (P : List R → G → Prop) (Q : List V → Hp → Prop), Env c H W Γ σ → f Γ P →
  (∀ rs Γ' vs H' W', P rs Γ' → Env c H' W' Γ' σ → Step H W H' W' → Paired (fun r v => RR c H H' W' σ v r) rs vs → Q vs H') → ta σ H Q
def RT (c : Ctx) (tt : L2.TT) (f : G → (Bool → G → Prop) → Prop) : Prop := ∀ (Γ : G) (σ : L2.St) (H : Hp) (W : Wd) (P : Bool → G → Prop) (Q : Bool → Hp → Prop), Env c H W Γ σ → f Γ P →
  (∀ b Γ' H' W', P b Γ' → Env c H' W' Γ' σ → Step H W H' W' → Q b H') → tt σ H Q
/-- what an operation leaves -/
def Out (K : PySem.W.Frag) (H : Hp) (W : Wd) (H' : Hp) (v : V) : R → Prop
  | .fz u => Rp K W H' u v
  | .mu u => ∃ a, v = .ref a ∧ H a = none ∧ Nd K W H' u a
  | .bor _ => False
/-- a rule by values, by trees -/
def OpT (K : PySem.W.Frag) (r : R2) (g : Tr → Tr → (R → Prop) → Prop) : Prop := ∀ (H : Hp) (W : Wd) (x y : V) (s t : Tr) (P : R → Prop) (Q : VK), Dom H W → Rw K W H s x → Rw K W H t y → g s t P →
  (∀ rr v H', P rr → Grow H H' → Out K H W H' v rr → Q v H') → r x y H Q
def UnT (K : PySem.W.Frag) (r : V → Hp → VK → Prop) (g : Tr → (R → Prop) → Prop) : Prop := ∀ (H : Hp) (W : Wd) (x : V) (s : Tr) (P : R → Prop) (Q : VK), Dom H W → Rw K W H s x → g s P →
  (∀ rr v H', P rr → Grow H H' → Out K H W H' v rr → Q v H') → r x H Q
def CbT (K : PySem.W.Frag) (r : List V → Hp → VK → Prop) (g : List Tr → (R → Prop) → Prop) : Prop := ∀ (H : Hp) (W : Wd) (xs : List V) (ss : List Tr) (P : R → Prop) (Q : VK), Dom H W → Paired (fun s x => Rw K W H s x) ss xs → g ss P →
  (∀ rr v H', P rr → Grow H H' → Out K H W H' v rr → Q v H') → r xs H Q
def cons (Γ : G) : List R → Option (List Tr)
  | [] => some []
  | r :: rs => match con Γ r, cons Γ rs with
    | some t, some ts => some (t :: ts)
    | _, _ => none
def fC (t : Tr) : G → (R → G → Prop) → Prop := fun Γ P => P (.fz t) Γ
def fVar (i : Nat) : G → (R → G → Prop) → Prop := fun Γ P => match Γ[i]? with
  | some (some (.fz t)) => P (.fz t) Γ
  | some (some _) => P (.bor i) Γ
  | _ => False
def fOp (g : Tr → Tr → (R → Prop) → Prop) (fa fb : G → (R → G → Prop) → Prop) : G → (R → G → Prop) → Prop := fun Γ P =>
  fa Γ fun r1 Γ1 => fb Γ1 fun r2 Γ2 => U.optE (con Γ2 r1) fun s => U.optE (con Γ2 r2) fun t => g s t fun rr => P rr Γ2
def fUn (g : Tr → (R → Prop) → Prop) (fa : G → (R → G → Prop) → Prop) : G → (R → G → Prop) → Prop := fun Γ P =>
  fa Γ fun r1 Γ1 => U.optE (con Γ1 r1) fun s => g s fun rr => P rr Γ1
def fCB (g : List Tr → (R → Prop) → Prop) (fa : G → (List R → G → Prop) → Prop) : G → (R → G → Prop) → Prop := fun Γ P =>
  fa Γ fun rs Γ1 => U.optE (cons Γ1 rs) fun ss => g ss fun rr => P rr Γ1
def fNil : G → (List R → G → Prop) → Prop := fun Γ P => P [] Γ
def fCons (fa : G → (R → G → Prop) → Prop) (fr : G → (List R → G → Prop) → Prop) : G → (List R → G → Prop) → Prop := fun Γ P => fa Γ fun r Γ1 => fr Γ1 fun rs Γ2 => P (r :: rs) Γ2
section
variable {c : Ctx} {ta tb te : L2.TE} {tA tr : L2.TA} {fa fb : G → (R → G → Prop) → Prop} {fA fr : G → (List R → G → Prop) → Prop}
theorem re_c {v : V} {t : Tr} (h : ∀ K W H, Rp K W H t v) : RE c (tC v) (fC t) := fun Γ σ H W P Q E p k => k _ Γ v H W p E .refl (h _ _ _)
theorem re_non : RE c (tC .non) (fC .non) := re_c fun _ _ _ => by rw [rp_non]
theorem re_bl {b : Bool} : RE c (tC (.bl b)) (fC (.bl b)) := re_c fun _ _ _ => by rw [rp_bl]
theorem re_int {i : Int} : RE c (tC (.int i)) (fC (.int i)) := re_c fun _ _ _ => by rw [rp_int]
theorem re_str {l : List Nat} : RE c (tC (U.sv l)) (fC (.str l)) := re_c fun _ _ _ => by rw [rp_str]
theorem re_ty {n : String} : RE c (tC (.ty n)) (fC (.ty n)) := re_c fun _ _ _ => by rw [rp_ty]
theorem re_adr {a : Addr} : RE c (tC (.ref a)) (fC (.adr a)) := re_c fun _ _ _ => by rw [rp_adr]
theorem re_var {i : Nat} : RE c (tVar i) (fVar i) := fun Γ σ H W P Q E p k => by
  unfold fVar at p
  split at p
  · rename_i t hs
    obtain ⟨v, hv, ok⟩ := E.sl i _ hs
    exact ⟨v, hv, k _ _ v H W p E .refl ok⟩
  · rename_i s _ hs
    obtain ⟨v, hv, ok⟩ := E.sl i _ hs
    exact ⟨v, hv, k _ _ v H W p E .refl hv⟩
  · exact p.elim
theorem out_rr {H0 H H' : Hp} {W : Wd} {σ : L2.St} {v : V} {rr : R} (d : Dom H W) (d0 : ∀ a, (H0 a).isSome = true → (H a).isSome = true) (h : Out c.K H W H' v rr) : RR c H0 H' W σ v rr := by
  cases rr with
  | fz u => exact h
  | mu u => obtain ⟨a, e, h1, h2⟩ := h; exact ⟨a, e, none_of d0 h1, d.none h1, h2⟩
  | bor i => exact h.elim
theorem re_op {r : R2} {g : Tr → Tr → (R → Prop) → Prop} (ho : OpT c.K r g) (ha : RE c ta fa) (hb : RE c tb fb) : RE c (tOp r ta tb) (fOp g fa fb) := fun Γ σ H W P Q E p k => by
  refine ha Γ σ H W _ _ E p fun r1 Γ1 v1 H1 W1 p1 E1 s1 h1 => ?_
  refine hb Γ1 σ H1 W1 _ _ E1 p1 fun r2 Γ2 v2 H2 W2 ⟨s, es, t, et, q⟩ E2 s2 h2 => ?_
  refine ho H2 W2 v1 v2 s t _ Q E2.dom ((h1.st s2).rw E2 es) (h2.rw E2 et) q fun rr v H' pr gr hr => ?_
  exact k rr Γ2 v H' W2 pr (E2.grow gr) ((s1.trans s2).trans (gr.step E2.dom)) (out_rr E2.dom (fun a z => s2.dm a (s1.dm a z)) hr)
theorem re_un {r : V → Hp → VK → Prop} {g : Tr → (R → Prop) → Prop} (ho : UnT c.K r g) (ha : RE c ta fa) : RE c (tUn r ta) (fUn g fa) := fun Γ σ H W P Q E p k => by
  refine ha Γ σ H W _ _ E p fun r1 Γ1 v1 H1 W1 ⟨s, es, q⟩ E1 s1 h1 => ?_
  refine ho H1 W1 v1 s _ Q E1.dom (h1.rw E1 es) q fun rr v H' pr gr hr => ?_
  exact k rr Γ1 v H' W1 pr (E1.grow gr) (s1.trans (gr.step E1.dom)) (out_rr E1.dom s1.dm hr)
theorem ra_nil : RA c tNil fNil := fun Γ σ H W P Q E p k => k [] Γ [] H W p E .refl .nil
theorem ra_cons (ha : RE c ta fa) (hr : RA c tr fr) : RA c (tCons ta tr) (fCons fa fr) := fun Γ σ H W P Q E p k => by
  refine ha Γ σ H W _ _ E p fun r1 Γ1 v1 H1 W1 p1 E1 s1 h1 => ?_
  refine hr Γ1 σ H1 W1 _ _ E1 p1 fun rs Γ2 vs H2 W2 p2 E2 s2 h2 => ?_
  exact k _ Γ2 _ H2 W2 p2 E2 (s1.trans s2) (.cons (h1.st s2) (L2.Paired.mapP h2 fun _ _ z => z.early s1.dm))
theorem cons_rw {H H' : Hp} {W' : Wd} {Γ : G} {σ : L2.St} (E : Env c H' W' Γ σ) : ∀ {rs : List R} {vs : List V} {ss : List Tr}, Paired (fun r v => RR c H H' W' σ v r) rs vs → cons Γ rs = some ss → Paired (fun s x => Rw c.K W' H' s x) ss vs
  | _, _, ss, .nil, e => by cases e; exact .nil
  | r :: rs, v :: vs, ss, .cons h t, e => by
    have e : (match con Γ r, cons Γ rs with
      | some t, some ts => some (t :: ts)
      | _, _ => none) = some ss := e
    split at e
    · rename_i u us e1 e2
      cases e
      exact .cons (h.rw E e1) (cons_rw E t e2)
    · cases e
theorem re_cb {r : List V → Hp → VK → Prop} {g : List Tr → (R → Prop) → Prop} (ho : CbT c.K r g) (ha : RA c tA fA) : RE c (tCB r tA) (fCB g fA) := fun Γ σ H W P Q E p k => by
  refine ha Γ σ H W _ _ E p fun rs Γ1 vs H1 W1 ⟨ss, es, q⟩ E1 s1 h1 => ?_
  refine ho H1 W1 vs ss _ Q E1.dom (cons_rw E1 h1 es) q fun rr v H' pr gr hr => ?_
  exact k rr Γ1 v H' W1 pr (E1.grow gr) (s1.trans (gr.step E1.dom)) (out_rr E1.dom s1.dm hr)
end
end Z

namespace Z
open PySem PySem.Spec PyProof.Rows L2
/-! ### giving away: what was read is held by all from here on -/
def frz : R → G → (Tr → G → Prop) → Prop
  | .fz t, Γ, k => k t Γ
  | .mu t, Γ, k => k t Γ
  | .bor i, Γ, k => match Γ[i]? with
    | some (some (.fz t)) => k t Γ
    | some (some (.mu t)) => k t (Γ.set i (some (.fz t)))
    | _ => False
def wset (W : Wd) (a : Addr) (o : Option Nat) : Wd := fun b => if b = a then some o else W b
theorem wset_same {W : Wd} {a : Addr} {o : Option Nat} : wset W a o a = some o := if_pos rfl
theorem wset_ne {W : Wd} {a b : Addr} {o : Option Nat} (h : b ≠ a) : wset W a o b = W b := if_neg h
section
variable {c : Ctx} {H H1 H2 H' : Hp} {W W1 W2 W' : Wd} {Γ Γ1 Γ' : G} {σ : L2.St} {v : V} {r : R}
theorem fz_wset {a : Addr} : Fz H W H (wset W a none) := fun b h => by
  by_cases e : b = a
  · subst e; exact ⟨wset_same, rfl⟩
  · exact ⟨(wset_ne e).trans h, rfl⟩
/-- an address that no slot holds comes to be held by all -/
theorem Env.give {a : Addr} (E : Env c H1 W1 Γ σ) (ha : (H1 a).isSome = true) (h0 : c.H0 a = none) (hw : W1 a = none) : Env c H1 (wset W1 a none) Γ σ where
  dom := fun b h => by
    by_cases e : b = a
    · subst e; exact ha
    · rw [wset_ne e] at h; exact E.dom b h
  len := E.len
  sl := fun i s hs => by
    obtain ⟨v, hv, ok⟩ := E.sl i s hs
    refine ⟨v, hv, ok.st fz_wset fun b e h => ⟨rfl, wset_ne ?_⟩⟩
    rintro rfl; rw [hw] at h; cases h
  en := by
    refine ⟨E.en.fz.trans fz_wset, fun b o h e => ?_, E.en.dm⟩
    obtain ⟨h1, h2⟩ := E.en.fo b o h e
    refine ⟨?_, h2⟩
    rw [wset_ne]; exact h1
    rintro rfl; rw [h0] at e; cases e
  pin := E.pin
theorem Step.give {a : Addr} (s : Step H W H1 W1) (ha : H a = none) : Step H W H1 (wset W1 a none) := by
  refine ⟨s.fz.trans fz_wset, fun b o h e => ?_, s.dm⟩
  obtain ⟨h1, h2⟩ := s.fo b o h e
  refine ⟨?_, h2⟩
  rw [wset_ne]; exact h1
  rintro rfl; rw [ha] at e; cases e
theorem getset {α : Type} {l : List α} {i j : Nat} {x y : α} (h : (l.set i x)[j]? = some y) : (j = i ∧ y = x) ∨ (j ≠ i ∧ l[j]? = some y) := by
  by_cases e : j = i
  · subst e
    left
    rw [List.getElem?_set] at h
    simp only [if_true] at h
    split at h
    · exact ⟨rfl, (Option.some.inj h).symm⟩
    · cases h
  · right
    rw [List.getElem?_set_ne (Ne.symm e)] at h
    exact ⟨e, h⟩
/-- a slot's own object comes to be held by all -/
theorem Env.giveS {i : Nat} {t : Tr} (E : Env c H1 W1 Γ σ) (hs : Γ[i]? = some (some (.mu t))) (hv : σ[i]? = some (some v)) : ∃ a, W1 a = some (some i) ∧ Env c H1 (wset W1 a none) (Γ.set i (some (.fz t))) σ ∧ Rp c.K (wset W1 a none) H1 t v := by
  obtain ⟨w, hw, a, ea, h1, h2, h3⟩ := E.sl i _ hs
  rw [hv] at hw; cases hw
  subst ea
  have rp : Rp c.K (wset W1 a none) H1 t (.ref a) := (h3.st fz_wset rfl).rp wset_same
  refine ⟨a, h1, ⟨fun b h => ?_, by rw [List.length_set]; exact E.len, fun j s hj => ?_, ⟨E.en.fz.trans fz_wset, fun b o h e => ?_, E.en.dm⟩, fun j b hp => ?_⟩, rp⟩
  · by_cases e : b = a
    · subst e; exact h3.is
    · rw [wset_ne e] at h; exact E.dom b h
  · rcases getset hj with ⟨rfl, e⟩ | ⟨e, hj⟩
    · cases e
      exact ⟨_, hv, rp⟩
    · obtain ⟨w, hw, ok⟩ := E.sl j s hj
      refine ⟨w, hw, ok.st fz_wset fun b eb hb => ⟨rfl, wset_ne ?_⟩⟩
      rintro rfl; rw [h1] at hb; cases hb; exact e rfl
  · obtain ⟨k1, k2⟩ := E.en.fo b o h e
    refine ⟨?_, k2⟩
    rw [wset_ne]; exact k1
    rintro rfl; rw [h2] at e; cases e
  · obtain ⟨t', ht⟩ := E.pin j b hp
    refine ⟨t', ?_⟩
    rw [List.getElem?_set_ne]; exact ht
    rintro rfl; rw [hs] at ht; cases ht
theorem frz_ok {k : Tr → G → Prop} (E : Env c H1 W1 Γ σ) (s : Step H W H1 W1) (h : RR c H H1 W1 σ v r) (q : frz r Γ k) (d0 : ∀ a, (c.H0 a).isSome = true → (H a).isSome = true) :
    ∃ t Γ' W', k t Γ' ∧ Env c H1 W' Γ' σ ∧ Step H W H1 W' ∧ Rp c.K W' H1 t v := by
  cases r with
  | fz t => exact ⟨t, Γ, W1, q, E, s, h⟩
  | mu t =>
    obtain ⟨a, rfl, h1, h2, h3⟩ := h
    exact ⟨t, Γ, wset W1 a none, q, E.give h3.is (none_of d0 h1) h2, s.give h1, (h3.st fz_wset rfl).rp wset_same⟩
  | bor i =>
    have q : (match Γ[i]? with
      | some (some (.fz t)) => k t Γ
      | some (some (.mu t)) => k t (Γ.set i (some (.fz t)))
      | _ => False) := q
    have h : σ[i]? = some (some v) := h
    split at q
    · rename_i t hs
      obtain ⟨w, hw, ok⟩ := E.sl i _ hs
      rw [h] at hw; cases hw
      exact ⟨t, Γ, W1, q, E, s, ok⟩
    · rename_i t hs
      obtain ⟨a, ha, E', rp⟩ := E.giveS hs h
      refine ⟨t, _, _, q, E', ⟨s.fz.trans fz_wset, fun b o hb e => ?_, s.dm⟩, rp⟩
      obtain ⟨k1, k2⟩ := s.fo b o hb e
      refine ⟨?_, k2⟩
      rw [wset_ne]; exact k1
      rintro rfl; rw [ha] at k1; cases k1
    · exact q.elim
theorem Env.dm (E : Env c H W Γ σ) : ∀ a, (c.H0 a).isSome = true → (H a).isSome = true := E.en.dm
end
/-! ### arguments: given away, or lent -/
inductive Ar where
  | fz (t : Tr) | lend (i : Nat)
def AR (c : Ctx) (H' : Hp) (W' : Wd) (σ : L2.St) (v : V) : Ar → Prop
  | .fz t => Rp c.K W' H' t v
  | .lend i => σ[i]? = some (some v)
theorem AR.st {c : Ctx} {H1 H2 : Hp} {W1 W2 : Wd} {σ : L2.St} {v : V} {a : Ar} (s : Fz H1 W1 H2 W2) (h : AR c H1 W1 σ v a) : AR c H2 W2 σ v a := by
  cases a with
  | fz t => exact Rp.st s t v h
  | lend i => exact h
def RF (c : Ctx) (m : Nat) (ta : L2.TA) (f : G → (List Ar → G → Prop) → Prop) : Prop := ∀ (Γ : G) (σ : L2.St) (H : Hp) (W : Wd) (P : List Ar → G → Prop) (Q : List V → Hp → Prop), Env c H W Γ σ → f Γ P →
  (∀ as Γ' vs H' W', P as Γ' → Env c H' W' Γ' σ → Step H W H' W' → Paired (fun a v => AR c H' W' σ v a) as vs → as.length = m → Q vs H') → ta σ H Q
def aNil : G → (List Ar → G → Prop) → Prop := fun Γ P => P [] Γ
def aFz (fa : G → (R → G → Prop) → Prop) (fr : G → (List Ar → G → Prop) → Prop) : G → (List Ar → G → Prop) → Prop := fun Γ P => fa Γ fun r Γ1 => frz r Γ1 fun t Γ2 => fr Γ2 fun as Γ3 => P (.fz t :: as) Γ3
def isMu : Option (Option Sl) → Bool
  | some (some (.mu _)) => true
  | some (some (.pm _)) => true
  | _ => false
def aLend (i : Nat) (fr : G → (List Ar → G → Prop) → Prop) : G → (List Ar → G → Prop) → Prop := fun Γ P => isMu Γ[i]? = true ∧ fr Γ fun as Γ3 => P (.lend i :: as) Γ3
theorem isMu_at {o : Option (Option Sl)} (h : isMu o = true) : ∃ s, o = some (some s) := by
  unfold isMu at h
  split at h
  · exact ⟨_, rfl⟩
  · exact ⟨_, rfl⟩
  · cases h
section
variable {c : Ctx} {ta tb te : L2.TE} {tA tr : L2.TA} {fa fb : G → (R → G → Prop) → Prop} {fA fr : G → (List Ar → G → Prop) → Prop}
theorem rf_nil : RF c 0 tNil aNil := fun Γ σ H W P Q E p k => k [] Γ [] H W p E .refl .nil rfl
theorem rf_fz {m : Nat} (ha : RE c ta fa) (hr : RF c m tr fr) : RF c (m + 1) (tCons ta tr) (aFz fa fr) := fun Γ σ H W P Q E p k => by
  refine ha Γ σ H W _ _ E p fun r1 Γ1 v1 H1 W1 p1 E1 s1 h1 => ?_
  obtain ⟨t, Γ2, W2, q, E2, s2, h2⟩ := frz_ok E1 s1 h1 p1 E.dm
  refine hr Γ2 σ H1 W2 _ _ E2 q fun as Γ3 vs H3 W3 p3 E3 s3 h3 hz => ?_
  exact k _ Γ3 _ H3 W3 p3 E3 (s2.trans s3) (.cons (Rp.st s3.fz t v1 h2) h3) (congrArg Nat.succ hz)
/-- the slot is not looked at: it is there when the call comes -/
theorem rf_lend {i m : Nat} (hr : RF c m tr fr) : RF c (m + 1) (tCons (tVar i) tr) (aLend i fr) := fun Γ σ H W P Q E p k => by
  obtain ⟨hm, p⟩ := p
  obtain ⟨s, hs⟩ := isMu_at hm
  obtain ⟨v, hv, _⟩ := E.sl i s hs
  refine ⟨v, hv, ?_⟩
  refine hr Γ σ H W _ _ E p fun as Γ3 vs H3 W3 p3 E3 s3 h3 hz => ?_
  exact k _ Γ3 _ H3 W3 p3 E3 s3 (.cons hv h3) (congrArg Nat.succ hz)
end
/-! ### what a def promises, by trees -/
inductive A where
  | fz (t : Tr) | mu (t : Tr)
def Args (K : PySem.W.Frag) (W : Wd) (H : Hp) : Nat → List A → List V → Prop
  | _, [], vs => vs = []
  | k, .fz t :: as, vs => ∃ v r, vs = v :: r ∧ Rp K W H t v ∧ Args K W H (k + 1) as r
  | k, .mu t :: as, vs => ∃ a r, vs = .ref a :: r ∧ W a = some (some k) ∧ Nd K W H t a ∧ Args K W H (k + 1) as r
def Outs (K : PySem.W.Frag) (W : Wd) (H : Hp) : Nat → List A → List V → List Tr → Prop
  | _, [], _, outs => outs = []
  | k, .fz _ :: as, vs, outs => ∃ v r, vs = v :: r ∧ Outs K W H (k + 1) as r outs
  | k, .mu _ :: as, vs, outs => ∃ a r o os, vs = .ref a :: r ∧ outs = o :: os ∧ W a = some (some k) ∧ Nd K W H o a ∧ Outs K W H (k + 1) as r os
def Res (K : PySem.W.Frag) (H : Hp) (H' : Hp) (W' : Wd) (v : V) : R → Prop
  | .fz t => Rp K W' H' t v
  | .mu t => ∃ a, v = .ref a ∧ H a = none ∧ W' a = none ∧ Nd K W' H' t a
  | .bor _ => False
abbrev TP := List A → (R → List Tr → Prop) → Prop
def spT (K : PySem.W.Frag) (n : Nat) (tp : TP) : Sp := fun vs H Q E => vs.length = n ∧ ∃ (W : Wd) (ss : List A) (P : R → List Tr → Prop), Dom H W ∧ Args K W H 0 ss vs ∧ tp ss P ∧
  ∀ r outs v H' W', P r outs → Step H W H' W' → Dom H' W' → Outs K W' H' 0 ss vs outs → Res K H H' W' v r → Q v H'
/-! ### statements -/
structure EndT where
  nx : G → Prop
  rt : R → G → Prop
  bk : G → Prop := fun _ => False
  ct : G → Prop := fun _ => False
def RS (c : Ctx) (ts : L2.TS) (f : EndT → G → Prop) : Prop := ∀ (Γ : G) (σ : L2.St) (H : Hp) (W : Wd) (D : EndT) (D' : Ends), Env c H W Γ σ → f D Γ →
  (∀ Γ' σ' H' W', D.nx Γ' → Env c H' W' Γ' σ' → Fz H W H' W' → D'.nx σ' H') →
  (∀ r Γ' v σ' H' W', D.rt r Γ' → Env c H' W' Γ' σ' → Fz H W H' W' → RR c c.H0 H' W' σ' v r → D'.rt v H') →
  (∀ Γ' σ' H' W', D.bk Γ' → Env c H' W' Γ' σ' → Fz H W H' W' → D'.bk σ' H') →
  (∀ Γ' σ' H' W', D.ct Γ' → Env c H' W' Γ' σ' → Fz H W H' W' → D'.ct σ' H') → ts D' σ H
def startG : Nat → List A → G
  | n, [] => List.replicate n none
  | n, .fz t :: as => some (.fz t) :: startG n as
  | n, .mu t :: as => some (.pm t) :: startG n as
def pmT : Option (Option Sl) → List Tr
  | some (some (.pm t)) => [t]
  | _ => []
def outsOf : List A → G → List Tr
  | [], _ => []
  | .fz _ :: as, Γ => outsOf as Γ.tail
  | .mu _ :: as, Γ => pmT Γ[0]? ++ outsOf as Γ.tail
def retT (ss : List A) (P : R → List Tr → Prop) : R → G → Prop
  | .fz t, Γ => P (.fz t) (outsOf ss Γ)
  | .mu t, Γ => P (.mu t) (outsOf ss Γ)
  | .bor i, Γ => match Γ[i]? with
    | some (some (.fz t)) => P (.fz t) (outsOf ss Γ)
    | some (some (.mu t)) => P (.mu t) (outsOf ss Γ)
    | _ => False
def endsT (ss : List A) (P : R → List Tr → Prop) : EndT := { nx := fun Γ => P (.fz .non) (outsOf ss Γ), rt := retT ss P }
def paOf : List A → List V → Nat → Option Addr
  | .mu _ :: _, .ref a :: _, 0 => some a
  | _ :: as, _ :: vs, i + 1 => paOf as vs i
  | _, _, _ => none
theorem Args.len {K : PySem.W.Frag} {W : Wd} {H : Hp} : ∀ {k : Nat} {as : List A} {vs : List V}, Args K W H k as vs → vs.length = as.length
  | _, [], vs, h => by rw [Args] at h; subst h; rfl
  | k, .fz t :: as, vs, h => by rw [Args] at h; obtain ⟨v, r, rfl, _, h⟩ := h; rw [List.length_cons, List.length_cons, h.len]
  | k, .mu t :: as, vs, h => by rw [Args] at h; obtain ⟨v, r, rfl, _, _, h⟩ := h; rw [List.length_cons, List.length_cons, h.len]
theorem Args.at {K : PySem.W.Frag} {W : Wd} {H : Hp} {n : Nat} : ∀ {k : Nat} {as : List A} {vs : List V}, Args K W H k as vs → ∀ (i : Nat) (s : Sl), (startG n as)[i]? = some (some s) →
    ∃ v, vs[i]? = some v ∧ (match s with
      | .fz t => Rp K W H t v
      | .pm t => ∃ a, v = .ref a ∧ W a = some (some (k + i)) ∧ paOf as vs i = some a ∧ Nd K W H t a
      | .mu _ => False)
  | _, [], vs, h, i, s, e => by
    rw [startG, List.getElem?_replicate] at e
    split at e <;> cases e
  | k, .fz t :: as, vs, h, i, s, e => by
    rw [Args] at h; obtain ⟨v, r, rfl, h1, h⟩ := h
    rw [startG] at e
    cases i with
    | zero => simp at e; subst e; exact ⟨v, rfl, h1⟩
    | succ i =>
      obtain ⟨w, hw, q⟩ := Args.at h i s (by simpa using e)
      refine ⟨w, by simpa using hw, ?_⟩
      cases s with
      | fz t => exact q
      | mu t => exact q
      | pm t =>
        obtain ⟨a, e1, e2, e3, e4⟩ := q
        exact ⟨a, e1, by rw [e2]; congr 2; omega, e3, e4⟩
  | k, .mu t :: as, vs, h, i, s, e => by
    rw [Args] at h; obtain ⟨a, r, rfl, h1, h2, h⟩ := h
    rw [startG] at e
    cases i with
    | zero => simp at e; subst e; exact ⟨_, rfl, a, rfl, h1, rfl, h2⟩
    | succ i =>
      obtain ⟨w, hw, q⟩ := Args.at h i s (by simpa using e)
      refine ⟨w, by simpa using hw, ?_⟩
      cases s with
      | fz t => exact q
      | mu t => exact q
      | pm t =>
        obtain ⟨a, e1, e2, e3, e4⟩ := q
        exact ⟨a, e1, by rw [e2]; congr 2; omega, e3, e4⟩
theorem pa_at {n : Nat} : ∀ {as : List A} {vs : List V} {i : Nat} {a : Addr}, paOf as vs i = some a → ∃ t, (startG n as)[i]? = some (some (.pm t))
  | [], vs, i, a, e => by simp [paOf] at e
  | .fz t :: as, [], 0, a, e => by simp [paOf] at e
  | .fz t :: as, v :: vs, 0, a, e => by simp [paOf] at e
  | .mu t :: as, [], 0, a, e => by simp [paOf] at e
  | .mu t :: as, v :: vs, 0, a, e => ⟨t, by rw [startG]; rfl⟩
  | .fz t :: as, [], i + 1, a, e => by simp [paOf] at e
  | .mu t :: as, [], i + 1, a, e => by simp [paOf] at e
  | .fz t :: as, v :: vs, i + 1, a, e => by
    obtain ⟨u, hu⟩ := pa_at (n := n) (as := as) (vs := vs) (i := i) (a := a) (by simpa [paOf] using e)
    exact ⟨u, by rw [startG]; simpa using hu⟩
  | .mu t :: as, v :: vs, i + 1, a, e => by
    obtain ⟨u, hu⟩ := pa_at (n := n) (as := as) (vs := vs) (i := i) (a := a) (by simpa [paOf] using e)
    exact ⟨u, by rw [startG]; simpa using hu⟩
theorem startG_len : ∀ {n : Nat} {as : List A}, (startG n as).length = as.length + n
  | n, [] => by rw [startG, List.length_replicate]; simp
  | n, .fz t :: as => by rw [startG, List.length_cons, List.length_cons, startG_len]; omega
  | n, .mu t :: as => by rw [startG, List.length_cons, List.length_cons, startG_len]; omega
/-- the entry of a def -/
theorem env_start {K : PySem.W.Frag} {W : Wd} {H : Hp} {as : List A} {vs : List V} {N : List Str} (d : Dom H W) (h : Args K W H 0 as vs) : Env ⟨K, H, W, paOf as vs⟩ H W (startG (N.length - vs.length) as) (L2.start N vs) where
  dom := d
  len := by
    rw [startG_len]
    unfold L2.start
    rw [List.length_append, List.length_map, List.length_replicate, h.len]
  sl := fun i s e => by
    obtain ⟨v, hv, q⟩ := h.at i s e
    refine ⟨v, ?_, ?_⟩
    · have hi : i < vs.length := (List.getElem?_eq_some_iff.mp hv).1
      unfold L2.start
      rw [List.getElem?_append_left (by simpa using hi), List.getElem?_map, hv]; rfl
    · cases s with
      | fz t => exact q
      | mu t => exact q.elim
      | pm t =>
        obtain ⟨a, e1, e2, e3, e4⟩ := q
        exact ⟨a, e1, by rw [e2, Nat.zero_add], e3, e4⟩
  en := .refl
  pin := fun i a e => pa_at e
theorem tail_at {α : Type} {l : List α} {i : Nat} : l.tail[i]? = l[i + 1]? := by cases l <;> simp
theorem outs_end {c : Ctx} {K : PySem.W.Frag} {H' : Hp} {W' : Wd} (hK : c.K = K) : ∀ {k : Nat} {as : List A} {vs : List V} {Γ' : G}, vs.length = as.length → (∀ i a, paOf as vs i = some a → c.pa (k + i) = some a) →
    (∀ (i : Nat) (t : Tr), as[i]? = some (.mu t) → ∃ a, vs[i]? = some (.ref a)) →
    (∀ (i : Nat) (s : Sl), Γ'[i]? = some (some s) → ∃ v, SlotOk c H' W' (k + i) v s) → (∀ i a, c.pa (k + i) = some a → ∃ t, Γ'[i]? = some (some (.pm t))) → Outs K W' H' k as vs (outsOf as Γ')
  | _, [], _, _, _, _, _, _, _ => by rw [Outs, outsOf]
  | k, .fz t :: as, [], _, hl, _, _, _, _ => by simp at hl
  | k, .mu t :: as, [], _, hl, _, _, _, _ => by simp at hl
  | k, .fz t :: as, v :: vs, Γ', hl, hp, hm, hs, hn => by
    rw [Outs, outsOf]
    refine ⟨v, vs, rfl, outs_end hK (by simpa using hl) (fun i a e => ?_) (fun i t e => ?_) (fun i s e => ?_) (fun i a e => ?_)⟩
    · have := hp (i + 1) a e; rw [← this]; congr 1; omega
    · simpa using hm (i + 1) t (by simpa using e)
    · obtain ⟨v, q⟩ := hs (i + 1) s (by rw [← tail_at]; exact e); exact ⟨v, by rw [show k + 1 + i = k + (i + 1) by omega]; exact q⟩
    · obtain ⟨t, q⟩ := hn (i + 1) a (by rw [← e]; congr 1; omega); exact ⟨t, by rw [tail_at]; exact q⟩
  | k, .mu t :: as, v :: vs, Γ', hl, hp, hm, hs, hn => by
    obtain ⟨a, ha⟩ := hm 0 t rfl
    simp at ha
    subst ha
    have e0 := hp 0 a rfl
    obtain ⟨u, hu⟩ := hn 0 a e0
    obtain ⟨w, b, e1, e2, e3, e4⟩ := hs 0 (.pm u) hu
    rw [e0] at e3; cases e3
    rw [hK] at e4
    rw [Outs, outsOf, hu]
    refine ⟨a, vs, u, _, rfl, rfl, e2, e4, outs_end hK (by simpa using hl) (fun i a e => ?_) (fun i t e => ?_) (fun i s e => ?_) (fun i a e => ?_)⟩
    · have := hp (i + 1) a e; rw [← this]; congr 1; omega
    · simpa using hm (i + 1) t (by simpa using e)
    · obtain ⟨v, q⟩ := hs (i + 1) s (by rw [← tail_at]; exact e); exact ⟨v, by rw [show k + 1 + i = k + (i + 1) by omega]; exact q⟩
    · obtain ⟨t, q⟩ := hn (i + 1) a (by rw [← e]; congr 1; omega); exact ⟨t, by rw [tail_at]; exact q⟩
theorem Args.mu {K : PySem.W.Frag} {W : Wd} {H : Hp} : ∀ {k : Nat} {as : List A} {vs : List V}, Args K W H k as vs → ∀ (i : Nat) (t : Tr), as[i]? = some (.mu t) → ∃ a, vs[i]? = some (.ref a)
  | _, [], vs, h, i, t, e => by simp at e
  | k, .fz t :: as, vs, h, i, s, e => by
    rw [Args] at h; obtain ⟨v, r, rfl, h1, h⟩ := h
    cases i with
    | zero => simp at e
    | succ i => simpa using Args.mu h i s (by simpa using e)
  | k, .mu t :: as, vs, h, i, s, e => by
    rw [Args] at h; obtain ⟨v, r, rfl, h1, _, h⟩ := h
    cases i with
    | zero => exact ⟨v, rfl⟩
    | succ i => simpa using Args.mu h i s (by simpa using e)
/-- W with a held by nobody -/
def wfree (W : Wd) (a : Addr) : Wd := fun b => if b = a then none else W b
theorem pa_of : ∀ {as : List A} {vs : List V} {j : Nat} {t : Tr} {a : Addr}, as[j]? = some (.mu t) → vs[j]? = some (.ref a) → paOf as vs j = some a
  | [], vs, j, t, a, h, k => by simp at h
  | _ :: as, [], j, t, a, h, k => by simp at k
  | x :: as, v :: vs, 0, t, a, h, k => by
    simp at h k
    subst h k
    rfl
  | x :: as, v :: vs, j + 1, t, a, h, k => by
    have := pa_of (as := as) (vs := vs) (j := j) (by simpa using h) (by simpa using k)
    cases x <;> simpa [paOf] using this
theorem outs_free {K : PySem.W.Frag} {H' : Hp} {W' : Wd} {a : Addr} {i : Nat} (ff : Fz H' W' H' (wfree W' a)) (h1 : W' a = some (some i)) : ∀ {k : Nat} {as : List A} {vs : List V} {outs : List Tr}, (∀ j t, as[j]? = some (.mu t) → k + j ≠ i) → Outs K W' H' k as vs outs → Outs K (wfree W' a) H' k as vs outs
  | _, [], vs, outs, _, h => by rw [Outs] at h ⊢; exact h
  | k, .fz t :: as, vs, outs, hk, h => by
    rw [Outs] at h ⊢
    obtain ⟨v, r, e, h⟩ := h
    exact ⟨v, r, e, outs_free ff h1 (fun j t hj => by have := hk (j + 1) t (by simpa using hj); omega) h⟩
  | k, .mu t :: as, vs, outs, hk, h => by
    rw [Outs] at h ⊢
    obtain ⟨b, r, o, os, e1, e2, e3, e4, h⟩ := h
    have hb : wfree W' a b = W' b := by
      unfold wfree
      rw [if_neg]
      rintro rfl
      rw [h1] at e3; cases e3
      exact hk 0 t rfl rfl
    exact ⟨b, r, o, os, e1, e2, hb.trans e3, e4.st ff rfl, outs_free ff h1 (fun j t hj => by have := hk (j + 1) t (by simpa using hj); omega) h⟩
/-- the rule for a def's body -/
theorem body {K : PySem.W.Frag} {n : Nat} {tp : TP} {N : List Str} {vs : List V} {H : Hp} {Q : VK} {E : XK} {ts : L2.TS} {f : EndT → G → Prop} (hr : ∀ (H0 : Hp) (W0 : Wd) (pa : Nat → Option Addr), RS ⟨K, H0, W0, pa⟩ ts f) (h : spT K n tp vs H Q E) (hn : n ≤ N.length)
    (hf : ∀ ss P, tp ss P → ss.length = n → f (endsT ss P) (startG (N.length - n) ss)) : ts { nx := fun _ H' => Q .non H', rt := Q } (L2.start N vs) H := by
  obtain ⟨hl, W, ss, P, d, ha, ht, k⟩ := h
  have hlen := ha.len
  have E0 := env_start (N := N) d ha
  have ht := hf ss P ht (by omega)
  have fin : ∀ {Γ' : G} {σ' : L2.St} {H' : Hp} {W' : Wd}, Env ⟨K, H, W, paOf ss vs⟩ H' W' Γ' σ' → Outs K W' H' 0 ss vs (outsOf ss Γ') := fun {Γ' σ' H' W'} E' =>
    outs_end (c := ⟨K, H, W, paOf ss vs⟩) rfl hlen (fun i a e => by rw [Nat.zero_add]; exact e) ha.mu (fun i s e => by obtain ⟨v, _, q⟩ := E'.sl i s e; exact ⟨v, by rw [Nat.zero_add]; exact q⟩) (fun i a e => E'.pin i a (by rw [Nat.zero_add] at e; exact e))
  rw [hl] at E0
  refine hr H W (paOf ss vs) _ _ H W _ _ E0 ht (fun Γ' σ' H' W' p E' f' => ?_) (fun r Γ' v σ' H' W' p E' f' rr => ?_) (fun _ _ _ _ z => z.elim) (fun _ _ _ _ z => z.elim)
  · exact k _ _ _ H' W' p E'.en E'.dom (fin E') (by show Rp K W' H' .non .non; rw [rp_non])
  · cases r with
    | fz t => exact k _ _ _ H' W' p E'.en E'.dom (fin E') rr
    | mu t =>
      obtain ⟨a, e, h1, h2, h3⟩ := rr
      exact k _ _ _ H' W' p E'.en E'.dom (fin E') ⟨a, e, h1, h2, h3⟩
    | bor i =>
      have p : (match Γ'[i]? with
        | some (some (.fz t)) => P (.fz t) (outsOf ss Γ')
        | some (some (.mu t)) => P (.mu t) (outsOf ss Γ')
        | _ => False) := p
      have rr : σ'[i]? = some (some v) := rr
      split at p
      · rename_i t hs
        obtain ⟨w, hw, ok⟩ := E'.sl i _ hs
        rw [rr] at hw; cases hw
        exact k _ _ _ H' W' p E'.en E'.dom (fin E') ok
      · rename_i t hs
        obtain ⟨w, hw, a, e, h1, h2, h3⟩ := E'.sl i _ hs
        rw [rr] at hw; cases hw
        subst e
        have ff : Fz H' W' H' (wfree W' a) := fun b hb => by
          refine ⟨?_, rfl⟩
          unfold wfree
          rw [if_neg]
          · exact hb
          · rintro rfl; rw [h1] at hb; cases hb
        refine k _ _ _ H' (wfree W' a) p ⟨E'.en.fz.trans ff, fun b o hb e => ?_, E'.en.dm⟩ (fun b hb => ?_) ?_ ⟨a, rfl, h2, if_pos rfl, h3.st ff rfl⟩
        · obtain ⟨k1, k2⟩ := E'.en.fo b o hb e
          refine ⟨?_, k2⟩
          unfold wfree; split
          · rfl
          · exact k1
        · unfold wfree at hb
          split at hb
          · cases hb
          · exact E'.dom b hb
        · refine outs_free ff h1 (fun j t' hj => ?_) (fin E')
          rw [Nat.zero_add]
          rintro rfl
          obtain ⟨b, hb⟩ := ha.mu j t' hj
          obtain ⟨t2, ht2⟩ := E'.pin j b (pa_of hj hb)
          rw [hs] at ht2; cases ht2
      · exact p.elim
end Z

namespace Z
open PySem PySem.Spec PyProof.Rows L2
/-! ### calls -/
def lendT (Γ : G) : List Ar → Option (List A)
  | [] => some []
  | .fz t :: as => (lendT Γ as).map (.fz t :: ·)
  | .lend i :: as => match Γ[i]? with
    | some (some (.mu t)) => (lendT Γ as).map (.mu t :: ·)
    | some (some (.pm t)) => (lendT Γ as).map (.mu t :: ·)
    | _ => none
def lends : List Ar → List Nat
  | [] => []
  | .fz _ :: as => lends as
  | .lend i :: as => i :: lends as
def ndup : List Nat → Bool
  | [] => true
  | i :: l => !l.contains i && ndup l
def setC (Γ : G) (i : Nat) (o : Tr) : G := match Γ[i]? with
  | some (some (.mu _)) => Γ.set i (some (.mu o))
  | some (some (.pm _)) => Γ.set i (some (.pm o))
  | _ => Γ
def back : List Ar → List Tr → G → G
  | [], _, Γ => Γ
  | .fz _ :: as, outs, Γ => back as outs Γ
  | .lend i :: as, o :: outs, Γ => back as outs (setC Γ i o)
  | .lend _ :: as, [], Γ => back as [] Γ
def fCall (tp : TP) (dts : List Tr) (fA : G → (List Ar → G → Prop) → Prop) : G → (R → G → Prop) → Prop := fun Γ P =>
  fA Γ fun as Γ1 => ndup (lends as) = true ∧ U.optE (lendT Γ1 as) fun ss => tp (ss ++ dts.map A.fz) fun r outs => P r (back as outs Γ1)
/-- the parameter by which an address is lent -/
def lentIx : Nat → List Ar → List V → Addr → Option (Option Nat)
  | k, .lend _ :: as, .ref b :: vs, a => if a = b then some (some k) else lentIx (k + 1) as vs a
  | k, _ :: as, _ :: vs, a => lentIx (k + 1) as vs a
  | _, _, _, _ => none
def wcall (W : Wd) (k : Nat) (as : List Ar) (vs : List V) : Wd := fun a => if W a = some none then some none else lentIx k as vs a
section
variable {c : Ctx} {H H1 H2 H' : Hp} {W W1 W2 W' : Wd} {Γ Γ1 Γ' : G} {σ : L2.St} {v : V} {r : R}
theorem lent_some : ∀ {k : Nat} {as : List Ar} {vs : List V} {a : Addr} {o : Option Nat}, lentIx k as vs a = some o → ∃ (j i : Nat), o = some (k + j) ∧ as[j]? = some (.lend i) ∧ vs[j]? = some (.ref a)
  | k, [], vs, a, o, h => by cases vs <;> simp [lentIx] at h
  | k, .fz t :: as, [], a, o, h => by simp [lentIx] at h
  | k, .lend i :: as, [], a, o, h => by simp [lentIx] at h
  | k, .fz t :: as, v :: vs, a, o, h => by
    have h : lentIx (k + 1) as vs a = some o := by simpa [lentIx] using h
    obtain ⟨j, i, e1, e2, e3⟩ := lent_some h
    exact ⟨j + 1, i, by rw [e1]; congr 1; omega, by simpa using e2, by simpa using e3⟩
  | k, .lend i :: as, v :: vs, a, o, h => by
    by_cases hv : v = .ref a
    · subst hv
      have h : (if a = a then some (some k) else lentIx (k + 1) as vs a) = some o := h
      rw [if_pos rfl] at h
      cases h
      exact ⟨0, i, rfl, rfl, rfl⟩
    · have h : lentIx (k + 1) as vs a = some o := by
        cases v with
        | ref b =>
          have h : (if a = b then some (some k) else lentIx (k + 1) as vs a) = some o := h
          rw [if_neg (fun e => hv (by rw [e]))] at h
          exact h
        | _ => exact h
      obtain ⟨j, i', e1, e2, e3⟩ := lent_some h
      exact ⟨j + 1, i', by rw [e1]; congr 1; omega, by simpa using e2, by simpa using e3⟩
theorem mem_lends : ∀ {as : List Ar} {j i : Nat}, as[j]? = some (.lend i) → i ∈ lends as
  | [], j, i, h => by simp at h
  | .fz t :: as, 0, i, h => by simp at h
  | .fz t :: as, j + 1, i, h => mem_lends (as := as) (j := j) (by simpa using h)
  | .lend i' :: as, 0, i, h => by simp at h; subst h; exact List.mem_cons_self
  | .lend i' :: as, j + 1, i, h => List.mem_cons_of_mem _ (mem_lends (as := as) (j := j) (by simpa using h))
theorem slot_ad {i : Nat} (E : Env c H W Γ σ) (hv : σ[i]? = some (some v)) {t : Tr} (hs : Γ[i]? = some (some (.mu t)) ∨ Γ[i]? = some (some (.pm t))) : ∃ a, v = .ref a ∧ W a = some (some i) ∧ Nd c.K W H t a := by
  rcases hs with hs | hs
  · obtain ⟨w, hw, a, e, h1, h2, h3⟩ := E.sl i _ hs
    rw [hv] at hw; cases hw
    exact ⟨a, e, h1, h3⟩
  · obtain ⟨w, hw, a, e, h1, h2, h3⟩ := E.sl i _ hs
    rw [hv] at hw; cases hw
    exact ⟨a, e, h1, h3⟩
theorem fz_call {k : Nat} {as : List Ar} {vs : List V} : Fz H W H (wcall W k as vs) := fun a h => ⟨if_pos h, rfl⟩
theorem Args.app {K : PySem.W.Frag} {W : Wd} {H : Hp} : ∀ {k : Nat} {ss : List A} {vs : List V} {dts : List Tr} {dvs : List V}, Args K W H k ss vs → Rps K W H dts dvs → Args K W H k (ss ++ dts.map A.fz) (vs ++ dvs)
  | k, [], vs, [], dvs, h, hd => by rw [Args] at h; subst h; rw [rps_nil] at hd; subst hd; rw [List.map_nil, List.append_nil, Args, List.append_nil]
  | k, [], vs, t :: dts, dvs, h, hd => by
    rw [Args] at h; subst h
    rw [rps_cons] at hd
    obtain ⟨v, r, rfl, h1, h2⟩ := hd
    rw [List.map_cons, List.nil_append, Args]
    refine ⟨v, r, rfl, h1, ?_⟩
    have := Args.app (k := k + 1) (ss := []) (vs := []) (by rw [Args]) h2
    simpa using this
  | k, .fz t :: ss, vs, dts, dvs, h, hd => by
    rw [Args] at h; obtain ⟨v, r, rfl, h1, h⟩ := h
    rw [List.cons_append, Args]
    exact ⟨v, r ++ dvs, rfl, h1, Args.app h hd⟩
  | k, .mu t :: ss, vs, dts, dvs, h, hd => by
    rw [Args] at h; obtain ⟨v, r, rfl, h1, h2, h⟩ := h
    rw [List.cons_append, Args]
    exact ⟨v, r ++ dvs, rfl, h1, h2, Args.app h hd⟩
/-- the arguments as the callee finds them -/
theorem call_args (E : Env c H W Γ σ) {as0 : List Ar} {vs0 : List V} : ∀ {k : Nat} {as : List Ar} {vs : List V} {ss : List A}, Paired (fun a v => AR c H W σ v a) as vs → lendT Γ as = some ss →
    (∀ j i a, as[j]? = some (.lend i) → vs[j]? = some (.ref a) → wcall W 0 as0 vs0 a = some (some (k + j))) → Args c.K (wcall W 0 as0 vs0) H k ss vs
  | k, [], _, ss, .nil, e, _ => by cases e; rw [Args]
  | k, .fz t :: as, v :: vs, ss, .cons h p, e, hw => by
    have e : (lendT Γ as).map (A.fz t :: ·) = some ss := e
    cases e1 : lendT Γ as with
    | none => rw [e1] at e; cases e
    | some s1 =>
      rw [e1] at e; cases e
      rw [Args]
      exact ⟨v, vs, rfl, Rp.st fz_call t v h, call_args E p e1 fun j i a h1 h2 => by rw [hw (j + 1) i a (by simpa using h1) (by simpa using h2)]; congr 2; omega⟩
  | k, .lend i :: as, v :: vs, ss, .cons h p, e, hw => by
    have e : (match Γ[i]? with
      | some (some (.mu t)) => (lendT Γ as).map (A.mu t :: ·)
      | some (some (.pm t)) => (lendT Γ as).map (A.mu t :: ·)
      | _ => none) = some ss := e
    have key : ∀ t, (Γ[i]? = some (some (.mu t)) ∨ Γ[i]? = some (some (.pm t))) → (lendT Γ as).map (A.mu t :: ·) = some ss → Args c.K (wcall W 0 as0 vs0) H k ss (v :: vs) := fun t hs e => by
      cases e1 : lendT Γ as with
      | none => rw [e1] at e; cases e
      | some s1 =>
        rw [e1] at e; cases e
        obtain ⟨a, rfl, h1, h2⟩ := slot_ad E h hs
        rw [Args]
        refine ⟨a, vs, rfl, by rw [hw 0 i a rfl rfl]; rfl, h2.st fz_call rfl, call_args E p e1 fun j i a h1 h2 => by rw [hw (j + 1) i a (by simpa using h1) (by simpa using h2)]; congr 2; omega⟩
    split at e
    · rename_i t hs; exact key t (.inl hs) e
    · rename_i t hs; exact key t (.inr hs) e
    · cases e
theorem ndup_tail {i : Nat} {l : List Nat} (h : ndup (i :: l) = true) : i ∉ l ∧ ndup l = true := by
  have h : (!l.contains i && ndup l) = true := h
  rw [Bool.and_eq_true] at h
  refine ⟨fun z => ?_, h.2⟩
  have h1 := h.1
  rw [List.contains_iff_mem.mpr z] at h1
  cases h1
/-- a lent address is lent once -/
theorem lent_at (E : Env c H W Γ σ) : ∀ {k : Nat} {as : List Ar} {vs : List V}, Paired (fun a v => AR c H W σ v a) as vs → ndup (lends as) = true → (∃ ss, lendT Γ as = some ss) →
    ∀ j i a, as[j]? = some (.lend i) → vs[j]? = some (.ref a) → lentIx k as vs a = some (some (k + j)) ∧ W a = some (some i)
  | k, [], _, .nil, _, _, j, i, a, h, _ => by simp at h
  | k, .fz t :: as, v :: vs, .cons h p, nd, ⟨ss, e⟩, j, i, a, h1, h2 => by
    have e : (lendT Γ as).map (A.fz t :: ·) = some ss := e
    cases j with
    | zero => simp at h1
    | succ j =>
      obtain ⟨q1, q2⟩ := lent_at (k := k + 1) E p nd (by cases e1 : lendT Γ as with | none => rw [e1] at e; cases e | some s => exact ⟨s, rfl⟩) j i a (by simpa using h1) (by simpa using h2)
      refine ⟨?_, q2⟩
      have : lentIx k (.fz t :: as) (v :: vs) a = lentIx (k + 1) as vs a := rfl
      rw [this, q1]; congr 2; omega
  | k, .lend i' :: as, v :: vs, .cons h p, nd, ⟨ss, e⟩, j, i, a, h1, h2 => by
    have e : (match Γ[i']? with
      | some (some (.mu t)) => (lendT Γ as).map (A.mu t :: ·)
      | some (some (.pm t)) => (lendT Γ as).map (A.mu t :: ·)
      | _ => none) = some ss := e
    have e2 : (∃ t, Γ[i']? = some (some (.mu t)) ∨ Γ[i']? = some (some (.pm t))) ∧ ∃ s, lendT Γ as = some s := by
      split at e
      · rename_i t hs
        exact ⟨⟨t, .inl hs⟩, by cases e1 : lendT Γ as with | none => rw [e1] at e; cases e | some s => exact ⟨s, rfl⟩⟩
      · rename_i t hs
        exact ⟨⟨t, .inr hs⟩, by cases e1 : lendT Γ as with | none => rw [e1] at e; cases e | some s => exact ⟨s, rfl⟩⟩
      · cases e
    obtain ⟨⟨t, hs⟩, e3⟩ := e2
    obtain ⟨b, rfl, hb, _⟩ := slot_ad E h hs
    obtain ⟨n1, n2⟩ := ndup_tail nd
    cases j with
    | zero =>
      simp at h1 h2
      subst h1 h2
      refine ⟨?_, hb⟩
      show (if b = b then some (some k) else _) = _
      rw [if_pos rfl]; rfl
    | succ j =>
      obtain ⟨q1, q2⟩ := lent_at (k := k + 1) E p n2 e3 j i a (by simpa using h1) (by simpa using h2)
      refine ⟨?_, q2⟩
      show (if a = b then some (some k) else lentIx (k + 1) as vs a) = _
      rw [if_neg, q1]
      · congr 2; omega
      · rintro rfl
        rw [hb] at q2; cases q2
        exact n1 (mem_lends (by simpa using h1))
theorem setC_len {i : Nat} {o : Tr} : (setC Γ i o).length = Γ.length := by unfold setC; split <;> simp
theorem back_len : ∀ {as : List Ar} {outs : List Tr} {Γ : G}, (back as outs Γ).length = Γ.length
  | [], outs, Γ => rfl
  | .fz t :: as, outs, Γ => back_len (as := as)
  | .lend i :: as, o :: outs, Γ => by rw [back, back_len, setC_len]
  | .lend i :: as, [], Γ => back_len (as := as)
theorem setC_pin {i j : Nat} {o : Tr} (h : ∃ t, Γ[j]? = some (some (.pm t))) : ∃ t, (setC Γ i o)[j]? = some (some (.pm t)) := by
  obtain ⟨t, ht⟩ := h
  by_cases e : j = i
  · subst e
    refine ⟨o, ?_⟩
    unfold setC
    rw [ht]
    show (Γ.set j (some (.pm o)))[j]? = _
    rw [List.getElem?_set_self (List.getElem?_eq_some_iff.mp ht).1]
  · refine ⟨t, ?_⟩
    unfold setC
    split
    · rw [List.getElem?_set_ne (Ne.symm e)]; exact ht
    · rw [List.getElem?_set_ne (Ne.symm e)]; exact ht
    · exact ht
theorem back_pin {j : Nat} : ∀ {as : List Ar} {outs : List Tr} {Γ : G}, (∃ t, Γ[j]? = some (some (.pm t))) → ∃ t, (back as outs Γ)[j]? = some (some (.pm t))
  | [], outs, Γ, h => h
  | .fz t :: as, outs, Γ, h => back_pin (as := as) h
  | .lend i :: as, o :: outs, Γ, h => by rw [back]; exact back_pin (setC_pin h)
  | .lend i :: as, [], Γ, h => back_pin (as := as) h
/-- the slots behind a call -/
theorem back_sl {Wc : Wd} (E : Env c H W Γ σ) (ff : Fz H' Wc H' W') (hlent : ∀ a i k, W a = some (some i) → Wc a = some (some k) → W' a = W a) :
    ∀ {k : Nat} {as : List Ar} {vs : List V} {ss : List A} {dts : List Tr} {dvs : List V} {outs : List Tr} {Γ1 : G}, Paired (fun a v => AR c H W σ v a) as vs → lendT Γ as = some ss → Outs c.K Wc H' k (ss ++ dts.map A.fz) (vs ++ dvs) outs → ndup (lends as) = true →
    (∀ i, i ∈ lends as → Γ1[i]? = Γ[i]?) → (∀ i, i ∉ lends as → ∀ s, Γ1[i]? = some (some s) → ∃ v, σ[i]? = some (some v) ∧ SlotOk c H' W' i v s) →
    ∀ i s, (back as outs Γ1)[i]? = some (some s) → ∃ v, σ[i]? = some (some v) ∧ SlotOk c H' W' i v s
  | k, [], _, ss, dts, dvs, outs, Γ1, .nil, e, ho, nd, h1, h2, i, s, hs => h2 i (by simp [lends]) s hs
  | k, .fz t :: as, v :: vs, ss, dts, dvs, outs, Γ1, .cons h p, e, ho, nd, h1, h2, i, s, hs => by
    have e : (lendT Γ as).map (A.fz t :: ·) = some ss := e
    cases e1 : lendT Γ as with
    | none => rw [e1] at e; cases e
    | some s1 =>
      rw [e1] at e; cases e
      rw [List.cons_append, List.cons_append, Outs] at ho
      obtain ⟨w, r, er, ho⟩ := ho
      cases er
      exact back_sl E ff hlent p e1 ho nd h1 h2 i s hs
  | k, .lend i' :: as, v :: vs, ss, dts, dvs, outs, Γ1, .cons h p, e, ho, nd, h1, h2, i, s, hs => by
    have e : (match Γ[i']? with
      | some (some (.mu t)) => (lendT Γ as).map (A.mu t :: ·)
      | some (some (.pm t)) => (lendT Γ as).map (A.mu t :: ·)
      | _ => none) = some ss := e
    obtain ⟨n1, n2⟩ := ndup_tail nd
    have key : ∀ t, (Γ[i']? = some (some (.mu t)) ∨ Γ[i']? = some (some (.pm t))) → (lendT Γ as).map (A.mu t :: ·) = some ss → ∃ v, σ[i]? = some (some v) ∧ SlotOk c H' W' i v s := fun t ht e => by
      cases e1 : lendT Γ as with
      | none => rw [e1] at e; cases e
      | some s1 =>
        rw [e1] at e; cases e
        rw [List.cons_append, List.cons_append, Outs] at ho
        obtain ⟨a, r, o, os, er, rfl, q1, q2, ho⟩ := ho
        cases er
        rw [back] at hs
        refine back_sl E ff hlent p e1 ho n2 (fun j hj => ?_) (fun j hj s' hs' => ?_) i s hs
        · have hne : j ≠ i' := by rintro rfl; exact n1 hj
          rw [← h1 j (List.mem_cons_of_mem _ hj)]
          unfold setC
          split
          · rw [List.getElem?_set_ne (Ne.symm hne)]
          · rw [List.getElem?_set_ne (Ne.symm hne)]
          · rfl
        · by_cases hji : j = i'
          · subst hji
            have hg := h1 j List.mem_cons_self
            obtain ⟨b, eb, hb, _⟩ := slot_ad E h ht
            cases eb
            have wb := hlent a j k hb q1
            refine ⟨.ref a, h, ?_⟩
            unfold setC at hs'
            rw [hg] at hs'
            rcases ht with ht | ht
            · rw [ht] at hs'
              have hs' : (Γ1.set j (some (.mu o)))[j]? = some (some s') := hs'
              rcases getset hs' with ⟨_, es⟩ | ⟨z, _⟩
              · cases es
                obtain ⟨w, hw, a', ea, k1, k2, k3⟩ := E.sl j _ ht
                have h : σ[j]? = some (some (.ref a)) := h
                rw [h] at hw; cases hw; cases ea
                exact ⟨a, rfl, wb.trans hb, k2, q2.st ff rfl⟩
              · exact (z rfl).elim
            · rw [ht] at hs'
              have hs' : (Γ1.set j (some (.pm o)))[j]? = some (some s') := hs'
              rcases getset hs' with ⟨_, es⟩ | ⟨z, _⟩
              · cases es
                obtain ⟨w, hw, a', ea, k1, k2, k3⟩ := E.sl j _ ht
                have h : σ[j]? = some (some (.ref a)) := h
                rw [h] at hw; cases hw; cases ea
                exact ⟨a, rfl, wb.trans hb, k2, q2.st ff rfl⟩
              · exact (z rfl).elim
          · refine h2 j (fun z => ?_) s' ?_
            · rcases List.mem_cons.mp z with z | z
              · exact hji z
              · exact hj z
            · unfold setC at hs'
              split at hs'
              · rw [List.getElem?_set_ne (Ne.symm hji)] at hs'; exact hs'
              · rw [List.getElem?_set_ne (Ne.symm hji)] at hs'; exact hs'
              · exact hs'
    split at e
    · rename_i t ht; exact key t (.inl ht) e
    · rename_i t ht; exact key t (.inr ht) e
    · cases e
def wback (W Wc' : Wd) : Wd := fun a => if Wc' a = some none then some none else W a
/-- a call: the arguments have come -/
theorem call_core' {n : Nat} {tp : TP} {as : List Ar} {vs dvs : List V} {dts : List Tr} {ss : List A} {P : R → List Tr → Prop} {Q : VK} {E' : XK} (E : Env c H W Γ σ) (hp : Paired (fun a v => AR c H W σ v a) as vs) (nd : ndup (lends as) = true) (hl : lendT Γ as = some ss)
    (hd : ∀ W H, Rps c.K W H dts dvs) (hn : as.length + dts.length = n) (q : tp (ss ++ dts.map A.fz) P)
    (k : ∀ r outs v H' W', P r outs → Env c H' W' (back as outs Γ) σ → Step H W H' W' → RR c H H' W' σ v r → Q v H') : spT c.K n tp (vs ++ dvs) H Q E' := by
  have ff0 : Fz H W H (wcall W 0 as vs) := fz_call
  have la := fun j i a h1 h2 => lent_at (k := 0) E hp nd ⟨ss, hl⟩ j i a h1 h2
  have wc : ∀ j i a, as[j]? = some (.lend i) → vs[j]? = some (.ref a) → wcall W 0 as vs a = some (some (0 + j)) := fun j i a h1 h2 => by
    obtain ⟨q1, q2⟩ := la j i a h1 h2
    unfold wcall
    rw [if_neg (by rw [q2]; intro z; cases z), q1]
  have wcn : ∀ a, wcall W 0 as vs a ≠ none → wcall W 0 as vs a ≠ some none → ∃ i, W a = some (some i) ∧ i ∈ lends as := fun a h1 h2 => by
    unfold wcall at h1 h2
    by_cases e : W a = some none
    · rw [if_pos e] at h2; exact (h2 rfl).elim
    · rw [if_neg e] at h1
      cases e1 : lentIx 0 as vs a with
      | none => exact (h1 e1).elim
      | some o =>
        obtain ⟨j, i, _, e2, e3⟩ := lent_some e1
        exact ⟨i, (la j i a e2 e3).2, mem_lends e2⟩
  refine ⟨?_, wcall W 0 as vs, ss ++ dts.map A.fz, _, fun a h => ?_, Args.app (call_args E hp hl fun j i a h1 h2 => wc j i a h1 h2) (hd _ _), q, ?_⟩
  · rw [List.length_append, ← hp.length, (hd W H).len]; exact hn
  · unfold wcall at h
    split at h
    · rename_i e; exact E.dom a (by rw [e]; rfl)
    · rename_i e
      cases e1 : lentIx 0 as vs a with
      | none => rw [e1] at h; cases h
      | some o =>
        obtain ⟨j, i, _, e2, e3⟩ := lent_some e1
        exact E.dom a (by rw [(la j i a e2 e3).2]; rfl)
  · intro r outs v H' Wc' p s d ho hr
    have fb : Fz H' Wc' H' (wback W Wc') := fun a h => ⟨if_pos h, rfl⟩
    have st : Step H W H' (wback W Wc') := by
      refine ⟨fun a h => ?_, fun a o h e => ?_, s.dm⟩
      · obtain ⟨h1, e1⟩ := ff0 a h
        obtain ⟨h2, e2⟩ := s.fz a h1
        exact ⟨if_pos h2, e2⟩
      · have hw : wcall W 0 as vs a = none := by
          cases e1 : wcall W 0 as vs a with
          | none => rfl
          | some o' =>
            have e2 : wcall W 0 as vs a ≠ some none := fun z => by
              unfold wcall at z
              rw [if_neg (by rw [h]; intro z; cases z)] at z
              obtain ⟨j, i, z2, _⟩ := lent_some z
              cases z2
            obtain ⟨i, z, _⟩ := wcn a (by rw [e1]; intro z; cases z) e2
            rw [h] at z; cases z
        obtain ⟨h1, h2⟩ := s.fo a o hw e
        refine ⟨?_, h2⟩
        unfold wback
        rw [if_neg (by rw [h1]; intro z; cases z)]; exact h
    refine k r _ v H' (wback W Wc') p ⟨fun a h => ?_, by rw [back_len]; exact E.len, ?_, E.en.trans st, fun i a h => back_pin (E.pin i a h)⟩ st ?_
    · unfold wback at h
      split at h
      · rename_i e; exact d a (by rw [e]; rfl)
      · exact st.dm a (E.dom a h)
    · refine back_sl E fb (fun a i k h1 h2 => if_neg (by rw [h2]; intro z; cases z)) hp hl ho nd (fun _ _ => rfl) (fun i hi s' hs => ?_)
      obtain ⟨v, hv, ok⟩ := E.sl i s' hs
      refine ⟨v, hv, ok.st st.fz fun a ea h => ?_⟩
      have hw : wcall W 0 as vs a = none := by
        cases e1 : wcall W 0 as vs a with
        | none => rfl
        | some o' =>
          have e2 : wcall W 0 as vs a ≠ some none := fun z => by
            unfold wcall at z
            rw [if_neg (by rw [h]; intro z; cases z)] at z
            obtain ⟨j, i, z2, _⟩ := lent_some z
            cases z2
          obtain ⟨i2, z, z2⟩ := wcn a (by rw [e1]; intro z; cases z) e2
          rw [h] at z; cases z
          exact (hi z2).elim
      have hx := E.dom a (by rw [h]; rfl)
      cases e3 : H a with
      | none => rw [e3] at hx; cases hx
      | some o =>
        obtain ⟨k1, k2⟩ := s.fo a o hw e3
        refine ⟨k2.trans rfl, ?_⟩
        unfold wback
        rw [if_neg (by rw [k1]; intro z; cases z)]
    · cases r with
      | fz t => exact Rp.st fb t v hr
      | mu t =>
        obtain ⟨a, e, h1, h2, h3⟩ := hr
        refine ⟨a, e, h1, ?_, h3.st fb rfl⟩
        unfold wback
        rw [if_neg (by rw [h2]; intro z; cases z)]
        exact E.dom.none h1
      | bor i => exact hr.elim
theorem call_core {n : Nat} {tp : TP} {as : List Ar} {vs dvs : List V} {dts : List Tr} {ss : List A} {P : R → G → Prop} {Q : VK} {E' : XK} (E : Env c H W Γ σ) (hp : Paired (fun a v => AR c H W σ v a) as vs) (nd : ndup (lends as) = true) (hl : lendT Γ as = some ss)
    (hd : ∀ W H, Rps c.K W H dts dvs) (hn : as.length + dts.length = n) (q : tp (ss ++ dts.map A.fz) fun r outs => P r (back as outs Γ))
    (k : ∀ r Γ' v H' W', P r Γ' → Env c H' W' Γ' σ → Step H W H' W' → RR c H H' W' σ v r → Q v H') : spT c.K n tp (vs ++ dvs) H Q E' :=
  call_core' E hp nd hl hd hn q fun r outs v H' W' p E1 s1 rr => k r _ v H' W' p E1 s1 rr
theorem RR.early' {r : R} {v : V} (d : ∀ a, (H a).isSome = true → (H1 a).isSome = true) (h : RR c H1 H2 W2 σ v r) : RR c H H2 W2 σ v r := h.early d
theorem re_call {n m : Nat} {tp : TP} {dvs : List V} {dts : List Tr} {E' : XK} {tA : L2.TA} {fA : G → (List Ar → G → Prop) → Prop} (hA : RF c m tA fA) (hd : ∀ W H, Rps c.K W H dts dvs) (hn : m + dts.length = n) :
    RE c (tCall (spT c.K n tp) dvs E' tA) (fCall tp dts fA) := fun Γ σ H W P Q E p k => by
  refine hA Γ σ H W _ _ E p fun as Γ1 vs H1 W1 ⟨nd, ss, hl, q⟩ E1 s1 h1 hz => ?_
  exact call_core E1 h1 nd hl hd (by rw [hz]; exact hn) q fun r Γ' v H' W' p E' s' rr => k r Γ' v H' W' p E' (s1.trans s') (rr.early s1.dm)
/-- o.m(..), o an instance of C that all hold -/
def insIs (C : Addr) (m : Str) : Tr → Prop
  | .ins C' ns _ => C' = C ∧ ns.contains m = false
  | _ => False
def fMeth (C : Addr) (m : Str) (tp : TP) (dts : List Tr) (fo : G → (R → G → Prop) → Prop) (fA : G → (List Ar → G → Prop) → Prop) : G → (R → G → Prop) → Prop := fun Γ P =>
  fo Γ fun r Γ1 => frz r Γ1 fun t Γ2 => insIs C m t ∧ fA Γ2 fun as Γ3 => ndup (lends as) = true ∧ U.optE (lendT Γ3 as) fun ss => tp (A.fz t :: (ss ++ dts.map A.fz)) fun r outs => P r (back as outs Γ3)
theorem zip_none {ns : List Str} {m : Str} (h : ns.contains m = false) (vs : List V) : (ns.zip vs).lookup m = none := by
  rw [List.lookup_eq_none_iff]
  intro p hp
  have h1 := (List.of_mem_zip hp).1
  rw [bne_iff_ne]
  rintro rfl
  rw [List.contains_iff_mem.mpr h1] at h
  cases h
theorem re_meth {n m : Nat} {C : Addr} {mm : Str} {tp : TP} {dvs : List V} {dts : List Tr} {E' : XK} {to : L2.TE} {fo : G → (R → G → Prop) → Prop} {tA : L2.TA} {fA : G → (List Ar → G → Prop) → Prop} (ho : RE c to fo) (hA : RF c m tA fA)
    (hd : ∀ W H, Rps c.K W H dts dvs) (hn : m + 1 + dts.length = n) : RE c (tMeth C mm (spT c.K n tp) dvs E' to tA) (fMeth C mm tp dts fo fA) := fun Γ σ H W P Q E p k => by
  refine ho Γ σ H W _ _ E p fun r Γ1 v1 H1 W1 p1 E1 s1 h1 => ?_
  obtain ⟨t, Γ2, W2, ⟨q0, q⟩, E2, s2, h2⟩ := frz_ok E1 s1 h1 p1 E.dm
  cases t with
  | ins C' ns ts =>
    obtain ⟨rfl, hc⟩ := q0
    have h2' := h2
    rw [rp_ins] at h2
    obtain ⟨a, dx, vs, rfl, wa, ha, _, _⟩ := h2
    refine ⟨a, dx, _, rfl, ha, zip_none hc vs, ?_⟩
    refine hA Γ2 σ H1 W2 _ _ E2 q fun as Γ3 vs H3 W3 ⟨nd, ss, hl, q⟩ E3 s3 h3 hz => ?_
    have := call_core (n := n) (tp := tp) (as := .fz (.ins C' ns ts) :: as) (vs := .ref a :: vs) (dvs := dvs) (dts := dts) (ss := .fz (.ins C' ns ts) :: ss) (P := P) (Q := Q) (E' := E') E3 (.cons (Rp.st s3.fz _ _ h2') h3) nd
      (by show (lendT Γ3 as).map _ = _; rw [hl]; rfl) hd (by rw [List.length_cons, hz]; exact hn) q fun r Γ' v H' W' p E' s' rr => k r Γ' v H' W' p E' (s2.trans (s3.trans s')) (rr.early fun a z => s3.dm a (s1.dm a z))
    exact this
  | _ => exact q0.elim
end
end Z

namespace Z
open PySem PySem.Spec PyProof.Rows L2
abbrev FE := G → (R → G → Prop) → Prop
abbrev FT := G → (Bool → G → Prop) → Prop
/-! ### truth -/
def blT : Tr → Option Bool
  | .bl b => some b
  | _ => none
def conB (Γ : G) (r : R) : Option Bool := (con Γ r).bind blT
def trT : Tr → Option Bool
  | .non => some false
  | .bl b => some b
  | .int i => some (i != 0)
  | .str l => if l.length ≤ 16777216 then some (!l.isEmpty) else none
  | .lst ts => some (!ts.isEmpty)
  | .tup ts => some (!ts.isEmpty)
  | _ => none
def fTest (fa : FE) : FT := fun Γ P => fa Γ fun r Γ1 => U.optE (conB Γ1 r) fun b => P b Γ1
def fTr (fa : FE) : FT := fun Γ P => fa Γ fun r Γ1 => U.optE (con Γ1 r) fun t => U.optE (trT t) fun b => P b Γ1
def fAnd (t u : FT) : FT := fun Γ P => t Γ fun b Γ1 => if b = true then u Γ1 P else P false Γ1
def fOr (t u : FT) : FT := fun Γ P => t Γ fun b Γ1 => if b = true then P true Γ1 else u Γ1 P
def fNot (t : FT) : FT := fun Γ P => t Γ fun b Γ1 => P (!b) Γ1
def fAndV (fa fb : FE) : FE := fun Γ P => fa Γ fun r Γ1 => U.optE (conB Γ1 r) fun b => if b = true then fb Γ1 P else P (.fz (.bl false)) Γ1
def fOrV (fa fb : FE) : FE := fun Γ P => fa Γ fun r Γ1 => U.optE (conB Γ1 r) fun b => if b = true then P (.fz (.bl true)) Γ1 else fb Γ1 P
def fNotV (fa : FE) : FE := fun Γ P => fa Γ fun r Γ1 => U.optE (conB Γ1 r) fun b => P (.fz (.bl (!b))) Γ1
def fIf (t : FT) (fa fb : FE) : FE := fun Γ P => t Γ fun b Γ1 => if b = true then fa Γ1 P else fb Γ1 P
def fOrU (fa fb : FE) : FE := fun Γ P => fa Γ fun r Γ1 => U.optE (con Γ1 r) fun t => U.optE (trT t) fun b => if b = true then P r Γ1 else fb Γ1 P
def fAndU (fa fb : FE) : FE := fun Γ P => fa Γ fun r Γ1 => U.optE (con Γ1 r) fun t => U.optE (trT t) fun b => if b = true then fb Γ1 P else P r Γ1
def fChain (g g' : Tr → Tr → (R → Prop) → Prop) (fa fb fc : FE) : FE := fun Γ P => fa Γ fun r1 Γ1 => fb Γ1 fun r2 Γ2 => U.optE (con Γ2 r1) fun s => U.optE (con Γ2 r2) fun t => g s t fun z => U.optE (conB Γ2 z) fun b =>
  if b = true then fc Γ2 fun r3 Γ3 => U.optE (con Γ3 r2) fun t => U.optE (con Γ3 r3) fun u => g' t u fun rr => P rr Γ3 else P (.fz (.bl false)) Γ2
section
variable {c : Ctx} {H H1 H2 H' : Hp} {W W1 W2 W' : Wd} {Γ Γ1 Γ' : G} {σ : L2.St} {v : V} {r : R}
theorem RR.bl {b : Bool} (E : Env c H' W' Γ σ) (h : RR c H H' W' σ v r) (e : conB Γ r = some b) : v = .bl b := by
  unfold conB at e
  cases e1 : con Γ r with
  | none => rw [e1] at e; cases e
  | some t =>
    rw [e1] at e
    have e : blT t = some b := e
    have := h.rw E e1
    cases t <;> cases e
    exact this.bl
theorem Rw.tru {K : PySem.W.Frag} {t : Tr} {b : Bool} (h : Rw K W H t v) (e : trT t = some b) : U.truB H v = some b ∧ TruV K v H b := by
  have key : U.truB H v = some b := by
    cases t with
    | non => cases e; rw [h.non]; rfl
    | bl b => cases e; rw [h.bl]; rfl
    | int i => cases e; rw [h.int]; rfl
    | str l =>
      have e : (if l.length ≤ 16777216 then some (!l.isEmpty) else none) = some b := e
      split at e
      · rename_i hz
        cases e
        rw [h.str, U.b_str (by exact hz)]
      · cases e
    | lst ts =>
      cases e
      obtain ⟨a, vs, rfl, h1, h2⟩ := h.lst
      rw [U.b_lst h1]
      have := h2.len
      cases ts <;> cases vs <;> first | rfl | simp at this
    | tup ts =>
      cases e
      obtain ⟨a, vs, rfl, h1, h2⟩ := h.tup
      show (match H a with
        | some (.lst xs) => some (!xs.isEmpty)
        | some (.tup xs) => some (!xs.isEmpty)
        | _ => none) = _
      rw [h1]
      have := h2.len
      cases ts <;> cases vs <;> first | rfl | simp at this
    | _ => cases e
  exact ⟨key, U.truB_ok key⟩
variable {ta tb tc : L2.TE} {t1 t2 : L2.TT} {fa fb fc : FE} {ft fu : FT}
theorem rt_B (ha : RE c ta fa) : RT c (tB ta) (fTest fa) := fun Γ σ H W P Q E p k => by
  refine ha Γ σ H W _ _ E p fun r Γ1 v H1 W1 ⟨b, eb, q⟩ E1 s1 h1 => ?_
  exact ⟨b, h1.bl E1 eb, k b Γ1 H1 W1 q E1 s1⟩
theorem rt_test (ha : RE c ta fa) : RT c (tTest ta) (fTest fa) := fun Γ σ H W P Q E p k => by
  refine ha Γ σ H W _ _ E p fun r Γ1 v H1 W1 ⟨b, eb, q⟩ E1 s1 h1 => ?_
  exact ⟨b, h1.bl E1 eb, k b Γ1 H1 W1 q E1 s1⟩
theorem rt_tr (ha : RE c ta fa) : RT c (U.tTr ta) (fTr fa) := fun Γ σ H W P Q E p k => by
  refine ha Γ σ H W _ _ E p fun r Γ1 v H1 W1 ⟨t, et, b, eb, q⟩ E1 s1 h1 => ?_
  exact ⟨b, ((h1.rw E1 et).tru eb).1, k b Γ1 H1 W1 q E1 s1⟩
theorem rt_and (h1 : RT c t1 ft) (h2 : RT c t2 fu) : RT c (tAnd t1 t2) (fAnd ft fu) := fun Γ σ H W P Q E p k => by
  refine h1 Γ σ H W _ _ E p fun b Γ1 H1 W1 q E1 s1 => ?_
  cases b with
  | true => exact h2 Γ1 σ H1 W1 _ _ E1 q fun b Γ2 H2 W2 q E2 s2 => k b Γ2 H2 W2 q E2 (s1.trans s2)
  | false => exact k false Γ1 H1 W1 q E1 s1
theorem rt_or (h1 : RT c t1 ft) (h2 : RT c t2 fu) : RT c (tOr t1 t2) (fOr ft fu) := fun Γ σ H W P Q E p k => by
  refine h1 Γ σ H W _ _ E p fun b Γ1 H1 W1 q E1 s1 => ?_
  cases b with
  | true => exact k true Γ1 H1 W1 q E1 s1
  | false => exact h2 Γ1 σ H1 W1 _ _ E1 q fun b Γ2 H2 W2 q E2 s2 => k b Γ2 H2 W2 q E2 (s1.trans s2)
theorem rt_not (h1 : RT c t1 ft) : RT c (tNot t1) (fNot ft) := fun Γ σ H W P Q E p k =>
  h1 Γ σ H W _ _ E p fun b Γ1 H1 W1 q E1 s1 => k (!b) Γ1 H1 W1 q E1 s1
theorem rt_yes : RT c tYes (fun Γ P => P true Γ) := fun Γ σ H W P Q E p k => k true Γ H W p E .refl
theorem re_andV (ha : RE c ta fa) (hb : RE c tb fb) : RE c (tAndV ta tb) (fAndV fa fb) := fun Γ σ H W P Q E p k => by
  refine ha Γ σ H W _ _ E p fun r Γ1 v H1 W1 ⟨b, eb, q⟩ E1 s1 h1 => ⟨b, h1.bl E1 eb, ?_⟩
  cases b with
  | true => exact hb Γ1 σ H1 W1 _ _ E1 q fun r Γ2 v H2 W2 q E2 s2 h2 => k r Γ2 v H2 W2 q E2 (s1.trans s2) (h2.early s1.dm)
  | false => exact k _ Γ1 _ H1 W1 q E1 s1 (by show Rp _ _ _ _ _; rw [rp_bl])
theorem re_orV (ha : RE c ta fa) (hb : RE c tb fb) : RE c (tOrV ta tb) (fOrV fa fb) := fun Γ σ H W P Q E p k => by
  refine ha Γ σ H W _ _ E p fun r Γ1 v H1 W1 ⟨b, eb, q⟩ E1 s1 h1 => ⟨b, h1.bl E1 eb, ?_⟩
  cases b with
  | true => exact k _ Γ1 _ H1 W1 q E1 s1 (by show Rp _ _ _ _ _; rw [rp_bl])
  | false => exact hb Γ1 σ H1 W1 _ _ E1 q fun r Γ2 v H2 W2 q E2 s2 h2 => k r Γ2 v H2 W2 q E2 (s1.trans s2) (h2.early s1.dm)
theorem re_notV (ha : RE c ta fa) : RE c (tNotV ta) (fNotV fa) := fun Γ σ H W P Q E p k => by
  refine ha Γ σ H W _ _ E p fun r Γ1 v H1 W1 ⟨b, eb, q⟩ E1 s1 h1 => ⟨b, h1.bl E1 eb, ?_⟩
  exact k _ Γ1 _ H1 W1 q E1 s1 (by show Rp _ _ _ _ _; rw [rp_bl])
theorem re_if (h1 : RT c t1 ft) (ha : RE c ta fa) (hb : RE c tb fb) : RE c (tIf t1 ta tb) (fIf ft fa fb) := fun Γ σ H W P Q E p k => by
  refine h1 Γ σ H W _ _ E p fun b Γ1 H1 W1 q E1 s1 => ?_
  cases b with
  | true => exact ha Γ1 σ H1 W1 _ _ E1 q fun r Γ2 v H2 W2 q E2 s2 h2 => k r Γ2 v H2 W2 q E2 (s1.trans s2) (h2.early s1.dm)
  | false => exact hb Γ1 σ H1 W1 _ _ E1 q fun r Γ2 v H2 W2 q E2 s2 h2 => k r Γ2 v H2 W2 q E2 (s1.trans s2) (h2.early s1.dm)
theorem re_orU (ha : RE c ta fa) (hb : RE c tb fb) : RE c (U.tOrU ta tb) (fOrU fa fb) := fun Γ σ H W P Q E p k => by
  refine ha Γ σ H W _ _ E p fun r Γ1 v H1 W1 ⟨t, et, b, eb, q⟩ E1 s1 h1 => ⟨b, ((h1.rw E1 et).tru eb).1, ?_⟩
  cases b with
  | true => exact k _ Γ1 _ H1 W1 q E1 s1 h1
  | false => exact hb Γ1 σ H1 W1 _ _ E1 q fun r Γ2 v H2 W2 q E2 s2 h2 => k r Γ2 v H2 W2 q E2 (s1.trans s2) (h2.early s1.dm)
theorem re_orT (ha : RE c ta fa) (hb : RE c tb fb) : RE c (tOrT c.K ta tb) (fOrU fa fb) := fun Γ σ H W P Q E p k => by
  refine ha Γ σ H W _ _ E p fun r Γ1 v H1 W1 ⟨t, et, b, eb, q⟩ E1 s1 h1 => ⟨b, ((h1.rw E1 et).tru eb).2, ?_⟩
  cases b with
  | true => exact k _ Γ1 _ H1 W1 q E1 s1 h1
  | false => exact hb Γ1 σ H1 W1 _ _ E1 q fun r Γ2 v H2 W2 q E2 s2 h2 => k r Γ2 v H2 W2 q E2 (s1.trans s2) (h2.early s1.dm)
theorem re_andT (ha : RE c ta fa) (hb : RE c tb fb) : RE c (tAndT c.K ta tb) (fAndU fa fb) := fun Γ σ H W P Q E p k => by
  refine ha Γ σ H W _ _ E p fun r Γ1 v H1 W1 ⟨t, et, b, eb, q⟩ E1 s1 h1 => ⟨b, ((h1.rw E1 et).tru eb).2, ?_⟩
  cases b with
  | true => exact hb Γ1 σ H1 W1 _ _ E1 q fun r Γ2 v H2 W2 q E2 s2 h2 => k r Γ2 v H2 W2 q E2 (s1.trans s2) (h2.early s1.dm)
  | false => exact k _ Γ1 _ H1 W1 q E1 s1 h1
theorem re_chain {r r' : R2} {g g' : Tr → Tr → (R → Prop) → Prop} (ho : OpT c.K r g) (ho' : OpT c.K r' g') (ha : RE c ta fa) (hb : RE c tb fb) (hc : RE c tc fc) : RE c (tChain r r' ta tb tc) (fChain g g' fa fb fc) := fun Γ σ H W P Q E p k => by
  refine ha Γ σ H W _ _ E p fun r1 Γ1 v1 H1 W1 p1 E1 s1 h1 => ?_
  refine hb Γ1 σ H1 W1 _ _ E1 p1 fun r2 Γ2 v2 H2 W2 ⟨s, es, t, et, q⟩ E2 s2 h2 => ?_
  refine ho H2 W2 v1 v2 s t _ _ E2.dom ((h1.st s2).rw E2 es) (h2.rw E2 et) q fun rr v H' ⟨b, eb, pr⟩ gr hr => ?_
  have E3 := E2.grow gr
  have s3 := s2.trans (gr.step E2.dom)
  have h3 := h2.st (gr.step E2.dom)
  have hb2 : RR c H2 H' W2 σ v rr := out_rr E2.dom (fun _ z => z) hr
  refine ⟨b, hb2.bl E3 eb, ?_⟩
  cases b with
  | true =>
    refine hc Γ2 σ H' W2 _ _ E3 pr fun r3 Γ3 v3 H3 W3 ⟨t', et', u, eu, q'⟩ E4 s4 h4 => ?_
    refine ho' H3 W3 v2 v3 t' u _ _ E4.dom ((h3.st s4).rw E4 et') (h4.rw E4 eu) q' fun rr v H5 pr gr' hr => ?_
    exact k rr Γ3 v H5 W3 pr (E4.grow gr') (((s1.trans s3).trans s4).trans (gr'.step E4.dom)) (out_rr E4.dom (fun a z => s4.dm a (s3.dm a (s1.dm a z))) hr)
  | false => exact k _ Γ2 _ H' W2 pr E3 (s1.trans s3) (by show Rp _ _ _ _ _; rw [rp_bl])
/-! ### displays, fields, cuts -/
end
def fzs : List Ar → Option (List Tr)
  | [] => some []
  | .fz t :: as => (fzs as).map (t :: ·)
  | .lend _ :: _ => none
def fTup (fA : G → (List Ar → G → Prop) → Prop) : FE := fun Γ P => fA Γ fun as Γ1 => U.optE (fzs as) fun ts => ts.length ≤ 16777216 ∧ P (.fz (.tup ts)) Γ1
def fLst (fA : G → (List Ar → G → Prop) → Prop) : FE := fun Γ P => fA Γ fun as Γ1 => U.optE (fzs as) fun ts => ts.length ≤ 16777216 ∧ P (.mu (.lst ts)) Γ1
def fldT (K : PySem.W.Frag) (f : Str) : Tr → (Tr → Prop) → Prop
  | .ins C ns ts, k => Cls K C ∧ NoAttr K C f ∧ U.optE ((ns.zip ts).lookup f) k
  | _, _ => False
def fFld (K : PySem.W.Frag) (f : Str) (fa : FE) : FE := fun Γ P => fa Γ fun r Γ1 => U.optE (con Γ1 r) fun t => fldT K f t fun u => P (.fz u) Γ1
abbrev FO := G → (Option Int → G → Prop) → Prop
def RO (c : Ctx) (tl : TO) (f : FO) : Prop := ∀ (Γ : G) (σ : L2.St) (H : Hp) (W : Wd) (P : Option Int → G → Prop) (Q : Option Int → Hp → Prop), Env c H W Γ σ → f Γ P →
  (∀ o Γ' H' W', P o Γ' → Env c H' W' Γ' σ → Step H W H' W' → Q o H') → tl σ H Q
def intT : Tr → Option Int
  | .int i => some i
  | _ => none
def fNoPart : FO := fun Γ P => P none Γ
def fPart (fa : FE) : FO := fun Γ P => fa Γ fun r Γ1 => U.optE ((con Γ1 r).bind intT) fun i => P (some i) Γ1
def fSl (g : Tr → Option Int → Option Int → (R → Prop) → Prop) (fa : FE) (fl fh : FO) : FE := fun Γ P => fa Γ fun r Γ1 => fl Γ1 fun lo Γ2 => fh Γ2 fun hi Γ3 => U.optE (con Γ3 r) fun t => g t lo hi fun rr => P rr Γ3
def SlT (K : PySem.W.Frag) (r : V → Option Int → Option Int → Hp → VK → Prop) (g : Tr → Option Int → Option Int → (R → Prop) → Prop) : Prop := ∀ (lo hi : Option Int), UnT K (fun x => r x lo hi) (fun t => g t lo hi)
section
variable {c : Ctx} {H H1 H2 H' : Hp} {W W1 W2 W' : Wd} {Γ Γ1 Γ' : G} {σ : L2.St} {v : V} {r : R} {ta tb : L2.TE} {fa fb : FE} {tA : L2.TA} {fA : G → (List Ar → G → Prop) → Prop} {tl th : TO} {fl fh : FO}
theorem fzs_rps : ∀ {as : List Ar} {vs : List V} {ts : List Tr}, Paired (fun a v => AR c H W σ v a) as vs → fzs as = some ts → Rps c.K W H ts vs
  | _, _, ts, .nil, e => by cases e; rw [rps_nil]
  | .fz t :: as, v :: vs, ts, .cons h p, e => by
    have e : (fzs as).map (t :: ·) = some ts := e
    cases e1 : fzs as with
    | none => rw [e1] at e; cases e
    | some us => rw [e1] at e; cases e; rw [rps_cons]; exact ⟨v, vs, rfl, h, fzs_rps p e1⟩
  | .lend i :: as, v :: vs, ts, .cons h p, e => by cases e
theorem Rps.grow {ts : List Tr} {vs : List V} (d : Dom H W) (g : Grow H H') (h : Rps c.K W H ts vs) : Rps c.K W H' ts vs := h.st (g.fz d)
theorem re_tup {m : Nat} (hA : RF c m tA fA) : RE c (tTup tA) (fTup fA) := fun Γ σ H W P Q E p k => by
  refine hA Γ σ H W _ _ E p fun as Γ1 vs H1 W1 ⟨ts, et, hz, q⟩ E1 s1 h1 _ => ?_
  have hr := fzs_rps h1 et
  refine ⟨by rw [hr.len, U.line]; exact hz, fun p hp => ?_⟩
  have g : Grow H1 (upd H1 p (.tup vs)) := Grow.new hp
  have hn := none_of s1.dm hp
  refine k _ Γ1 _ _ (wset W1 p none) q ((E1.grow g).give (by rw [upd_same]; rfl) (none_of E.dm hn) (E1.dom.none hp)) ((s1.trans (g.step E1.dom)).give hn) ?_
  show Rp _ _ _ _ _
  rw [rp_tup]
  exact ⟨p, vs, rfl, wset_same, upd_same, (hr.grow E1.dom g).st fz_wset⟩
theorem re_lst {m : Nat} (hA : RF c m tA fA) : RE c (tLst tA) (fLst fA) := fun Γ σ H W P Q E p k => by
  refine hA Γ σ H W _ _ E p fun as Γ1 vs H1 W1 ⟨ts, et, hz, q⟩ E1 s1 h1 _ => ?_
  have hr := fzs_rps h1 et
  refine ⟨by rw [hr.len, U.line]; exact hz, fun p hp => ?_⟩
  have g : Grow H1 (upd H1 p (.lst vs)) := Grow.new hp
  have hn := none_of s1.dm hp
  exact k _ Γ1 _ _ W1 q (E1.grow g) (s1.trans (g.step E1.dom)) ⟨p, rfl, hn, E1.dom.none hp, vs, upd_same, hr.grow E1.dom g⟩
theorem lookup_rp : ∀ {ns : List Str} {ts : List Tr} {vs : List V} {f : Str} {t : Tr}, Rps c.K W H ts vs → (ns.zip ts).lookup f = some t → ∃ v, (ns.zip vs).lookup f = some v ∧ Rp c.K W H t v
  | [], ts, vs, f, t, h, e => by simp at e
  | n :: ns, [], vs, f, t, h, e => by simp at e
  | n :: ns, u :: ts, vs, f, t, h, e => by
    rw [rps_cons] at h
    obtain ⟨v, r, rfl, h1, h2⟩ := h
    rw [List.zip_cons_cons, List.lookup_cons] at e ⊢
    cases hb : f == n with
    | true => rw [hb] at e; cases e; exact ⟨v, rfl, h1⟩
    | false => rw [hb] at e; exact lookup_rp h2 e
theorem re_fld {f : Str} {K : PySem.W.Frag} (ha : RE c ta fa) (hK : c.K = K := by rfl) : RE c (tFld K ta f) (fFld K f fa) := fun Γ σ H W P Q E p k => by
  subst hK
  refine ha Γ σ H W _ _ E p fun r Γ1 v H1 W1 ⟨t, et, q⟩ E1 s1 h1 => ?_
  have hw := h1.rw E1 et
  cases t with
  | ins C ns ts =>
    obtain ⟨q1, q2, u, eu, q3⟩ := q
    obtain ⟨a, dx, vs, rfl, ha, _, hr⟩ := hw.ins
    obtain ⟨w, hw, rp⟩ := lookup_rp hr eu
    exact ⟨a, C, dx, _, w, rfl, ha, q1, q2, hw, k _ Γ1 w H1 W1 q3 E1 s1 rp⟩
  | _ => exact q.elim
theorem ro_no : RO c tNoPart fNoPart := fun Γ σ H W P Q E p k => k none Γ H W p E .refl
theorem ro_part (ha : RE c ta fa) : RO c (tPart ta) (fPart fa) := fun Γ σ H W P Q E p k => by
  refine ha Γ σ H W _ _ E p fun r Γ1 v H1 W1 ⟨i, ei, q⟩ E1 s1 h1 => ?_
  cases et : con Γ1 r with
  | none => rw [et] at ei; cases ei
  | some t =>
    rw [et] at ei
    have hw := h1.rw E1 et
    cases t <;> cases ei
    exact ⟨i, hw.int, k _ Γ1 H1 W1 q E1 s1⟩
theorem re_sl {r : V → Option Int → Option Int → Hp → VK → Prop} {g : Tr → Option Int → Option Int → (R → Prop) → Prop} (ho : SlT c.K r g) (ha : RE c ta fa) (hl : RO c tl fl) (hh : RO c th fh) : RE c (tSl r ta tl th) (fSl g fa fl fh) := fun Γ σ H W P Q E p k => by
  refine ha Γ σ H W _ _ E p fun r1 Γ1 v1 H1 W1 p1 E1 s1 h1 => ?_
  refine hl Γ1 σ H1 W1 _ _ E1 p1 fun lo Γ2 H2 W2 p2 E2 s2 => ?_
  refine hh Γ2 σ H2 W2 _ _ E2 p2 fun hi Γ3 H3 W3 ⟨t, et, q⟩ E3 s3 => ?_
  refine ho lo hi H3 W3 v1 t _ Q E3.dom (((h1.st s2).st s3).rw E3 et) q fun rr v H' pr gr hr => ?_
  exact k rr Γ3 v H' W3 pr (E3.grow gr) (((s1.trans s2).trans s3).trans (gr.step E3.dom)) (out_rr E3.dom (fun a z => s3.dm a (s2.dm a (s1.dm a z))) hr)
end
end Z

namespace Z
open PySem PySem.Spec PyProof.Rows L2
abbrev FS := EndT → G → Prop
/-! ### targets -/
def pmB : Option (Option Sl) → Bool
  | some (some (.pm _)) => true
  | _ => false
abbrev FG := Tr → G → (G → Prop) → Prop
/-- a target; vs: the slots that it may store -/
def RG (c : Ctx) (g : TG) (vs : List Nat) (f : FG) : Prop := ∀ (Γ : G) (σ : L2.St) (H : Hp) (W : Wd) (v : V) (t : Tr) (P : G → Prop) (Q : L2.St → Hp → Prop), Env c H W Γ σ → Rp c.K W H t v → f t Γ P →
  (∀ Γ' σ' H' W', P Γ' → Env c H' W' Γ' σ' → Step H W H' W' ∨ Fz H W H' W' → (vs ≠ [] → Step H W H' W') → σ'.length = σ.length → (∀ j, j ∉ vs → σ'[j]? = σ[j]?) → Q σ' H') → g v σ H Q
def fgName (i : Nat) : FG := fun t Γ P => pmB Γ[i]? = false ∧ P (Γ.set i (some (.fz t)))
section
variable {c : Ctx} {H H1 H2 H' : Hp} {W W1 W2 W' : Wd} {Γ Γ1 Γ' : G} {σ : L2.St} {v : V} {r : R} {ta tb te : L2.TE} {fa fb fe : FE} {ft : FT} {tt : L2.TT}
theorem set_at {α : Type} {l : List α} {i : Nat} {x : α} (h : i < l.length) : (l.set i x)[i]? = some x := by rw [List.getElem?_set_self h]
theorem ge_set {i : Nat} {s : Option Sl} (h : Γ.length = σ.length) {x : Option V} : (Γ.set i s).length = (σ.set i x).length := by rw [List.length_set, List.length_set]; exact h
/-- a slot is stored: the new slot is borne -/
theorem Env.set {i : Nat} {s : Sl} (E : Env c H W Γ σ) (ok : SlotOk c H W i v s) (hp : pmB Γ[i]? = false) : Env c H W (Γ.set i (some s)) (σ.set i (some v)) where
  dom := E.dom
  len := by rw [List.length_set, List.length_set]; exact E.len
  sl := fun j s' hs => by
    rcases getset hs with ⟨rfl, e⟩ | ⟨e, hs⟩
    · cases e
      have hj : j < σ.length := by
        have := (List.getElem?_eq_some_iff.mp hs).1
        rw [List.length_set, E.len] at this; exact this
      exact ⟨v, set_at hj, ok⟩
    · obtain ⟨w, hw, ok'⟩ := E.sl j s' hs
      exact ⟨w, by rw [List.getElem?_set_ne (Ne.symm e)]; exact hw, ok'⟩
  en := E.en
  pin := fun j a h => by
    obtain ⟨t, ht⟩ := E.pin j a h
    refine ⟨t, ?_⟩
    rw [List.getElem?_set_ne]; exact ht
    rintro rfl; rw [ht] at hp; cases hp
theorem rg_name {i : Nat} : RG c (gName i) [i] (fgName i) := fun Γ σ H W v t P Q E rp p k => by
  obtain ⟨hp, p⟩ := p
  exact k _ _ H W p (E.set rp hp) (.inl .refl) (fun _ => .refl) (by simp) (fun j hj => by rw [List.getElem?_set_ne]; rintro rfl; exact hj (by simp))
/-- several targets -/
abbrev FGs := List Tr → G → (G → Prop) → Prop
def RGs (c : Ctx) (g : TGs) (vs : List Nat) (f : FGs) : Prop := ∀ (Γ : G) (σ : L2.St) (H : Hp) (W : Wd) (xs : List V) (ts : List Tr) (P : G → Prop) (Q : L2.St → Hp → Prop), Env c H W Γ σ → Rps c.K W H ts xs → f ts Γ P →
  (∀ Γ' σ' W', P Γ' → Env c H W' Γ' σ' → Step H W H W' → σ'.length = σ.length → (∀ j, j ∉ vs → σ'[j]? = σ[j]?) → Q σ' H) → g xs σ H Q
def fgNil : FGs := fun ts Γ P => ts = [] ∧ P Γ
def fgCons (i : Nat) (f : FGs) : FGs := fun ts Γ P => match ts with
  | t :: ts => pmB Γ[i]? = false ∧ f ts (Γ.set i (some (.fz t))) P
  | [] => False
theorem rgs_nil : RGs c gNil [] fgNil := fun Γ σ H W xs ts P Q E rp p k => by
  obtain ⟨e, p⟩ := p
  subst e
  rw [rps_nil] at rp
  exact ⟨rp, k _ _ W p E .refl rfl fun _ _ => rfl⟩
theorem rgs_cons {i : Nat} {u : TGs} {vs : List Nat} {f : FGs} (h : RGs c u vs f) : RGs c (gCons (gName i) u) (i :: vs) (fgCons i f) := fun Γ σ H W xs ts P Q E rp p k => by
  cases ts with
  | nil => exact p.elim
  | cons t ts =>
    obtain ⟨hp, p⟩ := p
    rw [rps_cons] at rp
    obtain ⟨v, r, rfl, h1, h2⟩ := rp
    refine ⟨v, r, rfl, ?_⟩
    refine h _ _ H W r ts _ _ (E.set (s := .fz t) h1 hp) h2 p fun Γ' σ' W' p E' s hl hj => ?_
    exact k Γ' σ' W' p E' s (by rw [hl]; simp) fun j hn => by
      rw [hj j (fun z => hn (List.mem_cons_of_mem _ z)), List.getElem?_set_ne]
      rintro rfl; exact hn List.mem_cons_self
def fgTup (n : Nat) (f : FGs) : FG := fun t Γ P => match t with
  | .tup ts => ts.length = n ∧ f ts Γ P
  | _ => False
theorem rg_tup {n : Nat} {u : TGs} {vs : List Nat} {f : FGs} (h : RGs c u vs f) : RG c (gTup c.K n u) vs (fgTup n f) := fun Γ σ H W v t P Q E rp p k => by
  cases t with
  | tup ts =>
    obtain ⟨hn, p⟩ := p
    rw [rp_tup] at rp
    obtain ⟨a, xs, rfl, wa, ha, hr⟩ := rp
    refine ⟨a, xs, rfl, SqT.of ha, by rw [hr.len]; exact hn, ?_⟩
    exact h Γ σ H W xs ts _ _ E hr p fun Γ' σ' W' p E' s hl hj => k Γ' σ' H W' p E' (.inl s) (fun _ => s) hl hj
  | _ => exact p.elim
/-- xs[i] = v, xs a list of one's own -/
def lstAt (Γ : G) (i : Nat) : Option (List Tr) := match Γ[i]? with
  | some (some (.mu (.lst ts))) => some ts
  | some (some (.pm (.lst ts))) => some ts
  | _ => none
theorem Env.write {i : Nat} {t o : Tr} {ho : HO} (E : Env c H W Γ σ) (hv : σ[i]? = some (some v)) (hs : Γ[i]? = some (some (.mu t)) ∨ Γ[i]? = some (some (.pm t))) (new : ∀ a, v = .ref a → Nd c.K W (upd H a ho) o a) :
    ∃ a, v = .ref a ∧ W a = some (some i) ∧ Env c (upd H a ho) W (setC Γ i o) σ ∧ Fz H W (upd H a ho) W := by
  obtain ⟨a, rfl, wa, nd⟩ := slot_ad E hv hs
  have ne : ∀ b, W b = some none → b ≠ a := fun b h z => by subst z; rw [wa] at h; cases h
  have ff : Fz H W (upd H a ho) W := fun b h => ⟨h, upd_ne (ne b h)⟩
  have a0 : c.H0 a = none ∨ c.W0 a ≠ none := by
    cases e : c.H0 a with
    | none => exact .inl rfl
    | some u =>
      right
      intro z
      have := (E.en.fo a u z e).1
      rw [wa] at this; cases this
  have dm : ∀ b, (H b).isSome = true → (upd H a ho b).isSome = true := fun b h => by
    by_cases e : b = a
    · subst e; rw [upd_same]; rfl
    · rw [upd_ne e]; exact h
  refine ⟨a, rfl, wa, ⟨fun b h => dm b (E.dom b h), by rw [setC_len]; exact E.len, fun j s hj => ?_, ⟨E.en.fz.trans ff, fun b u h e => ?_, fun b h => dm b (E.en.dm b h)⟩, fun j b h => setC_pin (E.pin j b h)⟩, ff⟩
  · by_cases hji : j = i
    · subst hji
      unfold setC at hj
      rcases hs with hs | hs
      · rw [hs] at hj
        have hj : (Γ.set j (some (.mu o)))[j]? = some (some s) := hj
        rcases getset hj with ⟨_, es⟩ | ⟨z, _⟩
        · cases es
          obtain ⟨w, hw, a', ea, k1, k2, k3⟩ := E.sl j _ hs
          rw [hv] at hw; cases hw; cases ea
          exact ⟨_, hv, a, rfl, k1, k2, new a rfl⟩
        · exact (z rfl).elim
      · rw [hs] at hj
        have hj : (Γ.set j (some (.pm o)))[j]? = some (some s) := hj
        rcases getset hj with ⟨_, es⟩ | ⟨z, _⟩
        · cases es
          obtain ⟨w, hw, a', ea, k1, k2, k3⟩ := E.sl j _ hs
          rw [hv] at hw; cases hw; cases ea
          exact ⟨_, hv, a, rfl, k1, k2, new a rfl⟩
        · exact (z rfl).elim
    · have hj : Γ[j]? = some (some s) := by
        unfold setC at hj
        split at hj
        · rw [List.getElem?_set_ne (Ne.symm hji)] at hj; exact hj
        · rw [List.getElem?_set_ne (Ne.symm hji)] at hj; exact hj
        · exact hj
      obtain ⟨w, hw, ok⟩ := E.sl j s hj
      refine ⟨w, hw, ok.st ff fun b eb hb => ⟨upd_ne ?_, rfl⟩⟩
      rintro rfl; rw [wa] at hb; cases hb; exact hji rfl
  · obtain ⟨k1, k2⟩ := E.en.fo b u h e
    refine ⟨k1, ?_⟩
    rw [upd_ne]; exact k2
    rintro rfl; rw [wa] at k1; cases k1
theorem lstAt_of {i : Nat} {ts : List Tr} (h : lstAt Γ i = some ts) : Γ[i]? = some (some (.mu (.lst ts))) ∨ Γ[i]? = some (some (.pm (.lst ts))) := by
  unfold lstAt at h
  split at h
  · cases h; exact .inl ‹_›
  · cases h; exact .inr ‹_›
  · cases h
theorem own_lst {i : Nat} {ts : List Tr} (E : Env c H W Γ σ) (hv : σ[i]? = some (some v)) (h : lstAt Γ i = some ts) : ∃ a vs, v = .ref a ∧ H a = some (.lst vs) ∧ Rps c.K W H ts vs := by
  obtain ⟨a, e, _, vs, h1, h2⟩ := slot_ad E hv (lstAt_of h)
  exact ⟨a, vs, e, h1, h2⟩
def fgSub (j : Nat) (fi : FE) : FG := fun t Γ P => (lstAt Γ j).isSome = true ∧ fi Γ fun r Γ1 => U.optE ((con Γ1 r).bind intT) fun i => U.optE (lstAt Γ1 j) fun ts => U.optE (ixN ts.length i) fun k => P (setC Γ1 j (.lst (ts.set k t)))
theorem RR.int {i : Int} (E : Env c H' W' Γ σ) (h : RR c H H' W' σ v r) (e : (con Γ r).bind intT = some i) : v = .int i := by
  cases e1 : con Γ r with
  | none => rw [e1] at e; cases e
  | some t =>
    rw [e1] at e
    have e : intT t = some i := e
    have := h.rw E e1
    cases t <;> cases e
    exact this.int
theorem Env.at {i : Nat} {s : Sl} (E : Env c H W Γ σ) (h : Γ[i]? = some (some s)) : ∃ v, σ[i]? = some (some v) := by
  obtain ⟨v, hv, _⟩ := E.sl i s h
  exact ⟨v, hv⟩
theorem Env.atL {i : Nat} {ts : List Tr} (E : Env c H W Γ σ) (h : lstAt Γ i = some ts) : ∃ v, σ[i]? = some (some v) := by
  rcases lstAt_of h with h | h
  · exact E.at h
  · exact E.at h
theorem Env.atS {i : Nat} (E : Env c H W Γ σ) (h : (lstAt Γ i).isSome = true) : ∃ v, σ[i]? = some (some v) := by
  cases e : lstAt Γ i with
  | none => rw [e] at h; cases h
  | some ts => exact E.atL e
theorem rg_sub {j : Nat} (hi : RE c ta fa) : RG c (gSub (tVar j) ta U.rSet) [] (fgSub j fa) := fun Γ σ H W v t P Q E rp p k => by
  obtain ⟨h0, p⟩ := p
  obtain ⟨o, ho⟩ := E.atS h0
  refine ⟨o, ho, ?_⟩
  refine hi Γ σ H W _ _ E p fun r Γ1 x H1 W1 ⟨i, ei, ts, et, n, en, q⟩ E1 s1 h1 => ?_
  have ex := h1.int E1 ei
  subst ex
  obtain ⟨a, vs, rfl, ha, hr⟩ := own_lst E1 ho et
  have rp1 := Rp.st s1.fz t v rp
  have nw : ∀ b, V.ref a = .ref b → Nd c.K W1 (upd H1 b (.lst (vs.set n v))) (.lst (ts.set n t)) b := fun b e => by
    cases e
    obtain ⟨_, e0, wa, _⟩ := slot_ad E1 ho (lstAt_of et)
    cases e0
    have ff : Fz H1 W1 (upd H1 a (.lst (vs.set n v))) W1 := fun b h => ⟨h, upd_ne (by rintro rfl; rw [wa] at h; cases h)⟩
    exact ⟨_, upd_same, (hr.st ff).set n (Rp.st ff t v rp1)⟩
  obtain ⟨b, e, _, E2, ff⟩ := E1.write (ho := .lst (vs.set n v)) (o := .lst (ts.set n t)) ho (lstAt_of et) nw
  cases e
  refine ⟨vs, ha, n, by rw [hr.len]; exact en, k _ σ _ W1 q E2 (.inr (s1.fz.trans ff)) (fun z => (z rfl).elim) rfl fun _ _ => rfl⟩
/-! ### statements -/
def fNext : FS := fun D Γ => D.nx Γ
def fSeq (f g : FS) : FS := fun D Γ => f { D with nx := fun Γ1 => g D Γ1 } Γ
def fBreak : FS := fun D Γ => D.bk Γ
def fCont : FS := fun D Γ => D.ct Γ
def fDrop (fa : FE) : FS := fun D Γ => fa Γ fun _ Γ1 => D.nx Γ1
def fRet (fa : FE) : FS := fun D Γ => fa Γ D.rt
def fRetN : FS := fun D Γ => D.rt (.fz .non) Γ
def fIfS (ft : FT) (f g : FS) : FS := fun D Γ => ft Γ fun b Γ1 => if b = true then f D Γ1 else g D Γ1
def fNever : FS := fun _ _ => False
/-- x = e -/
def fSet (i : Nat) (fa : FE) : FS := fun D Γ => fa Γ fun r Γ1 => match r with
  | .fz t => pmB Γ1[i]? = false ∧ D.nx (Γ1.set i (some (.fz t)))
  | .mu t => pmB Γ1[i]? = false ∧ D.nx (Γ1.set i (some (.mu t)))
  | .bor j => frz (.bor j) Γ1 fun t Γ2 => pmB Γ2[i]? = false ∧ D.nx (Γ2.set i (some (.fz t)))
def fAsg (fa : FE) (fg : FG) : FS := fun D Γ => fa Γ fun r Γ1 => frz r Γ1 fun t Γ2 => fg t Γ2 D.nx
theorem rs_next : RS c tNext fNext := fun Γ σ H W D D' E p k1 k2 k3 k4 => k1 Γ σ H W p E .refl
theorem rs_break : RS c tBreak fBreak := fun Γ σ H W D D' E p k1 k2 k3 k4 => k3 Γ σ H W p E .refl
theorem rs_cont : RS c tCont fCont := fun Γ σ H W D D' E p k1 k2 k3 k4 => k4 Γ σ H W p E .refl
theorem rs_never : RS c tNever fNever := fun Γ σ H W D D' E p k1 k2 k3 k4 => p
theorem rs_seq {t u : L2.TS} {f g : FS} (h1 : RS c t f) (h2 : RS c u g) : RS c (tSeq t u) (fSeq f g) := fun Γ σ H W D D' E p k1 k2 k3 k4 => by
  refine h1 Γ σ H W _ _ E p (fun Γ1 σ1 H1 W1 q E1 f1 => ?_) (fun r Γ1 v σ1 H1 W1 q E1 f1 rr => k2 r Γ1 v σ1 H1 W1 q E1 f1 rr) (fun Γ1 σ1 H1 W1 q E1 f1 => k3 Γ1 σ1 H1 W1 q E1 f1) (fun Γ1 σ1 H1 W1 q E1 f1 => k4 Γ1 σ1 H1 W1 q E1 f1)
  exact h2 Γ1 σ1 H1 W1 D D' E1 q (fun Γ2 σ2 H2 W2 q E2 f2 => k1 Γ2 σ2 H2 W2 q E2 (f1.trans f2)) (fun r Γ2 v σ2 H2 W2 q E2 f2 rr => k2 r Γ2 v σ2 H2 W2 q E2 (f1.trans f2) rr) (fun Γ2 σ2 H2 W2 q E2 f2 => k3 Γ2 σ2 H2 W2 q E2 (f1.trans f2)) (fun Γ2 σ2 H2 W2 q E2 f2 => k4 Γ2 σ2 H2 W2 q E2 (f1.trans f2))
theorem rs_drop (ha : RE c ta fa) : RS c (tDrop ta) (fDrop fa) := fun Γ σ H W D D' E p k1 k2 k3 k4 =>
  ha Γ σ H W _ _ E p fun r Γ1 v H1 W1 q E1 s1 h1 => k1 Γ1 σ H1 W1 q E1 s1.fz
theorem rs_ret (ha : RE c ta fa) : RS c (tRet ta) (fRet fa) := fun Γ σ H W D D' E p k1 k2 k3 k4 =>
  ha Γ σ H W _ _ E p fun r Γ1 v H1 W1 q E1 s1 h1 => k2 r Γ1 v σ H1 W1 q E1 s1.fz (h1.early E.dm)
theorem rs_retN : RS c tRetN fRetN := fun Γ σ H W D D' E p k1 k2 k3 k4 => k2 _ Γ _ σ H W p E .refl (by show Rp _ _ _ _ _; rw [rp_non])
theorem rs_if {t u : L2.TS} {f g : FS} (h0 : RT c tt ft) (h1 : RS c t f) (h2 : RS c u g) : RS c (tIfS tt t u) (fIfS ft f g) := fun Γ σ H W D D' E p k1 k2 k3 k4 => by
  refine h0 Γ σ H W _ _ E p fun b Γ1 H1 W1 q E1 s1 => ?_
  have go : ∀ {w : L2.TS} {h : FS}, RS c w h → h D Γ1 → w D' σ H1 := fun hw q =>
    hw Γ1 σ H1 W1 D D' E1 q (fun Γ2 σ2 H2 W2 q E2 f2 => k1 Γ2 σ2 H2 W2 q E2 (s1.fz.trans f2)) (fun r Γ2 v σ2 H2 W2 q E2 f2 rr => k2 r Γ2 v σ2 H2 W2 q E2 (s1.fz.trans f2) rr) (fun Γ2 σ2 H2 W2 q E2 f2 => k3 Γ2 σ2 H2 W2 q E2 (s1.fz.trans f2)) (fun Γ2 σ2 H2 W2 q E2 f2 => k4 Γ2 σ2 H2 W2 q E2 (s1.fz.trans f2))
  cases b with
  | true => exact go h1 q
  | false => exact go h2 q
/-- a temporary comes to stand in a slot -/
theorem Env.own {i : Nat} {t : Tr} {a : Addr} (E : Env c H W Γ σ) (h0 : c.H0 a = none) (wa : W a = none) (nd : Nd c.K W H t a) (hp : pmB Γ[i]? = false) : Env c H (wset W a (some i)) (Γ.set i (some (.mu t))) (σ.set i (some (.ref a))) ∧ Fz H W H (wset W a (some i)) := by
  have ff : Fz H W H (wset W a (some i)) := fun b h => by
    refine ⟨?_, rfl⟩
    rw [wset_ne]
    · exact h
    · rintro rfl; rw [wa] at h; cases h
  have E' : Env c H (wset W a (some i)) Γ σ := by
    refine ⟨fun b h => ?_, E.len, fun j s hs => ?_, ⟨E.en.fz.trans ff, fun b o h e => ?_, E.en.dm⟩, E.pin⟩
    · by_cases e : b = a
      · subst e; exact nd.is
      · rw [wset_ne e] at h; exact E.dom b h
    · obtain ⟨v, hv, ok⟩ := E.sl j s hs
      refine ⟨v, hv, ok.st ff fun b eb hb => ⟨rfl, wset_ne ?_⟩⟩
      rintro rfl; rw [wa] at hb; cases hb
    · obtain ⟨h1, h2⟩ := E.en.fo b o h e
      refine ⟨?_, h2⟩
      rw [wset_ne]; exact h1
      rintro rfl; rw [h0] at e; cases e
  exact ⟨E'.set ⟨a, rfl, wset_same, h0, nd.st ff rfl⟩ hp, ff⟩
theorem rs_set {i : Nat} (ha : RE c ta fa) : RS c (tAsg ta (gName i)) (fSet i fa) := fun Γ σ H W D D' E p k1 k2 k3 k4 => by
  refine ha Γ σ H W _ _ E p fun r Γ1 v H1 W1 q E1 s1 h1 => ?_
  cases r with
  | fz t => exact k1 _ _ H1 W1 q.2 (E1.set h1 q.1) s1.fz
  | mu t =>
    obtain ⟨a, rfl, h2, h3, h4⟩ := h1
    obtain ⟨E2, ff⟩ := E1.own (none_of E.dm h2) h3 h4 q.1
    exact k1 _ _ H1 _ q.2 E2 (s1.fz.trans ff)
  | bor j =>
    obtain ⟨t, Γ2, W2, q, E2, s2, h2⟩ := frz_ok E1 s1 h1 q E.dm
    exact k1 _ _ H1 W2 q.2 (E2.set h2 q.1) s2.fz
theorem rs_asg {g : TG} {vs : List Nat} {fg : FG} (ha : RE c ta fa) (hg : RG c g vs fg) : RS c (tAsg ta g) (fAsg fa fg) := fun Γ σ H W D D' E p k1 k2 k3 k4 => by
  refine ha Γ σ H W _ _ E p fun r Γ1 v H1 W1 q E1 s1 h1 => ?_
  obtain ⟨t, Γ2, W2, q, E2, s2, h2⟩ := frz_ok E1 s1 h1 q E.dm
  refine hg Γ2 σ H1 W2 v t _ _ E2 h2 q fun Γ' σ' H' W' p E' s' _ _ _ => k1 Γ' σ' H' W' p E' ?_
  rcases s' with s' | s'
  · exact s2.fz.trans s'.fz
  · exact s2.fz.trans s'
/-- x op= e -/
def IpT (K : PySem.W.Frag) (ti : TIp) (g : Tr → Tr → (R → Prop) → Prop) : Prop := OpT K ti g
def fAug (i : Nat) (fa : FE) (g : Tr → Tr → (R → Prop) → Prop) : FS := fun D Γ => match Γ[i]? with
  | some (some (.fz s)) => fa Γ fun r Γ1 => U.optE (con Γ1 r) fun t => g s t fun rr => match rr with
    | .fz u => pmB Γ1[i]? = false ∧ D.nx (Γ1.set i (some (.fz u)))
    | _ => False
  | _ => False
theorem rs_aug {i : Nat} {ti : TIp} {g : Tr → Tr → (R → Prop) → Prop} (ha : RE c ta fa) (hg : OpT c.K ti g) : RS c (tAug i ta ti) (fAug i fa g) := fun Γ σ H W D D' E p k1 k2 k3 k4 => by
  unfold fAug at p
  split at p
  · rename_i s hs
    obtain ⟨x, hx, ok⟩ := E.sl i _ hs
    refine ⟨x, hx, ?_⟩
    refine ha Γ σ H W _ _ E p fun r Γ1 v H1 W1 ⟨t, et, q⟩ E1 s1 h1 => ?_
    refine hg H1 W1 x v s t _ _ E1.dom (.inl (Rp.st s1.fz s x ok)) (h1.rw E1 et) q fun rr z H' pr gr hr => ?_
    cases rr with
    | fz u => exact k1 _ _ H' W1 pr.2 ((E1.grow gr).set hr pr.1) (s1.fz.trans (gr.fz E1.dom))
    | _ => exact pr.elim
  · exact p.elim
/-- a, b = x, y -/
def fPar (i j : Nat) (fA : G → (List Ar → G → Prop) → Prop) : FS := fun D Γ => fA Γ fun as Γ1 => match as with
  | [.fz s, .fz t] => pmB Γ1[i]? = false ∧ pmB (Γ1.set i (some (.fz s)))[j]? = false ∧ D.nx ((Γ1.set i (some (.fz s))).set j (some (.fz t)))
  | _ => False
theorem rs_par {i j m : Nat} {tA : L2.TA} {fA : G → (List Ar → G → Prop) → Prop} (hA : RF c m tA fA) : RS c (tPar i j tA) (fPar i j fA) := fun Γ σ H W D D' E p k1 k2 k3 k4 => by
  refine hA Γ σ H W _ _ E p fun as Γ1 vs H1 W1 q E1 s1 h1 _ => ?_
  match as, vs, h1, q with
  | [.fz s, .fz t], [x, y], .cons hx (.cons hy .nil), q => exact ⟨x, y, rfl, k1 _ _ H1 W1 q.2.2 ((E1.set (s := .fz s) hx q.1).set (s := .fz t) hy q.2.1) s1.fz⟩
/-- xs[i] op= e -/
def fAugS (j : Nat) (fi fa : FE) (g : Tr → Tr → (R → Prop) → Prop) : FS := fun D Γ => (lstAt Γ j).isSome = true ∧ fi Γ fun r Γ1 => U.optE ((con Γ1 r).bind intT) fun i => U.optE (lstAt Γ1 j) fun ts => 0 ≤ i ∧ U.optE ts[i.toNat]? fun s =>
  fa Γ1 fun r2 Γ2 => U.optE (con Γ2 r2) fun t => g s t fun rr => match rr with
    | .fz u => U.optE (lstAt Γ2 j) fun ts => U.optE (ixN ts.length i) fun k => D.nx (setC Γ2 j (.lst (ts.set k u)))
    | _ => False
theorem rs_augS {j : Nat} {ti : TIp} {g : Tr → Tr → (R → Prop) → Prop} (hi : RE c ta fa) (hb : RE c tb fb) (hg : OpT c.K ti g) : RS c (tAugS (tVar j) ta tb U.rGet ti U.rSet) (fAugS j fa fb g) := fun Γ σ H W D D' E p k1 k2 k3 k4 => by
  obtain ⟨h0, p⟩ := p
  obtain ⟨o, ho⟩ := E.atS h0
  refine ⟨o, ho, ?_⟩
  refine hi Γ σ H W _ _ E p fun r Γ1 x H1 W1 ⟨i, ei, ts, et, i0, s, es, q⟩ E1 s1 h1 => ?_
  have ex := h1.int E1 ei
  subst ex
  obtain ⟨a, vs, rfl, ha, hr⟩ := own_lst E1 ho et
  obtain ⟨w, hw, rw_⟩ := hr.get es
  refine ⟨vs, ha, i0, w, hw, ?_⟩
  refine hb Γ1 σ H1 W1 _ _ E1 q fun r2 Γ2 v2 H2 W2 ⟨t, et2, q⟩ E2 s2 h2 => ?_
  refine hg H2 W2 w v2 s t _ _ E2.dom (.inl (Rp.st s2.fz s w rw_)) (h2.rw E2 et2) q fun rr z H3 pr gr hz => ?_
  cases rr with
  | fz u =>
    obtain ⟨ts2, et3, n, en, q⟩ := pr
    have E3 := E2.grow gr
    obtain ⟨b, ws, e, hb2, hr2⟩ := own_lst E3 ho et3
    cases e
    have nw : ∀ b, V.ref a = .ref b → Nd c.K W2 (upd H3 b (.lst (ws.set n z))) (.lst (ts2.set n u)) b := fun b e => by
      cases e
      obtain ⟨_, e0, wa, _⟩ := slot_ad E3 ho (lstAt_of et3)
      cases e0
      have ff : Fz H3 W2 (upd H3 a (.lst (ws.set n z))) W2 := fun b h => ⟨h, upd_ne (by rintro rfl; rw [wa] at h; cases h)⟩
      exact ⟨_, upd_same, (hr2.st ff).set n (Rp.st ff u z hz)⟩
    obtain ⟨b, e, _, E4, ff⟩ := E3.write (ho := .lst (ws.set n z)) (o := .lst (ts2.set n u)) ho (lstAt_of et3) nw
    cases e
    exact ⟨ws, hb2, n, by rw [hr2.len]; exact en, k1 _ σ _ W2 q E4 (((s1.fz.trans s2.fz).trans (gr.fz E2.dom)).trans ff)⟩
  | _ => exact pr.elim
/-- xs.append(e), xs.extend(..): methods that change a list of one's own -/
def fAppend (j : Nat) (fa : FE) : FE := fun Γ P => (lstAt Γ j).isSome = true ∧ fa Γ fun r Γ1 => frz r Γ1 fun t Γ2 => U.optE (lstAt Γ2 j) fun ts => ts.length < 16777216 ∧ P (.fz .non) (setC Γ2 j (.lst (ts ++ [t])))
/-- what changes a list of one's own: no step of an expression, but of a statement -/
def fDropA (j : Nat) (fa : FE) : FS := fun D Γ => fAppend j fa Γ fun _ Γ1 => D.nx Γ1
theorem rs_append {j : Nat} (ha : RE c ta fa) : RS c (tDrop (U.tBL U.rAppend (tVar j) (tCons ta tNil))) (fDropA j fa) := fun Γ σ H W D D' E p k1 k2 k3 k4 => by
  obtain ⟨h0, p⟩ := p
  obtain ⟨o, ho⟩ := E.atS h0
  refine ⟨o, ho, ?_⟩
  cases e0 : lstAt Γ j with
  | none => rw [e0] at h0; cases h0
  | some ts0 =>
  obtain ⟨a, vs0, rfl, ha0, _⟩ := own_lst E ho e0
  refine ⟨⟨vs0, ha0⟩, ?_⟩
  refine ha Γ σ H W _ _ E p fun r Γ1 x H1 W1 q E1 s1 h1 => ?_
  obtain ⟨t, Γ2, W2, ⟨ts, et, hz, q⟩, E2, s2, h2⟩ := frz_ok E1 s1 h1 q E.dm
  obtain ⟨b, vs, e, ha, hr⟩ := own_lst E2 ho et
  cases e
  have nw : ∀ b, V.ref a = .ref b → Nd c.K W2 (upd H1 b (.lst (vs ++ [x]))) (.lst (ts ++ [t])) b := fun b e => by
    cases e
    obtain ⟨_, e0, wa, _⟩ := slot_ad E2 ho (lstAt_of et)
    cases e0
    have ff : Fz H1 W2 (upd H1 a (.lst (vs ++ [x]))) W2 := fun b h => ⟨h, upd_ne (by rintro rfl; rw [wa] at h; cases h)⟩
    exact ⟨_, upd_same, (hr.st ff).append (by rw [rps_cons]; exact ⟨x, [], rfl, Rp.st ff t x h2, by rw [rps_nil]⟩)⟩
  obtain ⟨b, e, _, E3, ff⟩ := E2.write (ho := .lst (vs ++ [x])) (o := .lst (ts ++ [t])) ho (lstAt_of et) nw
  cases e
  exact ⟨vs, ha, by rw [hr.len]; exact hz, k1 _ σ _ W2 q E3 (s2.fz.trans ff)⟩
def seqT : Tr → Option (List Tr)
  | .lst ts => some ts
  | .tup ts => some ts
  | _ => none
def fDropE (j : Nat) (fa : FE) : FS := fun D Γ => (lstAt Γ j).isSome = true ∧ fa Γ fun r Γ1 => U.optE ((con Γ1 r).bind seqT) fun us => U.optE (lstAt Γ1 j) fun ts => ts.length + us.length ≤ 16777216 ∧ D.nx (setC Γ1 j (.lst (ts ++ us)))
theorem RR.seq {us : List Tr} (E : Env c H' W' Γ σ) (h : RR c H H' W' σ v r) (e : (con Γ r).bind seqT = some us) : ∃ a vs, v = .ref a ∧ (H' a = some (.lst vs) ∨ H' a = some (.tup vs)) ∧ Rps c.K W' H' us vs := by
  cases e1 : con Γ r with
  | none => rw [e1] at e; cases e
  | some t =>
    rw [e1] at e
    have e : seqT t = some us := e
    have hw := h.rw E e1
    cases t <;> cases e
    · obtain ⟨a, vs, e, h1, h2⟩ := hw.lst; exact ⟨a, vs, e, .inl h1, h2⟩
    · obtain ⟨a, vs, e, h1, h2⟩ := hw.tup; exact ⟨a, vs, e, .inr h1, h2⟩
theorem rs_extend {j : Nat} (ha : RE c ta fa) : RS c (tDrop (U.tBL U.rExtend (tVar j) (tCons ta tNil))) (fDropE j fa) := fun Γ σ H W D D' E p k1 k2 k3 k4 => by
  obtain ⟨h0, p⟩ := p
  obtain ⟨o, ho⟩ := E.atS h0
  refine ⟨o, ho, ?_⟩
  cases e0 : lstAt Γ j with
  | none => rw [e0] at h0; cases h0
  | some ts0 =>
  obtain ⟨a, vs0, rfl, ha0, _⟩ := own_lst E ho e0
  refine ⟨⟨vs0, ha0⟩, ?_⟩
  refine ha Γ σ H W _ _ E p fun r Γ1 x H1 W1 ⟨us, eu, ts, et, hz, q⟩ E1 s1 h1 => ?_
  obtain ⟨b, ws, rfl, hb, hu⟩ := h1.seq E1 eu
  obtain ⟨b', vs, e, ha, hr⟩ := own_lst E1 ho et
  cases e
  have nw : ∀ b, V.ref a = .ref b → Nd c.K W1 (upd H1 b (.lst (vs ++ ws))) (.lst (ts ++ us)) b := fun b e => by
    cases e
    obtain ⟨_, e0, wa, _⟩ := slot_ad E1 ho (lstAt_of et)
    cases e0
    have ff : Fz H1 W1 (upd H1 a (.lst (vs ++ ws))) W1 := fun b h => ⟨h, upd_ne (by rintro rfl; rw [wa] at h; cases h)⟩
    exact ⟨_, upd_same, (hr.st ff).append (hu.st ff)⟩
  obtain ⟨b'', e, _, E3, ff⟩ := E1.write (ho := .lst (vs ++ ws)) (o := .lst (ts ++ us)) ho (lstAt_of et) nw
  cases e
  exact ⟨vs, ws, ha, hb, by rw [hr.len, hu.len]; exact hz, k1 _ σ _ W1 q E3 (s1.fz.trans ff)⟩
/-! ### while -/
def fWhile (ft : FT) (f : FS) : FS := fun D Γ => ∃ inv : Nat → G → Prop, (∃ m, inv m Γ) ∧ ∀ m Γ, inv m Γ → ft Γ fun b Γ1 => if b = true then f { D with nx := fun Γ2 => ∃ m', m' < m ∧ inv m' Γ2, ct := fun Γ2 => ∃ m', m' < m ∧ inv m' Γ2, bk := D.nx } Γ1 else D.nx Γ1
theorem rs_while {t : L2.TS} {f : FS} (h0 : RT c tt ft) (h1 : RS c t f) : RS c (tWhile tt t) (fWhile ft f) := fun Γ σ H W D D' E p k1 k2 k3 k4 => by
  obtain ⟨inv, ⟨m0, i0⟩, st⟩ := p
  refine ⟨fun m σ' H' => ∃ Γ' W', inv m Γ' ∧ Env c H' W' Γ' σ' ∧ Fz H W H' W', ⟨m0, Γ, W, i0, E, .refl⟩, ?_⟩
  rintro m σ1 H1 ⟨Γ1, W1, i1, E1, f1⟩
  refine h0 Γ1 σ1 H1 W1 _ _ E1 (st m Γ1 i1) fun b Γ2 H2 W2 q E2 s2 => ?_
  have f2 := f1.trans s2.fz
  cases b with
  | true =>
    rw [if_pos rfl] at q ⊢
    refine ⟨fun σ' H' => ∃ m', m' < m ∧ ∃ Γ' W', inv m' Γ' ∧ Env c H' W' Γ' σ' ∧ Fz H W H' W', fun σ' H' z => z, ?_⟩
    exact h1 Γ2 σ1 H2 W2 _ _ E2 q (fun Γ3 σ3 H3 W3 ⟨m', hm, i3⟩ E3 f3 => ⟨m', hm, Γ3, W3, i3, E3, f2.trans f3⟩) (fun r Γ3 v σ3 H3 W3 q E3 f3 rr => k2 r Γ3 v σ3 H3 W3 q E3 (f2.trans f3) rr)
      (fun Γ3 σ3 H3 W3 q E3 f3 => k1 Γ3 σ3 H3 W3 q E3 (f2.trans f3)) (fun Γ3 σ3 H3 W3 ⟨m', hm, i3⟩ E3 f3 => ⟨m', hm, Γ3, W3, i3, E3, f2.trans f3⟩)
  | false =>
    rw [if_neg Bool.false_ne_true] at q ⊢
    exact k1 Γ2 σ1 H2 W2 q E2 f2
end
end Z

namespace Z
open PySem PySem.Spec PyProof.Rows L2
/-! ### what loops walk -/
def NewT (H : Hp) (W : Wd) (H' : Hp) (W' : Wd) : Prop := (H' = H ∧ W' = W) ∨ ∃ p o, H p = none ∧ H' = upd H p o ∧ W' = wset W p none
def ItOk (c : Ctx) (J : It) (ts : List Tr) (H1 : Hp) (W1 : Wd) : Prop := ∃ (Gd : Hp → Prop) (Y : Nat → Hp → V → Hp → Prop), Walk J ts.length Gd Y ∧ (∀ H W, Fz H1 W1 H W → Gd H) ∧
  ∀ i H W x H', i < ts.length → Fz H1 W1 H W → Dom H W → Y i H x H' → ∃ t W', ts[i]? = some t ∧ Rp c.K W' H' t x ∧ NewT H W H' W'
abbrev FI := G → (List Tr → G → Prop) → Prop
def RI (c : Ctx) (wi : TI) (f : FI) : Prop := ∀ (Γ : G) (σ : L2.St) (H : Hp) (W : Wd) (P : List Tr → G → Prop) (R' : It → Hp → Prop), Env c H W Γ σ → f Γ P →
  (∀ ts Γ' J H' W', P ts Γ' → Env c H' W' Γ' σ → Step H W H' W' → ItOk c J ts H' W' → R' J H') → wi σ H R'
section
variable {c : Ctx} {H H1 H2 H' : Hp} {W W1 W2 W' : Wd} {Γ Γ1 Γ' : G} {σ : L2.St} {v : V} {r : R} {ta tb te : L2.TE} {fa fb fe : FE} {ft : FT} {tt : L2.TT}
theorem NewT.env (h : NewT H W H' W') (E : Env c H W Γ σ) : Env c H' W' Γ σ ∧ Step H W H' W' := by
  rcases h with ⟨rfl, rfl⟩ | ⟨p, o, hp, rfl, rfl⟩
  · exact ⟨E, .refl⟩
  · have g : Grow H (upd H p o) := Grow.new hp
    exact ⟨(E.grow g).give (by rw [upd_same]; rfl) (none_of E.dm hp) (E.dom.none hp), (g.step E.dom).give hp⟩
/-! ### for -/
def fFor (fi : FI) (fg : FG) (f : FS) : FS := fun D Γ => fi Γ fun ts Γ1 => ∃ inv : Nat → G → Prop, inv 0 Γ1 ∧
  (∀ i t Γ, ts[i]? = some t → inv i Γ → fg t Γ fun Γ2 => f { D with nx := inv (i + 1), ct := inv (i + 1), bk := D.nx } Γ2) ∧ ∀ Γ, inv ts.length Γ → D.nx Γ
theorem rs_for {wi : TI} {fi : FI} {g : TG} {vs : List Nat} {fg : FG} {t : L2.TS} {f : FS} (hi : RI c wi fi) (hg : RG c g vs fg) (hb : RS c t f) : RS c (tFor wi g t) (fFor fi fg f) := fun Γ σ H W D D' E p k1 k2 k3 k4 => by
  refine hi Γ σ H W _ _ E p fun ts Γ1 J H1 W1 ⟨inv, i0, st, en⟩ E1 s1 ⟨Gd, Y, wk, gd, yl⟩ => ?_
  refine for_it wk (fun i σ' H' => ∃ Γ' W', inv i Γ' ∧ Env c H' W' Γ' σ' ∧ Fz H1 W1 H' W') ⟨Γ1, W1, i0, E1, .refl⟩ (fun i σ' H' _ ⟨Γ', W', _, _, ff⟩ => gd H' W' ff) ?_ (fun σ' H' ⟨Γ', W', q, E', ff⟩ => k1 Γ' σ' H' W' (en Γ' q) E' (s1.fz.trans ff))
  rintro i x σ2 H2 H3 hi ⟨Γ2, W2, q2, E2, f2⟩ y
  obtain ⟨t, W3, et, rp, nt⟩ := yl i H2 W2 x H3 hi f2 E2.dom y
  obtain ⟨E3, s3⟩ := nt.env E2
  refine hg Γ2 σ2 H3 W3 x t _ _ E3 rp (st i t Γ2 et q2) fun Γ4 σ4 H4 W4 q4 E4 s4 _ _ _ => ?_
  have f4 : Fz H1 W1 H4 W4 := by
    rcases s4 with s4 | s4
    · exact (f2.trans s3.fz).trans s4.fz
    · exact (f2.trans s3.fz).trans s4
  refine hb Γ4 σ4 H4 W4 _ _ E4 q4 (fun Γ5 σ5 H5 W5 q5 E5 f5 => ⟨Γ5, W5, q5, E5, f4.trans f5⟩) (fun r Γ5 v σ5 H5 W5 q5 E5 f5 rr => k2 r Γ5 v σ5 H5 W5 q5 E5 (s1.fz.trans (f4.trans f5)) rr)
    (fun Γ5 σ5 H5 W5 q5 E5 f5 => k1 Γ5 σ5 H5 W5 q5 E5 (s1.fz.trans (f4.trans f5))) (fun Γ5 σ5 H5 W5 q5 E5 f5 => ⟨Γ5, W5, q5, E5, f4.trans f5⟩)
/-! ### comprehensions -/
def wipeG : G → List Nat → G
  | Γ, [] => Γ
  | Γ, i :: vs => wipeG (Γ.set i none) vs
def noneB (Γ : G) : List Nat → Bool
  | [] => true
  | i :: vs => (match Γ[i]? with
    | some none => true
    | _ => false) && noneB Γ vs
def fLc (fi : FI) (fg : FG) (ft : FT) (fe : FE) (vs : List Nat) : FE := fun Γ P => fi Γ fun ts Γ1 => ts.length ≤ 16777215 ∧ ∃ inv : Nat → List Tr → G → Prop, inv 0 [] Γ1 ∧ (∀ i acc Γ, inv i acc Γ → noneB Γ vs = true) ∧
  (∀ i t acc Γ, ts[i]? = some t → inv i acc Γ → fg t Γ fun Γ2 => ft Γ2 fun b Γ3 => if b = true then fe Γ3 fun r Γ4 => frz r Γ4 fun u Γ5 => inv (i + 1) (acc ++ [u]) (wipeG Γ5 vs) else inv (i + 1) acc (wipeG Γ3 vs)) ∧
  ∀ acc Γ, inv ts.length acc Γ → P (.mu (.lst acc)) Γ
theorem noneB_at {j : Nat} : ∀ {vs : List Nat}, noneB Γ vs = true → j ∈ vs → Γ[j]? = some none
  | [], h, hj => by cases hj
  | i :: vs, h, hj => by
    rw [noneB, Bool.and_eq_true] at h
    rcases List.mem_cons.mp hj with rfl | hj
    · have h1 := h.1
      split at h1
      · assumption
      · cases h1
    · exact noneB_at h.2 hj
theorem wipeG_at {j : Nat} {s : Sl} : ∀ {vs : List Nat} {Γ : G}, (wipeG Γ vs)[j]? = some (some s) → j ∉ vs ∧ Γ[j]? = some (some s)
  | [], Γ, h => ⟨by simp, h⟩
  | i :: vs, Γ, h => by
    obtain ⟨h1, h2⟩ := wipeG_at (vs := vs) h
    rcases getset h2 with ⟨_, e⟩ | ⟨e, h2⟩
    · cases e
    · exact ⟨by simp [e, h1], h2⟩
theorem wipeG_out {j : Nat} : ∀ {vs : List Nat} {Γ : G}, j ∉ vs → (wipeG Γ vs)[j]? = Γ[j]?
  | [], Γ, h => rfl
  | i :: vs, Γ, h => by
    rw [wipeG, wipeG_out (fun z => h (List.mem_cons_of_mem _ z)), List.getElem?_set_ne]
    rintro rfl; exact h List.mem_cons_self
theorem wipeG_len : ∀ {vs : List Nat} {Γ : G}, (wipeG Γ vs).length = Γ.length
  | [], Γ => rfl
  | i :: vs, Γ => by rw [wipeG, wipeG_len, List.length_set]
theorem wipe_out {j : Nat} {σ : L2.St} : ∀ {vs : List Nat}, j ∉ vs → (wipe σ vs)[j]? = σ[j]?
  | [], h => rfl
  | i :: vs, h => by
    rw [L2.wipe, List.getElem?_set_ne, wipe_out (fun z => h (List.mem_cons_of_mem _ z))]
    rintro rfl; exact h List.mem_cons_self
theorem wipe_in {j : Nat} {σ : L2.St} (hj : j < σ.length) : ∀ {vs : List Nat}, j ∈ vs → (wipe σ vs)[j]? = some none
  | [], h => by cases h
  | i :: vs, h => by
    rw [L2.wipe]
    by_cases e : j = i
    · subst e; rw [List.getElem?_set_self (by rw [wipe_length]; exact hj)]
    · rw [List.getElem?_set_ne (Ne.symm e)]
      rcases List.mem_cons.mp h with h | h
      · exact (e h).elim
      · exact wipe_in hj h
theorem wipe_eq {σ σ2 : L2.St} {vs : List Nat} (hl : σ2.length = (wipe σ vs).length) (h : ∀ j, j ∉ vs → σ2[j]? = (wipe σ vs)[j]?) : wipe σ2 vs = wipe σ vs := by
  have hl' : σ2.length = σ.length := hl.trans (wipe_length ..)
  apply List.ext_getElem?
  intro j
  by_cases hj : j ∈ vs
  · by_cases hz : j < σ.length
    · rw [wipe_in (by omega) hj, wipe_in hz hj]
    · rw [List.getElem?_eq_none (by rw [wipe_length]; omega), List.getElem?_eq_none (by rw [wipe_length]; omega)]
  · rw [wipe_out hj, h j hj]
/-- the own slots of a comprehension are empty -/
theorem Env.wiped {vs : List Nat} (E : Env c H W Γ σ) (h : noneB Γ vs = true) : Env c H W Γ (wipe σ vs) := by
  refine ⟨E.dom, by rw [wipe_length]; exact E.len, fun i s hs => ?_, E.en, E.pin⟩
  obtain ⟨v, hv, ok⟩ := E.sl i s hs
  refine ⟨v, ?_, ok⟩
  rw [wipe_out (fun z => by rw [noneB_at h z] at hs; cases hs)]; exact hv
theorem Env.unwiped {vs : List Nat} {σ2 : L2.St} (E : Env c H W Γ σ2) (hl : σ2.length = σ.length) (h : ∀ j, j ∉ vs → σ2[j]? = σ[j]?) (hp : ∀ j a, c.pa j = some a → j ∉ vs) : Env c H W (wipeG Γ vs) σ := by
  refine ⟨E.dom, by rw [wipeG_len, E.len, hl], fun i s hs => ?_, E.en, fun i a e => ?_⟩
  · obtain ⟨h1, h2⟩ := wipeG_at hs
    obtain ⟨v, hv, ok⟩ := E.sl i s h2
    exact ⟨v, by rw [← h i h1]; exact hv, ok⟩
  · obtain ⟨t, ht⟩ := E.pin i a e
    exact ⟨t, by rw [wipeG_out (hp i a e)]; exact ht⟩
/-- an object that nobody of ours holds is written -/
theorem Env.foreign {a : Addr} {o : HO} (E : Env c H W Γ σ) (wa : W a = none) (h0 : c.H0 a = none) : Env c (upd H a o) W Γ σ := by
  have dm : ∀ b, (H b).isSome = true → (upd H a o b).isSome = true := fun b h => by
    by_cases e : b = a
    · subst e; rw [upd_same]; rfl
    · rw [upd_ne e]; exact h
  have ne : ∀ b x, W b = some x → b ≠ a := fun b x h z => by subst z; rw [wa] at h; cases h
  have ff : Fz H W (upd H a o) W := fun b h => ⟨h, upd_ne (ne b _ h)⟩
  refine ⟨fun b h => dm b (E.dom b h), E.len, fun i s hs => ?_, ⟨E.en.fz.trans ff, fun b u h e => ?_, fun b h => dm b (E.en.dm b h)⟩, E.pin⟩
  · obtain ⟨v, hv, ok⟩ := E.sl i s hs
    exact ⟨v, hv, ok.st ff fun b eb hb => ⟨upd_ne (ne b _ hb), rfl⟩⟩
  · obtain ⟨k1, k2⟩ := E.en.fo b u h e
    refine ⟨k1, ?_⟩
    rw [upd_ne]; exact k2
    rintro rfl; rw [h0] at e; cases e
theorem re_lc {wi : TI} {fi : FI} {g : TG} {vs : List Nat} {fg : FG} (hv : vs ≠ []) (hi : RI c wi fi) (hg : RG c g vs fg) (ht : RT c tt ft) (he : RE c te fe) : RE c (tLc wi g tt te vs) (fLc fi fg ft fe vs) := fun Γ σ H W P Q E p k => by
  refine hi Γ σ H W _ _ E p fun ts Γ1 J H1 W1 ⟨hz, inv, i0, nn, st, en⟩ E1 s1 ⟨Gd, Y, wk, gd, yl⟩ D hD => ?_
  have hDn := none_of s1.dm hD
  have hD0 := none_of E.dm hDn
  refine lc_it wk (fun i H' => ∃ Γ' W' acc av, inv i acc Γ' ∧ Env c H' W' Γ' σ ∧ Step H1 W1 H' W' ∧ H' D = some (.lst av) ∧ W' D = none ∧ Rps c.K W' H' acc av ∧ acc.length ≤ i) ?_ ?_ ?_ ?_
  · have g : Grow H1 (upd H1 D (.lst [])) := Grow.new hD
    exact ⟨Γ1, W1, [], [], i0, E1.grow g, g.step E1.dom, upd_same, E1.dom.none hD, by rw [rps_nil], Nat.le_refl _⟩
  · rintro i H' _ ⟨Γ', W', acc, av, _, _, s, _⟩
    exact gd H' W' s.fz
  · rintro i x H2 H3 hi ⟨Γ2, W2, acc, av, q2, E2, s2, d2, w2, r2, l2⟩ y
    obtain ⟨t, W3, et, rp, nt⟩ := yl i H2 W2 x H3 hi s2.fz E2.dom y
    obtain ⟨E3, s3⟩ := nt.env E2
    have nb := nn i acc Γ2 q2
    refine hg Γ2 (wipe σ vs) H3 W3 x t _ _ (E3.wiped nb) rp (st i t acc Γ2 et q2) fun Γ4 σ4 H4 W4 q4 E4 _ s4 hl4 hj4 => ?_
    have s4 := s4 hv
    refine ⟨wipe_eq hl4 hj4, ?_⟩
    have hl' : σ4.length = σ.length := hl4.trans (wipe_length ..)
    have hj' : ∀ j, j ∉ vs → σ4[j]? = σ[j]? := fun j hj => (hj4 j hj).trans (wipe_out hj)
    have hp : ∀ j a, c.pa j = some a → j ∉ vs := fun j a e z => by
      obtain ⟨u, hu⟩ := E2.pin j a e
      rw [noneB_at nb z] at hu; cases hu
    refine ht Γ4 σ4 H4 W4 _ _ E4 q4 fun b Γ5 H5 W5 q5 E5 s5 => ?_
    have s25 := (s3.trans s4).trans s5
    cases b with
    | true =>
      rw [if_pos rfl] at q5 ⊢
      refine he Γ5 σ4 H5 W5 _ _ E5 q5 fun r Γ6 z H6 W6 q6 E6 s6 rr => ?_
      have s26 := s25.trans s6
      obtain ⟨u, Γ7, W7, q7, E7, s7, rz⟩ := frz_ok E6 s26 (rr.early s25.dm) q6 (fun a h => E2.dm a h)
      obtain ⟨w7, d7⟩ := s7.fo D _ w2 d2
      have f7 : Fz H6 W7 (upd H6 D (.lst (av ++ [z]))) W7 := fun a h => ⟨h, upd_ne (by rintro rfl; rw [w7] at h; cases h)⟩
      have s8 := s2.trans s7
      refine ⟨av, d7, by rw [U.line, r2.len]; omega, wipeG Γ7 vs, W7, acc ++ [u], av ++ [z], q7, (E7.unwiped hl' hj' hp).foreign w7 hD0, ⟨s8.fz.trans f7, fun a o h e => ?_, fun a h => ?_⟩, upd_same, w7, ((r2.st s7.fz).st f7).append (by rw [rps_cons]; exact ⟨z, [], rfl, Rp.st f7 u z rz, by rw [rps_nil]⟩), by rw [List.length_append, List.length_singleton]; omega⟩
      · obtain ⟨k3, k4⟩ := s8.fo a o h e
        refine ⟨k3, ?_⟩
        rw [upd_ne]; exact k4
        rintro rfl; rw [hD] at e; cases e
      · rw [upd_ne]
        · exact s8.dm a h
        · rintro rfl; rw [hD] at h; cases h
    | false =>
      rw [if_neg Bool.false_ne_true] at q5 ⊢
      obtain ⟨w5, d5⟩ := s25.fo D _ w2 d2
      exact ⟨wipeG Γ5 vs, W5, acc, av, q5, E5.unwiped hl' hj' hp, s2.trans s25, d5, w5, r2.st s25.fz, Nat.le_succ_of_le l2⟩
  · rintro H2 ⟨Γ2, W2, acc, av, q2, E2, s2, d2, w2, r2, _⟩
    exact k _ Γ2 _ H2 W2 (en acc Γ2 q2) E2 (s1.trans s2) ⟨D, rfl, hDn, w2, av, d2, r2⟩
/-! ### the things that are walked -/
def seqS : Tr → Option (List Tr)
  | .lst ts => some ts
  | .scr ns => some (ns.map Tr.int)
  | _ => none
def tupS : Tr → Option (List Tr)
  | .tup ts => some ts
  | _ => none
def strS : Tr → Option (List Nat)
  | .str l => some l
  | _ => none
def sgT (l : List Nat) : List Tr := l.map fun c => .str [c]
def rgT (lo : Int) (n : Nat) : List Tr := (List.range n).map fun (i : Nat) => .int (lo + i)
def enT : Nat → List Tr → List Tr
  | _, [] => []
  | k, t :: ts => .tup [.int k, t] :: enT (k + 1) ts
def zpT : List Tr → List Tr → List Tr
  | s :: ss, t :: ts => .tup [s, t] :: zpT ss ts
  | _, _ => []
theorem enT_len : ∀ {k : Nat} {ts : List Tr}, (enT k ts).length = ts.length
  | _, [] => rfl
  | k, t :: ts => by rw [enT, List.length_cons, List.length_cons, enT_len]
theorem enT_at : ∀ {k i : Nat} {ts : List Tr} {t : Tr}, ts[i]? = some t → (enT k ts)[i]? = some (.tup [.int (k + i : Nat), t])
  | k, i, [], t, h => by simp at h
  | k, 0, u :: ts, t, h => by simp at h; subst h; simp [enT]
  | k, i + 1, u :: ts, t, h => by
    rw [enT, List.getElem?_cons_succ, enT_at (by simpa using h)]
    congr 4; omega
theorem enT_of : ∀ {k i : Nat} {ts : List Tr} {u : Tr}, (enT k ts)[i]? = some u → ∃ t, ts[i]? = some t ∧ u = .tup [.int (k + i : Nat), t] := fun {k i ts u} h => by
  have hi : i < ts.length := by have := (List.getElem?_eq_some_iff.mp h).1; rwa [enT_len] at this
  have e := enT_at (k := k) (List.getElem?_eq_getElem hi)
  rw [e] at h
  exact ⟨_, List.getElem?_eq_getElem hi, (Option.some.inj h).symm⟩
theorem zpT_len : ∀ {ss ts : List Tr}, (zpT ss ts).length = min ss.length ts.length
  | [], ts => by simp [zpT]
  | s :: ss, [] => by simp [zpT]
  | s :: ss, t :: ts => by rw [zpT, List.length_cons, List.length_cons, List.length_cons, zpT_len]; omega
theorem zpT_at : ∀ {i : Nat} {ss ts : List Tr} {s t : Tr}, ss[i]? = some s → ts[i]? = some t → (zpT ss ts)[i]? = some (.tup [s, t])
  | i, [], ts, s, t, h, k => by simp at h
  | i, u :: ss, [], s, t, h, k => by simp at k
  | 0, u :: ss, w :: ts, s, t, h, k => by simp at h k; subst h k; simp [zpT]
  | i + 1, u :: ss, w :: ts, s, t, h, k => by rw [zpT, List.getElem?_cons_succ]; exact zpT_at (by simpa using h) (by simpa using k)
def fiList (fa : FE) : FI := fun Γ P => fa Γ fun r Γ1 => frz r Γ1 fun t Γ2 => U.optE (seqS t) fun ts => P ts Γ2
def fiTup (fa : FE) : FI := fun Γ P => fa Γ fun r Γ1 => frz r Γ1 fun t Γ2 => U.optE (tupS t) fun ts => P ts Γ2
def fiStr (fa : FE) : FI := fun Γ P => fa Γ fun r Γ1 => U.optE ((con Γ1 r).bind strS) fun l => P (sgT l) Γ1
def fiRng1 (fa : FE) : FI := fun Γ P => fa Γ fun r Γ1 => U.optE ((con Γ1 r).bind intT) fun n => (-(2 ^ 62) ≤ n ∧ n < 2 ^ 62) ∧ P (rgT 0 n.toNat) Γ1
def fiRng2 (fa fb : FE) : FI := fun Γ P => fa Γ fun r Γ1 => U.optE ((con Γ1 r).bind intT) fun m => fb Γ1 fun r Γ1 => U.optE ((con Γ1 r).bind intT) fun n => (-(2 ^ 62) ≤ m ∧ m < 2 ^ 62 ∧ -(2 ^ 62) ≤ n ∧ n < 2 ^ 62) ∧ P (rgT m (n - m).toNat) Γ1
def fiEnum (fa : FE) : FI := fun Γ P => fa Γ fun r Γ1 => frz r Γ1 fun t Γ2 => U.optE (seqS t) fun ts => P (enT 0 ts) Γ2
def fiEnumT (fa : FE) : FI := fun Γ P => fa Γ fun r Γ1 => frz r Γ1 fun t Γ2 => U.optE (tupS t) fun ts => P (enT 0 ts) Γ2
def fiEnumS (fa : FE) : FI := fun Γ P => fa Γ fun r Γ1 => U.optE ((con Γ1 r).bind strS) fun l => P (enT 0 (sgT l)) Γ1
def fiRev (fa : FE) : FI := fun Γ P => fa Γ fun r Γ1 => frz r Γ1 fun t Γ2 => U.optE (seqS t) fun ts => P ts.reverse Γ2
def fiZip (fa fb : FE) : FI := fun Γ P => fa Γ fun r Γ1 => frz r Γ1 fun t Γ2 => U.optE (seqS t) fun ts => fb Γ2 fun r Γ1 => frz r Γ1 fun t Γ2 => U.optE (seqS t) fun us => P (zpT ts us) Γ2
theorem wk_len {J : It} {n m : Nat} {Gd : Hp → Prop} {Y : Nat → Hp → V → Hp → Prop} (w : Walk J n Gd Y) (h : n = m) : Walk J m Gd Y := h ▸ w
theorem ints_rps {ns : List Int} : Rps c.K W H (ns.map Tr.int) (ns.map V.int) := by
  induction ns with
  | nil => rw [List.map_nil, rps_nil]; rfl
  | cons n ns ih => rw [List.map_cons, rps_cons]; exact ⟨_, _, rfl, by rw [rp_int], ih⟩
/-- a list that all hold: it stays -/
theorem seq_sql {t : Tr} {ts : List Tr} (h : Rp c.K W1 H1 t v) (e : seqS t = some ts) : ∃ a vs, v = .ref a ∧ (∀ H W, Fz H1 W1 H W → SqL c.K H a vs) ∧ Rps c.K W1 H1 ts vs := by
  cases t with
  | lst us =>
    cases e
    rw [rp_lst] at h
    obtain ⟨a, vs, rfl, wa, ha, hr⟩ := h
    exact ⟨a, vs, rfl, fun H W f => SqL.of ((f a wa).2.trans ha), hr⟩
  | scr ns =>
    cases e
    rw [rp_scr] at h
    obtain ⟨a, rfl, ha, hw⟩ := h
    refine ⟨a, _, rfl, fun H W f => ?_, ints_rps⟩
    rcases hw with hw | hw
    · exact sql_eq (f a hw).2 ha
    · exact hw H
  | _ => cases e
theorem at_ok {a : Addr} {ts : List Tr} {vs : List V} (hr : Rps c.K W1 H1 ts vs) : ∀ i H W x H', i < ts.length → Fz H1 W1 H W → Dom H W → YAt vs i H x H' → ∃ t W', ts[i]? = some t ∧ Rp c.K W' H' t x ∧ NewT H W H' W' := by
  rintro i H W x H' hi f _ ⟨rfl, hx⟩
  obtain ⟨t, ht, rp⟩ := hr.getV hx
  exact ⟨t, W, ht, Rp.st f t x rp, .inl ⟨rfl, rfl⟩⟩
theorem ri_list (ha : RE c ta fa) : RI c (iList c.K ta) (fiList fa) := fun Γ σ H W P R' E p k => by
  refine ha Γ σ H W _ _ E p fun r Γ1 v H1 W1 q E1 s1 h1 => ?_
  obtain ⟨t, Γ2, W2, ⟨ts, et, q⟩, E2, s2, h2⟩ := frz_ok E1 s1 h1 q E.dm
  obtain ⟨a, vs, rfl, hq, hr⟩ := seq_sql h2 et
  have wk : Walk (Itl c.K a) ts.length (fun H => SqL c.K H a vs) (YAt vs) := by rw [← hr.len]; exact walk_list
  exact ⟨a, rfl, ⟨vs, hq _ _ .refl⟩, k ts Γ2 _ H1 W2 q E2 s2 ⟨_, _, wk, hq, at_ok (a := a) hr⟩⟩
theorem ri_tup (ha : RE c ta fa) : RI c (iTup c.K ta) (fiTup fa) := fun Γ σ H W P R' E p k => by
  refine ha Γ σ H W _ _ E p fun r Γ1 v H1 W1 q E1 s1 h1 => ?_
  obtain ⟨t, Γ2, W2, ⟨ts, et, q⟩, E2, s2, h2⟩ := frz_ok E1 s1 h1 q E.dm
  cases t <;> cases et
  rw [rp_tup] at h2
  obtain ⟨a, vs, rfl, wa, ha, hr⟩ := h2
  have wk : Walk (Itt c.K a) ts.length (fun H => SqT c.K H a vs) (YAt vs) := by rw [← hr.len]; exact walk_tup
  exact ⟨a, rfl, ⟨vs, SqT.of ha⟩, k ts Γ2 _ H1 W2 q E2 s2 ⟨_, _, wk, fun H W f => SqT.of ((f a wa).2.trans ha), at_ok (a := a) hr⟩⟩
theorem RR.str {l : List Nat} {r : R} {v : V} (E : Env c H' W' Γ σ) (h : RR c H H' W' σ v r) (e : (con Γ r).bind strS = some l) : v = U.sv l := by
  cases e1 : con Γ r with
  | none => rw [e1] at e; cases e
  | some t =>
    rw [e1] at e
    have e : strS t = some l := e
    have := h.rw E e1
    cases t <;> cases e
    exact this.str
theorem ri_str (ha : RE c ta fa) : RI c (iStr ta) (fiStr fa) := fun Γ σ H W P R' E p k => by
  refine ha Γ σ H W _ _ E p fun r Γ1 v H1 W1 ⟨l, el, q⟩ E1 s1 h1 => ?_
  have ev := h1.str E1 el
  have wk := wk_len (m := (sgT l).length) (walk_str (z := ⟨l.toArray⟩)) (by simp [sgT])
  refine ⟨⟨l.toArray⟩, ev, k _ Γ1 _ H1 W1 q E1 s1 ⟨_, _, wk, fun _ _ _ => trivial, ?_⟩⟩
  rintro i H W x H' hi f _ ⟨rfl, d, hd, rfl⟩
  refine ⟨.str [d], W, ?_, by rw [rp_str], .inl ⟨rfl, rfl⟩⟩
  unfold sgT
  have hd : l[i]? = some d := by simpa using hd
  rw [List.getElem?_map, hd]; rfl
theorem rgT_len {lo : Int} {n : Nat} : (rgT lo n).length = n := by simp [rgT]
theorem rgT_at {lo : Int} {n i : Nat} (h : i < n) : (rgT lo n)[i]? = some (.int (lo + i)) := by
  unfold rgT
  rw [List.getElem?_map, List.getElem?_range h]; rfl
theorem rng_ok {lo : Int} {n : Nat} : ItOk c (Itr lo n) (rgT lo n) H1 W1 := by
  have wk : Walk (Itr lo n) (rgT lo n).length (fun _ => True) (YFn fun i => .int (lo + i)) := by rw [rgT_len]; exact walk_range
  refine ⟨_, _, wk, fun _ _ _ => trivial, ?_⟩
  rintro i H W x H' hi f _ ⟨rfl, rfl⟩
  rw [rgT_len] at hi
  exact ⟨_, W, rgT_at hi, by rw [rp_int], .inl ⟨rfl, rfl⟩⟩
theorem ri_rng1 (ha : RE c ta fa) : RI c (iRng1 (tCons ta tNil)) (fiRng1 fa) := fun Γ σ H W P R' E p k => by
  refine ha Γ σ H W _ _ E p fun r Γ1 v H1 W1 ⟨n, en, hn, q⟩ E1 s1 h1 => ?_
  have ev := h1.int E1 en
  subst ev
  exact ⟨n, rfl, hn.1, hn.2, k _ Γ1 _ H1 W1 q E1 s1 rng_ok⟩
theorem ri_rng2 (ha : RE c ta fa) (hb : RE c tb fb) : RI c (iRng2 (tCons ta (tCons tb tNil))) (fiRng2 fa fb) := fun Γ σ H W P R' E p k => by
  refine ha Γ σ H W _ _ E p fun r Γ1 v H1 W1 ⟨m, em, q⟩ E1 s1 h1 => ?_
  have ev := h1.int E1 em
  subst ev
  refine hb Γ1 σ H1 W1 _ _ E1 q fun r Γ2 v H2 W2 ⟨n, en, hn, q⟩ E2 s2 h2 => ?_
  have ev := h2.int E2 en
  subst ev
  exact ⟨m, n, rfl, hn, k _ Γ2 _ H2 W2 q E2 (s1.trans s2) rng_ok⟩
theorem pair_ok {ts : List Tr} {f g : Nat → Option V} (h : ∀ i x y H W, Fz H1 W1 H W → f i = some x → g i = some y → ∃ s t, ts[i]? = some (.tup [s, t]) ∧ Rp c.K W H s x ∧ Rp c.K W H t y) :
    ∀ i H W x H', i < ts.length → Fz H1 W1 H W → Dom H W → YPair f g i H x H' → ∃ t W', ts[i]? = some t ∧ Rp c.K W' H' t x ∧ NewT H W H' W' := by
  rintro i H W x H' hi ff d ⟨T, y, z, rfl, hT, rfl, hy, hz⟩
  obtain ⟨s, t, e, h1, h2⟩ := h i y z H W ff hy hz
  refine ⟨_, wset W T none, e, ?_, .inr ⟨T, _, hT, rfl, rfl⟩⟩
  have g : Grow H (upd H T (.tup [y, z])) := Grow.new hT
  have f2 := (g.fz d).trans (fz_wset (a := T))
  rw [rp_tup]
  refine ⟨T, _, rfl, wset_same, upd_same, ?_⟩
  rw [rps_cons]
  refine ⟨y, [z], rfl, Rp.st f2 s y h1, ?_⟩
  rw [rps_cons]
  exact ⟨z, [], rfl, Rp.st f2 t z h2, by rw [rps_nil]⟩
theorem ri_enum (ha : RE c ta fa) : RI c (iEnum c.K (tCons ta tNil)) (fiEnum fa) := fun Γ σ H W P R' E p k => by
  refine ha Γ σ H W _ _ E p fun r Γ1 v H1 W1 q E1 s1 h1 => ?_
  obtain ⟨t, Γ2, W2, ⟨ts, et, q⟩, E2, s2, h2⟩ := frz_ok E1 s1 h1 q E.dm
  obtain ⟨a, vs, rfl, hq, hr⟩ := seq_sql h2 et
  have wk := wk_len (m := (enT 0 ts).length) (walk_enum (K := c.K) (a := a) (xs := vs)) (by rw [enT_len, ← hr.len])
  refine ⟨a, vs, rfl, hq _ _ .refl, k _ Γ2 _ H1 W2 q E2 s2 ⟨_, _, wk, hq, pair_ok fun i x y H W f e1 e2 => ?_⟩⟩
  obtain ⟨t, ht, rp⟩ := hr.getV e2
  cases e1
  exact ⟨_, _, enT_at ht, by rw [rp_int]; congr 1; omega, Rp.st f t y rp⟩
theorem ri_enumT (ha : RE c ta fa) : RI c (U.iEnumT c.K (tCons ta tNil)) (fiEnumT fa) := fun Γ σ H W P R' E p k => by
  refine ha Γ σ H W _ _ E p fun r Γ1 v H1 W1 q E1 s1 h1 => ?_
  obtain ⟨t, Γ2, W2, ⟨ts, et, q⟩, E2, s2, h2⟩ := frz_ok E1 s1 h1 q E.dm
  cases t <;> cases et
  rw [rp_tup] at h2
  obtain ⟨a, vs, rfl, wa, ha, hr⟩ := h2
  have wk := wk_len (m := (enT 0 ts).length) (U.walk_enumT (K := c.K) (a := a) (xs := vs)) (by rw [enT_len, ← hr.len])
  refine ⟨a, vs, rfl, SqT.of ha, k _ Γ2 _ H1 W2 q E2 s2 ⟨_, _, wk, fun H W f => SqT.of ((f a wa).2.trans ha), pair_ok fun i x y H W f e1 e2 => ?_⟩⟩
  obtain ⟨t, ht, rp⟩ := hr.getV e2
  cases e1
  exact ⟨_, _, enT_at ht, by rw [rp_int]; congr 1; omega, Rp.st f t y rp⟩
theorem ri_enumS (ha : RE c ta fa) : RI c (U.iEnumS (tCons ta tNil)) (fiEnumS fa) := fun Γ σ H W P R' E p k => by
  refine ha Γ σ H W _ _ E p fun r Γ1 v H1 W1 ⟨l, el, q⟩ E1 s1 h1 => ?_
  have ev := h1.str E1 el
  subst ev
  have wk := wk_len (m := (enT 0 (sgT l)).length) (U.walk_enumS (l := l)) (by rw [enT_len]; simp [sgT])
  refine ⟨⟨l.toArray⟩, rfl, k _ Γ1 _ H1 W1 q E1 s1 ⟨_, _, wk, fun _ _ _ => trivial, pair_ok fun i x y H W f e1 e2 => ?_⟩⟩
  cases e1
  cases e3 : l[i]? with
  | none => rw [e3] at e2; cases e2
  | some d =>
    rw [e3] at e2
    cases e2
    refine ⟨_, .str [d], enT_at (by unfold sgT; rw [List.getElem?_map, e3]; rfl), by rw [rp_int]; congr 1; omega, by rw [rp_str]⟩
theorem ri_rev (ha : RE c ta fa) : RI c (iRev c.K (tCons ta tNil)) (fiRev fa) := fun Γ σ H W P R' E p k => by
  refine ha Γ σ H W _ _ E p fun r Γ1 v H1 W1 q E1 s1 h1 => ?_
  obtain ⟨t, Γ2, W2, ⟨ts, et, q⟩, E2, s2, h2⟩ := frz_ok E1 s1 h1 q E.dm
  obtain ⟨a, vs, rfl, hq, hr⟩ := seq_sql h2 et
  have wk := wk_len (m := ts.reverse.length) (walk_rev (K := c.K) (a := a) (xs := vs)) (by rw [List.length_reverse, ← hr.len])
  refine ⟨a, vs, rfl, hq _ _ .refl, k _ Γ2 _ H1 W2 q E2 s2 ⟨_, _, wk, hq, ?_⟩⟩
  rintro i H W x H' hi f _ ⟨rfl, hx⟩
  rw [List.length_reverse] at hi
  obtain ⟨t, ht, rp⟩ := hr.getV hx
  refine ⟨t, W, ?_, Rp.st f t x rp, .inl ⟨rfl, rfl⟩⟩
  rw [List.getElem?_reverse hi, ← hr.len]; exact ht
theorem ri_zip (ha : RE c ta fa) (hb : RE c tb fb) : RI c (iZip c.K (tCons ta (tCons tb tNil))) (fiZip fa fb) := fun Γ σ H W P R' E p k => by
  refine ha Γ σ H W _ _ E p fun r Γ1 v H1 W1 q E1 s1 h1 => ?_
  obtain ⟨t, Γ2, W2, ⟨ts, et, q⟩, E2, s2, h2⟩ := frz_ok E1 s1 h1 q E.dm
  refine hb Γ2 σ H1 W2 _ _ E2 q fun r Γ3 v' H3 W3 q E3 s3 h3 => ?_
  obtain ⟨t', Γ4, W4, ⟨us, eu, q⟩, E4, s4, h4⟩ := frz_ok E3 s3 h3 q E2.dm
  obtain ⟨a, vs, rfl, hq, hr⟩ := seq_sql (Rp.st s4.fz t v h2) et
  obtain ⟨b, ws, rfl, hq', hr'⟩ := seq_sql h4 eu
  have wk := walk_zip (K := c.K) (a := a) (b := b) (xs := vs) (ys := ws) (n := (zpT ts us).length) (by rw [zpT_len, hr.len, hr'.len])
  refine ⟨a, b, vs, ws, rfl, hq _ _ .refl, hq' _ _ .refl, k _ Γ4 _ H3 W4 q E4 (s2.trans s4) ⟨_, _, wk, fun H W f => ⟨hq H W f, hq' H W f⟩, pair_ok fun i x y H W f e1 e2 => ?_⟩⟩
  obtain ⟨t, ht, rp⟩ := hr.getV e1
  obtain ⟨u, hu, rq⟩ := hr'.getV e2
  exact ⟨_, _, zpT_at ht hu, Rp.st f t x rp, Rp.st f u y rq⟩
end
end Z

namespace Z
open PySem PySem.Spec PyProof.Rows L2
section
variable {K : PySem.W.Frag}
/-! ### operators by trees -/
def gAdd : Tr → Tr → (R → Prop) → Prop
  | .int i, .int j, P => P (.fz (.int (i + j)))
  | .str a, .str b, P => a.length + b.length ≤ 16777216 ∧ P (.fz (.str (a ++ b)))
  | .lst xs, .lst ys, P => xs.length + ys.length ≤ 16777216 ∧ P (.mu (.lst (xs ++ ys)))
  | _, _, _ => False
theorem o_scal {H : Hp} {W : Wd} {v : V} {t : Tr} (h : Rp K W H t v) : Out K H W H v (.fz t) := h
theorem o_add : OpT K U.rAdd gAdd := fun H W x y s t P Q d hs ht q k => by
  unfold gAdd at q
  split at q
  · rw [hs.int, ht.int]; exact k _ _ H q .refl (o_scal (by rw [rp_int]))
  · rw [hs.str, ht.str]; exact ⟨q.1, k _ _ H q.2 .refl (o_scal (by rw [rp_str]))⟩
  · obtain ⟨a, vs, rfl, h1, h2⟩ := hs.lst
    obtain ⟨b, ws, rfl, h3, h4⟩ := ht.lst
    refine ⟨vs, ws, h1, h3, by rw [h2.len, h4.len]; exact q.1, fun p hp => ?_⟩
    have g : Grow H (upd H p (.lst (vs ++ ws))) := Grow.new hp
    exact k _ _ _ q.2 g ⟨p, rfl, hp, _, upd_same, (h2.append h4).st (g.fz d)⟩
  · exact q.elim
def gSub : Tr → Tr → (R → Prop) → Prop
  | .int i, .int j, P => P (.fz (.int (i - j)))
  | _, _, _ => False
theorem o_sub : OpT K U.rSub gSub := fun H W x y s t P Q d hs ht q k => by
  unfold gSub at q
  split at q
  · rw [hs.int, ht.int]; exact k _ _ H q .refl (o_scal (by rw [rp_int]))
  · exact q.elim
theorem rps_flat {W : Wd} {H : Hp} {ts : List Tr} {vs : List V} (h : Rps K W H ts vs) : ∀ n : Nat, Rps K W H (List.replicate n ts).flatten (List.replicate n vs).flatten
  | 0 => by simp [rps_nil]
  | n + 1 => by rw [List.replicate_succ, List.replicate_succ, List.flatten_cons, List.flatten_cons]; exact h.append (rps_flat h n)
def gMul : Tr → Tr → (R → Prop) → Prop
  | .int i, .int j, P => U.MulOk i j ∧ P (.fz (.int (i * j)))
  | .lst xs, .int k, P => (0 ≤ k ∧ k < 2 ^ 63 ∧ xs.length * k.toNat ≤ 16777216) ∧ P (.mu (.lst (List.replicate k.toNat xs).flatten))
  | _, _, _ => False
theorem o_mul : OpT K U.rMul gMul := fun H W x y s t P Q d hs ht q k => by
  unfold gMul at q
  split at q
  · rw [hs.int, ht.int]; exact ⟨q.1, k _ _ H q.2 .refl (o_scal (by rw [rp_int]))⟩
  · obtain ⟨a, vs, rfl, h1, h2⟩ := hs.lst
    rw [ht.int]
    refine ⟨vs, h1, q.1.1, q.1.2.1, by rw [h2.len]; exact q.1.2.2, fun p hp => ?_⟩
    exact k _ _ _ q.2 (Grow.new hp) ⟨p, rfl, hp, _, upd_same, (rps_flat h2 _).st ((Grow.new hp).fz d)⟩
  · exact q.elim
def gDiv : Tr → Tr → (R → Prop) → Prop
  | .int i, .int j, P => (0 < j ∧ j < 2 ^ 8000) ∧ P (.fz (.int (i / j)))
  | _, _, _ => False
theorem o_div : OpT K U.rDiv gDiv := fun H W x y s t P Q d hs ht q k => by
  unfold gDiv at q
  split at q
  · rw [hs.int, ht.int]; exact ⟨q.1, k _ _ H q.2 .refl (o_scal (by rw [rp_int]))⟩
  · exact q.elim
def gMod : Tr → Tr → (R → Prop) → Prop
  | .int i, .int j, P => 0 < j ∧ P (.fz (.int (i % j)))
  | _, _, _ => False
theorem o_mod : OpT K U.rMod gMod := fun H W x y s t P Q d hs ht q k => by
  unfold gMod at q
  split at q
  · rw [hs.int, ht.int]; exact ⟨q.1, k _ _ H q.2 .refl (o_scal (by rw [rp_int]))⟩
  · exact q.elim
def gPow : Tr → Tr → (R → Prop) → Prop
  | .int i, .int j, P => CPow i j ∧ P (.fz (.int (i ^ j.toNat)))
  | _, _, _ => False
theorem o_pow : OpT K U.rPow gPow := fun H W x y s t P Q d hs ht q k => by
  unfold gPow at q
  split at q
  · rw [hs.int, ht.int]; exact ⟨q.1, k _ _ H q.2 .refl (o_scal (by rw [rp_int]))⟩
  · exact q.elim
def gLt : Tr → Tr → (R → Prop) → Prop
  | .int i, .int j, P => P (.fz (.bl (decide (i < j))))
  | .str a, .str b, P => P (.fz (.bl (U.strLt a b)))
  | _, _, _ => False
theorem o_lt : OpT K U.rLt gLt := fun H W x y s t P Q d hs ht q k => by
  unfold gLt at q
  split at q
  · rw [hs.int, ht.int]; exact k _ _ H q .refl (o_scal (by rw [rp_bl]))
  · rw [hs.str, ht.str]; exact k _ _ H q .refl (o_scal (by rw [rp_bl]))
  · exact q.elim
def gLe : Tr → Tr → (R → Prop) → Prop
  | .int i, .int j, P => P (.fz (.bl (decide (i ≤ j))))
  | .str a, .str b, P => P (.fz (.bl (!U.strLt b a)))
  | _, _, _ => False
theorem o_le : OpT K U.rLe gLe := fun H W x y s t P Q d hs ht q k => by
  unfold gLe at q
  split at q
  · rw [hs.int, ht.int]; exact k _ _ H q .refl (o_scal (by rw [rp_bl]))
  · rw [hs.str, ht.str]; exact k _ _ H q .refl (o_scal (by rw [rp_bl]))
  · exact q.elim
def gGt : Tr → Tr → (R → Prop) → Prop
  | .int i, .int j, P => P (.fz (.bl (decide (j < i))))
  | .str a, .str b, P => P (.fz (.bl (U.strLt b a)))
  | _, _, _ => False
theorem o_gt : OpT K U.rGt gGt := fun H W x y s t P Q d hs ht q k => by
  unfold gGt at q
  split at q
  · rw [hs.int, ht.int]; exact k _ _ H q .refl (o_scal (by rw [rp_bl]))
  · rw [hs.str, ht.str]; exact k _ _ H q .refl (o_scal (by rw [rp_bl]))
  · exact q.elim
def gGe : Tr → Tr → (R → Prop) → Prop
  | .int i, .int j, P => P (.fz (.bl (decide (j ≤ i))))
  | .str a, .str b, P => P (.fz (.bl (!U.strLt a b)))
  | _, _, _ => False
theorem o_ge : OpT K U.rGe gGe := fun H W x y s t P Q d hs ht q k => by
  unfold gGe at q
  split at q
  · rw [hs.int, ht.int]; exact k _ _ H q .refl (o_scal (by rw [rp_bl]))
  · rw [hs.str, ht.str]; exact k _ _ H q .refl (o_scal (by rw [rp_bl]))
  · exact q.elim
/-- == of scalars -/
def eqT : Tr → Tr → Option Bool
  | .non, .non => some true | .non, .int _ => some false | .int _, .non => some false | .non, .bl _ => some false | .bl _, .non => some false | .non, .str _ => some false | .str _, .non => some false
  | .int i, .int j => some (decide (i = j)) | .bl b, .bl c => some (b == c) | .str a, .str b => some (decide (a = b))
  | .int _, .str _ => some false | .str _, .int _ => some false | .bl _, .str _ => some false | .str _, .bl _ => some false
  | _, _ => none
theorem eqT_ok {W : Wd} {H : Hp} {s t : Tr} {x y : V} {b : Bool} (hs : Rw K W H s x) (ht : Rw K W H t y) (e : eqT s t = some b) : U.eqS x y = some b := by
  unfold eqT at e
  split at e <;> first
    | (rw [hs.non, ht.non]; exact e)
    | (rw [hs.non, ht.int]; exact e)
    | (rw [hs.int, ht.non]; exact e)
    | (rw [hs.non, ht.bl]; exact e)
    | (rw [hs.bl, ht.non]; exact e)
    | (rw [hs.non, ht.str]; exact e)
    | (rw [hs.str, ht.non]; exact e)
    | (rw [hs.int, ht.int]; exact e)
    | (rw [hs.bl, ht.bl]; exact e)
    | (rw [hs.str, ht.str]; exact e)
    | (rw [hs.int, ht.str]; exact e)
    | (rw [hs.str, ht.int]; exact e)
    | (rw [hs.bl, ht.str]; exact e)
    | (rw [hs.str, ht.bl]; exact e)
    | cases e
def gEq : Tr → Tr → (R → Prop) → Prop := fun s t P => U.optE (eqT s t) fun b => P (.fz (.bl b))
def gNe : Tr → Tr → (R → Prop) → Prop := fun s t P => U.optE (eqT s t) fun b => P (.fz (.bl (!b)))
theorem o_eq : OpT K U.rEq gEq := fun H W x y s t P Q d hs ht ⟨b, e, q⟩ k => ⟨b, eqT_ok hs ht e, k _ _ H q .refl (o_scal (by rw [rp_bl]))⟩
theorem o_ne : OpT K U.rNe gNe := fun H W x y s t P Q d hs ht ⟨b, e, q⟩ k => ⟨b, eqT_ok hs ht e, k _ _ H q .refl (o_scal (by rw [rp_bl]))⟩
def isNonT : Tr → Bool
  | .non => true
  | _ => false
theorem isNon_ok {W : Wd} {H : Hp} {s : Tr} {x : V} (hs : Rw K W H s x) : decide (x = .non) = isNonT s := by
  cases s with
  | non => rw [hs.non]; rfl
  | bl b => rw [hs.bl]; rfl
  | int i => rw [hs.int]; rfl
  | str l => rw [hs.str]; rfl
  | ty n => rw [hs.ty]; rfl
  | adr a => rw [hs.adr]; rfl
  | scr ns => obtain ⟨a, rfl, _⟩ := hs.scr; rfl
  | lst ts => obtain ⟨a, _, rfl, _⟩ := hs.lst; rfl
  | tup ts => obtain ⟨a, _, rfl, _⟩ := hs.tup; rfl
  | ins C ns ts => obtain ⟨a, _, _, rfl, _⟩ := hs.ins; rfl
def gIs : Tr → Tr → (R → Prop) → Prop
  | s, .non, P => P (.fz (.bl (isNonT s)))
  | _, _, _ => False
def gIsNot : Tr → Tr → (R → Prop) → Prop
  | s, .non, P => P (.fz (.bl (!isNonT s)))
  | _, _, _ => False
theorem o_is : OpT K U.rIs gIs := fun H W x y s t P Q d hs ht q k => by
  cases t <;> first
    | exact False.elim q
    | exact ⟨ht.non, by rw [isNon_ok hs]; exact k _ _ H q .refl (o_scal (by rw [rp_bl]))⟩
theorem o_isNot : OpT K U.rIsNot gIsNot := fun H W x y s t P Q d hs ht q k => by
  cases t <;> first
    | exact False.elim q
    | exact ⟨ht.non, by rw [isNon_ok hs]; exact k _ _ H q .refl (o_scal (by rw [rp_bl]))⟩
/-- in: a sign in a text, a flat thing in a list or tuple of flat things -/
def flT : Tr → Option V
  | .non => some .non
  | .bl b => some (.bl b)
  | .int i => some (.int i)
  | .str l => some (U.sv l)
  | _ => none
def flTs : List Tr → Option (List V)
  | [] => some []
  | t :: ts => match flT t, flTs ts with
    | some v, some vs => some (v :: vs)
    | _, _ => none
theorem flT_ok {W : Wd} {H : Hp} {s : Tr} {x w : V} (hs : Rw K W H s x) (e : flT s = some w) : x = w ∧ flatV w = true := by
  cases s <;> cases e
  · exact ⟨hs.non, rfl⟩
  · exact ⟨hs.bl, rfl⟩
  · exact ⟨hs.int, rfl⟩
  · exact ⟨hs.str, rfl⟩
theorem flTs_ok {W : Wd} {H : Hp} : ∀ {ts : List Tr} {vs ws : List V}, Rps K W H ts vs → flTs ts = some ws → vs = ws ∧ ws.all flatV = true
  | [], vs, ws, h, e => by cases e; rw [rps_nil] at h; exact ⟨h, rfl⟩
  | t :: ts, vs, ws, h, e => by
    rw [rps_cons] at h
    obtain ⟨v, r, rfl, h1, h2⟩ := h
    have e : (match flT t, flTs ts with
      | some v, some vs => some (v :: vs)
      | _, _ => none) = some ws := e
    split at e
    · rename_i u us e1 e2
      cases e
      obtain ⟨rfl, k1⟩ := flT_ok (.inl h1) e1
      obtain ⟨rfl, k2⟩ := flTs_ok h2 e2
      exact ⟨rfl, by rw [List.all_cons, k1, k2]; rfl⟩
    · cases e
def oneT : List Nat → Option Nat
  | [c] => some c
  | _ => none
def gInB (s t : Tr) : Option Bool := match s, t with
  | .str a, .str z => (oneT a).map fun c => decide (c ∈ z)
  | s, .lst ts => (flT s).bind fun v => (flTs ts).map fun vs => inV v vs
  | s, .tup ts => (flT s).bind fun v => (flTs ts).map fun vs => inV v vs
  | _, _ => none
theorem oneT_of {a : List Nat} {c : Nat} (h : oneT a = some c) : a = [c] := by
  unfold oneT at h
  split at h
  · cases h; rfl
  · cases h
theorem inB_ok {W : Wd} {H : Hp} {s t : Tr} {x y : V} {b : Bool} (hs : Rw K W H s x) (ht : Rw K W H t y) (e : gInB s t = some b) : ∀ R : V → Prop, R (.bl b) → U.rIn x y H (fun v _ => R v) := by
  intro R r
  have key : ∀ (a : Addr) (vs : List V) (ts : List Tr), y = .ref a → (H a).bind U.seqOf = some vs → Rps K W H ts vs → ((flT s).bind fun v => (flTs ts).map fun vs => inV v vs) = some b → U.rIn x y H (fun v _ => R v) := fun a vs ts ey h1 h2 e => by
    subst ey
    cases e1 : flT s with
    | none => rw [e1] at e; cases e
    | some v =>
      rw [e1] at e
      cases e2 : flTs ts with
      | none => rw [e2] at e; cases e
      | some ws =>
        rw [e2] at e
        have e : inV v ws = b := Option.some.inj e
        obtain ⟨rfl, k1⟩ := flT_ok hs e1
        obtain ⟨rfl, k2⟩ := flTs_ok h2 e2
        have g : ∃ xs, (H a).bind U.seqOf = some xs ∧ flatV x = true ∧ xs.all flatV = true ∧ R (.bl (inV x xs)) := ⟨_, h1, k1, k2, by rw [e]; exact r⟩
        cases x <;> exact g
  unfold gInB at e
  split at e
  · rename_i a z
    cases e1 : oneT a with
    | none => rw [e1] at e; cases e
    | some c =>
      rw [e1] at e
      have e : decide (c ∈ z) = b := Option.some.inj e
      rw [hs.str, ht.str, oneT_of e1]
      exact ⟨c, rfl, by rw [show (⟨z.toArray⟩ : Str).cps.toList = z from rfl, e]; exact r⟩
  · rename_i ts
    obtain ⟨a, vs, ey, h1, h2⟩ := ht.lst
    exact key a vs ts ey (by rw [h1]; rfl) h2 e
  · rename_i ts
    obtain ⟨a, vs, ey, h1, h2⟩ := ht.tup
    exact key a vs ts ey (by rw [h1]; rfl) h2 e
  · cases e
def gIn : Tr → Tr → (R → Prop) → Prop := fun s t P => U.optE (gInB s t) fun b => P (.fz (.bl b))
def gNotIn : Tr → Tr → (R → Prop) → Prop := fun s t P => U.optE (gInB s t) fun b => P (.fz (.bl (!b)))
theorem rIn_at {x y : V} {H : Hp} {Q : VK} : U.rIn x y H Q = U.rIn x y H (fun v _ => Q v H) := by
  unfold U.rIn
  split <;> rfl
theorem rNotIn_at {x y : V} {H : Hp} {Q : VK} (h : U.rIn x y H (fun v _ => ∃ b, v = .bl b ∧ Q (.bl (!b)) H)) : U.rNotIn x y H Q := by
  cases y with
  | ref p =>
    have h : ∃ xs, (H p).bind U.seqOf = some xs ∧ flatV x = true ∧ xs.all flatV = true ∧ ∃ b, V.bl (inV x xs) = .bl b ∧ Q (.bl (!b)) H := by cases x <;> exact h
    obtain ⟨xs, h1, h2, h3, b, h4, h5⟩ := h
    cases h4
    have g : ∃ xs, (H p).bind U.seqOf = some xs ∧ flatV x = true ∧ xs.all flatV = true ∧ Q (.bl (!inV x xs)) H := ⟨xs, h1, h2, h3, h5⟩
    cases x <;> exact g
  | str z =>
    cases x with
    | str a =>
      obtain ⟨c, h1, b, h2, h3⟩ := h
      cases h2
      exact ⟨c, h1, h3⟩
    | _ => exact False.elim h
  | _ => cases x <;> exact False.elim h
theorem o_in : OpT K U.rIn gIn := fun H W x y s t P Q d hs ht ⟨b, e, q⟩ k => by
  rw [rIn_at]
  exact inB_ok hs ht e (fun v => Q v H) (k _ _ H q .refl (o_scal (by rw [rp_bl])))
theorem o_notIn : OpT K U.rNotIn gNotIn := fun H W x y s t P Q d hs ht ⟨b, e, q⟩ k =>
  rNotIn_at (inB_ok hs ht e (fun v => ∃ b, v = .bl b ∧ Q (.bl (!b)) H) ⟨b, rfl, k _ _ H q .refl (o_scal (by rw [rp_bl]))⟩)
/-- xs[i] -/
def gIx : Tr → Tr → (R → Prop) → Prop
  | .str z, .int i, P => z.length ≤ 16777216 ∧ U.optE (atI z i) fun c => P (.fz (.str [c]))
  | .lst ts, .int i, P => U.optE (atI ts i) fun t => P (.fz t)
  | .tup ts, .int i, P => U.optE (atI ts i) fun t => P (.fz t)
  | _, _, _ => False
theorem atI_rps {W : Wd} {H : Hp} {ts : List Tr} {vs : List V} {i : Int} {t : Tr} (h : Rps K W H ts vs) (e : atI ts i = some t) : ∃ v, atI vs i = some v ∧ Rp K W H t v := by
  unfold atI at e ⊢
  rw [h.len]
  cases e1 : ixN ts.length i with
  | none => rw [e1] at e; cases e
  | some j =>
    rw [e1] at e
    obtain ⟨v, hv, rp⟩ := h.get (i := j) e
    exact ⟨v, hv, rp⟩
theorem o_ix : OpT K U.rIx gIx := fun H W x y s t P Q d hs ht q k => by
  unfold gIx at q
  split at q
  · obtain ⟨hz, c, e, q⟩ := q
    rw [hs.str, ht.int]
    exact ⟨hz, c, e, k _ _ H q .refl (o_scal (by rw [rp_str]))⟩
  · obtain ⟨t, e, q⟩ := q
    obtain ⟨a, vs, rfl, h1, h2⟩ := hs.lst
    rw [ht.int]
    obtain ⟨v, hv, rp⟩ := atI_rps h2 e
    exact ⟨vs, by rw [h1]; rfl, v, hv, k _ _ H q .refl rp⟩
  · obtain ⟨t, e, q⟩ := q
    obtain ⟨a, vs, rfl, h1, h2⟩ := hs.tup
    rw [ht.int]
    obtain ⟨v, hv, rp⟩ := atI_rps h2 e
    exact ⟨vs, by rw [h1]; rfl, v, hv, k _ _ H q .refl rp⟩
  · exact q.elim
/-- .. of the script -/
def gIxS : Tr → Tr → (R → Prop) → Prop
  | .scr ns, .int i, P => U.optE (atI ns i) fun n => P (.fz (.int n))
  | _, _, _ => False
theorem atI_map {α β : Type} {f : α → β} {l : List α} {i : Int} : atI (l.map f) i = (atI l i).map f := by
  unfold atI
  rw [List.length_map]
  cases ixN l.length i with
  | none => rfl
  | some j => simp
theorem o_ixS : OpT K (rIxL K) gIxS := fun H W x y s t P Q d hs ht q k => by
  unfold gIxS at q
  split at q
  · obtain ⟨n, e, q⟩ := q
    obtain ⟨a, rfl, h1⟩ := hs.scr
    rw [ht.int]
    exact ⟨a, _, _, .int n, rfl, rfl, h1, by rw [atI_map, e]; rfl, k _ _ H q .refl (o_scal (by rw [rp_int]))⟩
  · exact q.elim
def gSl : Tr → Option Int → Option Int → (R → Prop) → Prop
  | .str z, lo, hi, P => z.length ≤ 16777216 ∧ P (.fz (.str (U.cutL z lo hi)))
  | .lst ts, lo, hi, P => P (.mu (.lst (U.cutL ts lo hi)))
  | _, _, _, _ => False
theorem o_sl : SlT K U.rSl gSl := fun lo hi H W x s P Q d hs q k => by
  cases s with
  | str z =>
    rw [hs.str]
    exact ⟨q.1, k _ _ H q.2 .refl (o_scal (by rw [rp_str]))⟩
  | lst ts =>
    obtain ⟨a, vs, rfl, h1, h2⟩ := hs.lst
    refine .inl ⟨vs, .inl h1, fun p hp => ?_⟩
    have g : Grow H (upd H p (.lst (U.cutL vs lo hi))) := Grow.new hp
    exact k _ _ _ q g ⟨p, rfl, hp, _, upd_same, (Rps.cut h2).st (g.fz d)⟩
  | _ => exact False.elim q
def gNeg : Tr → (R → Prop) → Prop
  | .int i, P => P (.fz (.int (-i)))
  | _, _ => False
theorem o_neg : UnT K U.rNeg gNeg := fun H W x s P Q d hs q k => by
  cases s <;> first
    | exact False.elim q
    | (rw [hs.int]; exact k _ _ H q .refl (o_scal (by rw [rp_int])))
/-! ### built-in functions -/
theorem one_rw {W : Wd} {H : Hp} {ss : List Tr} {xs : List V} {s : Tr} (h : Paired (fun s x => Rw K W H s x) ss xs) (e : ss = [s]) : ∃ x, xs = [x] ∧ Rw K W H s x := by
  subst e
  cases h with
  | cons a b => cases b; exact ⟨_, rfl, a⟩
theorem two_rw {W : Wd} {H : Hp} {ss : List Tr} {xs : List V} {s t : Tr} (h : Paired (fun s x => Rw K W H s x) ss xs) (e : ss = [s, t]) : ∃ x y, xs = [x, y] ∧ Rw K W H s x ∧ Rw K W H t y := by
  subst e
  cases h with
  | cons a b => cases b with
    | cons b c => cases c; exact ⟨_, _, rfl, a, b⟩
def gLen : List Tr → (R → Prop) → Prop
  | [.str z], P => z.length ≤ 16777216 ∧ P (.fz (.int z.length))
  | [.lst ts], P => P (.fz (.int ts.length))
  | [.tup ts], P => P (.fz (.int ts.length))
  | _, _ => False
theorem o_len : CbT K U.rLen gLen := fun H W xs ss P Q d hs q k => by
  unfold gLen at q
  split at q
  · obtain ⟨x, rfl, h⟩ := one_rw hs rfl
    rw [h.str]; exact ⟨q.1, k _ _ H q.2 .refl (o_scal (by rw [rp_int]))⟩
  · obtain ⟨x, rfl, h⟩ := one_rw hs rfl
    obtain ⟨a, vs, rfl, h1, h2⟩ := h.lst
    exact ⟨vs, by rw [h1]; rfl, by rw [h2.len]; exact k _ _ H q .refl (o_scal (by rw [rp_int]))⟩
  · obtain ⟨x, rfl, h⟩ := one_rw hs rfl
    obtain ⟨a, vs, rfl, h1, h2⟩ := h.tup
    exact ⟨vs, by rw [h1]; rfl, by rw [h2.len]; exact k _ _ H q .refl (o_scal (by rw [rp_int]))⟩
  · exact q.elim
def rLenS (K : PySem.W.Frag) : List V → Hp → VK → Prop := fun xs H Q => ∃ p ys, xs = [.ref p] ∧ (SqL K H p ys ∨ SqT K H p ys) ∧ Q (.int ys.length) H
theorem c_lenS {X : Cx} : CallR X (.builtin "len") (rLenS X.K) := call_len_seq
def gLenS : List Tr → (R → Prop) → Prop
  | [.scr ns], P => P (.fz (.int ns.length))
  | _, _ => False
theorem o_lenS : CbT K (rLenS K) gLenS := fun H W xs ss P Q d hs q k => by
  unfold gLenS at q
  split at q
  · obtain ⟨x, rfl, h⟩ := one_rw hs rfl
    obtain ⟨a, rfl, h1⟩ := h.scr
    exact ⟨a, _, rfl, .inl h1, by rw [List.length_map]; exact k _ _ H q .refl (o_scal (by rw [rp_int]))⟩
  · exact q.elim
def tyT : Tr → Option String
  | .non => some "NoneType"
  | .bl _ => some "bool"
  | .int _ => some "int"
  | .str _ => some "str"
  | .lst _ => some "list"
  | .tup _ => some "tuple"
  | _ => none
theorem tyT_ok {W : Wd} {H : Hp} {s : Tr} {x : V} {t : String} (hs : Rw K W H s x) (e : tyT s = some t) : U.tyB H x = some t := by
  cases s <;> cases e
  · rw [hs.non]; rfl
  · rw [hs.bl]; rfl
  · rw [hs.int]; rfl
  · rw [hs.str]; rfl
  · obtain ⟨a, vs, rfl, h1, _⟩ := hs.lst; rw [U.t_ref, h1]; rfl
  · obtain ⟨a, vs, rfl, h1, _⟩ := hs.tup; rw [U.t_ref, h1]; rfl
def tysT : List Tr → Option (List V)
  | [] => some []
  | .ty n :: ts => (tysT ts).map (V.ty n :: ·)
  | _ :: _ => none
theorem tysT_ok {W : Wd} {H : Hp} : ∀ {ts : List Tr} {vs ws : List V}, Rps K W H ts vs → tysT ts = some ws → vs = ws
  | [], vs, ws, h, e => by cases e; rw [rps_nil] at h; exact h
  | t :: ts, vs, ws, h, e => by
    rw [rps_cons] at h
    obtain ⟨v, r, rfl, h1, h2⟩ := h
    cases t <;> first
      | (cases e; done)
      | (rename_i n
         have e : (tysT ts).map (V.ty n :: ·) = some ws := e
         cases e1 : tysT ts with
         | none => rw [e1] at e; cases e
         | some us =>
           rw [e1] at e; cases e
           rw [rp_ty] at h1
           rw [h1, tysT_ok h2 e1])
def gIsi : List Tr → (R → Prop) → Prop
  | [x, .ty c], P => U.optE (tyT x) fun t => U.optE (U.isB t c) fun b => P (.fz (.bl b))
  | [x, .tup cs], P => U.optE (tysT cs) fun cs => U.optE (tyT x) fun t => U.optE (U.isAny t cs) fun b => P (.fz (.bl b))
  | _, _ => False
theorem o_isi : CbT K U.rIsi gIsi := fun H W xs ss P Q d hs q k => by
  unfold gIsi at q
  split at q
  · obtain ⟨t, et, b, eb, q⟩ := q
    obtain ⟨x, y, rfl, h1, h2⟩ := two_rw hs rfl
    rw [h2.ty]
    exact ⟨t, tyT_ok h1 et, b, eb, k _ _ H q .refl (o_scal (by rw [rp_bl]))⟩
  · obtain ⟨cs, ec, t, et, b, eb, q⟩ := q
    obtain ⟨x, y, rfl, h1, h2⟩ := two_rw hs rfl
    obtain ⟨a, vs, rfl, ha, hr⟩ := h2.tup
    have e := tysT_ok hr ec
    subst e
    exact ⟨_, ha, t, tyT_ok h1 et, b, eb, k _ _ H q .refl (o_scal (by rw [rp_bl]))⟩
  · exact q.elim
def blsT : List Tr → Option (List Bool)
  | [] => some []
  | .bl b :: ts => (blsT ts).map (b :: ·)
  | _ :: _ => none
theorem blsT_ok {W : Wd} {H : Hp} : ∀ {ts : List Tr} {vs : List V} {bs : List Bool}, Rps K W H ts vs → blsT ts = some bs → vs = bs.map V.bl
  | [], vs, bs, h, e => by cases e; rw [rps_nil] at h; exact h
  | t :: ts, vs, bs, h, e => by
    rw [rps_cons] at h
    obtain ⟨v, r, rfl, h1, h2⟩ := h
    cases t <;> first
      | (cases e; done)
      | (rename_i n
         have e : (blsT ts).map (n :: ·) = some bs := e
         cases e1 : blsT ts with
         | none => rw [e1] at e; cases e
         | some us =>
           rw [e1] at e; cases e
           rw [rp_bl] at h1
           rw [h1, blsT_ok h2 e1]; rfl)
def gAll : List Tr → (R → Prop) → Prop
  | [.lst ts], P => U.optE (blsT ts) fun bs => P (.fz (.bl (bs.all id)))
  | _, _ => False
def gAny : List Tr → (R → Prop) → Prop
  | [.lst ts], P => U.optE (blsT ts) fun bs => P (.fz (.bl (bs.any id)))
  | _, _ => False
theorem o_all : CbT K U.rAll gAll := fun H W xs ss P Q d hs q k => by
  unfold gAll at q
  split at q
  · obtain ⟨bs, eb, q⟩ := q
    obtain ⟨x, rfl, h⟩ := one_rw hs rfl
    obtain ⟨a, vs, rfl, h1, h2⟩ := h.lst
    have e := blsT_ok h2 eb
    subst e
    exact ⟨bs, h1, k _ _ H q .refl (o_scal (by rw [rp_bl]))⟩
  · exact q.elim
theorem o_any : CbT K U.rAny gAny := fun H W xs ss P Q d hs q k => by
  unfold gAny at q
  split at q
  · obtain ⟨bs, eb, q⟩ := q
    obtain ⟨x, rfl, h⟩ := one_rw hs rfl
    obtain ⟨a, vs, rfl, h1, h2⟩ := h.lst
    have e := blsT_ok h2 eb
    subst e
    exact ⟨bs, h1, k _ _ H q .refl (o_scal (by rw [rp_bl]))⟩
  · exact q.elim
def intsT : List Tr → Option (List Int)
  | [] => some []
  | .int b :: ts => (intsT ts).map (b :: ·)
  | _ :: _ => none
theorem intsT_ok {W : Wd} {H : Hp} : ∀ {ts : List Tr} {vs : List V} {bs : List Int}, Rps K W H ts vs → intsT ts = some bs → vs = bs.map V.int
  | [], vs, bs, h, e => by cases e; rw [rps_nil] at h; exact h
  | t :: ts, vs, bs, h, e => by
    rw [rps_cons] at h
    obtain ⟨v, r, rfl, h1, h2⟩ := h
    cases t <;> first
      | (cases e; done)
      | (rename_i n
         have e : (intsT ts).map (n :: ·) = some bs := e
         cases e1 : intsT ts with
         | none => rw [e1] at e; cases e
         | some us =>
           rw [e1] at e; cases e
           rw [rp_int] at h1
           rw [h1, intsT_ok h2 e1]; rfl)
theorem intsT_map : ∀ ns : List Int, intsT (ns.map Tr.int) = some ns
  | [] => rfl
  | n :: ns => by rw [List.map_cons, intsT, intsT_map ns]; rfl
def gSum : List Tr → (R → Prop) → Prop
  | [.lst ts], P => U.optE (intsT ts) fun ns => P (.fz (.int ns.sum))
  | _, _ => False
theorem o_sum : CbT K U.rSumU gSum := fun H W xs ss P Q d hs q k => by
  unfold gSum at q
  split at q
  · obtain ⟨ns, eb, q⟩ := q
    obtain ⟨x, rfl, h⟩ := one_rw hs rfl
    obtain ⟨a, vs, rfl, h1, h2⟩ := h.lst
    have e := intsT_ok h2 eb
    subst e
    show U.optE ((H a).bind U.lstOf) fun xs => U.optE (U.intsOf xs) fun ns => Q (.int ns.sum) H
    rw [h1]
    exact ⟨_, rfl, ns, U.intsOf_map ns, k _ _ H q .refl (o_scal (by rw [rp_int]))⟩
  · exact q.elim
def gMax : List Tr → (R → Prop) → Prop
  | [.int i, .int j], P => P (.fz (.int (max i j)))
  | _, _ => False
def gMin : List Tr → (R → Prop) → Prop
  | [.int i, .int j], P => P (.fz (.int (min i j)))
  | _, _ => False
theorem o_max : CbT K U.rMax gMax := fun H W xs ss P Q d hs q k => by
  unfold gMax at q
  split at q
  · obtain ⟨x, y, rfl, h1, h2⟩ := two_rw hs rfl
    rw [h1.int, h2.int]; exact k _ _ H q .refl (o_scal (by rw [rp_int]))
  · exact q.elim
theorem o_min : CbT K U.rMin gMin := fun H W xs ss P Q d hs q k => by
  unfold gMin at q
  split at q
  · obtain ⟨x, y, rfl, h1, h2⟩ := two_rw hs rfl
    rw [h1.int, h2.int]; exact k _ _ H q .refl (o_scal (by rw [rp_int]))
  · exact q.elim
def gStr : List Tr → (R → Prop) → Prop
  | [.int i], P => (0 ≤ i ∧ i < 2 ^ 1900) ∧ P (.fz (.str (U.numL i.toNat)))
  | _, _ => False
theorem o_str : CbT K U.rStr gStr := fun H W xs ss P Q d hs q k => by
  unfold gStr at q
  split at q
  · obtain ⟨x, rfl, h⟩ := one_rw hs rfl
    rw [h.int]; exact ⟨q.1, k _ _ H q.2 .refl (o_scal (by rw [rp_str]))⟩
  · exact q.elim
def gInt : List Tr → (R → Prop) → Prop
  | [.int i], P => P (.fz (.int i))
  | [.bl b], P => P (.fz (.int (if b then 1 else 0)))
  | [.str z], P => (U.digs z = true ∧ z ≠ [] ∧ z.length ≤ 640) ∧ P (.fz (.int (U.valL z)))
  | _, _ => False
theorem o_int : CbT K U.rInt gInt := fun H W xs ss P Q d hs q k => by
  unfold gInt at q
  split at q
  · obtain ⟨x, rfl, h⟩ := one_rw hs rfl
    rw [h.int]; exact k _ _ H q .refl (o_scal (by rw [rp_int]))
  · obtain ⟨x, rfl, h⟩ := one_rw hs rfl
    rw [h.bl]; exact k _ _ H q .refl (o_scal (by rw [rp_int]))
  · obtain ⟨x, rfl, h⟩ := one_rw hs rfl
    rw [h.str]; exact ⟨q.1, k _ _ H q.2 .refl (o_scal (by rw [rp_int]))⟩
  · exact q.elim
def gList : List Tr → (R → Prop) → Prop
  | [.lst ts], P => P (.mu (.lst ts))
  | [.tup ts], P => P (.mu (.lst ts))
  | _, _ => False
theorem o_list : CbT K U.rList gList := fun H W xs ss P Q d hs q k => by
  have key : ∀ (a : Addr) (vs : List V) (ts : List Tr), (H a).bind U.seqOf = some vs → Rps K W H ts vs → P (.mu (.lst ts)) → U.rList [.ref a] H Q := fun a vs ts h1 h2 q => by
    refine ⟨vs, h1, fun p hp => ?_⟩
    have g : Grow H (upd H p (.lst vs)) := Grow.new hp
    exact k _ _ _ q g ⟨p, rfl, hp, _, upd_same, h2.st (g.fz d)⟩
  unfold gList at q
  split at q
  · obtain ⟨x, rfl, h⟩ := one_rw hs rfl
    obtain ⟨a, vs, rfl, h1, h2⟩ := h.lst
    exact key a vs _ (by rw [h1]; rfl) h2 q
  · obtain ⟨x, rfl, h⟩ := one_rw hs rfl
    obtain ⟨a, vs, rfl, h1, h2⟩ := h.tup
    exact key a vs _ (by rw [h1]; rfl) h2 q
  · exact q.elim
def gDivmod : List Tr → (R → Prop) → Prop
  | [.int i, .int j], P => (0 < j ∧ j < 2 ^ 8000) ∧ P (.mu (.tup [.int (i / j), .int (i % j)]))
  | _, _ => False
theorem o_divmod : CbT K U.rDivmod gDivmod := fun H W xs ss P Q d hs q k => by
  unfold gDivmod at q
  split at q
  · obtain ⟨x, y, rfl, h1, h2⟩ := two_rw hs rfl
    rw [h1.int, h2.int]
    refine ⟨q.1, fun p hp => ?_⟩
    refine k _ _ _ q.2 (Grow.new hp) ⟨p, rfl, hp, _, upd_same, ?_⟩
    rw [rps_cons]
    refine ⟨_, _, rfl, by rw [rp_int], ?_⟩
    rw [rps_cons]
    exact ⟨_, _, rfl, by rw [rp_int], by rw [rps_nil]⟩
  · exact q.elim
end
/-- tuple(x) -/
def fTuple (fa : FE) : FE := fun Γ P => fa Γ fun r Γ1 => match con Γ1 r with
  | some (.lst ts) => P (.mu (.tup ts)) Γ1
  | some (.tup ts) => frz r Γ1 fun t Γ2 => P (.fz (.tup ts)) Γ2 ∧ t = .tup ts
  | _ => False
section
variable {c : Ctx} {ta : L2.TE} {fa : FE}
theorem re_tuple (ha : RE c ta fa) : RE c (tCB U.rTuple (tCons ta tNil)) (fTuple fa) := fun Γ σ H W P Q E p k => by
  refine ha Γ σ H W _ _ E p fun r Γ1 v H1 W1 q E1 s1 h1 => ?_
  split at q
  · rename_i ts et
    obtain ⟨a, vs, rfl, ha, hr⟩ := (h1.rw E1 et).lst
    refine .inl ⟨vs, ha, fun p hp => ?_⟩
    have g : Grow H1 (upd H1 p (.tup vs)) := Grow.new hp
    exact k _ Γ1 _ _ W1 q (E1.grow g) (s1.trans (g.step E1.dom)) ⟨p, rfl, none_of s1.dm hp, E1.dom.none hp, _, upd_same, hr.st (g.fz E1.dom)⟩
  · rename_i ts et
    obtain ⟨t, Γ2, W2, ⟨q, rfl⟩, E2, s2, h2⟩ := frz_ok E1 s1 h1 q E.dm
    have h3 := h2
    rw [rp_tup] at h3
    obtain ⟨a, vs, rfl, wa, ha, hr⟩ := h3
    exact .inr ⟨vs, ha, k _ Γ2 _ H1 W2 q E2 s2 h2⟩
  · exact q.elim
/-- x[::-1] of a list -/
def fRevL (fa : FE) : FE := fun Γ P => fa Γ fun r Γ1 => U.optE ((con Γ1 r).bind seqS) fun ts => P (.mu (.lst ts.reverse)) Γ1
theorem re_revL (ha : RE c ta fa) : RE c (tRevL c.K ta) (fRevL fa) := fun Γ σ H W P Q E p k => by
  refine ha Γ σ H W _ _ E p fun r Γ1 v H1 W1 ⟨ts, et, q⟩ E1 s1 h1 => ?_
  cases e1 : con Γ1 r with
  | none => rw [e1] at et; cases et
  | some t =>
    rw [e1] at et
    have et : seqS t = some ts := et
    have hw := h1.rw E1 e1
    have key : ∃ a vs, v = .ref a ∧ SqL c.K H1 a vs ∧ Rps c.K W1 H1 ts vs := by
      cases t <;> cases et
      · obtain ⟨a, e, h⟩ := hw.scr; exact ⟨a, _, e, h, ints_rps⟩
      · obtain ⟨a, vs, e, h, hr⟩ := hw.lst; exact ⟨a, vs, e, SqL.of h, hr⟩
    obtain ⟨a, vs, rfl, hq, hr⟩ := key
    refine ⟨a, vs, rfl, hq, fun p hp => ?_⟩
    have g : Grow H1 (upd H1 p (.lst vs.reverse)) := Grow.new hp
    exact k _ Γ1 _ _ W1 q (E1.grow g) (s1.trans (g.step E1.dom)) ⟨p, rfl, none_of s1.dm hp, E1.dom.none hp, _, upd_same, hr.reverse.st (g.fz E1.dom)⟩
end
end Z

namespace Z
open PySem PySem.Spec PyProof.Rows L2
/-! ### texts -/
def fBS (g : List Nat → List Tr → (R → Prop) → Prop) (fo : FE) (fA : G → (List R → G → Prop) → Prop) : FE := fun Γ P => fo Γ fun r Γ1 => U.optE ((con Γ1 r).bind strS) fun a => fA Γ1 fun rs Γ2 => U.optE (cons Γ2 rs) fun ss => g a ss fun rr => P rr Γ2
def MsT (K : PySem.W.Frag) (r : V → List V → Hp → VK → Prop) (g : List Nat → List Tr → (R → Prop) → Prop) : Prop := ∀ a : List Nat, CbT K (r (U.sv a)) (g a)
def strsT : List Tr → Option (List (List Nat))
  | [] => some []
  | .str b :: ts => (strsT ts).map (b :: ·)
  | _ :: _ => none
section
variable {K : PySem.W.Frag}
theorem strsT_ok {W : Wd} {H : Hp} : ∀ {ts : List Tr} {vs : List V} {bs : List (List Nat)}, Rps K W H ts vs → strsT ts = some bs → vs = bs.map U.sv
  | [], vs, bs, h, e => by cases e; rw [rps_nil] at h; exact h
  | t :: ts, vs, bs, h, e => by
    rw [rps_cons] at h
    obtain ⟨v, r, rfl, h1, h2⟩ := h
    cases t <;> first
      | (cases e; done)
      | (rename_i n
         have e : (strsT ts).map (n :: ·) = some bs := e
         cases e1 : strsT ts with
         | none => rw [e1] at e; cases e
         | some us =>
           rw [e1] at e; cases e
           rw [rp_str] at h1
           rw [h1, strsT_ok h2 e1]; rfl)
theorem strsT_map : ∀ ns : List (List Nat), strsT (ns.map Tr.str) = some ns
  | [] => rfl
  | n :: ns => by rw [List.map_cons, strsT, strsT_map ns]; rfl
theorem strsT_app : ∀ {ss ts : List Tr} {a b : List (List Nat)}, strsT ss = some a → strsT ts = some b → strsT (ss ++ ts) = some (a ++ b)
  | [], ts, a, b, h, k => by cases h; exact k
  | t :: ss, ts, a, b, h, k => by
    cases t <;> first
      | (cases h; done)
      | (rename_i n
         have h : (strsT ss).map (n :: ·) = some a := h
         cases e1 : strsT ss with
         | none => rw [e1] at h; cases h
         | some us =>
           rw [e1] at h; cases h
           show (strsT (ss ++ ts)).map (n :: ·) = _
           rw [strsT_app e1 k]; rfl)
def gJoin (a : List Nat) : List Tr → (R → Prop) → Prop
  | [.lst ts], P => U.optE (strsT ts) fun ys => (ys.map List.length).sum + ys.length * a.length ≤ 16777216 ∧ P (.fz (.str (TL.joinL a ys)))
  | [.tup ts], P => U.optE (strsT ts) fun ys => (ys.map List.length).sum + ys.length * a.length ≤ 16777216 ∧ P (.fz (.str (TL.joinL a ys)))
  | _, _ => False
theorem o_join : MsT K U.rJoin gJoin := fun a H W xs ss P Q d hs q k => by
  unfold gJoin at q
  split at q
  · obtain ⟨ys, ey, hz, q⟩ := q
    obtain ⟨x, rfl, h⟩ := one_rw hs rfl
    obtain ⟨a, vs, rfl, h1, h2⟩ := h.lst
    have e := strsT_ok h2 ey
    subst e
    exact ⟨ys, .inl h1, hz, k _ _ H q .refl (o_scal (by rw [rp_str]))⟩
  · obtain ⟨ys, ey, hz, q⟩ := q
    obtain ⟨x, rfl, h⟩ := one_rw hs rfl
    obtain ⟨a, vs, rfl, h1, h2⟩ := h.tup
    have e := strsT_ok h2 ey
    subst e
    exact ⟨ys, .inr h1, hz, k _ _ H q .refl (o_scal (by rw [rp_str]))⟩
  · exact q.elim
def gRstrip (a : List Nat) : List Tr → (R → Prop) → Prop
  | [.str b], P => a.length ≤ 16777216 ∧ P (.fz (.str (Txt.rstripChars ⟨a.toArray⟩ ⟨b.toArray⟩).cps.toList))
  | _, _ => False
theorem o_rstrip : MsT K U.rRstrip gRstrip := fun a H W xs ss P Q d hs q k => by
  unfold gRstrip at q
  split at q
  · obtain ⟨x, rfl, h⟩ := one_rw hs rfl
    rw [h.str]
    exact ⟨q.1, k _ _ H q.2 .refl (o_scal (by rw [rp_str, ← U.sv_of]))⟩
  · exact q.elim
def gZfill (a : List Nat) : List Tr → (R → Prop) → Prop
  | [.int i], P => PadOk i = true ∧ P (.fz (.str (Txt.zfill ⟨a.toArray⟩ i).cps.toList))
  | _, _ => False
theorem o_zfill : MsT K U.rZfill gZfill := fun a H W xs ss P Q d hs q k => by
  unfold gZfill at q
  split at q
  · obtain ⟨x, rfl, h⟩ := one_rw hs rfl
    rw [h.int]
    exact ⟨q.1, k _ _ H q.2 .refl (o_scal (by rw [rp_str, ← U.sv_of]))⟩
  · exact q.elim
def gIndex (a : List Nat) : List Tr → (R → Prop) → Prop
  | [.str b], P => U.optE (U.idxL a b) fun k => P (.fz (.int (k : Nat)))
  | _, _ => False
theorem o_index : MsT K U.rIndex1 gIndex := fun a H W xs ss P Q d hs q k => by
  unfold gIndex at q
  split at q
  · obtain ⟨n, en, q⟩ := q
    obtain ⟨x, rfl, h⟩ := one_rw hs rfl
    rw [h.str, U.e_index]
    exact ⟨n, en, k _ _ H q .refl (o_scal (by rw [rp_int]))⟩
  · exact q.elim
end
section
variable {c : Ctx} {ta tb to te : L2.TE} {fa fb fo fe : FE} {tA : L2.TA} {fA : G → (List R → G → Prop) → Prop}
theorem re_bs {r : V → List V → Hp → VK → Prop} {g : List Nat → List Tr → (R → Prop) → Prop} (hg : MsT c.K r g) (ho : RE c to fo) (hA : RA c tA fA) : RE c (U.tBS r to tA) (fBS g fo fA) := fun Γ σ H W P Q E p k => by
  refine ho Γ σ H W _ _ E p fun r0 Γ1 v H1 W1 ⟨a, ea, q⟩ E1 s1 h1 => ?_
  have ev := h1.str E1 ea
  subst ev
  refine ⟨trivial, ?_⟩
  refine hA Γ1 σ H1 W1 _ _ E1 q fun rs Γ2 vs H2 W2 ⟨ss, es, q⟩ E2 s2 h2 => ?_
  refine hg a H2 W2 vs ss _ Q E2.dom (cons_rw E2 h2 es) q fun rr v H' pr gr hr => ?_
  exact k rr Γ2 v H' W2 pr (E2.grow gr) ((s1.trans s2).trans (gr.step E2.dom)) (out_rr E2.dom (fun a z => s2.dm a (s1.dm a z)) hr)
def fBS0 (g : List Nat → List Tr → (R → Prop) → Prop) (fo : FE) : FE := fun Γ P => fo Γ fun r Γ1 => U.optE ((con Γ1 r).bind strS) fun a => g a [] fun rr => P rr Γ1
theorem re_bs0 {r : V → List V → Hp → VK → Prop} {g : List Nat → List Tr → (R → Prop) → Prop} (hg : MsT c.K r g) (ho : RE c to fo) : RE c (U.tBS0 r to) (fBS0 g fo) := fun Γ σ H W P Q E p k => by
  refine ho Γ σ H W _ _ E p fun r0 Γ1 v H1 W1 ⟨a, ea, q⟩ E1 s1 h1 => ?_
  have ev := h1.str E1 ea
  subst ev
  refine ⟨trivial, ?_⟩
  refine hg a H1 W1 [] [] _ Q E1.dom .nil q fun rr v H' pr gr hr => ?_
  exact k rr Γ1 v H' W1 pr (E1.grow gr) (s1.trans (gr.step E1.dom)) (out_rr E1.dom s1.dm hr)
/-! ### f-strings -/
def fmtT : Tr → (Tr → Prop) → Prop
  | .str l, k => l.length ≤ 16777216 ∧ k (.str l)
  | .int i, k => (0 ≤ i ∧ i < 2 ^ 1900) ∧ k (.str (U.numL i.toNat))
  | _, _ => False
def fFmt (fa : FE) : FE := fun Γ P => fa Γ fun r Γ1 => U.optE (con Γ1 r) fun t => fmtT t fun u => P (.fz u) Γ1
theorem re_fmt (ha : RE c ta fa) : RE c (U.uFmt ta) (fFmt fa) := fun Γ σ H W P Q E p k => by
  refine ha Γ σ H W _ _ E p fun r Γ1 v H1 W1 ⟨t, et, q⟩ E1 s1 h1 => ?_
  have hw := h1.rw E1 et
  cases t <;> first
    | exact False.elim q
    | (rw [hw.str]; exact ⟨q.1, k _ Γ1 _ H1 W1 q.2 E1 s1 (by show Rp _ _ _ _ _; rw [rp_str])⟩)
    | (rw [hw.int]; exact ⟨q.1, k _ Γ1 _ H1 W1 q.2 E1 s1 (by show Rp _ _ _ _ _; rw [rp_str])⟩)
def fJs : List FE → List Nat → G → (List Nat → G → Prop) → Prop
  | [], acc, Γ, P => P acc Γ
  | f :: fs, acc, Γ, P => f Γ fun r Γ1 => U.optE ((con Γ1 r).bind strS) fun y => acc.length + y.length ≤ 16777216 ∧ fJs fs (acc ++ y) Γ1 P
def fJoined (fs : List FE) : FE := fun Γ P => fJs fs [] Γ fun l Γ1 => P (.fz (.str l)) Γ1
theorem js_ok : ∀ {ts : List L2.TE} {fs : List FE}, Paired (RE c) ts fs → ∀ (acc : List Nat) (Γ : G) (σ : L2.St) (H : Hp) (W : Wd) (P : List Nat → G → Prop) (Q : List Nat → Hp → Prop), Env c H W Γ σ → fJs fs acc Γ P →
    (∀ l Γ' H' W', P l Γ' → Env c H' W' Γ' σ → Step H W H' W' → Q l H') → U.uJs ts acc σ H Q
  | _, _, .nil, acc, Γ, σ, H, W, P, Q, E, p, k => k acc Γ H W p E .refl
  | t :: ts, f :: fs, .cons h hr, acc, Γ, σ, H, W, P, Q, E, p, k => by
    refine h Γ σ H W _ _ E p fun r Γ1 v H1 W1 ⟨y, ey, hz, q⟩ E1 s1 h1 => ?_
    have ev := h1.str E1 ey
    subst ev
    exact ⟨_, rfl, hz, js_ok hr _ Γ1 σ H1 W1 P Q E1 q fun l Γ' H' W' p E' s' => k l Γ' H' W' p E' (s1.trans s')⟩
theorem re_joined {ts : List L2.TE} {fs : List FE} (h : Paired (RE c) ts fs) : RE c (U.uJoined ts) (fJoined fs) := fun Γ σ H W P Q E p k =>
  js_ok h [] Γ σ H W _ _ E p fun l Γ' H' W' p E' s' => k _ Γ' _ H' W' p E' s' (by show Rp _ _ _ _ _; rw [rp_str])
end
/-! ### == and < of data -/
mutual
def dtT : Tr → Option PyData
  | .non => some .none
  | .bl b => some (.bool b)
  | .int i => some (.int i)
  | .str l => some (.str ⟨l.toArray⟩)
  | .lst ts => (dtTs ts).map PyData.list
  | .tup ts => (dtTs ts).map PyData.tuple
  | _ => none
def dtTs : List Tr → Option (List PyData)
  | [] => some []
  | t :: ts => match dtT t, dtTs ts with
    | some d, some ds => some (d :: ds)
    | _, _ => none
end
section
variable {K : PySem.W.Frag} {W : Wd} {H : Hp}
mutual
theorem dt_rp : ∀ (t : Tr) (v : V) (d : PyData), Rp K W H t v → dtT t = some d → Dp K H v d
  | .non, v, d, h, e => by rw [dtT] at e; cases e; rw [rp_non] at h; subst h; exact .non
  | .bl b, v, d, h, e => by rw [dtT] at e; cases e; rw [rp_bl] at h; subst h; exact .bl b
  | .int i, v, d, h, e => by rw [dtT] at e; cases e; rw [rp_int] at h; subst h; exact .int i
  | .str l, v, d, h, e => by rw [dtT] at e; cases e; rw [rp_str] at h; subst h; exact .str _
  | .lst ts, v, d, h, e => by
    rw [dtT] at e
    rw [rp_lst] at h
    obtain ⟨a, vs, rfl, _, h1, h2⟩ := h
    cases e1 : dtTs ts with
    | none => rw [e1] at e; cases e
    | some ds => rw [e1] at e; cases e; exact .lst (SqL.of h1) (dts_rp ts vs ds h2 e1)
  | .tup ts, v, d, h, e => by
    rw [dtT] at e
    rw [rp_tup] at h
    obtain ⟨a, vs, rfl, _, h1, h2⟩ := h
    cases e1 : dtTs ts with
    | none => rw [e1] at e; cases e
    | some ds => rw [e1] at e; cases e; exact .tup (SqT.of h1) (dts_rp ts vs ds h2 e1)
  | .ty n, v, d, h, e => by simp [dtT] at e
  | .adr n, v, d, h, e => by simp [dtT] at e
  | .scr n, v, d, h, e => by simp [dtT] at e
  | .ins _ _ _, v, d, h, e => by simp [dtT] at e
theorem dts_rp : ∀ (ts : List Tr) (vs : List V) (ds : List PyData), Rps K W H ts vs → dtTs ts = some ds → DpAll K H vs ds
  | [], vs, ds, h, e => by rw [dtTs] at e; cases e; rw [rps_nil] at h; subst h; exact .nil
  | t :: ts, vs, ds, h, e => by
    rw [dtTs] at e
    rw [rps_cons] at h
    obtain ⟨v, r, rfl, h1, h2⟩ := h
    cases e1 : dtT t with
    | none => rw [e1] at e; cases e
    | some d =>
      cases e2 : dtTs ts with
      | none => rw [e1, e2] at e; cases e
      | some ds' => rw [e1, e2] at e; cases e; exact .cons (dt_rp t v d h1 e1) (dts_rp ts r ds' h2 e2)
end
theorem dt_rw {t : Tr} {v : V} {d : PyData} (h : Rw K W H t v) (e : dtT t = some d) : Dp K H v d := by
  rcases h with h | ⟨a, rfl, h⟩
  · exact dt_rp t v d h e
  · cases t <;> first
      | exact False.elim h
      | (simp [dtT] at e; done)
      | (obtain ⟨vs, h1, h2⟩ := h
         rw [dtT] at e
         rename_i ts
         cases e1 : dtTs ts with
         | none => rw [e1] at e; cases e
         | some ds =>
           rw [e1] at e; cases e
           first
             | exact .lst (SqL.of h1) (dts_rp ts vs ds h2 e1)
             | exact .tup (SqT.of h1) (dts_rp ts vs ds h2 e1))
def gEqD : Tr → Tr → (R → Prop) → Prop := fun s t P => U.optE (dtT s) fun d => U.optE (dtT t) fun e => (SeqAt.shaped d = true ∧ SeqAt.shaped e = true) ∧ P (.fz (.bl (PyData.eqv d e)))
def gNeD : Tr → Tr → (R → Prop) → Prop := fun s t P => U.optE (dtT s) fun d => U.optE (dtT t) fun e => (SeqAt.shaped d = true ∧ SeqAt.shaped e = true) ∧ P (.fz (.bl (!PyData.eqv d e)))
theorem o_eqD : OpT K (rEqD K) gEqD := fun H W x y s t P Q d hs ht ⟨a, ea, b, eb, hc, q⟩ k => ⟨a, b, dt_rw hs ea, dt_rw ht eb, hc.1, hc.2, k _ _ H q .refl (o_scal (by rw [rp_bl]))⟩
theorem o_neD : OpT K (rNeD K) gNeD := fun H W x y s t P Q d hs ht ⟨a, ea, b, eb, hc, q⟩ k => ⟨a, b, dt_rw hs ea, dt_rw ht eb, hc.1, hc.2, k _ _ H q .refl (o_scal (by rw [rp_bl]))⟩
def gLtD : Tr → Tr → (R → Prop) → Prop := fun s t P => U.optE (dtT s) fun d => U.optE (dtT t) fun e => (PySem.W.alike d e = true ∧ d ≠ .none ∧ min d.depth e.depth ≤ 60) ∧ P (.fz (.bl (PySem.W.dataLt d e)))
def gGtD : Tr → Tr → (R → Prop) → Prop := fun s t P => U.optE (dtT s) fun d => U.optE (dtT t) fun e => (PySem.W.alike d e = true ∧ d ≠ .none ∧ min d.depth e.depth ≤ 60) ∧ P (.fz (.bl (PySem.W.dataLt e d)))
theorem o_ltD : OpT K (U.rLtD K) gLtD := fun H W x y s t P Q d hs ht ⟨a, ea, b, eb, hc, q⟩ k => ⟨a, b, dt_rw hs ea, dt_rw ht eb, hc.1, hc.2.1, hc.2.2, k _ _ H q .refl (o_scal (by rw [rp_bl]))⟩
theorem o_gtD : OpT K (U.rGtD K) gGtD := fun H W x y s t P Q d hs ht ⟨a, ea, b, eb, hc, q⟩ k => ⟨a, b, dt_rw hs ea, dt_rw ht eb, hc.1, hc.2.1, hc.2.2, k _ _ H q .refl (o_scal (by rw [rp_bl]))⟩
/-- isinstance(x, C), x an instance of C -/
def gIsC (C : Addr) : List Tr → (R → Prop) → Prop
  | [.ins C' _ _, .adr D], P => (C' = C ∧ D = C) ∧ P (.fz (.bl true))
  | _, _ => False
theorem o_isC {C : Addr} : CbT K (U.rIsC C) (gIsC C) := fun H W xs ss P Q d hs q k => by
  unfold gIsC at q
  split at q
  · obtain ⟨⟨rfl, rfl⟩, q⟩ := q
    obtain ⟨x, y, rfl, h1, h2⟩ := two_rw hs rfl
    obtain ⟨a, dx, vs, rfl, ha, _⟩ := h1.ins
    rw [h2.adr]
    exact ⟨a, dx, _, rfl, ha, k _ _ H q .refl (o_scal (by rw [rp_bl]))⟩
  · exact q.elim
end
section
variable {c : Ctx} {ta tb to te : L2.TE} {fa fb fo fe : FE}
/-- x == y by an own __eq__ -/
def fEqI (C : Addr) (tp : TP) (fa fb : FE) : FE := fun Γ P => fa Γ fun r1 Γ1 => frz r1 Γ1 fun s Γ2 => fb Γ2 fun r2 Γ3 => frz r2 Γ3 fun t Γ4 => insIs C "__eq__" s ∧ insIs C "__eq__" t ∧ tp [.fz s, .fz t] fun r outs => U.optE ((con Γ4 r).bind blT) fun b => P (.fz (.bl b)) Γ4
theorem ins_of {C : Addr} {m : Str} {t : Tr} {W : Wd} {H : Hp} {v : V} (h : insIs C m t) (rp : Rp c.K W H t v) : ∃ a dx fs, v = .ref a ∧ H a = some (.ins C dx fs) := by
  cases t with
  | ins C' ns ts =>
    obtain ⟨rfl, _⟩ := h
    rw [rp_ins] at rp
    obtain ⟨a, dx, vs, e, _, ha, _⟩ := rp
    exact ⟨a, dx, _, e, ha⟩
  | _ => exact h.elim
theorem re_eqI {C : Addr} {tp : TP} (ha : RE c ta fa) (hb : RE c tb fb) : RE c (tOp (U.rEqI C (spT c.K 2 tp)) ta tb) (fEqI C tp fa fb) := fun Γ σ H W P Q E p k => by
  refine ha Γ σ H W _ _ E p fun r1 Γ1 v1 H1 W1 q E1 s1 h1 => ?_
  obtain ⟨s, Γ2, W2, q, E2, s2, h2⟩ := frz_ok E1 s1 h1 q E.dm
  refine hb Γ2 σ H1 W2 _ _ E2 q fun r2 Γ3 v2 H3 W3 q E3 s3 h3 => ?_
  obtain ⟨t, Γ4, W4, ⟨i1, i2, q⟩, E4, s4, h4⟩ := frz_ok E3 s3 h3 q E2.dm
  have h2' := Rp.st s4.fz s v1 h2
  obtain ⟨a, dx, fs, rfl, ha⟩ := ins_of i1 h2'
  obtain ⟨b, dy, gs, rfl, hb⟩ := ins_of i2 h4
  refine ⟨a, b, dx, dy, fs, gs, rfl, rfl, ha, hb, ?_⟩
  have := call_core (n := 2) (tp := tp) (as := [.fz s, .fz t]) (vs := [.ref a, .ref b]) (dvs := []) (dts := []) (ss := [.fz s, .fz t]) (P := fun r Γ' => U.optE ((con Γ' r).bind blT) fun b => P (.fz (.bl b)) Γ') (Q := fun v H' => ∃ c, v = .bl c ∧ Q (.bl c) H') (E' := L2.E0) E4 (.cons h2' (.cons h4 .nil)) rfl rfl (fun _ _ => by rw [rps_nil]) rfl q
    (fun r Γ' v H' W' ⟨b, eb, p⟩ E' s' rr => ⟨b, rr.bl E' eb, k _ Γ' _ H' W' p E' (s2.trans (s4.trans s')) (by show Rp _ _ _ _ _; rw [rp_bl])⟩)
  exact this
/-- self.f = e -/
def insAt (Γ : G) (i : Nat) : Option (Addr × List Str × List Tr) := match Γ[i]? with
  | some (some (.mu (.ins C ns ts))) => some (C, ns, ts)
  | some (some (.pm (.ins C ns ts))) => some (C, ns, ts)
  | _ => none
def putN (f : Str) : List Str → List Str
  | [] => [f]
  | n :: ns => if n = f then n :: ns else n :: putN f ns
def putX {α : Type} (f : Str) (t : α) : List Str → List α → List α
  | [], _ => [t]
  | n :: ns, u :: ts => if n = f then t :: ts else u :: putX f t ns ts
  | _ :: _, [] => []
def fFldS (K : PySem.W.Frag) (i : Nat) (f : Str) (fe : FE) : FS := fun D Γ => fe Γ fun r Γ1 => frz r Γ1 fun t Γ2 => U.optE (insAt Γ2 i) fun z => Cls K z.1 ∧ NoAttr K z.1 f ∧ z.2.1.length < 1000 ∧ D.nx (setC Γ2 i (.ins z.1 (putN f z.2.1) (putX f t z.2.1 z.2.2)))
theorem insAt_of {Γ : G} {i : Nat} {z : Addr × List Str × List Tr} (h : insAt Γ i = some z) : Γ[i]? = some (some (.mu (.ins z.1 z.2.1 z.2.2))) ∨ Γ[i]? = some (some (.pm (.ins z.1 z.2.1 z.2.2))) := by
  unfold insAt at h
  split at h
  · cases h; exact .inl ‹_›
  · cases h; exact .inr ‹_›
  · cases h
theorem putF_zip {f : Str} {v : V} : ∀ {ns : List Str} {vs : List V}, ns.length = vs.length → putF f v (ns.zip vs) = (putN f ns).zip (putX f v ns vs)
  | [], [], _ => rfl
  | n :: ns, [], h => by simp at h
  | [], _ :: _, h => by simp at h
  | n :: ns, u :: vs, h => by
    have ih := putF_zip (f := f) (v := v) (ns := ns) (vs := vs) (by simpa using h)
    show (if n = f then (n, v) :: ns.zip vs else (n, u) :: putF f v (ns.zip vs)) = _
    rw [putN, putX]
    by_cases e : n = f
    · rw [if_pos e, if_pos e, if_pos e]; rfl
    · rw [if_neg e, if_neg e, if_neg e, ih]; rfl
theorem putX_len {α : Type} {f : Str} {t : α} : ∀ {ns : List Str} {ts : List α}, ns.length = ts.length → (putN f ns).length = (putX f t ns ts).length
  | [], [], _ => rfl
  | n :: ns, [], h => by simp at h
  | [], _ :: _, h => by simp at h
  | n :: ns, u :: vs, h => by
    have ih := putX_len (f := f) (t := t) (ns := ns) (ts := vs) (by simpa using h)
    rw [putN, putX]
    by_cases e : n = f
    · rw [if_pos e, if_pos e]; simpa using h
    · rw [if_neg e, if_neg e, List.length_cons, List.length_cons, ih]
theorem putX_rps {K : PySem.W.Frag} {W : Wd} {H : Hp} {f : Str} {t : Tr} {v : V} (h : Rp K W H t v) : ∀ {ns : List Str} {ts : List Tr} {vs : List V}, Rps K W H ts vs → Rps K W H (putX f t ns ts) (putX f v ns vs)
  | [], ts, vs, hr => by rw [putX, putX, rps_cons]; exact ⟨v, [], rfl, h, by rw [rps_nil]⟩
  | n :: ns, [], vs, hr => by rw [rps_nil] at hr; subst hr; rw [putX, putX, rps_nil]
  | n :: ns, u :: ts, vs, hr => by
    rw [rps_cons] at hr
    obtain ⟨w, r, rfl, h1, h2⟩ := hr
    rw [putX, putX]
    by_cases e : n = f
    · rw [if_pos e, if_pos e, rps_cons]; exact ⟨v, r, rfl, h, h2⟩
    · rw [if_neg e, if_neg e, rps_cons]; exact ⟨w, _, rfl, h1, putX_rps h h2⟩
theorem rs_fld {i : Nat} {f : Str} {K : PySem.W.Frag} (he : RE c te fe) (hK : c.K = K := by rfl) : RS c (sFld K (tVar i) te f) (fFldS K i f fe) := fun Γ σ H W D D' E p k1 k2 k3 k4 => by
  subst hK
  refine he Γ σ H W _ _ E p fun r Γ1 v H1 W1 q E1 s1 h1 => ?_
  obtain ⟨t, Γ2, W2, ⟨z, ez, q1, q2, q3, q4⟩, E2, s2, h2⟩ := frz_ok E1 s1 h1 q E.dm
  obtain ⟨C, ns, ts⟩ := z
  have hs := insAt_of ez
  have hx : ∃ o, σ[i]? = some (some o) := by
    rcases hs with hs | hs
    · exact E2.at hs
    · exact E2.at hs
  obtain ⟨o, ho⟩ := hx
  obtain ⟨a, rfl, wa, dx, vs, ha, hl, hr⟩ := slot_ad E2 ho hs
  have hlv : ns.length = vs.length := hl.trans hr.len.symm
  have nw : ∀ b, V.ref a = .ref b → Nd c.K W2 (upd H1 b (.ins C dx ((putN f ns).zip (putX f v ns vs)))) (.ins C (putN f ns) (putX f t ns ts)) b := fun b e => by
    cases e
    have ff : Fz H1 W2 (upd H1 a (.ins C dx ((putN f ns).zip (putX f v ns vs)))) W2 := fun b h => ⟨h, upd_ne (by rintro rfl; rw [wa] at h; cases h)⟩
    exact ⟨dx, _, upd_same, putX_len hl, putX_rps (Rp.st ff t v h2) (hr.st ff)⟩
  obtain ⟨b, e, _, E3, ff⟩ := E2.write (ho := .ins C dx ((putN f ns).zip (putX f v ns vs))) (o := .ins C (putN f ns) (putX f t ns ts)) ho hs nw
  cases e
  refine ⟨_, ho, a, C, dx, _, rfl, ha, q1, q2, ?_, ?_⟩
  · rw [List.length_zip]
    exact Nat.lt_of_le_of_lt (Nat.min_le_left _ _) q3
  · rw [putF_zip hlv]
    exact k1 _ σ _ W2 q4 E3 (s2.fz.trans ff)
end
/-! ### instances -/
section
variable {c : Ctx} {H H1 H2 H' : Hp} {W W1 W2 W' : Wd} {Γ Γ1 Γ' : G} {σ : L2.St} {v : V} {r : R}
def fMake (C : Addr) (tp : TP) (dts : List Tr) (fA : G → (List Ar → G → Prop) → Prop) : FE := fun Γ P =>
  fA Γ fun as Γ1 => ndup (lends as) = true ∧ U.optE (lendT Γ1 as) fun ss => tp (A.mu (.ins C [] []) :: (ss ++ dts.map A.fz)) fun r outs => match r, outs with
    | .fz .non, t :: os => P (.mu t) (back as os Γ1)
    | _, _ => False
theorem Env.more {a : Addr} {t : Tr} (E : Env c H W Γ σ) (h0 : c.H0 a = none) (wa : W a = none) (nd : Nd c.K W H t a) : Env c H (wset W a (some Γ.length)) (Γ ++ [some (.mu t)]) (σ ++ [some (.ref a)]) := by
  have ff : Fz H W H (wset W a (some Γ.length)) := fun b h => by
    refine ⟨?_, rfl⟩
    rw [wset_ne]
    · exact h
    · rintro rfl; rw [wa] at h; cases h
  refine ⟨fun b h => ?_, by rw [List.length_append, List.length_append, E.len]; rfl, fun j s hs => ?_, ⟨E.en.fz.trans ff, fun b o h e => ?_, E.en.dm⟩, fun j b h => ?_⟩
  · by_cases e : b = a
    · subst e; exact nd.is
    · rw [wset_ne e] at h; exact E.dom b h
  · by_cases hj : j < Γ.length
    · rw [List.getElem?_append_left hj] at hs
      obtain ⟨v, hv, ok⟩ := E.sl j s hs
      refine ⟨v, by rw [List.getElem?_append_left (by rw [← E.len]; exact hj)]; exact hv, ok.st ff fun b eb hb => ⟨rfl, wset_ne ?_⟩⟩
      rintro rfl; rw [wa] at hb; cases hb
    · have hlt := (List.getElem?_eq_some_iff.mp hs).1
      rw [List.length_append, List.length_singleton] at hlt
      have e : j = Γ.length := by omega
      subst e
      rw [List.getElem?_append_right (Nat.le_refl _), Nat.sub_self] at hs
      cases hs
      refine ⟨.ref a, ?_, a, rfl, wset_same, h0, nd.st ff rfl⟩
      rw [E.len, List.getElem?_append_right (Nat.le_refl _), Nat.sub_self]; rfl
  · obtain ⟨k1, k2⟩ := E.en.fo b o h e
    refine ⟨?_, k2⟩
    rw [wset_ne]; exact k1
    rintro rfl; rw [h0] at e; cases e
  · obtain ⟨t', ht⟩ := E.pin j b h
    exact ⟨t', by rw [List.getElem?_append_left (List.getElem?_eq_some_iff.mp ht).1]; exact ht⟩
theorem setC_app {i : Nat} {o : Tr} {l : G} (h : i < Γ.length) : setC (Γ ++ l) i o = setC Γ i o ++ l := by
  unfold setC
  rw [List.getElem?_append_left h]
  cases e : Γ[i]? with
  | none => rfl
  | some s =>
    cases s with
    | none => rfl
    | some s =>
      cases s with
      | fz t => rfl
      | mu t => exact List.set_append_left _ _ h
      | pm t => exact List.set_append_left _ _ h
theorem back_app {l : G} : ∀ {as : List Ar} {outs : List Tr} {Γ : G}, (∀ i ∈ lends as, i < Γ.length) → back as outs (Γ ++ l) = back as outs Γ ++ l
  | [], outs, Γ, h => rfl
  | .fz t :: as, outs, Γ, h => back_app (as := as) h
  | .lend i :: as, o :: outs, Γ, h => by
    rw [back, back, setC_app (h i List.mem_cons_self), back_app (fun j hj => by rw [setC_len]; exact h j (List.mem_cons_of_mem _ hj))]
  | .lend i :: as, [], Γ, h => back_app (as := as) fun j hj => h j (List.mem_cons_of_mem _ hj)
theorem lendT_app {l : G} : ∀ {as : List Ar} {ss : List A}, lendT Γ as = some ss → lendT (Γ ++ l) as = some ss ∧ ∀ i ∈ lends as, i < Γ.length
  | [], ss, h => ⟨h, fun i hi => by cases hi⟩
  | .fz t :: as, ss, h => by
    have h : (lendT Γ as).map (A.fz t :: ·) = some ss := h
    cases e1 : lendT Γ as with
    | none => rw [e1] at h; cases h
    | some s1 =>
      rw [e1] at h
      obtain ⟨k1, k2⟩ := lendT_app (l := l) e1
      exact ⟨by show (lendT (Γ ++ l) as).map _ = _; rw [k1]; exact h, k2⟩
  | .lend i :: as, ss, h => by
    have h : (match Γ[i]? with
      | some (some (.mu t)) => (lendT Γ as).map (A.mu t :: ·)
      | some (some (.pm t)) => (lendT Γ as).map (A.mu t :: ·)
      | _ => none) = some ss := h
    have hi : i < Γ.length := by
      cases e : Γ[i]? with
      | none => rw [e] at h; cases h
      | some s => exact (List.getElem?_eq_some_iff.mp e).1
    have key : ∃ s1, lendT Γ as = some s1 := by
      split at h
      · cases e1 : lendT Γ as with | none => rw [e1] at h; cases h | some s => exact ⟨s, rfl⟩
      · cases e1 : lendT Γ as with | none => rw [e1] at h; cases h | some s => exact ⟨s, rfl⟩
      · cases h
    obtain ⟨s1, e1⟩ := key
    obtain ⟨k1, k2⟩ := lendT_app (l := l) e1
    refine ⟨?_, fun j hj => ?_⟩
    · show (match (Γ ++ l)[i]? with
        | some (some (.mu t)) => (lendT (Γ ++ l) as).map (A.mu t :: ·)
        | some (some (.pm t)) => (lendT (Γ ++ l) as).map (A.mu t :: ·)
        | _ => none) = _
      rw [List.getElem?_append_left hi, k1, ← e1]; exact h
    · rcases List.mem_cons.mp hj with rfl | hj
      · exact hi
      · exact k2 j hj
theorem Env.less {n : Nat} {Γ2 : G} {x : Option V} {g : Option Sl} (E : Env c H W (Γ ++ [g]) (σ ++ [x])) (hp : ∀ i a, c.pa i = some a → i < Γ.length) : Env c H W Γ σ := by
  have hl : Γ.length = σ.length := by have := E.len; rw [List.length_append, List.length_append, List.length_singleton, List.length_singleton] at this; omega
  refine ⟨E.dom, hl, fun i s hs => ?_, E.en, fun i a h => ?_⟩
  · have hi := (List.getElem?_eq_some_iff.mp hs).1
    obtain ⟨v, hv, ok⟩ := E.sl i s (by rw [List.getElem?_append_left hi]; exact hs)
    exact ⟨v, by rw [List.getElem?_append_left (by omega)] at hv; exact hv, ok⟩
  · obtain ⟨t, ht⟩ := E.pin i a h
    exact ⟨t, by rw [List.getElem?_append_left (hp i a h)] at ht; exact ht⟩
theorem Env.free {a : Addr} {t : Tr} (E : Env c H W (Γ ++ [some (.mu t)]) (σ ++ [some (.ref a)])) (hp : ∀ i a, c.pa i = some a → i < Γ.length) : Env c H (wfree W a) Γ σ ∧ Nd c.K (wfree W a) H t a ∧ wfree W a a = none := by
  have hl : Γ.length = σ.length := by have := E.len; rw [List.length_append, List.length_append, List.length_singleton, List.length_singleton] at this; omega
  obtain ⟨v, hv, b, e, h1, h2, h3⟩ := E.sl Γ.length (.mu t) (by rw [List.getElem?_append_right (Nat.le_refl _), Nat.sub_self]; rfl)
  rw [hl, List.getElem?_append_right (Nat.le_refl _), Nat.sub_self] at hv
  cases hv
  cases e
  have E1 := E.less (n := 0) (Γ2 := []) hp
  have ff : Fz H W H (wfree W a) := fun b h => by
    refine ⟨?_, rfl⟩
    unfold wfree
    rw [if_neg]
    · exact h
    · rintro rfl; rw [h1] at h; cases h
  have ne : ∀ b, b ≠ a → wfree W a b = W b := fun b h => if_neg h
  refine ⟨⟨fun b h => ?_, hl, fun i s hs => ?_, ⟨E1.en.fz.trans ff, fun b o h e => ?_, E1.en.dm⟩, E1.pin⟩, h3.st ff rfl, if_pos rfl⟩
  · by_cases e : b = a
    · subst e; exact h3.is
    · rw [ne b e] at h; exact E1.dom b h
  · have hi := (List.getElem?_eq_some_iff.mp hs).1
    obtain ⟨v, hv, ok⟩ := E1.sl i s hs
    refine ⟨v, hv, ok.st ff fun b eb hb => ⟨rfl, ne b ?_⟩⟩
    rintro rfl; rw [h1] at hb; cases hb; omega
  · obtain ⟨k1, k2⟩ := E1.en.fo b o h e
    refine ⟨?_, k2⟩
    by_cases e' : b = a
    · subst e'; exact if_pos rfl
    · rw [ne b e']; exact k1
theorem re_make {n m : Nat} {C : Addr} {tp : TP} {dvs : List V} {dts : List Tr} {E' : XK} {tA : L2.TA} {fA : G → (List Ar → G → Prop) → Prop} (hA : RF c m tA fA) (hd : ∀ W H, Rps c.K W H dts dvs) (hn : m + 1 + dts.length = n) :
    RE c (tMake C (spT c.K n tp) dvs E' tA) (fMake C tp dts fA) := fun Γ σ H W P Q E p k => by
  refine hA Γ σ H W _ _ E p fun as Γ1 vs H1 W1 ⟨nd, ss, hl, q⟩ E1 s1 h1 hz => ?_
  intro x dx hx hdx hne
  have g1 : Grow H1 (upd H1 dx (.own x)) := Grow.new hdx
  have hx' : (upd H1 dx (.own x)) x = none := by rw [upd_ne (Ne.symm hne)]; exact hx
  have g2 : Grow H1 (upd (upd H1 dx (.own x)) x (.ins C dx [])) := g1.trans (Grow.new hx')
  have E2 := E1.grow g2
  have hx0 := none_of s1.dm hx
  have E3 := E2.more (a := x) (t := .ins C [] []) (none_of E.dm hx0) (E1.dom.none hx) ⟨dx, [], upd_same, rfl, by rw [rps_nil]⟩
  obtain ⟨hl', hi'⟩ := lendT_app (l := [some (.mu (.ins C [] []))]) hl
  have st2 := g2.step E1.dom
  have hc2 : Fz H1 W1 (upd (upd H1 dx (.own x)) x (.ins C dx [])) (wset W1 x (some Γ1.length)) := fun b h => by
    obtain ⟨k1, k2⟩ := st2.fz b h
    refine ⟨?_, k2⟩
    rw [wset_ne]
    · exact h
    · rintro rfl; rw [E1.dom.none hx] at h; cases h
  have hp1 : Paired (fun a v => AR c (upd (upd H1 dx (.own x)) x (.ins C dx [])) (wset W1 x (some Γ1.length)) (σ ++ [some (.ref x)]) v a) (.lend Γ1.length :: as) (.ref x :: vs) := by
    refine .cons ?_ (L2.Paired.mapP h1 fun a v z => ?_)
    · show (σ ++ [some (V.ref x)])[Γ1.length]? = _
      rw [E1.len, List.getElem?_append_right (Nat.le_refl _), Nat.sub_self]; rfl
    · cases a with
      | fz t => exact Rp.st hc2 t v z
      | lend i =>
        have z : σ[i]? = some (some v) := z
        show (σ ++ [some (V.ref x)])[i]? = some (some v)
        rw [List.getElem?_append_left (List.getElem?_eq_some_iff.mp z).1]; exact z
  have nd1 : ndup (lends (.lend Γ1.length :: as)) = true := by
    show (!(lends as).contains Γ1.length && ndup (lends as)) = true
    rw [nd, Bool.and_true]
    cases e : (lends as).contains Γ1.length with
    | false => rfl
    | true => have := hi' _ (List.contains_iff_mem.mp e); omega
  have at1 : ∀ t : Tr, (Γ1 ++ [some (Sl.mu t)])[Γ1.length]? = some (some (.mu t)) := fun t => by
    rw [List.getElem?_append_right (Nat.le_refl _), Nat.sub_self]; rfl
  have hl1 : lendT (Γ1 ++ [some (.mu (.ins C [] []))]) (.lend Γ1.length :: as) = some (A.mu (.ins C [] []) :: ss) := by
    rw [lendT, at1, hl']; rfl
  have sc : ∀ t u : Tr, setC (Γ1 ++ [some (Sl.mu t)]) Γ1.length u = Γ1 ++ [some (Sl.mu u)] := fun t u => by
    unfold setC
    rw [at1]
    show (Γ1 ++ [some (Sl.mu t)]).set Γ1.length (some (Sl.mu u)) = _
    rw [List.set_append_right _ _ (Nat.le_refl _), Nat.sub_self]; rfl
  have pin : ∀ i a, c.pa i = some a → i < Γ1.length := fun i a e => by
    obtain ⟨t, ht⟩ := E1.pin i a e
    exact (List.getElem?_eq_some_iff.mp ht).1
  refine call_core' (n := n) (tp := tp) (as := .lend Γ1.length :: as) (vs := .ref x :: vs) (dvs := dvs) (dts := dts) (ss := .mu (.ins C [] []) :: ss) (Q := fun v H2 => v = .non ∧ Q (.ref x) H2) (E' := E') E3 hp1 nd1 hl1 hd (by rw [List.length_cons, hz]; exact hn) q fun r outs v H' W' pq E4 s4 rr => ?_
  match r, outs, pq with
  | .fz .non, t :: os, pq =>
    rw [back, sc, back_app hi'] at E4
    have rr : Rp c.K W' H' .non v := rr
    rw [rp_non] at rr
    refine ⟨rr, ?_⟩
    obtain ⟨E5, nd5, wf⟩ := E4.free (fun i a e => by rw [back_len]; exact pin i a e)
    refine k _ _ _ H' (wfree W' x) pq E5 ?_ ⟨x, rfl, hx0, wf, nd5⟩
    refine s1.trans ⟨fun b h => ?_, fun b o h e => ?_, fun b h => s4.dm b (g2.dm b h)⟩
    · obtain ⟨k1, k2⟩ := hc2 b h
      obtain ⟨k3, k4⟩ := s4.fz b k1
      refine ⟨?_, k4.trans k2⟩
      unfold wfree
      rw [if_neg]
      · exact k3
      · rintro rfl; rw [E1.dom.none hx] at h; cases h
    · have hbx : b ≠ x := by rintro rfl; rw [hx] at e; cases e
      obtain ⟨k3, k4⟩ := s4.fo b o (by rw [wset_ne hbx]; exact h) (g2 b o e)
      refine ⟨?_, k4⟩
      unfold wfree
      rw [if_neg hbx]; exact k3
end
end Z

namespace Z
open PySem PySem.Spec PyProof.Rows L2
section
variable {c : Ctx} {H H1 H2 H' : Hp} {W W1 W2 W' : Wd} {Γ Γ1 Γ' : G} {σ : L2.St} {v : V} {r : R} {ta tb te : L2.TE} {fa fb fe : FE} {tA : L2.TA} {fA : G → (List Ar → G → Prop) → Prop} {tl th : TO} {fl fh : FO} {K : PySem.W.Frag}
/-- s; rest, by a word in between -/
def fCut (f g : FS) : FS := fun D Γ => ∃ mid : G → Prop, f { D with nx := mid } Γ ∧ ∀ Γ1, mid Γ1 → g D Γ1
theorem rs_cut {t u : L2.TS} {f g : FS} (h1 : RS c t f) (h2 : RS c u g) : RS c (tSeq t u) (fCut f g) := fun Γ σ H W D D' E ⟨mid, p, pm⟩ k1 k2 k3 k4 => by
  refine h1 Γ σ H W _ _ E p (fun Γ1 σ1 H1 W1 q E1 f1 => ?_) (fun r Γ1 v σ1 H1 W1 q E1 f1 rr => k2 r Γ1 v σ1 H1 W1 q E1 f1 rr) (fun Γ1 σ1 H1 W1 q E1 f1 => k3 Γ1 σ1 H1 W1 q E1 f1) (fun Γ1 σ1 H1 W1 q E1 f1 => k4 Γ1 σ1 H1 W1 q E1 f1)
  exact h2 Γ1 σ1 H1 W1 D D' E1 (pm Γ1 q) (fun Γ2 σ2 H2 W2 q E2 f2 => k1 Γ2 σ2 H2 W2 q E2 (f1.trans f2)) (fun r Γ2 v σ2 H2 W2 q E2 f2 rr => k2 r Γ2 v σ2 H2 W2 q E2 (f1.trans f2) rr) (fun Γ2 σ2 H2 W2 q E2 f2 => k3 Γ2 σ2 H2 W2 q E2 (f1.trans f2)) (fun Γ2 σ2 H2 W2 q E2 f2 => k4 Γ2 σ2 H2 W2 q E2 (f1.trans f2))
def gIpA : Tr → Tr → (R → Prop) → Prop
  | .int i, .int j, P => P (.fz (.int (i + j)))
  | .str a, .str b, P => a.length + b.length ≤ 16777216 ∧ P (.fz (.str (a ++ b)))
  | _, _, _ => False
def gIpS : Tr → Tr → (R → Prop) → Prop
  | .int i, .int j, P => P (.fz (.int (i - j)))
  | _, _, _ => False
theorem o_ipAdd : OpT K U.ipAdd gIpA := fun H W x y s t P Q d hs ht q k => by
  unfold gIpA at q
  split at q
  · rw [hs.int, ht.int]; exact k _ _ H q .refl (o_scal (by rw [rp_int]))
  · rw [hs.str, ht.str]; exact ⟨q.1, k _ _ H q.2 .refl (o_scal (by rw [rp_str]))⟩
  · exact q.elim
theorem o_ipSub : OpT K U.ipSub gIpS := fun H W x y s t P Q d hs ht q k => by
  unfold gIpS at q
  split at q
  · rw [hs.int, ht.int]; exact k _ _ H q .refl (o_scal (by rw [rp_int]))
  · exact q.elim
def gSlS : Tr → Option Int → Option Int → (R → Prop) → Prop
  | .scr ns, lo, hi, P => P (.mu (.lst ((U.cutL ns lo hi).map Tr.int)))
  | _, _, _, _ => False
theorem cut_map {α β : Type} {f : α → β} {l : List α} {lo hi : Option Int} : U.cutL (l.map f) lo hi = (U.cutL l lo hi).map f := by
  unfold U.cutL
  rw [List.length_map, ← List.map_drop, ← List.map_take]
theorem o_slS : SlT K (U.rSlS K) gSlS := fun lo hi H W x s P Q d hs q k => by
  cases s with
  | scr ns =>
    obtain ⟨a, rfl, h1⟩ := hs.scr
    refine ⟨a, _, rfl, h1, fun p hp => ?_⟩
    exact k _ _ _ q (Grow.new hp) ⟨p, rfl, hp, _, upd_same, by rw [cut_map]; exact ints_rps (c := ⟨K, H, W, fun _ => none⟩)⟩
  | _ => exact False.elim q
/-- a cut of a tuple -/
def fSlT (fa : FE) (fl fh : FO) : FE := fun Γ P => fa Γ fun r Γ1 => frz r Γ1 fun t Γ2 => fl Γ2 fun lo Γ3 => fh Γ3 fun hi Γ4 => U.optE (tupS t) fun ts => P (.fz (.tup (U.cutL ts lo hi))) Γ4
theorem re_slT (ha : RE c ta fa) (hl : RO c tl fl) (hh : RO c th fh) : RE c (tSl U.rSl ta tl th) (fSlT fa fl fh) := fun Γ σ H W P Q E p k => by
  refine ha Γ σ H W _ _ E p fun r Γ1 v1 H1 W1 q E1 s1 h1 => ?_
  obtain ⟨t, Γ2, W2, q, E2, s2, h2⟩ := frz_ok E1 s1 h1 q E.dm
  refine hl Γ2 σ H1 W2 _ _ E2 q fun lo Γ3 H3 W3 q E3 s3 => ?_
  refine hh Γ3 σ H3 W3 _ _ E3 q fun hi Γ4 H4 W4 ⟨ts, et, pq⟩ E4 s4 => ?_
  have h4 := Rp.st s4.fz t v1 (Rp.st s3.fz t v1 h2)
  have s24 := s2.trans (s3.trans s4)
  cases t <;> cases et
  have h4' := h4
  rw [rp_tup] at h4
  obtain ⟨a, vs, rfl, wa, ha, hr⟩ := h4
  refine .inr ⟨vs, ha, fun e => ?_, fun p hp => ?_⟩
  · have e2 : U.cutL ts lo hi = ts := by
      have hl := hr.len
      have h5 := congrArg List.length e
      unfold U.cutL at h5 ⊢
      rw [hl] at h5
      rw [List.length_take, List.length_drop, hl] at h5
      by_cases hz : ts.length = 0
      · have : ts = [] := List.length_eq_zero_iff.mp hz
        subst this; simp
      · have hd : HT.sIx ts.length 0 lo = 0 := by omega
        rw [hd, List.drop_zero, List.take_of_length_le (by omega)]
    rw [← e2] at h4'
    exact k _ Γ4 _ H4 W4 pq E4 s24 h4'
  · have g : Grow H4 (upd H4 p (.tup (U.cutL vs lo hi))) := Grow.new hp
    have hn := none_of s24.dm hp
    refine k _ Γ4 _ _ (wset W4 p none) pq ((E4.grow g).give (by rw [upd_same]; rfl) (none_of E.dm hn) (E4.dom.none hp)) ((s24.trans (g.step E4.dom)).give hn) ?_
    show Rp _ _ _ _ _
    rw [rp_tup]
    exact ⟨p, _, rfl, wset_same, upd_same, ((Rps.cut hr).st (g.fz E4.dom)).st fz_wset⟩
def fNotT (fa : FE) : FE := fun Γ P => fa Γ fun r Γ1 => U.optE (con Γ1 r) fun t => U.optE (trT t) fun b => P (.fz (.bl (!b))) Γ1
theorem re_notT (ha : RE c ta fa) : RE c (tNotT c.K ta) (fNotT fa) := fun Γ σ H W P Q E p k => by
  refine ha Γ σ H W _ _ E p fun r Γ1 v H1 W1 ⟨t, et, b, eb, q⟩ E1 s1 h1 => ⟨b, ((h1.rw E1 et).tru eb).2, ?_⟩
  exact k _ Γ1 _ H1 W1 q E1 s1 (by show Rp _ _ _ _ _; rw [rp_bl])
/-- o.m(..), o an instance of one's own -/
def fMethL (C : Addr) (m : Str) (tp : TP) (dts : List Tr) (i : Nat) (fA : G → (List Ar → G → Prop) → Prop) : FE := fun Γ P => U.optE (insAt Γ i) fun z => (z.1 = C ∧ z.2.1.contains m = false) ∧ fA Γ fun as Γ1 =>
  ndup (lends (.lend i :: as)) = true ∧ U.optE (lendT Γ1 (.lend i :: as)) fun ss => tp (ss ++ dts.map A.fz) fun r outs => P r (back (.lend i :: as) outs Γ1)
theorem re_methL {n m i : Nat} {C : Addr} {mm : Str} {tp : TP} {dvs : List V} {dts : List Tr} {E' : XK} (hA : RF c m tA fA) (hd : ∀ W H, Rps c.K W H dts dvs) (hn : m + 1 + dts.length = n) : RE c (tMeth C mm (spT c.K n tp) dvs E' (tVar i) tA) (fMethL C mm tp dts i fA) := fun Γ σ H W P Q E p k => by
  obtain ⟨z, ez, ⟨e1, e2⟩, q⟩ := p
  obtain ⟨C', ns, ts⟩ := z
  have e1 : C' = C := e1
  subst e1
  have hs := insAt_of ez
  have hx : ∃ o, σ[i]? = some (some o) := by
    rcases hs with hs | hs
    · exact E.at hs
    · exact E.at hs
  obtain ⟨o, ho⟩ := hx
  obtain ⟨a, rfl, wa, dx, vs, ha, _, _⟩ := slot_ad E ho hs
  refine ⟨_, ho, a, dx, _, rfl, ha, zip_none e2 vs, ?_⟩
  refine hA Γ σ H W _ _ E q fun as Γ1 us H1 W1 ⟨nd, ss, hl, q⟩ E1 s1 h1 hz => ?_
  exact call_core (n := n) (tp := tp) (as := .lend i :: as) (vs := .ref a :: us) (dvs := dvs) (dts := dts) (ss := ss) (P := P) (Q := Q) (E' := E') E1 (.cons ho h1) nd hl hd (by rw [List.length_cons, hz]; exact hn) q fun r Γ' v H' W' p E' s' rr => k r Γ' v H' W' p E' (s1.trans s') (rr.early s1.dm)
/-! ### defaults -/
theorem r_nil {W : Wd} {H : Hp} : Rps K W H [] [] := by rw [rps_nil]
theorem r_cons {W : Wd} {H : Hp} {t : Tr} {ts : List Tr} {v : V} {vs : List V} (h : Rp K W H t v) (hs : Rps K W H ts vs) : Rps K W H (t :: ts) (v :: vs) := by rw [rps_cons]; exact ⟨v, vs, rfl, h, hs⟩
theorem r_non {W : Wd} {H : Hp} : Rp K W H .non .non := by rw [rp_non]
theorem r_int {W : Wd} {H : Hp} {i : Int} : Rp K W H (.int i) (.int i) := by rw [rp_int]
theorem r_bl {W : Wd} {H : Hp} {b : Bool} : Rp K W H (.bl b) (.bl b) := by rw [rp_bl]
theorem r_str {W : Wd} {H : Hp} {x : Str} {l : List Nat} (h : x.cps.toList = l) : Rp K W H (.str l) (.str x) := by rw [rp_str, U.sv_of, h]
end
/-! ### promises by the number of arguments -/
abbrev PK := R → List Tr → Prop
def tp0 (f : PK → Prop) : TP := fun ss P => ss = [] ∧ f P
theorem tp0_at {f : PK → Prop} {P : PK} : tp0 f [] P = f P := propext ⟨fun h => h.2, fun h => ⟨rfl, h⟩⟩
def tp1 (f : A → PK → Prop) : TP := fun ss P => ∃ a0, ss = [a0] ∧ f a0 P
theorem tp1_at {f : A → PK → Prop} {a0 : A} {P : PK} : tp1 f [a0] P = f a0 P := propext ⟨fun ⟨_, e, h⟩ => by cases e; exact h, fun h => ⟨_, rfl, h⟩⟩
def tp2 (f : A → A → PK → Prop) : TP := fun ss P => ∃ a0 a1, ss = [a0, a1] ∧ f a0 a1 P
theorem tp2_at {f : A → A → PK → Prop} {a0 a1 : A} {P : PK} : tp2 f [a0, a1] P = f a0 a1 P := propext ⟨fun ⟨_, _, e, h⟩ => by cases e; exact h, fun h => ⟨_, _, rfl, h⟩⟩
def tp3 (f : A → A → A → PK → Prop) : TP := fun ss P => ∃ a0 a1 a2, ss = [a0, a1, a2] ∧ f a0 a1 a2 P
theorem tp3_at {f : A → A → A → PK → Prop} {a0 a1 a2 : A} {P : PK} : tp3 f [a0, a1, a2] P = f a0 a1 a2 P := propext ⟨fun ⟨_, _, _, e, h⟩ => by cases e; exact h, fun h => ⟨_, _, _, rfl, h⟩⟩
def tp4 (f : A → A → A → A → PK → Prop) : TP := fun ss P => ∃ a0 a1 a2 a3, ss = [a0, a1, a2, a3] ∧ f a0 a1 a2 a3 P
theorem tp4_at {f : A → A → A → A → PK → Prop} {a0 a1 a2 a3 : A} {P : PK} : tp4 f [a0, a1, a2, a3] P = f a0 a1 a2 a3 P := propext ⟨fun ⟨_, _, _, _, e, h⟩ => by cases e; exact h, fun h => ⟨_, _, _, _, rfl, h⟩⟩
def tp5 (f : A → A → A → A → A → PK → Prop) : TP := fun ss P => ∃ a0 a1 a2 a3 a4, ss = [a0, a1, a2, a3, a4] ∧ f a0 a1 a2 a3 a4 P
theorem tp5_at {f : A → A → A → A → A → PK → Prop} {a0 a1 a2 a3 a4 : A} {P : PK} : tp5 f [a0, a1, a2, a3, a4] P = f a0 a1 a2 a3 a4 P := propext ⟨fun ⟨_, _, _, _, _, e, h⟩ => by cases e; exact h, fun h => ⟨_, _, _, _, _, rfl, h⟩⟩
def tp6 (f : A → A → A → A → A → A → PK → Prop) : TP := fun ss P => ∃ a0 a1 a2 a3 a4 a5, ss = [a0, a1, a2, a3, a4, a5] ∧ f a0 a1 a2 a3 a4 a5 P
theorem tp6_at {f : A → A → A → A → A → A → PK → Prop} {a0 a1 a2 a3 a4 a5 : A} {P : PK} : tp6 f [a0, a1, a2, a3, a4, a5] P = f a0 a1 a2 a3 a4 a5 P := propext ⟨fun ⟨_, _, _, _, _, _, e, h⟩ => by cases e; exact h, fun h => ⟨_, _, _, _, _, _, rfl, h⟩⟩
def tp7 (f : A → A → A → A → A → A → A → PK → Prop) : TP := fun ss P => ∃ a0 a1 a2 a3 a4 a5 a6, ss = [a0, a1, a2, a3, a4, a5, a6] ∧ f a0 a1 a2 a3 a4 a5 a6 P
theorem tp7_at {f : A → A → A → A → A → A → A → PK → Prop} {a0 a1 a2 a3 a4 a5 a6 : A} {P : PK} : tp7 f [a0, a1, a2, a3, a4, a5, a6] P = f a0 a1 a2 a3 a4 a5 a6 P := propext ⟨fun ⟨_, _, _, _, _, _, _, e, h⟩ => by cases e; exact h, fun h => ⟨_, _, _, _, _, _, _, rfl, h⟩⟩
/-- the law begins -/
theorem law_start {K : PySem.W.Frag} {tp : TP} {H : Hp} {a : Addr} {ns : List Int} {Q : VK} {E : XK} (hS : SqL K H a (ns.map V.int)) (hQ : ∀ H', Q (.bl true) H') (h : ∀ P : PK, P (.fz (.bl true)) [] → tp [.fz (.scr ns)] P) : spT K 1 tp [.ref a] H Q E := by
  refine ⟨rfl, fun b => if b = a ∧ (H b).isSome = true then some none else none, [.fz (.scr ns)], fun r outs => r = .fz (.bl true), fun b hb => ?_, ?_, h _ rfl, ?_⟩
  · have hb : (if b = a ∧ (H b).isSome = true then some none else none : Option (Option Nat)).isSome = true := hb
    split at hb
    · rename_i e; exact e.2
    · cases hb
  · rw [Args]
    refine ⟨.ref a, [], rfl, ?_, by rw [Args]⟩
    rw [rp_scr]
    refine ⟨a, rfl, hS, ?_⟩
    rcases hS with (hS | ⟨o, hS⟩) | hS
    · left
      show (if a = a ∧ (H a).isSome = true then some none else none : Option (Option Nat)) = some none
      rw [if_pos ⟨rfl, by rw [hS]; rfl⟩]
    · left
      show (if a = a ∧ (H a).isSome = true then some none else none : Option (Option Nat)) = some none
      rw [if_pos ⟨rfl, by rw [hS]; rfl⟩]
    · exact .inr fun H' => .inr hS
  · rintro r outs v H' W' rfl _ _ _ hr
    have hr : Rp K W' H' (.bl true) v := hr
    rw [rp_bl] at hr
    subst hr
    exact hQ H'
theorem ite_and {p : Prop} [Decidable p] {A B : Prop} : (if p then A else B) = ((p → A) ∧ (¬ p → B)) := by
  by_cases h : p
  · rw [if_pos h]; simp [h]
  · rw [if_neg h]; simp [h]
end Z

namespace Z
open PySem PySem.Spec PyProof.Rows L2
/-! ### how tree readings reduce -/
def varS : Option (Option Sl) → Nat → G → (R → G → Prop) → Prop
  | some (some (.fz t)), _, Γ, P => P (.fz t) Γ
  | some (some _), i, Γ, P => P (.bor i) Γ
  | _, _, _, _ => False
def frzS : Option (Option Sl) → Nat → G → (Tr → G → Prop) → Prop
  | some (some (.fz t)), _, Γ, k => k t Γ
  | some (some (.mu t)), i, Γ, k => k t (Γ.set i (some (.fz t)))
  | _, _, _, _ => False
def conS : Option (Option Sl) → Option Tr
  | some (some s) => some (slT s)
  | _ => none
def lstS : Option (Option Sl) → Option (List Tr)
  | some (some (.mu (.lst ts))) => some ts
  | some (some (.pm (.lst ts))) => some ts
  | _ => none
def insS : Option (Option Sl) → Option (Addr × List Str × List Tr)
  | some (some (.mu (.ins C ns ts))) => some (C, ns, ts)
  | some (some (.pm (.ins C ns ts))) => some (C, ns, ts)
  | _ => none
def setS : Option (Option Sl) → G → Nat → Tr → G
  | some (some (.mu _)), Γ, i, o => Γ.set i (some (.mu o))
  | some (some (.pm _)), Γ, i, o => Γ.set i (some (.pm o))
  | _, Γ, _, _ => Γ
def setR : R → Nat → G → (G → Prop) → Prop
  | .fz t, i, Γ, k => pmB Γ[i]? = false ∧ k (Γ.set i (some (.fz t)))
  | .mu t, i, Γ, k => pmB Γ[i]? = false ∧ k (Γ.set i (some (.mu t)))
  | .bor j, i, Γ, k => frz (.bor j) Γ fun t Γ2 => pmB Γ2[i]? = false ∧ k (Γ2.set i (some (.fz t)))
def augS : Option (Option Sl) → Nat → FE → (Tr → Tr → (R → Prop) → Prop) → EndT → G → Prop
  | some (some (.fz s)), i, fa, g, D, Γ => fa Γ fun r Γ1 => U.optE (con Γ1 r) fun t => g s t fun rr => match rr with
    | .fz u => pmB Γ1[i]? = false ∧ D.nx (Γ1.set i (some (.fz u)))
    | _ => False
  | _, _, _, _, _, _ => False
def augF (rr : R) (i : Nat) (Γ : G) (k : G → Prop) : Prop := match rr with
  | .fz u => pmB Γ[i]? = false ∧ k (Γ.set i (some (.fz u)))
  | _ => False
def augR (rr : R) (j : Nat) (i : Int) (Γ : G) (k : G → Prop) : Prop := match rr with
  | .fz u => U.optE (lstAt Γ j) fun ts => U.optE (ixN ts.length i) fun n => k (setC Γ j (.lst (ts.set n u)))
  | _ => False
def parA (as : List Ar) (i j : Nat) (Γ : G) (k : G → Prop) : Prop := match as with
  | [.fz s, .fz t] => pmB Γ[i]? = false ∧ pmB (Γ.set i (some (.fz s)))[j]? = false ∧ k ((Γ.set i (some (.fz s))).set j (some (.fz t)))
  | _ => False
def tupleS (o : Option Tr) (r : R) (Γ : G) (P : R → G → Prop) : Prop := match o with
  | some (.lst ts) => P (.mu (.tup ts)) Γ
  | some (.tup ts) => frz r Γ fun t Γ2 => P (.fz (.tup ts)) Γ2 ∧ t = .tup ts
  | _ => False
def makeP (k : Tr → List Tr → Prop) : R → List Tr → Prop := fun r outs => match r, outs with
  | .fz .non, t :: os => k t os
  | _, _ => False
def forT (fg : FG) (f : FS) (D : EndT) (ts : List Tr) (Γ1 : G) : Prop := ∃ inv : Nat → G → Prop, inv 0 Γ1 ∧
  (∀ i t Γ, ts[i]? = some t → inv i Γ → fg t Γ fun Γ2 => f { D with nx := inv (i + 1), ct := inv (i + 1), bk := D.nx } Γ2) ∧ ∀ Γ, inv ts.length Γ → D.nx Γ
def whileT (ft : FT) (f : FS) (D : EndT) (Γ : G) : Prop := fWhile ft f D Γ
def cutT (f g : FS) (D : EndT) (Γ : G) : Prop := fCut f g D Γ
def lcT (fg : FG) (ft : FT) (fe : FE) (vs : List Nat) (P : R → G → Prop) (ts : List Tr) (Γ1 : G) : Prop := ts.length ≤ 16777215 ∧ ∃ inv : Nat → List Tr → G → Prop, inv 0 [] Γ1 ∧ (∀ i acc Γ, inv i acc Γ → noneB Γ vs = true) ∧
  (∀ i t acc Γ, ts[i]? = some t → inv i acc Γ → fg t Γ fun Γ2 => ft Γ2 fun b Γ3 => if b = true then fe Γ3 fun r Γ4 => frz r Γ4 fun u Γ5 => inv (i + 1) (acc ++ [u]) (wipeG Γ5 vs) else inv (i + 1) acc (wipeG Γ3 vs)) ∧
  ∀ acc Γ, inv ts.length acc Γ → P (.mu (.lst acc)) Γ
theorem e_c {s : Option Sl} {Γ : G} {t : Tr} {P : R → G → Prop} : fC t (s :: Γ) P = P (.fz t) (s :: Γ) := rfl
theorem e_var {s : Option Sl} {Γ : G} {i : Nat} {P : R → G → Prop} : fVar i (s :: Γ) P = varS (s :: Γ)[i]? i (s :: Γ) P := by
  unfold fVar varS
  cases (s :: Γ)[i]? with
  | none => rfl
  | some x => cases x with
    | none => rfl
    | some x => cases x <;> rfl
theorem e_op {s : Option Sl} {Γ : G} {g : Tr → Tr → (R → Prop) → Prop} {fa fb : FE} {P : R → G → Prop} : fOp g fa fb (s :: Γ) P = fa (s :: Γ) fun r1 Γ1 => fb Γ1 fun r2 Γ2 => U.optE (con Γ2 r1) fun s => U.optE (con Γ2 r2) fun t => g s t fun rr => P rr Γ2 := rfl
theorem e_un {s : Option Sl} {Γ : G} {g : Tr → (R → Prop) → Prop} {fa : FE} {P : R → G → Prop} : fUn g fa (s :: Γ) P = fa (s :: Γ) fun r1 Γ1 => U.optE (con Γ1 r1) fun s => g s fun rr => P rr Γ1 := rfl
theorem e_cb {s : Option Sl} {Γ : G} {g : List Tr → (R → Prop) → Prop} {fA : G → (List R → G → Prop) → Prop} {P : R → G → Prop} : fCB g fA (s :: Γ) P = fA (s :: Γ) fun rs Γ1 => U.optE (cons Γ1 rs) fun ss => g ss fun rr => P rr Γ1 := rfl
theorem e_nil {s : Option Sl} {Γ : G} {P : List R → G → Prop} : fNil (s :: Γ) P = P [] (s :: Γ) := rfl
theorem e_cons {s : Option Sl} {Γ : G} {fa : FE} {fr : G → (List R → G → Prop) → Prop} {P : List R → G → Prop} : fCons fa fr (s :: Γ) P = fa (s :: Γ) fun r Γ1 => fr Γ1 fun rs Γ2 => P (r :: rs) Γ2 := rfl
theorem e_anil {s : Option Sl} {Γ : G} {P : List Ar → G → Prop} : aNil (s :: Γ) P = P [] (s :: Γ) := rfl
theorem e_afz {s : Option Sl} {Γ : G} {fa : FE} {fA fr : G → (List Ar → G → Prop) → Prop} {P : List Ar → G → Prop} : aFz fa fr (s :: Γ) P = fa (s :: Γ) fun r Γ1 => frz r Γ1 fun t Γ2 => fr Γ2 fun as Γ3 => P (.fz t :: as) Γ3 := rfl
theorem e_alend {s : Option Sl} {Γ : G} {i : Nat} {fA fr : G → (List Ar → G → Prop) → Prop} {P : List Ar → G → Prop} : aLend i fr (s :: Γ) P = (isMu (s :: Γ)[i]? = true ∧ fr (s :: Γ) fun as Γ3 => P (.lend i :: as) Γ3) := rfl
theorem e_call {s : Option Sl} {Γ : G} {tp : TP} {dts : List Tr} {fA fr : G → (List Ar → G → Prop) → Prop} {P : R → G → Prop} : fCall tp dts fA (s :: Γ) P = fA (s :: Γ) fun as Γ1 => ndup (lends as) = true ∧ U.optE (lendT Γ1 as) fun ss => tp (ss ++ dts.map A.fz) fun r outs => P r (back as outs Γ1) := rfl
theorem e_meth {s : Option Sl} {Γ : G} {C : Addr} {m : Str} {tp : TP} {dts : List Tr} {fa : FE} {fA fr : G → (List Ar → G → Prop) → Prop} {P : R → G → Prop} : fMeth C m tp dts fa fA (s :: Γ) P = fa (s :: Γ) fun r Γ1 => frz r Γ1 fun t Γ2 => insIs C m t ∧ fA Γ2 fun as Γ3 => ndup (lends as) = true ∧ U.optE (lendT Γ3 as) fun ss => tp (A.fz t :: (ss ++ dts.map A.fz)) fun r outs => P r (back as outs Γ3) := rfl
theorem e_methL {s : Option Sl} {Γ : G} {C : Addr} {m : Str} {i : Nat} {tp : TP} {dts : List Tr} {fA fr : G → (List Ar → G → Prop) → Prop} {P : R → G → Prop} : fMethL C m tp dts i fA (s :: Γ) P = (U.optE (insAt (s :: Γ) i) fun z => (z.1 = C ∧ z.2.1.contains m = false) ∧ fA (s :: Γ) fun as Γ1 => ndup (lends (.lend i :: as)) = true ∧ U.optE (lendT Γ1 (.lend i :: as)) fun ss => tp (ss ++ dts.map A.fz) fun r outs => P r (back (.lend i :: as) outs Γ1)) := rfl
theorem e_make {s : Option Sl} {Γ : G} {C : Addr} {tp : TP} {dts : List Tr} {fA fr : G → (List Ar → G → Prop) → Prop} {P : R → G → Prop} : fMake C tp dts fA (s :: Γ) P = fA (s :: Γ) fun as Γ1 => ndup (lends as) = true ∧ U.optE (lendT Γ1 as) fun ss => tp (A.mu (.ins C [] []) :: (ss ++ dts.map A.fz)) (makeP fun t os => P (.mu t) (back as os Γ1)) := rfl
theorem e_test {s : Option Sl} {Γ : G} {fa : FE} {P : Bool → G → Prop} : fTest fa (s :: Γ) P = fa (s :: Γ) fun r Γ1 => U.optE (conB Γ1 r) fun b => P b Γ1 := rfl
theorem e_tr {s : Option Sl} {Γ : G} {fa : FE} {P : Bool → G → Prop} : fTr fa (s :: Γ) P = fa (s :: Γ) fun r Γ1 => U.optE (con Γ1 r) fun t => U.optE (trT t) fun b => P b Γ1 := rfl
theorem e_and {s : Option Sl} {Γ : G} {ft fu : FT} {P : Bool → G → Prop} : fAnd ft fu (s :: Γ) P = ft (s :: Γ) fun b Γ1 => if b = true then fu Γ1 P else P false Γ1 := rfl
theorem e_or {s : Option Sl} {Γ : G} {ft fu : FT} {P : Bool → G → Prop} : fOr ft fu (s :: Γ) P = ft (s :: Γ) fun b Γ1 => if b = true then P true Γ1 else fu Γ1 P := rfl
theorem e_not {s : Option Sl} {Γ : G} {ft : FT} {P : Bool → G → Prop} : fNot ft (s :: Γ) P = ft (s :: Γ) fun b Γ1 => P (!b) Γ1 := rfl
theorem e_andV {s : Option Sl} {Γ : G} {fa fb : FE} {P : R → G → Prop} : fAndV fa fb (s :: Γ) P = fa (s :: Γ) fun r Γ1 => U.optE (conB Γ1 r) fun b => if b = true then fb Γ1 P else P (.fz (.bl false)) Γ1 := rfl
theorem e_orV {s : Option Sl} {Γ : G} {fa fb : FE} {P : R → G → Prop} : fOrV fa fb (s :: Γ) P = fa (s :: Γ) fun r Γ1 => U.optE (conB Γ1 r) fun b => if b = true then P (.fz (.bl true)) Γ1 else fb Γ1 P := rfl
theorem e_notV {s : Option Sl} {Γ : G} {fa : FE} {P : R → G → Prop} : fNotV fa (s :: Γ) P = fa (s :: Γ) fun r Γ1 => U.optE (conB Γ1 r) fun b => P (.fz (.bl (!b))) Γ1 := rfl
theorem e_notT {s : Option Sl} {Γ : G} {fa : FE} {P : R → G → Prop} : fNotT fa (s :: Γ) P = fa (s :: Γ) fun r Γ1 => U.optE (con Γ1 r) fun t => U.optE (trT t) fun b => P (.fz (.bl (!b))) Γ1 := rfl
theorem e_if {s : Option Sl} {Γ : G} {ft : FT} {fa fb : FE} {P : R → G → Prop} : fIf ft fa fb (s :: Γ) P = ft (s :: Γ) fun b Γ1 => if b = true then fa Γ1 P else fb Γ1 P := rfl
theorem e_orU {s : Option Sl} {Γ : G} {fa fb : FE} {P : R → G → Prop} : fOrU fa fb (s :: Γ) P = fa (s :: Γ) fun r Γ1 => U.optE (con Γ1 r) fun t => U.optE (trT t) fun b => if b = true then P r Γ1 else fb Γ1 P := rfl
theorem e_andU {s : Option Sl} {Γ : G} {fa fb : FE} {P : R → G → Prop} : fAndU fa fb (s :: Γ) P = fa (s :: Γ) fun r Γ1 => U.optE (con Γ1 r) fun t => U.optE (trT t) fun b => if b = true then fb Γ1 P else P r Γ1 := rfl
theorem e_chain {s : Option Sl} {Γ : G} {g g' : Tr → Tr → (R → Prop) → Prop} {fa fb fc : FE} {P : R → G → Prop} : fChain g g' fa fb fc (s :: Γ) P = fa (s :: Γ) fun r1 Γ1 => fb Γ1 fun r2 Γ2 => U.optE (con Γ2 r1) fun s => U.optE (con Γ2 r2) fun t => g s t fun z => U.optE (conB Γ2 z) fun b => if b = true then fc Γ2 fun r3 Γ3 => U.optE (con Γ3 r2) fun t => U.optE (con Γ3 r3) fun u => g' t u fun rr => P rr Γ3 else P (.fz (.bl false)) Γ2 := rfl
theorem e_tup {s : Option Sl} {Γ : G} {fA fr : G → (List Ar → G → Prop) → Prop} {P : R → G → Prop} : fTup fA (s :: Γ) P = fA (s :: Γ) fun as Γ1 => U.optE (fzs as) fun ts => ts.length ≤ 16777216 ∧ P (.fz (.tup ts)) Γ1 := rfl
theorem e_lst {s : Option Sl} {Γ : G} {fA fr : G → (List Ar → G → Prop) → Prop} {P : R → G → Prop} : fLst fA (s :: Γ) P = fA (s :: Γ) fun as Γ1 => U.optE (fzs as) fun ts => ts.length ≤ 16777216 ∧ P (.mu (.lst ts)) Γ1 := rfl
theorem e_fld {s : Option Sl} {Γ : G} {K : PySem.W.Frag} {f : Str} {fa : FE} {P : R → G → Prop} : fFld K f fa (s :: Γ) P = fa (s :: Γ) fun r Γ1 => U.optE (con Γ1 r) fun t => fldT K f t fun u => P (.fz u) Γ1 := rfl
theorem e_nopart {s : Option Sl} {Γ : G} {P : Option Int → G → Prop} : fNoPart (s :: Γ) P = P none (s :: Γ) := rfl
theorem e_part {s : Option Sl} {Γ : G} {fa : FE} {P : Option Int → G → Prop} : fPart fa (s :: Γ) P = fa (s :: Γ) fun r Γ1 => U.optE ((con Γ1 r).bind intT) fun i => P (some i) Γ1 := rfl
theorem e_sl {s : Option Sl} {Γ : G} {g : Tr → Option Int → Option Int → (R → Prop) → Prop} {fa : FE} {fl fh : FO} {P : R → G → Prop} : fSl g fa fl fh (s :: Γ) P = fa (s :: Γ) fun r Γ1 => fl Γ1 fun lo Γ2 => fh Γ2 fun hi Γ3 => U.optE (con Γ3 r) fun t => g t lo hi fun rr => P rr Γ3 := rfl
theorem e_slT {s : Option Sl} {Γ : G} {fa : FE} {fl fh : FO} {P : R → G → Prop} : fSlT fa fl fh (s :: Γ) P = fa (s :: Γ) fun r Γ1 => frz r Γ1 fun t Γ2 => fl Γ2 fun lo Γ3 => fh Γ3 fun hi Γ4 => U.optE (tupS t) fun ts => P (.fz (.tup (U.cutL ts lo hi))) Γ4 := rfl
theorem e_tuple {s : Option Sl} {Γ : G} {fa : FE} {P : R → G → Prop} : fTuple fa (s :: Γ) P = fa (s :: Γ) fun r Γ1 => tupleS (con Γ1 r) r Γ1 P := rfl
theorem e_revL {s : Option Sl} {Γ : G} {fa : FE} {P : R → G → Prop} : fRevL fa (s :: Γ) P = fa (s :: Γ) fun r Γ1 => U.optE ((con Γ1 r).bind seqS) fun ts => P (.mu (.lst ts.reverse)) Γ1 := rfl
theorem e_bs {s : Option Sl} {Γ : G} {g : List Nat → List Tr → (R → Prop) → Prop} {fa : FE} {fA : G → (List R → G → Prop) → Prop} {P : R → G → Prop} : fBS g fa fA (s :: Γ) P = fa (s :: Γ) fun r Γ1 => U.optE ((con Γ1 r).bind strS) fun a => fA Γ1 fun rs Γ2 => U.optE (cons Γ2 rs) fun ss => g a ss fun rr => P rr Γ2 := rfl
theorem e_bs0 {s : Option Sl} {Γ : G} {g : List Nat → List Tr → (R → Prop) → Prop} {fa : FE} {P : R → G → Prop} : fBS0 g fa (s :: Γ) P = fa (s :: Γ) fun r Γ1 => U.optE ((con Γ1 r).bind strS) fun a => g a [] fun rr => P rr Γ1 := rfl
theorem e_fmt {s : Option Sl} {Γ : G} {fa : FE} {P : R → G → Prop} : fFmt fa (s :: Γ) P = fa (s :: Γ) fun r Γ1 => U.optE (con Γ1 r) fun t => fmtT t fun u => P (.fz u) Γ1 := rfl
theorem e_js0 {s : Option Sl} {Γ : G} {acc : List Nat} {P' : List Nat → G → Prop} : fJs [] acc (s :: Γ) P' = P' acc (s :: Γ) := rfl
theorem e_js1 {s : Option Sl} {Γ : G} {fa : FE} {fs : List FE} {acc : List Nat} {P' : List Nat → G → Prop} : fJs (fa :: fs) acc (s :: Γ) P' = fa (s :: Γ) fun r Γ1 => U.optE ((con Γ1 r).bind strS) fun y => acc.length + y.length ≤ 16777216 ∧ fJs fs (acc ++ y) Γ1 P' := rfl
theorem e_joined {s : Option Sl} {Γ : G} {fs : List FE} {P : R → G → Prop} : fJoined fs (s :: Γ) P = fJs fs [] (s :: Γ) fun l Γ1 => P (.fz (.str l)) Γ1 := rfl
theorem e_eqI {s : Option Sl} {Γ : G} {C : Addr} {tp : TP} {fa fb : FE} {P : R → G → Prop} : fEqI C tp fa fb (s :: Γ) P = fa (s :: Γ) fun r1 Γ1 => frz r1 Γ1 fun s Γ2 => fb Γ2 fun r2 Γ3 => frz r2 Γ3 fun t Γ4 => insIs C "__eq__" s ∧ insIs C "__eq__" t ∧ tp [.fz s, .fz t] fun r outs => U.optE ((con Γ4 r).bind blT) fun b => P (.fz (.bl b)) Γ4 := rfl
theorem e_next {s : Option Sl} {Γ : G} {D : EndT}  : fNext D (s :: Γ) = D.nx (s :: Γ) := rfl
theorem e_seq {s : Option Sl} {Γ : G} {f g : FS} {D : EndT}  : fSeq f g D (s :: Γ) = f { D with nx := fun Γ1 => g D Γ1 } (s :: Γ) := rfl
theorem e_break {s : Option Sl} {Γ : G} {D : EndT}  : fBreak D (s :: Γ) = D.bk (s :: Γ) := rfl
theorem e_cont {s : Option Sl} {Γ : G} {D : EndT}  : fCont D (s :: Γ) = D.ct (s :: Γ) := rfl
theorem e_drop {s : Option Sl} {Γ : G} {fa : FE} {D : EndT}  : fDrop fa D (s :: Γ) = fa (s :: Γ) fun _ Γ1 => D.nx Γ1 := rfl
theorem e_ret {s : Option Sl} {Γ : G} {fa : FE} {D : EndT}  : fRet fa D (s :: Γ) = fa (s :: Γ) D.rt := rfl
theorem e_retN {s : Option Sl} {Γ : G} {D : EndT}  : fRetN D (s :: Γ) = D.rt (.fz .non) (s :: Γ) := rfl
theorem e_ifS {s : Option Sl} {Γ : G} {ft : FT} {f g : FS} {D : EndT}  : fIfS ft f g D (s :: Γ) = ft (s :: Γ) fun b Γ1 => if b = true then f D Γ1 else g D Γ1 := rfl
theorem e_never {s : Option Sl} {Γ : G} {D : EndT}  : fNever D (s :: Γ) = False := rfl
theorem e_set {s : Option Sl} {Γ : G} {i : Nat} {fa : FE} {D : EndT}  : fSet i fa D (s :: Γ) = fa (s :: Γ) fun r Γ1 => setR r i Γ1 D.nx := by
  unfold fSet
  congr 1
  funext r Γ1
  cases r <;> rfl
theorem e_asg {s : Option Sl} {Γ : G} {fa : FE} {fg : FG} {D : EndT}  : fAsg fa fg D (s :: Γ) = fa (s :: Γ) fun r Γ1 => frz r Γ1 fun t Γ2 => fg t Γ2 D.nx := rfl
theorem e_aug {s : Option Sl} {Γ : G} {i : Nat} {fa : FE} {g : Tr → Tr → (R → Prop) → Prop} {D : EndT}  : fAug i fa g D (s :: Γ) = augS (s :: Γ)[i]? i fa g D (s :: Γ) := by
  unfold fAug augS
  cases (s :: Γ)[i]? with
  | none => rfl
  | some x => cases x with
    | none => rfl
    | some x => cases x <;> rfl
theorem e_par {s : Option Sl} {Γ : G} {i j : Nat} {fA fr : G → (List Ar → G → Prop) → Prop} {D : EndT}  : fPar i j fA D (s :: Γ) = fA (s :: Γ) fun as Γ1 => parA as i j Γ1 D.nx := rfl
theorem e_augS {s : Option Sl} {Γ : G} {j : Nat} {fa fb : FE} {g : Tr → Tr → (R → Prop) → Prop} {D : EndT}  : fAugS j fa fb g D (s :: Γ) = ((lstAt (s :: Γ) j).isSome = true ∧ fa (s :: Γ) fun r Γ1 => U.optE ((con Γ1 r).bind intT) fun i => U.optE (lstAt Γ1 j) fun ts => 0 ≤ i ∧ U.optE ts[i.toNat]? fun s => fb Γ1 fun r2 Γ2 => U.optE (con Γ2 r2) fun t => g s t fun rr => augR rr j i Γ2 D.nx) := rfl
theorem e_dropA {s : Option Sl} {Γ : G} {j : Nat} {fa : FE} {D : EndT}  : fDropA j fa D (s :: Γ) = ((lstAt (s :: Γ) j).isSome = true ∧ fa (s :: Γ) fun r Γ1 => frz r Γ1 fun t Γ2 => U.optE (lstAt Γ2 j) fun ts => ts.length < 16777216 ∧ D.nx (setC Γ2 j (.lst (ts ++ [t])))) := rfl
theorem e_dropE {s : Option Sl} {Γ : G} {j : Nat} {fa : FE} {D : EndT}  : fDropE j fa D (s :: Γ) = ((lstAt (s :: Γ) j).isSome = true ∧ fa (s :: Γ) fun r Γ1 => U.optE ((con Γ1 r).bind seqT) fun us => U.optE (lstAt Γ1 j) fun ts => ts.length + us.length ≤ 16777216 ∧ D.nx (setC Γ1 j (.lst (ts ++ us)))) := rfl
theorem e_fldS {s : Option Sl} {Γ : G} {K : PySem.W.Frag} {i : Nat} {f : Str} {fa : FE} {D : EndT}  : fFldS K i f fa D (s :: Γ) = fa (s :: Γ) fun r Γ1 => frz r Γ1 fun t Γ2 => U.optE (insAt Γ2 i) fun z => Cls K z.1 ∧ NoAttr K z.1 f ∧ z.2.1.length < 1000 ∧ D.nx (setC Γ2 i (.ins z.1 (putN f z.2.1) (putX f t z.2.1 z.2.2))) := rfl
theorem e_gname {s : Option Sl} {Γ : G} {i : Nat} {t : Tr} {P : G → Prop} : fgName i t (s :: Γ) P = (pmB (s :: Γ)[i]? = false ∧ P ((s :: Γ).set i (some (.fz t)))) := rfl
theorem e_gnil {s : Option Sl} {Γ : G} {ts : List Tr} {P : G → Prop} : fgNil ts (s :: Γ) P = (ts = [] ∧ P (s :: Γ)) := rfl
theorem e_gcons {s : Option Sl} {Γ : G} {i : Nat} {fgs : FGs} {t : Tr} {ts : List Tr} {P : G → Prop} : fgCons i fgs (t :: ts) (s :: Γ) P = (pmB (s :: Γ)[i]? = false ∧ fgs ts ((s :: Γ).set i (some (.fz t))) P) := rfl
theorem e_gtup {s : Option Sl} {Γ : G} {n : Nat} {fgs : FGs} {ts : List Tr} {P : G → Prop} : fgTup n fgs (.tup ts) (s :: Γ) P = (ts.length = n ∧ fgs ts (s :: Γ) P) := rfl
theorem e_gsub {s : Option Sl} {Γ : G} {j : Nat} {fa : FE} {t : Tr} {P : G → Prop} : fgSub j fa t (s :: Γ) P = ((lstAt (s :: Γ) j).isSome = true ∧ fa (s :: Γ) fun r Γ1 => U.optE ((con Γ1 r).bind intT) fun i => U.optE (lstAt Γ1 j) fun ts => U.optE (ixN ts.length i) fun k => P (setC Γ1 j (.lst (ts.set k t)))) := rfl
theorem e_ilist {s : Option Sl} {Γ : G} {fa : FE} {P' : List Tr → G → Prop} : fiList fa (s :: Γ) P' = fa (s :: Γ) fun r Γ1 => frz r Γ1 fun t Γ2 => U.optE (seqS t) fun ts => P' ts Γ2 := rfl
theorem e_itup {s : Option Sl} {Γ : G} {fa : FE} {P' : List Tr → G → Prop} : fiTup fa (s :: Γ) P' = fa (s :: Γ) fun r Γ1 => frz r Γ1 fun t Γ2 => U.optE (tupS t) fun ts => P' ts Γ2 := rfl
theorem e_istr {s : Option Sl} {Γ : G} {fa : FE} {P' : List Tr → G → Prop} : fiStr fa (s :: Γ) P' = fa (s :: Γ) fun r Γ1 => U.optE ((con Γ1 r).bind strS) fun l => P' (sgT l) Γ1 := rfl
theorem e_irng1 {s : Option Sl} {Γ : G} {fa : FE} {P' : List Tr → G → Prop} : fiRng1 fa (s :: Γ) P' = fa (s :: Γ) fun r Γ1 => U.optE ((con Γ1 r).bind intT) fun n => (-(2 ^ 62) ≤ n ∧ n < 2 ^ 62) ∧ P' (rgT 0 n.toNat) Γ1 := rfl
theorem e_irng2 {s : Option Sl} {Γ : G} {fa fb : FE} {P' : List Tr → G → Prop} : fiRng2 fa fb (s :: Γ) P' = fa (s :: Γ) fun r Γ1 => U.optE ((con Γ1 r).bind intT) fun m => fb Γ1 fun r Γ1 => U.optE ((con Γ1 r).bind intT) fun n => (-(2 ^ 62) ≤ m ∧ m < 2 ^ 62 ∧ -(2 ^ 62) ≤ n ∧ n < 2 ^ 62) ∧ P' (rgT m (n - m).toNat) Γ1 := rfl
theorem e_ienum {s : Option Sl} {Γ : G} {fa : FE} {P' : List Tr → G → Prop} : fiEnum fa (s :: Γ) P' = fa (s :: Γ) fun r Γ1 => frz r Γ1 fun t Γ2 => U.optE (seqS t) fun ts => P' (enT 0 ts) Γ2 := rfl
theorem e_ienumT {s : Option Sl} {Γ : G} {fa : FE} {P' : List Tr → G → Prop} : fiEnumT fa (s :: Γ) P' = fa (s :: Γ) fun r Γ1 => frz r Γ1 fun t Γ2 => U.optE (tupS t) fun ts => P' (enT 0 ts) Γ2 := rfl
theorem e_ienumS {s : Option Sl} {Γ : G} {fa : FE} {P' : List Tr → G → Prop} : fiEnumS fa (s :: Γ) P' = fa (s :: Γ) fun r Γ1 => U.optE ((con Γ1 r).bind strS) fun l => P' (enT 0 (sgT l)) Γ1 := rfl
theorem e_irev {s : Option Sl} {Γ : G} {fa : FE} {P' : List Tr → G → Prop} : fiRev fa (s :: Γ) P' = fa (s :: Γ) fun r Γ1 => frz r Γ1 fun t Γ2 => U.optE (seqS t) fun ts => P' ts.reverse Γ2 := rfl
theorem e_izip {s : Option Sl} {Γ : G} {fa fb : FE} {P' : List Tr → G → Prop} : fiZip fa fb (s :: Γ) P' = fa (s :: Γ) fun r Γ1 => frz r Γ1 fun t Γ2 => U.optE (seqS t) fun ts => fb Γ2 fun r Γ1 => frz r Γ1 fun t Γ2 => U.optE (seqS t) fun us => P' (zpT ts us) Γ2 := rfl
theorem e_for {s : Option Sl} {Γ : G} {fi : FI} {fg : FG} {f : FS} {D : EndT}  : fFor fi fg f D (s :: Γ) = fi (s :: Γ) fun ts Γ1 => forT fg f D ts Γ1 := rfl
theorem e_while {s : Option Sl} {Γ : G} {ft : FT} {f : FS} {D : EndT}  : fWhile ft f D (s :: Γ) = whileT ft f D (s :: Γ) := rfl
theorem e_cut {s : Option Sl} {Γ : G} {f g : FS} {D : EndT}  : fCut f g D (s :: Γ) = cutT f g D (s :: Γ) := rfl
theorem e_lc {s : Option Sl} {Γ : G} {fi : FI} {fg : FG} {ft : FT} {fa : FE} {vs : List Nat} {P : R → G → Prop} : fLc fi fg ft fa vs (s :: Γ) P = fi (s :: Γ) fun ts Γ1 => lcT fg ft fa vs P ts Γ1 := rfl
theorem e_yes {s : Option Sl} {Γ : G} {P : Bool → G → Prop} : (fun Γ (P : Bool → G → Prop) => P true Γ) (s :: Γ) P = P true (s :: Γ) := rfl
theorem e_augS1 {s : Tr} {i : Nat} {fa : FE} {g : Tr → Tr → (R → Prop) → Prop} {D : EndT} {x : Option Sl} {Γ : G} : augS (some (some (.fz s))) i fa g D (x :: Γ) = fa (x :: Γ) fun r Γ1 => U.optE (con Γ1 r) fun t => g s t fun rr => augF rr i Γ1 D.nx := rfl
theorem a_fz {u : Tr} {i : Nat} {Γ : G} {k : G → Prop} : augF (.fz u) i Γ k = (pmB Γ[i]? = false ∧ k (Γ.set i (some (.fz u)))) := rfl
theorem a_fzR {u : Tr} {j : Nat} {i : Int} {Γ : G} {k : G → Prop} : augR (.fz u) j i Γ k = U.optE (lstAt Γ j) fun ts => U.optE (ixN ts.length i) fun n => k (setC Γ j (.lst (ts.set n u))) := rfl
theorem a_par {s t : Tr} {i j : Nat} {Γ : G} {k : G → Prop} : parA [.fz s, .fz t] i j Γ k = (pmB Γ[i]? = false ∧ pmB (Γ.set i (some (.fz s)))[j]? = false ∧ k ((Γ.set i (some (.fz s))).set j (some (.fz t)))) := rfl
theorem v_fz {t : Tr} {i : Nat} {Γ : G} {P : R → G → Prop} : varS (some (some (.fz t))) i Γ P = P (.fz t) Γ := rfl
theorem v_mu {t : Tr} {i : Nat} {Γ : G} {P : R → G → Prop} : varS (some (some (.mu t))) i Γ P = P (.bor i) Γ := rfl
theorem v_pm {t : Tr} {i : Nat} {Γ : G} {P : R → G → Prop} : varS (some (some (.pm t))) i Γ P = P (.bor i) Γ := rfl
theorem c_fz {t : Tr} {Γ : G} : con Γ (.fz t) = some t := rfl
theorem c_mu {t : Tr} {Γ : G} : con Γ (.mu t) = some t := rfl
theorem c_bor {i : Nat} {s : Option Sl} {Γ : G} : con (s :: Γ) (.bor i) = conS (s :: Γ)[i]? := by
  show (match (s :: Γ)[i]? with
    | some (some s) => some (slT s)
    | _ => none) = conS (s :: Γ)[i]?
  cases (s :: Γ)[i]? with
  | none => rfl
  | some x => cases x <;> rfl
theorem cs_some {s : Sl} : conS (some (some s)) = some (slT s) := rfl
theorem s_fz {t : Tr} : slT (.fz t) = t := rfl
theorem s_mu {t : Tr} : slT (.mu t) = t := rfl
theorem s_pm {t : Tr} : slT (.pm t) = t := rfl
theorem cn_nil {Γ : G} : cons Γ [] = some [] := rfl
def consO : Option Tr → Option (List Tr) → Option (List Tr)
  | some t, some ts => some (t :: ts)
  | _, _ => none
theorem cn_cons {Γ : G} {r : R} {rs : List R} : cons Γ (r :: rs) = consO (con Γ r) (cons Γ rs) := by
  show (match con Γ r, cons Γ rs with
    | some t, some ts => some (t :: ts)
    | _, _ => none) = _
  cases con Γ r <;> cases cons Γ rs <;> rfl
theorem co_some {t : Tr} {ts : List Tr} : consO (some t) (some ts) = some (t :: ts) := rfl
theorem cb_fz {Γ : G} {b : Bool} : conB Γ (.fz (.bl b)) = some b := rfl
theorem cb_bor {i : Nat} {s : Option Sl} {Γ : G} : conB (s :: Γ) (.bor i) = (conS (s :: Γ)[i]?).bind blT := by unfold conB; rw [c_bor]
theorem f_fz {t : Tr} {Γ : G} {k : Tr → G → Prop} : frz (.fz t) Γ k = k t Γ := rfl
theorem f_mu {t : Tr} {Γ : G} {k : Tr → G → Prop} : frz (.mu t) Γ k = k t Γ := rfl
theorem f_bor {i : Nat} {s : Option Sl} {Γ : G} {k : Tr → G → Prop} : frz (.bor i) (s :: Γ) k = frzS (s :: Γ)[i]? i (s :: Γ) k := by
  show (match (s :: Γ)[i]? with
    | some (some (.fz t)) => k t (s :: Γ)
    | some (some (.mu t)) => k t ((s :: Γ).set i (some (.fz t)))
    | _ => False) = _
  cases (s :: Γ)[i]? with
  | none => rfl
  | some x => cases x with
    | none => rfl
    | some x => cases x <;> rfl
theorem fs_fz {t : Tr} {i : Nat} {Γ : G} {k : Tr → G → Prop} : frzS (some (some (.fz t))) i Γ k = k t Γ := rfl
theorem fs_mu {t : Tr} {i : Nat} {Γ : G} {k : Tr → G → Prop} : frzS (some (some (.mu t))) i Γ k = k t (Γ.set i (some (.fz t))) := rfl
theorem l_at {i : Nat} {s : Option Sl} {Γ : G} : lstAt (s :: Γ) i = lstS (s :: Γ)[i]? := by
  unfold lstAt lstS
  rfl
theorem ls_mu {ts : List Tr} : lstS (some (some (.mu (.lst ts)))) = some ts := rfl
theorem ls_pm {ts : List Tr} : lstS (some (some (.pm (.lst ts)))) = some ts := rfl
theorem i_at {i : Nat} {s : Option Sl} {Γ : G} : insAt (s :: Γ) i = insS (s :: Γ)[i]? := by
  unfold insAt insS
  rfl
theorem is_mu {C : Addr} {ns : List Str} {ts : List Tr} : insS (some (some (.mu (.ins C ns ts)))) = some (C, ns, ts) := rfl
theorem is_pm {C : Addr} {ns : List Str} {ts : List Tr} : insS (some (some (.pm (.ins C ns ts)))) = some (C, ns, ts) := rfl
theorem sc_at {i : Nat} {s : Option Sl} {Γ : G} {o : Tr} : setC (s :: Γ) i o = setS (s :: Γ)[i]? (s :: Γ) i o := by
  unfold setC setS
  cases (s :: Γ)[i]? with
  | none => rfl
  | some x => cases x with
    | none => rfl
    | some x => cases x <;> rfl
theorem ss_mu {t o : Tr} {i : Nat} {Γ : G} : setS (some (some (.mu t))) Γ i o = Γ.set i (some (.mu o)) := rfl
theorem ss_pm {t o : Tr} {i : Nat} {Γ : G} : setS (some (some (.pm t))) Γ i o = Γ.set i (some (.pm o)) := rfl
theorem sr_fz {t : Tr} {i : Nat} {Γ : G} {k : G → Prop} : setR (.fz t) i Γ k = (pmB Γ[i]? = false ∧ k (Γ.set i (some (.fz t)))) := rfl
theorem sr_mu {t : Tr} {i : Nat} {Γ : G} {k : G → Prop} : setR (.mu t) i Γ k = (pmB Γ[i]? = false ∧ k (Γ.set i (some (.mu t)))) := rfl
theorem sr_bor {j i : Nat} {Γ : G} {k : G → Prop} : setR (.bor j) i Γ k = frz (.bor j) Γ fun t Γ2 => pmB Γ2[i]? = false ∧ k (Γ2.set i (some (.fz t))) := rfl
theorem pb_n : pmB (some none) = false := rfl
theorem pb_fz {t : Tr} : pmB (some (some (.fz t))) = false := rfl
theorem pb_mu {t : Tr} : pmB (some (some (.mu t))) = false := rfl
theorem im_mu {t : Tr} : isMu (some (some (.mu t))) = true := rfl
theorem im_pm {t : Tr} : isMu (some (some (.pm t))) = true := rfl
theorem le_nil : lends [] = [] := rfl
theorem le_fz {t : Tr} {as : List Ar} : lends (.fz t :: as) = lends as := rfl
theorem le_le {i : Nat} {as : List Ar} : lends (.lend i :: as) = i :: lends as := rfl
theorem nd_nil : ndup [] = true := rfl
theorem nd_one {i : Nat} : ndup [i] = true := rfl
theorem lt_nil {Γ : G} : lendT Γ [] = some [] := rfl
theorem lt_fz {Γ : G} {t : Tr} {as : List Ar} : lendT Γ (.fz t :: as) = (lendT Γ as).map (A.fz t :: ·) := rfl
def lendS : Option (Option Sl) → Option (List A) → Option (List A)
  | some (some (.mu t)), o => o.map (A.mu t :: ·)
  | some (some (.pm t)), o => o.map (A.mu t :: ·)
  | _, _ => none
theorem lt_le {s : Option Sl} {Γ : G} {i : Nat} {as : List Ar} : lendT (s :: Γ) (.lend i :: as) = lendS (s :: Γ)[i]? (lendT (s :: Γ) as) := by
  rw [lendT]
  unfold lendS
  cases (s :: Γ)[i]? with
  | none => rfl
  | some x => cases x with
    | none => rfl
    | some x => cases x <;> rfl
theorem lS_mu {t : Tr} {o : Option (List A)} : lendS (some (some (.mu t))) o = o.map (A.mu t :: ·) := rfl
theorem lS_pm {t : Tr} {o : Option (List A)} : lendS (some (some (.pm t))) o = o.map (A.mu t :: ·) := rfl
theorem b_nil {outs : List Tr} {Γ : G} : back [] outs Γ = Γ := rfl
theorem b_fz {t : Tr} {as : List Ar} {outs : List Tr} {Γ : G} : back (.fz t :: as) outs Γ = back as outs Γ := rfl
theorem b_le {i : Nat} {as : List Ar} {o : Tr} {outs : List Tr} {Γ : G} : back (.lend i :: as) (o :: outs) Γ = back as outs (setC Γ i o) := rfl
theorem z_nil : fzs [] = some [] := rfl
theorem z_fz {t : Tr} {as : List Ar} : fzs (.fz t :: as) = (fzs as).map (t :: ·) := rfl
theorem o_map {α β : Type} {f : α → β} {a : α} : (some a).map f = some (f a) := rfl
theorem o_bind {α β : Type} {f : α → Option β} {a : α} : (some a).bind f = f a := rfl
theorem t_bl {b : Bool} : blT (.bl b) = some b := rfl
theorem t_int {i : Int} : intT (.int i) = some i := rfl
theorem t_str {l : List Nat} : strS (.str l) = some l := rfl
theorem tr_non : trT .non = some false := rfl
theorem tr_bl {b : Bool} : trT (.bl b) = some b := rfl
theorem tr_int {i : Int} : trT (.int i) = some (i != 0) := rfl
theorem tr_lst {ts : List Tr} : trT (.lst ts) = some (!ts.isEmpty) := rfl
theorem tr_tup {ts : List Tr} : trT (.tup ts) = some (!ts.isEmpty) := rfl
theorem q_lst {ts : List Tr} : seqS (.lst ts) = some ts := rfl
theorem q_scr {ns : List Int} : seqS (.scr ns) = some (ns.map Tr.int) := rfl
theorem q_tup {ts : List Tr} : tupS (.tup ts) = some ts := rfl
theorem q_lst2 {ts : List Tr} : seqT (.lst ts) = some ts := rfl
theorem q_tup2 {ts : List Tr} : seqT (.tup ts) = some ts := rfl
theorem st_nil {n : Nat} : startG n [] = List.replicate n none := rfl
theorem st_fz {n : Nat} {t : Tr} {as : List A} : startG n (.fz t :: as) = some (.fz t) :: startG n as := rfl
theorem st_mu {n : Nat} {t : Tr} {as : List A} : startG n (.mu t :: as) = some (.pm t) :: startG n as := rfl
theorem o_nil {Γ : G} : outsOf [] Γ = [] := by cases Γ <;> rfl
theorem o_fz {t : Tr} {as : List A} {s : Option Sl} {Γ : G} : outsOf (.fz t :: as) (s :: Γ) = outsOf as Γ := rfl
theorem o_mu {t u : Tr} {as : List A} {Γ : G} : outsOf (.mu t :: as) (some (.pm u) :: Γ) = u :: outsOf as Γ := rfl
theorem en_nx {ss : List A} {P : R → List Tr → Prop} {s : Option Sl} {Γ : G} : (endsT ss P).nx (s :: Γ) = P (.fz .non) (outsOf ss (s :: Γ)) := rfl
theorem en_rt {ss : List A} {P : R → List Tr → Prop} : (endsT ss P).rt = retT ss P := rfl
theorem en_bk {ss : List A} {P : R → List Tr → Prop} {Γ : G} : (endsT ss P).bk Γ = False := rfl
theorem en_ct {ss : List A} {P : R → List Tr → Prop} {Γ : G} : (endsT ss P).ct Γ = False := rfl
def retS (o : Option (Option Sl)) (ss : List A) (P : R → List Tr → Prop) (Γ : G) : Prop := match o with
  | some (some (.fz t)) => P (.fz t) (outsOf ss Γ)
  | some (some (.mu t)) => P (.mu t) (outsOf ss Γ)
  | _ => False
theorem rt_fz {t : Tr} {ss : List A} {P : R → List Tr → Prop} {s : Option Sl} {Γ : G} : retT ss P (.fz t) (s :: Γ) = P (.fz t) (outsOf ss (s :: Γ)) := rfl
theorem rt_mu {t : Tr} {ss : List A} {P : R → List Tr → Prop} {s : Option Sl} {Γ : G} : retT ss P (.mu t) (s :: Γ) = P (.mu t) (outsOf ss (s :: Γ)) := rfl
theorem rt_bor {i : Nat} {ss : List A} {P : R → List Tr → Prop} {s : Option Sl} {Γ : G} : retT ss P (.bor i) (s :: Γ) = retS (s :: Γ)[i]? ss P (s :: Γ) := by
  unfold retS
  rfl
theorem rs_fz {t : Tr} {ss : List A} {P : R → List Tr → Prop} {Γ : G} : retS (some (some (.fz t))) ss P Γ = P (.fz t) (outsOf ss Γ) := rfl
theorem rs_mu {t : Tr} {ss : List A} {P : R → List Tr → Prop} {Γ : G} : retS (some (some (.mu t))) ss P Γ = P (.mu t) (outsOf ss Γ) := rfl
theorem mk_at {k : Tr → List Tr → Prop} {t : Tr} {os : List Tr} : makeP k (.fz .non) (t :: os) = k t os := rfl
theorem tu_lst {ts : List Tr} {r : R} {Γ : G} {P : R → G → Prop} : tupleS (some (.lst ts)) r Γ P = P (.mu (.tup ts)) Γ := rfl
theorem tu_tup {ts : List Tr} {r : R} {Γ : G} {P : R → G → Prop} : tupleS (some (.tup ts)) r Γ P = frz r Γ fun t Γ2 => P (.fz (.tup ts)) Γ2 ∧ t = .tup ts := rfl
theorem in_is {C C' : Addr} {m : Str} {ns : List Str} {ts : List Tr} : insIs C m (.ins C' ns ts) = (C' = C ∧ ns.contains m = false) := rfl
theorem fl_at {K : PySem.W.Frag} {f : Str} {C : Addr} {ns : List Str} {ts : List Tr} {k : Tr → Prop} : fldT K f (.ins C ns ts) k = (Cls K C ∧ NoAttr K C f ∧ U.optE ((ns.zip ts).lookup f) k) := rfl
theorem fm_str {l : List Nat} {k : Tr → Prop} : fmtT (.str l) k = (l.length ≤ 16777216 ∧ k (.str l)) := rfl
theorem fm_int {i : Int} {k : Tr → Prop} : fmtT (.int i) k = ((0 ≤ i ∧ i < 2 ^ 1900) ∧ k (.str (U.numL i.toNat))) := rfl
theorem wg_nil {Γ : G} : wipeG Γ [] = Γ := rfl
theorem wg_cons {Γ : G} {i : Nat} {vs : List Nat} : wipeG Γ (i :: vs) = wipeG (Γ.set i none) vs := rfl
theorem r_fz_inj {s t : Tr} : (R.fz s = R.fz t) = (s = t) := by simp
theorem r_mu_inj {s t : Tr} : (R.mu s = R.mu t) = (s = t) := by simp
end Z
namespace Z
open L2
section
variable {α : Type} {a b c d e f : α} {l : List α}
theorem ix30 : ixN 3 0 = some 0 := rfl
theorem ix31 : ixN 3 1 = some 1 := rfl
theorem ix32 : ixN 3 2 = some 2 := rfl
theorem a0 : atI (a :: l) 0 = some a := U.atI_0
theorem a1 : atI (a :: b :: l) 1 = some b := U.at1
theorem a2 : atI (a :: b :: c :: l) 2 = some c := U.at2
theorem a3 : atI (a :: b :: c :: d :: l) 3 = some d := U.at3
theorem a4 : atI (a :: b :: c :: d :: e :: l) 4 = some e := U.at4
theorem a5 : atI (a :: b :: c :: d :: e :: f :: l) 5 = some f := U.at5
/-- cuts of lists that are written -/
theorem ct_nat {n : Nat} {l : List α} (h : n ≤ l.length) : U.cutL l none (some (n : Int)) = l.take n := by rw [U.cut_to (by omega)]; simp
theorem cf_nat {n : Nat} {l : List α} : U.cutL l (some (n : Int)) none = l.drop n := by rw [U.cut_from (by omega)]; simp
theorem ct1 : U.cutL (a :: l) none (some 1) = [a] := by rw [U.cut_to (by decide)]; simp
theorem ct2 : U.cutL (a :: b :: l) none (some 2) = [a, b] := by rw [U.cut_to (by decide)]; simp
theorem ct3 : U.cutL (a :: b :: c :: l) none (some 3) = [a, b, c] := by rw [U.cut_to (by decide)]; simp
theorem ct4 : U.cutL (a :: b :: c :: d :: l) none (some 4) = [a, b, c, d] := by rw [U.cut_to (by decide)]; simp
theorem ct5 : U.cutL (a :: b :: c :: d :: e :: l) none (some 5) = [a, b, c, d, e] := by rw [U.cut_to (by decide)]; simp
theorem cf1 : U.cutL (a :: l) (some 1) none = l := by rw [U.cut_from (by decide)]; simp
theorem cf2 : U.cutL (a :: b :: l) (some 2) none = l := by rw [U.cut_from (by decide)]; simp
theorem cf3 : U.cutL (a :: b :: c :: l) (some 3) none = l := by rw [U.cut_from (by decide)]; simp
theorem cf4 : U.cutL (a :: b :: c :: d :: l) (some 4) none = l := by rw [U.cut_from (by decide)]; simp
theorem cf5 : U.cutL (a :: b :: c :: d :: e :: l) (some 5) none = l := by rw [U.cut_from (by decide)]; simp
theorem cm1 : U.cutL (a :: b :: l) (some 1) (some 2) = [b] := by
  unfold U.cutL
  have e1 : HT.sIx (a :: b :: l).length 0 (some 1) = 1 := by unfold HT.sIx; simp
  have e2 : HT.sIx (a :: b :: l).length (a :: b :: l).length (some 2) = 2 := by unfold HT.sIx; simp
  rw [e1, e2]; simp
end
end Z
namespace Z
/-- what the laws draw from: the digits that are left, the seed, the turn -/
structure Bx where
  d : Int
  m : Int
  t : Int
  ok : 0 ≤ m ∧ m < 2 ^ 32
def Bx.tr (b : Bx) : Tr := .lst [.int b.d, .int b.m, .int b.t]
theorem Bx.tr_inj {a b : Bx} : (a.tr = b.tr) = (a = b) := by
  apply propext; constructor
  · intro h
    obtain ⟨a1, a2, a3, a4⟩ := a
    obtain ⟨b1, b2, b3, b4⟩ := b
    unfold Bx.tr at h
    simp at h
    obtain ⟨rfl, rfl, rfl⟩ := h
    rfl
  · rintro rfl; rfl
end Z

namespace Z
open PySem PySem.Spec PyProof.Rows L2
/-! ### texts that are drawn sign by sign -/
theorem strs_sg : ∀ l : List Nat, strsT (sgT l) = some (l.map fun c => [c])
  | [] => rfl
  | c :: l => by
    show (strsT (sgT l)).map ([c] :: ·) = _
    rw [strs_sg l]; rfl
theorem join_sg : ∀ l : List Nat, TL.joinL [] (l.map fun c => [c]) = l
  | [] => rfl
  | [c] => rfl
  | c :: d :: l => by
    have ih := join_sg (d :: l)
    show [c] ++ ([] ++ TL.joinL [] ((d :: l).map fun c => [c])) = _
    rw [ih]; rfl
theorem sum_sg : ∀ l : List Nat, ((l.map fun c => [c]).map List.length).sum = l.length
  | [] => rfl
  | c :: l => by
    have ih := sum_sg l
    simp only [List.map_cons, List.sum_cons, List.length_cons, List.length_nil]
    simp only [List.map_map] at ih ⊢
    omega
/-- "".join of signs -/
theorem join_draw {l : List Nat} {k : List Nat → Prop} (hl : l.length ≤ 16777216) (h : k l) : U.optE (strsT (sgT l)) fun ys => (ys.map List.length).sum + ys.length * 0 ≤ 16777216 ∧ k (TL.joinL [] ys) := by
  refine ⟨_, strs_sg l, ?_, ?_⟩
  · rw [sum_sg]; simpa using hl
  · rw [join_sg]; exact h
/-- signs that are drawn, one by one -/
def isSg (f : Nat → Bool) (u : Tr) : Prop := ∃ c, f c = true ∧ u = .str [c]
def isStr (f : List Nat → Prop) (u : Tr) : Prop := ∃ l, f l ∧ u = .str l
theorem signs_of {f : Nat → Bool} : ∀ {us : List Tr}, (∀ u ∈ us, isSg f u) → ∃ l : List Nat, us = sgT l ∧ l.all f = true ∧ l.length = us.length
  | [], _ => ⟨[], rfl, rfl, rfl⟩
  | u :: us, h => by
    obtain ⟨c, hc, e⟩ := h u List.mem_cons_self
    obtain ⟨l, e2, hl, hn⟩ := signs_of (us := us) fun x hx => h x (List.mem_cons_of_mem _ hx)
    exact ⟨c :: l, by rw [e, e2]; rfl, by rw [List.all_cons, hc, hl]; rfl, by rw [List.length_cons, List.length_cons, hn]⟩
theorem strs_of {f : List Nat → Prop} : ∀ {us : List Tr}, (∀ u ∈ us, isStr f u) → ∃ ls : List (List Nat), us = ls.map Tr.str ∧ (∀ l ∈ ls, f l) ∧ ls.length = us.length
  | [], _ => ⟨[], rfl, by simp, rfl⟩
  | u :: us, h => by
    obtain ⟨c, hc, e⟩ := h u List.mem_cons_self
    obtain ⟨l, e2, hl, hn⟩ := strs_of (us := us) fun x hx => h x (List.mem_cons_of_mem _ hx)
    refine ⟨c :: l, by rw [e, e2]; rfl, fun x hx => ?_, by rw [List.length_cons, List.length_cons, hn]⟩
    rcases List.mem_cons.mp hx with rfl | hx
    · exact hc
    · exact hl x hx
/-- items that are drawn: mk the slots by the box -/
def drI (Pt : Tr → Prop) (mk : Bx → G) (i : Nat) (acc : List Tr) (Γ : G) : Prop := acc.length = i ∧ (∀ u ∈ acc, Pt u) ∧ ∃ y, Γ = mk y
theorem drI_next {Pt : Tr → Prop} {mk : Bx → G} {i : Nat} {acc : List Tr} {Γ0 Γ : G} {u : Tr} (h : drI Pt mk i acc Γ0) (hu : Pt u) (y : Bx) (e : Γ = mk y) : drI Pt mk (i + 1) (acc ++ [u]) Γ := by
  obtain ⟨h1, h2, _⟩ := h
  refine ⟨by rw [List.length_append, h1]; rfl, fun x hx => ?_, y, e⟩
  rcases List.mem_append.mp hx with hx | hx
  · exact h2 x hx
  · rw [List.mem_singleton.mp hx]; exact hu
theorem lc_draw {fg : FG} {ft : FT} {fe : FE} {vs : List Nat} {P : R → G → Prop} {ts : List Tr} (Pt : Tr → Prop) (mk : Bx → G) (y0 : Bx) (hn : ts.length ≤ 16777215) (nn : ∀ y, noneB (mk y) vs = true)
    (st : ∀ (i : Nat) (t : Tr) (acc : List Tr) (y : Bx), ts[i]? = some t → drI Pt mk i acc (mk y) → fg t (mk y) fun Γ2 => ft Γ2 fun b Γ3 => if b = true then fe Γ3 fun r Γ4 => frz r Γ4 fun u Γ5 => drI Pt mk (i + 1) (acc ++ [u]) (wipeG Γ5 vs) else drI Pt mk (i + 1) acc (wipeG Γ3 vs))
    (fin : ∀ us y, us.length = ts.length → (∀ u ∈ us, Pt u) → P (.mu (.lst us)) (mk y)) : lcT fg ft fe vs P ts (mk y0) := by
  refine ⟨hn, drI Pt mk, ⟨rfl, by simp, y0, rfl⟩, ?_, ?_, ?_⟩
  · rintro i acc Γ ⟨_, _, y, rfl⟩; exact nn y
  · rintro i t acc Γ et h
    obtain ⟨y, rfl⟩ := h.2.2
    exact st i t acc y et h
  · rintro acc Γ ⟨ha, hp, y, rfl⟩
    exact fin acc y ha hp
/-- items reckoned one by one, the slots as they were -/
def mpI (f : Tr → Tr) (ts : List Tr) (Γ0 : G) (i : Nat) (acc : List Tr) (Γ : G) : Prop := acc = (ts.take i).map f ∧ Γ = Γ0
theorem mpI_next {f : Tr → Tr} {ts : List Tr} {Γ0 Γ : G} {i : Nat} {acc : List Tr} {t u : Tr} (h : acc = (ts.take i).map f) (ht : ts[i]? = some t) (hu : u = f t) (e : Γ = Γ0) : mpI f ts Γ0 (i + 1) (acc ++ [u]) Γ := by
  refine ⟨?_, e⟩
  rw [h, hu, List.take_add_one, ht]; simp
theorem lc_map {fg : FG} {ft : FT} {fe : FE} {vs : List Nat} {P : R → G → Prop} {ts : List Tr} {Γ0 : G} (f : Tr → Tr) (hn : ts.length ≤ 16777215) (nn : noneB Γ0 vs = true)
    (st : ∀ (i : Nat) (t : Tr) (acc : List Tr), ts[i]? = some t → acc = (ts.take i).map f → fg t Γ0 fun Γ2 => ft Γ2 fun b Γ3 => if b = true then fe Γ3 fun r Γ4 => frz r Γ4 fun u Γ5 => mpI f ts Γ0 (i + 1) (acc ++ [u]) (wipeG Γ5 vs) else mpI f ts Γ0 (i + 1) acc (wipeG Γ3 vs))
    (fin : P (.mu (.lst (ts.map f))) Γ0) : lcT fg ft fe vs P ts Γ0 := by
  refine ⟨hn, mpI f ts Γ0, ⟨by simp, rfl⟩, ?_, ?_, ?_⟩
  · rintro i acc Γ ⟨_, rfl⟩; exact nn
  · rintro i t acc Γ et ⟨h, rfl⟩
    exact st i t acc et h
  · rintro acc Γ ⟨rfl, rfl⟩
    rw [List.take_length]; exact fin
end Z
namespace Z
def ovT : Option Int → Tr
  | none => .non
  | some i => .int i
/-- a mark's parts: a list, its makers a tuple -/
def ptT (t : U.Pt) : Tr := .lst [.str t.l, .int t.n, .str t.p, .tup (t.ms.map Tr.str), ovT t.y, ovT t.c]
/-- .. its makers a list -/
def plT (t : U.Pt) : Tr := .lst [.str t.l, .int t.n, .str t.p, .lst (t.ms.map Tr.str), ovT t.y, ovT t.c]
end Z
namespace Z
theorem cut_by {f g : FS} {D : EndT} {Γ : G} (mid : G → Prop) (h1 : f { D with nx := mid } Γ) (h2 : ∀ Γ1, mid Γ1 → g D Γ1) : cutT f g D Γ := ⟨mid, h1, h2⟩
theorem for_by {fg : FG} {f : FS} {D : EndT} {ts : List Tr} {Γ1 : G} (inv : Nat → G → Prop) (h0 : inv 0 Γ1)
    (st : ∀ i t Γ, ts[i]? = some t → inv i Γ → fg t Γ fun Γ2 => f { D with nx := inv (i + 1), ct := inv (i + 1), bk := D.nx } Γ2) (en : ∀ Γ, inv ts.length Γ → D.nx Γ) : forT fg f D ts Γ1 := ⟨inv, h0, st, en⟩
theorem while_by {ft : FT} {f : FS} {D : EndT} {Γ : G} (inv : Nat → G → Prop) (h0 : ∃ m, inv m Γ)
    (st : ∀ m Γ, inv m Γ → ft Γ fun b Γ1 => if b = true then f { D with nx := fun Γ2 => ∃ m', m' < m ∧ inv m' Γ2, ct := fun Γ2 => ∃ m', m' < m ∧ inv m' Γ2, bk := D.nx } Γ1 else D.nx Γ1) : whileT ft f D Γ := ⟨inv, h0, st⟩
end Z
namespace Z
/-- a whole number from lo on, to hi -/
def wholeT : Tr → Int → Option Int → Bool
  | .int i, lo, none => decide (lo ≤ i)
  | .int i, lo, some hi => decide (lo ≤ i) && decide (i ≤ hi)
  | _, _, _ => false
/-- of a kind that isinstance can tell; texts not too long -/
def shortT : Tr → Bool
  | .str l => decide (l.length ≤ 16777214)
  | t => (tyT t).isSome
def nameT : Tr → Bool
  | .str l => U.nameB l
  | _ => false
def lettersT : Tr → Bool
  | .str l => U.lettersB l
  | _ => false
def figsT : Tr → Bool
  | .str l => U.figsB l
  | _ => false
def pointsT : Tr → Bool
  | .str l => U.pointsB l
  | _ => false
def makerT : Tr → Bool
  | .str l => U.makerB l
  | _ => false
end Z
namespace Z
open L2
/-- sign in signs, as a list's item -/
def inS (ss : List Nat) : Tr → Tr
  | .str [c] => .bl (decide (c ∈ ss))
  | _ => .non
theorem sgT_at {l : List Nat} {i : Nat} {t : Tr} (h : (sgT l)[i]? = some t) : ∃ c, l[i]? = some c ∧ t = .str [c] := by
  unfold sgT at h
  rw [List.getElem?_map] at h
  cases e : l[i]? with
  | none => rw [e] at h; cases h
  | some c => rw [e] at h; cases h; exact ⟨c, rfl, rfl⟩
theorem bls_inS (ss : List Nat) : ∀ l : List Nat, blsT ((sgT l).map (inS ss)) = some (l.map fun c => decide (c ∈ ss))
  | [] => rfl
  | c :: l => by
    show (blsT ((sgT l).map (inS ss))).map (decide (c ∈ ss) :: ·) = _
    rw [bls_inS ss l]; rfl
theorem all_inS {ss l : List Nat} {k : Bool → Prop} (h : k (l.all fun c => decide (c ∈ ss))) : U.optE (blsT ((sgT l).map (inS ss))) fun bs => k (bs.all id) := by
  refine ⟨_, bls_inS ss l, ?_⟩
  have e : (l.map fun c => decide (c ∈ ss)).all id = l.all fun c => decide (c ∈ ss) := by rw [List.all_map]; rfl
  show k ((l.map fun c => decide (c ∈ ss)).all id)
  rw [e]; exact h
end Z
namespace Z
open PySem PySem.Spec PyProof.Rows L2
theorem ib_NoneType_bool : U.isB "NoneType" "bool" = some false := rfl
theorem ib_NoneType_int : U.isB "NoneType" "int" = some false := rfl
theorem ib_NoneType_str : U.isB "NoneType" "str" = some false := rfl
theorem ib_NoneType_list : U.isB "NoneType" "list" = some false := rfl
theorem ib_NoneType_tuple : U.isB "NoneType" "tuple" = some false := rfl
theorem ib_NoneType_dict : U.isB "NoneType" "dict" = some false := rfl
theorem ib_bool_bool : U.isB "bool" "bool" = some true := rfl
theorem ib_bool_int : U.isB "bool" "int" = some true := rfl
theorem ib_bool_str : U.isB "bool" "str" = some false := rfl
theorem ib_bool_list : U.isB "bool" "list" = some false := rfl
theorem ib_bool_tuple : U.isB "bool" "tuple" = some false := rfl
theorem ib_bool_dict : U.isB "bool" "dict" = some false := rfl
theorem ib_int_bool : U.isB "int" "bool" = some false := rfl
theorem ib_int_int : U.isB "int" "int" = some true := rfl
theorem ib_int_str : U.isB "int" "str" = some false := rfl
theorem ib_int_list : U.isB "int" "list" = some false := rfl
theorem ib_int_tuple : U.isB "int" "tuple" = some false := rfl
theorem ib_int_dict : U.isB "int" "dict" = some false := rfl
theorem ib_str_bool : U.isB "str" "bool" = some false := rfl
theorem ib_str_int : U.isB "str" "int" = some false := rfl
theorem ib_str_str : U.isB "str" "str" = some true := rfl
theorem ib_str_list : U.isB "str" "list" = some false := rfl
theorem ib_str_tuple : U.isB "str" "tuple" = some false := rfl
theorem ib_str_dict : U.isB "str" "dict" = some false := rfl
theorem ib_list_bool : U.isB "list" "bool" = some false := rfl
theorem ib_list_int : U.isB "list" "int" = some false := rfl
theorem ib_list_str : U.isB "list" "str" = some false := rfl
theorem ib_list_list : U.isB "list" "list" = some true := rfl
theorem ib_list_tuple : U.isB "list" "tuple" = some false := rfl
theorem ib_list_dict : U.isB "list" "dict" = some false := rfl
theorem ib_tuple_bool : U.isB "tuple" "bool" = some false := rfl
theorem ib_tuple_int : U.isB "tuple" "int" = some false := rfl
theorem ib_tuple_str : U.isB "tuple" "str" = some false := rfl
theorem ib_tuple_list : U.isB "tuple" "list" = some false := rfl
theorem ib_tuple_tuple : U.isB "tuple" "tuple" = some true := rfl
theorem ib_tuple_dict : U.isB "tuple" "dict" = some false := rfl
theorem ib_dict_bool : U.isB "dict" "bool" = some false := rfl
theorem ib_dict_int : U.isB "dict" "int" = some false := rfl
theorem ib_dict_str : U.isB "dict" "str" = some false := rfl
theorem ib_dict_list : U.isB "dict" "list" = some false := rfl
theorem ib_dict_tuple : U.isB "dict" "tuple" = some false := rfl
theorem ib_dict_dict : U.isB "dict" "dict" = some true := rfl
theorem ia_list : U.isAny "list" [.ty "list", .ty "tuple"] = some true := rfl
theorem ia_tuple : U.isAny "tuple" [.ty "list", .ty "tuple"] = some true := rfl
theorem ia_NoneType : U.isAny "NoneType" [.ty "list", .ty "tuple"] = some false := rfl
theorem ia_bool : U.isAny "bool" [.ty "list", .ty "tuple"] = some false := rfl
theorem ia_int : U.isAny "int" [.ty "list", .ty "tuple"] = some false := rfl
theorem ia_str : U.isAny "str" [.ty "list", .ty "tuple"] = some false := rfl
theorem nn_non {b : Bool} {i : Int} {l : List Nat} {ts : List Tr} {C : Addr} {ns : List Str} : isNonT .non = true := rfl
theorem nn_bl {b : Bool} {i : Int} {l : List Nat} {ts : List Tr} {C : Addr} {ns : List Str} : isNonT (.bl b) = false := rfl
theorem nn_int {b : Bool} {i : Int} {l : List Nat} {ts : List Tr} {C : Addr} {ns : List Str} : isNonT (.int i) = false := rfl
theorem nn_str {b : Bool} {i : Int} {l : List Nat} {ts : List Tr} {C : Addr} {ns : List Str} : isNonT (.str l) = false := rfl
theorem nn_lst {b : Bool} {i : Int} {l : List Nat} {ts : List Tr} {C : Addr} {ns : List Str} : isNonT (.lst ts) = false := rfl
theorem nn_tup {b : Bool} {i : Int} {l : List Nat} {ts : List Tr} {C : Addr} {ns : List Str} : isNonT (.tup ts) = false := rfl
theorem nn_ins {b : Bool} {i : Int} {l : List Nat} {ts : List Tr} {C : Addr} {ns : List Str} : isNonT (.ins C ns ts) = false := rfl
theorem ov_n : ovT none = .non := rfl
theorem ov_s {i : Int} : ovT (some i) = .int i := rfl
end Z
namespace Z
abbrev AZ : List Nat := [97, 98, 99, 100, 101, 102, 103, 104, 105, 106, 107, 108, 109, 110, 111, 112, 113, 114, 115, 116, 117, 118, 119, 120, 121, 122]
abbrev D09 : List Nat := [48, 49, 50, 51, 52, 53, 54, 55, 56, 57]
theorem all_low {l : List Nat} : (l.all fun c => decide (c ∈ AZ)) = l.all U.lowB := rfl
theorem all_fig {l : List Nat} : (l.all fun c => decide (c ∈ D09)) = l.all U.figB := rfl
end Z
namespace Z
open PySem PySem.Spec PyProof.Rows L2
theorem all_id {α : Type} {f : α → Bool} {l : List α} : (l.map f).all id = l.all f := by rw [List.all_map]; rfl
theorem any_id {α : Type} {f : α → Bool} {l : List α} : (l.map f).any id = l.any f := by rw [List.any_map]; rfl
theorem na_non : nameT .non = false := rfl
theorem na_bl {b : Bool} : nameT (.bl b) = false := rfl
theorem na_int {b : Int} : nameT (.int b) = false := rfl
theorem na_lst {b : List Tr} : nameT (.lst b) = false := rfl
theorem na_tup {b : List Tr} : nameT (.tup b) = false := rfl
theorem na_str {b : List Nat} : nameT (.str b) = U.nameB b := rfl
/-- a while whose test fails at once -/
theorem while_no {ft : FT} {f : FS} {D : EndT} {Γ : G} (h : ∀ k : G → Prop, ft Γ fun b Γ1 => if b = true then k Γ1 else D.nx Γ1) : whileT ft f D Γ := by
  refine ⟨fun m Γ' => m = 0 ∧ Γ' = Γ, ⟨0, rfl, rfl⟩, ?_⟩
  rintro m Γ' ⟨rfl, rfl⟩
  exact h _
end Z

namespace Z
open PySem PySem.Spec PyProof.Rows L2
/-! ### a walk over what is a list or a tuple -/
def iSeq (K : PySem.W.Frag) (tl : L2.TE) : TI := fun σ H R => tl σ H fun x H1 => ∃ a, x = .ref a ∧ (((∃ xs, SqL K H1 a xs) ∧ R (Itl K a) H1) ∨ ((∃ xs, SqT K H1 a xs) ∧ R (Itt K a) H1))
theorem pi_seq {X : Cx} {tg l : Expr} {tl : L2.TE} (hl : PE X l tl) : PI X tg l (iSeq X.K tl) := by
  refine ⟨fun pins s σ H R I h => ?_⟩
  refine thn (hl.run pins s σ H _ I h) fun v s1 q1 => ?_
  obtain ⟨x, H1, I1, r1, a, e, q⟩ := q1
  subst e
  have at1 : PE X l (fun σ' H' Q => tl σ' H' Q) := hl
  rcases q with ⟨⟨xs, hq⟩, q⟩ | ⟨⟨xs, hq⟩, q⟩
  · cases r1
    obtain ⟨its, rv, p, hz⟩ := I1.list hq
    refine wpAny_pyIter_list p.isList ⟨s1.heap.objs.size, [s1.heap.objs.size], _, _, H1, rfl, I1.kept (t' := s1.toks) (fun b o e => Heap.get?_push_of_some _ e), turn_list a _, ⟨_, Heap.get?_push_size _ rfl, rfl, rfl⟩, fun b hb => ?_, q⟩
    have e : b = s1.heap.objs.size := by simpa using hb
    subst e
    exact I1.fpOk (Nat.le_refl _) (I1.hok.fresh (Nat.le_refl _))
  · cases r1
    obtain ⟨its, rv, p, hz⟩ := I1.tuple hq
    refine wpAny_pyIter_tuple (show s1.heap.IsTuple a its.toArray from p) ⟨s1.heap.objs.size, [s1.heap.objs.size], _, _, H1, rfl, I1.kept (t' := s1.toks) (fun b o e => Heap.get?_push_of_some _ e), turn_tuple a _, ⟨_, Heap.get?_push_size _ rfl, rfl, rfl⟩, fun b hb => ?_, q⟩
    have e : b = s1.heap.objs.size := by simpa using hb
    subst e
    exact I1.fpOk (Nat.le_refl _) (I1.hok.fresh (Nat.le_refl _))
def fiSeq (fa : FE) : FI := fun Γ P => fa Γ fun r Γ1 => frz r Γ1 fun t Γ2 => U.optE (seqT t) fun ts => P ts Γ2
theorem ri_seq {c : Ctx} {ta : L2.TE} {fa : FE} (ha : RE c ta fa) : RI c (iSeq c.K ta) (fiSeq fa) := fun Γ σ H W P R' E p k => by
  refine ha Γ σ H W _ _ E p fun r Γ1 v H1 W1 q E1 s1 h1 => ?_
  obtain ⟨t, Γ2, W2, ⟨ts, et, q⟩, E2, s2, h2⟩ := frz_ok E1 s1 h1 q E.dm
  cases t <;> cases et
  · rw [rp_lst] at h2
    obtain ⟨a, vs, rfl, wa, ha, hr⟩ := h2
    have wk := wk_len (m := ts.length) (walk_list (K := c.K) (a := a) (xs := vs)) hr.len
    exact ⟨a, rfl, .inl ⟨⟨vs, SqL.of ha⟩, k ts Γ2 _ H1 W2 q E2 s2 ⟨_, _, wk, fun H W f => SqL.of ((f a wa).2.trans ha), at_ok (a := a) hr⟩⟩⟩
  · rw [rp_tup] at h2
    obtain ⟨a, vs, rfl, wa, ha, hr⟩ := h2
    have wk := wk_len (m := ts.length) (walk_tup (K := c.K) (a := a) (xs := vs)) hr.len
    exact ⟨a, rfl, .inr ⟨⟨vs, SqT.of ha⟩, k ts Γ2 _ H1 W2 q E2 s2 ⟨_, _, wk, fun H W f => SqT.of ((f a wa).2.trans ha), at_ok (a := a) hr⟩⟩⟩
theorem e_iseq {s : Option Sl} {Γ : G} {fa : FE} {P' : List Tr → G → Prop} : fiSeq fa (s :: Γ) P' = fa (s :: Γ) fun r Γ1 => frz r Γ1 fun t Γ2 => U.optE (seqT t) fun ts => P' ts Γ2 := rfl
/-! ### marks -/
abbrev mkN : List Str := ["kept_makers", "kept_letters", "kept_number", "kept_points", "kept_year", "kept_copy", "kept_text"]
def mkT (C : Addr) (t : U.Pt) : Tr := .ins C mkN [.tup (t.ms.map Tr.str), .str t.l, .int t.n, .str t.p, ovT t.y, ovT t.c, .str t.text]
section
variable {K : PySem.W.Frag} {C : Addr} {t : U.Pt} {k : Tr → Prop} {m : Str}
theorem m1 : fldT K "kept_makers" (mkT C t) k = (Cls K C ∧ NoAttr K C "kept_makers" ∧ k (.tup (t.ms.map Tr.str))) := by
  show (Cls K C ∧ NoAttr K C "kept_makers" ∧ U.optE _ k) = _
  rw [show (mkN.zip _).lookup ("kept_makers" : Str) = some (Tr.tup (t.ms.map Tr.str)) from rfl, U.optE_some]
theorem m2 : fldT K "kept_letters" (mkT C t) k = (Cls K C ∧ NoAttr K C "kept_letters" ∧ k (.str t.l)) := by
  show (Cls K C ∧ NoAttr K C "kept_letters" ∧ U.optE _ k) = _
  rw [show (mkN.zip _).lookup ("kept_letters" : Str) = some (Tr.str t.l) from rfl, U.optE_some]
theorem m3 : fldT K "kept_number" (mkT C t) k = (Cls K C ∧ NoAttr K C "kept_number" ∧ k (.int t.n)) := by
  show (Cls K C ∧ NoAttr K C "kept_number" ∧ U.optE _ k) = _
  rw [show (mkN.zip _).lookup ("kept_number" : Str) = some (Tr.int t.n) from rfl, U.optE_some]
theorem m4 : fldT K "kept_points" (mkT C t) k = (Cls K C ∧ NoAttr K C "kept_points" ∧ k (.str t.p)) := by
  show (Cls K C ∧ NoAttr K C "kept_points" ∧ U.optE _ k) = _
  rw [show (mkN.zip _).lookup ("kept_points" : Str) = some (Tr.str t.p) from rfl, U.optE_some]
theorem m5 : fldT K "kept_year" (mkT C t) k = (Cls K C ∧ NoAttr K C "kept_year" ∧ k (ovT t.y)) := by
  show (Cls K C ∧ NoAttr K C "kept_year" ∧ U.optE _ k) = _
  rw [show (mkN.zip _).lookup ("kept_year" : Str) = some (ovT t.y) from rfl, U.optE_some]
theorem m6 : fldT K "kept_copy" (mkT C t) k = (Cls K C ∧ NoAttr K C "kept_copy" ∧ k (ovT t.c)) := by
  show (Cls K C ∧ NoAttr K C "kept_copy" ∧ U.optE _ k) = _
  rw [show (mkN.zip _).lookup ("kept_copy" : Str) = some (ovT t.c) from rfl, U.optE_some]
theorem m7 : fldT K "kept_text" (mkT C t) k = (Cls K C ∧ NoAttr K C "kept_text" ∧ k (.str t.text)) := by
  show (Cls K C ∧ NoAttr K C "kept_text" ∧ U.optE _ k) = _
  rw [show (mkN.zip _).lookup ("kept_text" : Str) = some (Tr.str t.text) from rfl, U.optE_some]
theorem m_is {C' : Addr} : insIs C' m (mkT C t) = (C = C' ∧ mkN.contains m = false) := rfl
theorem m_isc {C' D : Addr} {P : R → Prop} : gIsC C' [mkT C t, .adr D] P = ((C = C' ∧ D = C') ∧ P (.fz (.bl true))) := rfl
theorem mk_inj {t u : U.Pt} : (mkT C t = mkT C u) = (t = u) := by
  apply propext; constructor
  · intro h
    unfold mkT at h
    simp only [Tr.ins.injEq, List.cons.injEq, true_and, and_true, Tr.tup.injEq, Tr.str.injEq, Tr.int.injEq] at h
    obtain ⟨h1, h2, h3, h4, h5, h6, _⟩ := h
    obtain ⟨l, n, p, ms, y, c⟩ := t
    obtain ⟨l', n', p', ms', y', c'⟩ := u
    simp only at *
    have hms : ms = ms' := by
      have : Function.Injective Tr.str := fun a b e => by cases e; rfl
      exact (List.map_inj_right (fun x y e => this e)).mp h1
    have hov : ∀ {a b : Option Int}, ovT a = ovT b → a = b := fun {a b} e => by cases a <;> cases b <;> simp [ovT] at e <;> simp [e]
    rw [hms, h2, h3, h4, hov h5, hov h6]
  · rintro rfl; rfl
theorem nc_eq : mkN.contains "__eq__" = false := by decide +kernel
theorem nc_key : mkN.contains "key" = false := by decide +kernel
theorem nc_ahead : mkN.contains "ahead" = false := by decide +kernel
theorem nc_parts : mkN.contains "parts" = false := by decide +kernel
end
end Z
namespace Z
/-- makers as they may be handed in -/
def mkrT (t : Tr) (ms : List (List Nat)) : Prop := (t = .non ∧ ms = []) ∨ t = .lst (ms.map Tr.str) ∨ t = .tup (ms.map Tr.str)
end Z
namespace Z
open PySem PySem.Spec PyProof.Rows L2
theorem str_at {ms : List (List Nat)} {i : Nat} {t : Tr} (h : (ms.map Tr.str)[i]? = some t) : ∃ m, ms[i]? = some m ∧ t = .str m := by
  rw [List.getElem?_map] at h
  cases e : ms[i]? with
  | none => rw [e] at h; cases h
  | some m => rw [e] at h; cases h; exact ⟨m, rfl, rfl⟩
abbrev mkN6 : List Str := ["kept_makers", "kept_letters", "kept_number", "kept_points", "kept_year", "kept_copy"]
end Z
namespace Z
theorem short_str {l : List Nat} (h : l.length ≤ 16777214) : shortT (.str l) = true := decide_eq_true h
end Z

/-! fields set one by one (printed by gen/fz.py) -/
namespace Z
open PySem PySem.Spec PyProof.Rows L2
theorem mf_n0 : putN "kept_makers" ([] : List Str) = (["kept_makers"] : List Str) := by decide +kernel
theorem mf_x0 {α : Type} {x y0 x0 x1 x2 x3 x4 x5 x6 : α} : putX "kept_makers" x ([] : List Str) [] = [x] := rfl
theorem mf_n1 : putN "kept_letters" (["kept_makers"] : List Str) = (["kept_makers", "kept_letters"] : List Str) := by decide +kernel
theorem mf_x1 {α : Type} {x y0 x0 x1 x2 x3 x4 x5 x6 : α} : putX "kept_letters" x (["kept_makers"] : List Str) [x0] = [x0, x] := rfl
theorem mf_n2 : putN "kept_number" (["kept_makers", "kept_letters"] : List Str) = (["kept_makers", "kept_letters", "kept_number"] : List Str) := by decide +kernel
theorem mf_x2 {α : Type} {x y0 x0 x1 x2 x3 x4 x5 x6 : α} : putX "kept_number" x (["kept_makers", "kept_letters"] : List Str) [x0, x1] = [x0, x1, x] := rfl
theorem mf_n3 : putN "kept_points" (["kept_makers", "kept_letters", "kept_number"] : List Str) = (["kept_makers", "kept_letters", "kept_number", "kept_points"] : List Str) := by decide +kernel
theorem mf_x3 {α : Type} {x y0 x0 x1 x2 x3 x4 x5 x6 : α} : putX "kept_points" x (["kept_makers", "kept_letters", "kept_number"] : List Str) [x0, x1, x2] = [x0, x1, x2, x] := rfl
theorem mf_n4 : putN "kept_year" (["kept_makers", "kept_letters", "kept_number", "kept_points"] : List Str) = (["kept_makers", "kept_letters", "kept_number", "kept_points", "kept_year"] : List Str) := by decide +kernel
theorem mf_x4 {α : Type} {x y0 x0 x1 x2 x3 x4 x5 x6 : α} : putX "kept_year" x (["kept_makers", "kept_letters", "kept_number", "kept_points"] : List Str) [x0, x1, x2, x3] = [x0, x1, x2, x3, x] := rfl
theorem mf_n5 : putN "kept_copy" (["kept_makers", "kept_letters", "kept_number", "kept_points", "kept_year"] : List Str) = (["kept_makers", "kept_letters", "kept_number", "kept_points", "kept_year", "kept_copy"] : List Str) := by decide +kernel
theorem mf_x5 {α : Type} {x y0 x0 x1 x2 x3 x4 x5 x6 : α} : putX "kept_copy" x (["kept_makers", "kept_letters", "kept_number", "kept_points", "kept_year"] : List Str) [x0, x1, x2, x3, x4] = [x0, x1, x2, x3, x4, x] := rfl
theorem mf_n6 : putN "kept_text" (["kept_makers", "kept_letters", "kept_number", "kept_points", "kept_year", "kept_copy"] : List Str) = (["kept_makers", "kept_letters", "kept_number", "kept_points", "kept_year", "kept_copy", "kept_text"] : List Str) := by decide +kernel
theorem mf_x6 {α : Type} {x y0 x0 x1 x2 x3 x4 x5 x6 : α} : putX "kept_text" x (["kept_makers", "kept_letters", "kept_number", "kept_points", "kept_year", "kept_copy"] : List Str) [x0, x1, x2, x3, x4, x5] = [x0, x1, x2, x3, x4, x5, x] := rfl
theorem mf_l6_0 {α : Type} {x0 x1 x2 x3 x4 x5 x6 : α} : ((["kept_makers", "kept_letters", "kept_number", "kept_points", "kept_year", "kept_copy"] : List Str).zip [x0, x1, x2, x3, x4, x5]).lookup ("kept_makers" : Str) = some x0 := rfl
theorem mf_l6_1 {α : Type} {x0 x1 x2 x3 x4 x5 x6 : α} : ((["kept_makers", "kept_letters", "kept_number", "kept_points", "kept_year", "kept_copy"] : List Str).zip [x0, x1, x2, x3, x4, x5]).lookup ("kept_letters" : Str) = some x1 := rfl
theorem mf_l6_2 {α : Type} {x0 x1 x2 x3 x4 x5 x6 : α} : ((["kept_makers", "kept_letters", "kept_number", "kept_points", "kept_year", "kept_copy"] : List Str).zip [x0, x1, x2, x3, x4, x5]).lookup ("kept_number" : Str) = some x2 := rfl
theorem mf_l6_3 {α : Type} {x0 x1 x2 x3 x4 x5 x6 : α} : ((["kept_makers", "kept_letters", "kept_number", "kept_points", "kept_year", "kept_copy"] : List Str).zip [x0, x1, x2, x3, x4, x5]).lookup ("kept_points" : Str) = some x3 := rfl
theorem mf_l6_4 {α : Type} {x0 x1 x2 x3 x4 x5 x6 : α} : ((["kept_makers", "kept_letters", "kept_number", "kept_points", "kept_year", "kept_copy"] : List Str).zip [x0, x1, x2, x3, x4, x5]).lookup ("kept_year" : Str) = some x4 := rfl
theorem mf_l6_5 {α : Type} {x0 x1 x2 x3 x4 x5 x6 : α} : ((["kept_makers", "kept_letters", "kept_number", "kept_points", "kept_year", "kept_copy"] : List Str).zip [x0, x1, x2, x3, x4, x5]).lookup ("kept_copy" : Str) = some x5 := rfl
theorem mf_l7_0 {α : Type} {x0 x1 x2 x3 x4 x5 x6 : α} : ((["kept_makers", "kept_letters", "kept_number", "kept_points", "kept_year", "kept_copy", "kept_text"] : List Str).zip [x0, x1, x2, x3, x4, x5, x6]).lookup ("kept_makers" : Str) = some x0 := rfl
theorem mf_l7_1 {α : Type} {x0 x1 x2 x3 x4 x5 x6 : α} : ((["kept_makers", "kept_letters", "kept_number", "kept_points", "kept_year", "kept_copy", "kept_text"] : List Str).zip [x0, x1, x2, x3, x4, x5, x6]).lookup ("kept_letters" : Str) = some x1 := rfl
theorem mf_l7_2 {α : Type} {x0 x1 x2 x3 x4 x5 x6 : α} : ((["kept_makers", "kept_letters", "kept_number", "kept_points", "kept_year", "kept_copy", "kept_text"] : List Str).zip [x0, x1, x2, x3, x4, x5, x6]).lookup ("kept_number" : Str) = some x2 := rfl
theorem mf_l7_3 {α : Type} {x0 x1 x2 x3 x4 x5 x6 : α} : ((["kept_makers", "kept_letters", "kept_number", "kept_points", "kept_year", "kept_copy", "kept_text"] : List Str).zip [x0, x1, x2, x3, x4, x5, x6]).lookup ("kept_points" : Str) = some x3 := rfl
theorem mf_l7_4 {α : Type} {x0 x1 x2 x3 x4 x5 x6 : α} : ((["kept_makers", "kept_letters", "kept_number", "kept_points", "kept_year", "kept_copy", "kept_text"] : List Str).zip [x0, x1, x2, x3, x4, x5, x6]).lookup ("kept_year" : Str) = some x4 := rfl
theorem mf_l7_5 {α : Type} {x0 x1 x2 x3 x4 x5 x6 : α} : ((["kept_makers", "kept_letters", "kept_number", "kept_points", "kept_year", "kept_copy", "kept_text"] : List Str).zip [x0, x1, x2, x3, x4, x5, x6]).lookup ("kept_copy" : Str) = some x5 := rfl
theorem mf_l7_6 {α : Type} {x0 x1 x2 x3 x4 x5 x6 : α} : ((["kept_makers", "kept_letters", "kept_number", "kept_points", "kept_year", "kept_copy", "kept_text"] : List Str).zip [x0, x1, x2, x3, x4, x5, x6]).lookup ("kept_text" : Str) = some x6 := rfl
end Z
namespace Z
theorem strsT_1 {ms : List (List Nat)} {a : List Nat} : strsT (ms.map Tr.str ++ [.str a]) = some (ms ++ [a]) := by
  rw [show ms.map Tr.str ++ [Tr.str a] = (ms ++ [a]).map Tr.str by simp]; exact strsT_map _
theorem strsT_2 {ms : List (List Nat)} {a b : List Nat} : strsT (ms.map Tr.str ++ [.str a] ++ [.str b]) = some (ms ++ [a, b]) := by
  rw [show ms.map Tr.str ++ [Tr.str a] ++ [Tr.str b] = (ms ++ [a, b]).map Tr.str by simp]; exact strsT_map _
end Z
namespace Z
open PySem PySem.Spec PyProof.Rows L2
theorem nc6_text : List.contains (["kept_makers", "kept_letters", "kept_number", "kept_points", "kept_year", "kept_copy"] : List Str) ("text_of" : Str) = false := by decide +kernel
theorem mkT_at {C : Addr} {t : U.Pt} : mkT C t = .ins C mkN [.tup (t.ms.map Tr.str), .str t.l, .int t.n, .str t.p, ovT t.y, ovT t.c, .str t.text] := rfl
end Z
namespace Z
open PySem PySem.Spec PyProof.Rows L2
def keyT (t : U.Pt) : Tr := .tup [.str t.l, .int t.n, .str t.p, .tup (t.ms.map Tr.str), .int (t.y.getD 0), .int (t.c.getD 0)]
theorem dtTs_str (ms : List (List Nat)) : dtTs (ms.map Tr.str) = some (ms.map fun m => PyData.str ⟨m.toArray⟩) := by
  induction ms with
  | nil => rfl
  | cons m ms ih => rw [List.map_cons, dtTs, ih]; rfl
theorem dt_key {t : U.Pt} : dtT (keyT t) = some (U.keyD t) := by
  unfold keyT
  simp only [dtT, dtTs, dtTs_str]
  rfl
end Z
namespace Z
theorem joinL_len (S : List Nat) : ∀ xs : List (List Nat), (TL.joinL S xs).length ≤ (xs.map List.length).sum + xs.length * S.length
  | [] => by simp [TL.joinL]
  | [a] => by simp [TL.joinL]
  | a :: b :: r => by
    have h := joinL_len S (b :: r)
    rw [TL.joinL]
    · simp only [List.length_append, List.map_cons, List.sum_cons, List.length_cons] at h ⊢
      rw [Nat.add_mul] ; omega
    all_goals simp
theorem text_short {t : U.Pt} (ok : t.Ok) : t.text.length ≤ 16777216 := Nat.le_trans (joinL_len [32] t.ws) (by simpa using ok.join)
end Z

/-! the tables of counts as trees (field lemmas printed by gen/gen13.py) -/
namespace Z
open PySem PySem.Spec PyProof.Rows L2
def ivT (n : Nat) (F : Nat → Int) : Tr := .lst ((U.sq n F).map Tr.int)
abbrev fgN : List Str := ["tails", "going", "stopping"]
abbrev cnN : List Str := ["by_copy", "by_year", "by_makers", "by_figures", "by_points", "by_number", "by_word", "by_sign"]
def fgT (CF : Addr) (n : Nat) (T : Nat → Int) : Tr := .ins CF fgN [ivT n T, ivT n (U.goF T), ivT n (U.stF T)]
def cnT (C CF : Addr) (n : Nat) : Tr := .ins C cnN [ivT (n + 1) U.copF, ivT (n + 1) U.yearF, .lst [ivT (n + 1) (U.endF 0), ivT (n + 1) (U.endF 1), ivT (n + 1) (U.endF 2), ivT (n + 1) (U.endF 3)], .lst [fgT CF (n + 1) (U.endF 0), fgT CF (n + 1) (U.endF 1), fgT CF (n + 1) (U.endF 2)], fgT CF (n + 1) (U.endF 3), ivT (n + 1) U.numF, ivT (n + 1) U.wordF, ivT (n + 1) U.sigF]
theorem fgf1 {K : PySem.W.Frag} {CF : Addr} {n : Nat} {T : Nat → Int} {k : Tr → Prop} : fldT K "tails" (fgT CF n T) k = (Cls K CF ∧ NoAttr K CF "tails" ∧ k (ivT n T)) := by
  show (Cls K CF ∧ NoAttr K CF "tails" ∧ U.optE _ k) = _
  rw [show (fgN.zip _).lookup ("tails" : Str) = some (ivT n T) from rfl, U.optE_some]
theorem fgf2 {K : PySem.W.Frag} {CF : Addr} {n : Nat} {T : Nat → Int} {k : Tr → Prop} : fldT K "going" (fgT CF n T) k = (Cls K CF ∧ NoAttr K CF "going" ∧ k (ivT n (U.goF T))) := by
  show (Cls K CF ∧ NoAttr K CF "going" ∧ U.optE _ k) = _
  rw [show (fgN.zip _).lookup ("going" : Str) = some (ivT n (U.goF T)) from rfl, U.optE_some]
theorem fgf3 {K : PySem.W.Frag} {CF : Addr} {n : Nat} {T : Nat → Int} {k : Tr → Prop} : fldT K "stopping" (fgT CF n T) k = (Cls K CF ∧ NoAttr K CF "stopping" ∧ k (ivT n (U.stF T))) := by
  show (Cls K CF ∧ NoAttr K CF "stopping" ∧ U.optE _ k) = _
  rw [show (fgN.zip _).lookup ("stopping" : Str) = some (ivT n (U.stF T)) from rfl, U.optE_some]
theorem cnf1 {K : PySem.W.Frag} {C CF : Addr} {n : Nat} {k : Tr → Prop} : fldT K "by_copy" (cnT C CF n) k = (Cls K C ∧ NoAttr K C "by_copy" ∧ k (ivT (n + 1) U.copF)) := by
  show (Cls K C ∧ NoAttr K C "by_copy" ∧ U.optE _ k) = _
  rw [show (cnN.zip _).lookup ("by_copy" : Str) = some (ivT (n + 1) U.copF) from rfl, U.optE_some]
theorem cnf2 {K : PySem.W.Frag} {C CF : Addr} {n : Nat} {k : Tr → Prop} : fldT K "by_year" (cnT C CF n) k = (Cls K C ∧ NoAttr K C "by_year" ∧ k (ivT (n + 1) U.yearF)) := by
  show (Cls K C ∧ NoAttr K C "by_year" ∧ U.optE _ k) = _
  rw [show (cnN.zip _).lookup ("by_year" : Str) = some (ivT (n + 1) U.yearF) from rfl, U.optE_some]
theorem cnf3 {K : PySem.W.Frag} {C CF : Addr} {n : Nat} {k : Tr → Prop} : fldT K "by_makers" (cnT C CF n) k = (Cls K C ∧ NoAttr K C "by_makers" ∧ k (.lst [ivT (n + 1) (U.endF 0), ivT (n + 1) (U.endF 1), ivT (n + 1) (U.endF 2), ivT (n + 1) (U.endF 3)])) := by
  show (Cls K C ∧ NoAttr K C "by_makers" ∧ U.optE _ k) = _
  rw [show (cnN.zip _).lookup ("by_makers" : Str) = some (.lst [ivT (n + 1) (U.endF 0), ivT (n + 1) (U.endF 1), ivT (n + 1) (U.endF 2), ivT (n + 1) (U.endF 3)]) from rfl, U.optE_some]
theorem cnf4 {K : PySem.W.Frag} {C CF : Addr} {n : Nat} {k : Tr → Prop} : fldT K "by_figures" (cnT C CF n) k = (Cls K C ∧ NoAttr K C "by_figures" ∧ k (.lst [fgT CF (n + 1) (U.endF 0), fgT CF (n + 1) (U.endF 1), fgT CF (n + 1) (U.endF 2)])) := by
  show (Cls K C ∧ NoAttr K C "by_figures" ∧ U.optE _ k) = _
  rw [show (cnN.zip _).lookup ("by_figures" : Str) = some (.lst [fgT CF (n + 1) (U.endF 0), fgT CF (n + 1) (U.endF 1), fgT CF (n + 1) (U.endF 2)]) from rfl, U.optE_some]
theorem cnf5 {K : PySem.W.Frag} {C CF : Addr} {n : Nat} {k : Tr → Prop} : fldT K "by_points" (cnT C CF n) k = (Cls K C ∧ NoAttr K C "by_points" ∧ k (fgT CF (n + 1) (U.endF 3))) := by
  show (Cls K C ∧ NoAttr K C "by_points" ∧ U.optE _ k) = _
  rw [show (cnN.zip _).lookup ("by_points" : Str) = some (fgT CF (n + 1) (U.endF 3)) from rfl, U.optE_some]
theorem cnf6 {K : PySem.W.Frag} {C CF : Addr} {n : Nat} {k : Tr → Prop} : fldT K "by_number" (cnT C CF n) k = (Cls K C ∧ NoAttr K C "by_number" ∧ k (ivT (n + 1) U.numF)) := by
  show (Cls K C ∧ NoAttr K C "by_number" ∧ U.optE _ k) = _
  rw [show (cnN.zip _).lookup ("by_number" : Str) = some (ivT (n + 1) U.numF) from rfl, U.optE_some]
theorem cnf7 {K : PySem.W.Frag} {C CF : Addr} {n : Nat} {k : Tr → Prop} : fldT K "by_word" (cnT C CF n) k = (Cls K C ∧ NoAttr K C "by_word" ∧ k (ivT (n + 1) U.wordF)) := by
  show (Cls K C ∧ NoAttr K C "by_word" ∧ U.optE _ k) = _
  rw [show (cnN.zip _).lookup ("by_word" : Str) = some (ivT (n + 1) U.wordF) from rfl, U.optE_some]
theorem cnf8 {K : PySem.W.Frag} {C CF : Addr} {n : Nat} {k : Tr → Prop} : fldT K "by_sign" (cnT C CF n) k = (Cls K C ∧ NoAttr K C "by_sign" ∧ k (ivT (n + 1) U.sigF)) := by
  show (Cls K C ∧ NoAttr K C "by_sign" ∧ U.optE _ k) = _
  rw [show (cnN.zip _).lookup ("by_sign" : Str) = some (ivT (n + 1) U.sigF) from rfl, U.optE_some]
theorem cn_is {C C' CF : Addr} {n : Nat} {m : Str} : insIs C' m (cnT C CF n) = (C = C' ∧ cnN.contains m = false) := rfl
theorem fg_is {C' CF : Addr} {n : Nat} {T : Nat → Int} {m : Str} : insIs C' m (fgT CF n T) = (CF = C' ∧ fgN.contains m = false) := rfl
theorem cn_begun : cnN.contains "begun" = false := by decide +kernel
theorem fg_lesser : fgN.contains "lesser" = false := by decide +kernel
theorem fg_found : fgN.contains "found_at" = false := by decide +kernel
theorem rps_iv {K : PySem.W.Frag} {W : Wd} {H : Hp} : ∀ xs : List Int, Rps K W H (xs.map Tr.int) (U.iv xs)
  | [] => by show Rps K W H [] []; rw [rps_nil]
  | x :: xs => by show Rps K W H (Tr.int x :: _) (V.int x :: _); rw [rps_cons]; exact ⟨_, _, rfl, by rw [rp_int], rps_iv xs⟩
theorem rp_iv {K : PySem.W.Frag} {W : Wd} {H : Hp} {a : Addr} {n : Nat} {F : Nat → Int} (w : W a = some none) (h : H a = some (.lst (U.iv (U.sq n F)))) : Rp K W H (ivT n F) (.ref a) := by
  unfold ivT; rw [rp_lst]; exact ⟨a, _, rfl, w, h, rps_iv _⟩
theorem iv_rp {K : PySem.W.Frag} {W : Wd} {H : Hp} {v : V} {n : Nat} {F : Nat → Int} (h : Rp K W H (ivT n F) v) : ∃ a, v = .ref a ∧ H a = some (.lst (U.iv (U.sq n F))) := by
  unfold ivT at h; rw [rp_lst] at h
  obtain ⟨a, vs, e, _, h1, h2⟩ := h
  refine ⟨a, e, ?_⟩
  have key : ∀ (xs : List Int) (vs : List V), Rps K W H (xs.map Tr.int) vs → vs = U.iv xs := by
    intro xs
    induction xs with
    | nil => intro vs h; rw [List.map_nil, rps_nil] at h; exact h
    | cons x xs ih =>
      intro vs h
      rw [List.map_cons, rps_cons] at h
      obtain ⟨v, r, rfl, h1, h2⟩ := h
      rw [rp_int] at h1
      subst h1
      rw [ih r h2]; rfl
  rw [h1, key _ _ h2]
theorem ivT_ix {n : Nat} {F : Nat → Int} {i : Int} {P : R → Prop} (h0 : 0 ≤ i) (h1 : i < n) (p : P (.fz (.int (F i.toNat)))) : gIx (ivT n F) (.int i) P := by
  show U.optE (atI ((U.sq n F).map Tr.int) i) _
  have e := U.sq_ix (F := F) h0 h1
  unfold U.iv at e
  rw [atI_map] at e ⊢
  cases h : atI (U.sq n F) i with
  | none => rw [h] at e; cases e
  | some x =>
    rw [h] at e
    simp only [Option.map_some, Option.some.injEq, V.int.injEq] at e
    subst e
    exact ⟨_, rfl, p⟩
theorem rp_fg {K : PySem.W.Frag} {W' : Wd} {H H' : Hp} {CF f x : Addr} {n : Nat} {T : Nat → Int} (hW : ∀ a o, U.HN H x H' a = some o → a ≠ x → W' a = some none) (hx : ∀ q g s (dx : Addr), H' x ≠ some (.ins CF dx (U.fg3 q g s))) (hl : ∀ n F, H' x ≠ some (.lst (U.iv (U.sq n F)))) (h : U.FgX CF (U.HN H x H') f n T) : Rp K W' H' (fgT CF n T) (.ref f) := by
  obtain ⟨dx, q, g, s, h1, h2, h3, h4⟩ := h
  have l : ∀ {a : Addr} {F : Nat → Int}, U.HN H x H' a = some (.lst (U.iv (U.sq n F))) → Rp K W' H' (ivT n F) (.ref a) := fun {a F} e => rp_iv (hW _ _ e (by rintro rfl; exact hl _ _ (U.HN.get e))) (U.HN.get e)
  unfold fgT
  rw [rp_ins]
  refine ⟨f, dx, [.ref q, .ref g, .ref s], rfl, hW _ _ h1 (by rintro rfl; exact hx _ _ _ _ (U.HN.get h1)), U.HN.get h1, rfl, ?_⟩
  rw [rps_cons]; refine ⟨_, _, rfl, l h2, ?_⟩
  rw [rps_cons]; refine ⟨_, _, rfl, l h3, ?_⟩
  rw [rps_cons]; exact ⟨_, _, rfl, l h4, by rw [rps_nil]⟩
theorem cn_bridge {K : PySem.W.Frag} {C CF x dx : Addr} {n : Nat} {W : Wd} {H H' : Hp} (d : Dom H W) (wx : W x = some (some 0)) (hx : H x = some (.ins C dx [])) (f : U.Fr [x] H H') (G : U.CnB C CF (U.HN H x H') x n) :
    ∃ W', Step H W H' W' ∧ Dom H' W' ∧ W' x = some (some 0) ∧ Nd K W' H' (cnT C CF n) x := by
  obtain ⟨c1, c2, c3, c4, c5, c6, c7, c8, e0, e1, e2, e3, f0, f1, f2, ⟨dx', k1⟩, k2, k3, k4, k5, k6, k7, k8, k9, k10, k11, k12, k13, k14, k15, k16⟩ := G
  have hx' : H' x = some (.ins C dx' (U.ct8 c1 c2 c3 c4 c5 c6 c7 c8)) := U.HN.get k1
  obtain ⟨W', hW'⟩ : ∃ W' : Wd, W' = fun a => if ((H a).isNone && (H' a).isSome) = true then some none else W a := ⟨_, rfl⟩
  have w1 : ∀ a, H a = none → (H' a).isSome = true → W' a = some none := fun a h1 h2 => by rw [hW']; show (if _ then _ else _) = _; rw [if_pos (by rw [h1, h2]; rfl)]
  have w2 : ∀ a, (H a).isSome = true → W' a = W a := fun a h1 => by
    rw [hW']; show (if _ then _ else _) = _; rw [if_neg]
    cases e : H a with
    | none => rw [e] at h1; cases h1
    | some o => simp
  have hdm : ∀ a, (H a).isSome = true → (H' a).isSome = true := fun a h => by
    by_cases e : a = x
    · subst e; rw [hx']; rfl
    · rw [f a (by simpa using e) h]; exact h
  have hfz : Fz H W H' W' := fun a h => by
    have hs := d a (by rw [h]; rfl)
    refine ⟨(w2 a hs).trans h, f a ?_ hs⟩
    rintro z
    rw [List.mem_singleton] at z
    subst z; rw [wx] at h; cases h
  have hW : ∀ a o, U.HN H x H' a = some o → a ≠ x → W' a = some none := fun a o e z => w1 a (U.HN.new e z) (by rw [U.HN.get e]; rfl)
  have hx1 : ∀ q g s (dx : Addr), H' x ≠ some (.ins CF dx (U.fg3 q g s)) := fun q g s dx e => by
    rw [hx'] at e; cases e
  have hx2 : ∀ n F, H' x ≠ some (.lst (U.iv (U.sq n F))) := fun n F e => by rw [hx'] at e; cases e
  have hx3 : ∀ xs, H' x ≠ some (.lst xs) := fun n e => by rw [hx'] at e; cases e
  have l : ∀ {a : Addr} {n : Nat} {F : Nat → Int}, U.HN H x H' a = some (.lst (U.iv (U.sq n F))) → Rp K W' H' (ivT n F) (.ref a) := fun {a n F} e => rp_iv (hW _ _ e (by rintro rfl; exact hx2 _ _ (U.HN.get e))) (U.HN.get e)
  have lf := fun {f : Addr} {n : Nat} {T : Nat → Int} (h : U.FgX CF (U.HN H x H') f n T) => rp_fg (K := K) hW hx1 hx2 h
  refine ⟨W', ⟨hfz, fun a o h e => ⟨(w2 a (by rw [e]; rfl)).trans h, ?_⟩, hdm⟩, fun a h => ?_, (w2 x (by rw [hx]; rfl)).trans wx, ?_⟩
  · rw [f a ?_ (by rw [e]; rfl), e]
    rintro z
    rw [List.mem_singleton] at z
    subst z; rw [wx] at h; cases h
  · rw [hW'] at h
    have h : (if ((H a).isNone && (H' a).isSome) = true then some none else W a).isSome = true := h
    split at h
    · rename_i e; rw [Bool.and_eq_true] at e; exact e.2
    · exact hdm a (d a h)
  · unfold cnT
    refine ⟨dx', [.ref c1, .ref c2, .ref c3, .ref c4, .ref c5, .ref c6, .ref c7, .ref c8], hx', rfl, ?_⟩
    rw [rps_cons]; refine ⟨_, _, rfl, l k2, ?_⟩
    rw [rps_cons]; refine ⟨_, _, rfl, l k3, ?_⟩
    rw [rps_cons]; refine ⟨_, _, rfl, ?_, ?_⟩
    · rw [rp_lst]
      refine ⟨c3, _, rfl, hW _ _ k4 (by rintro rfl; exact hx3 _ (U.HN.get k4)), U.HN.get k4, ?_⟩
      rw [rps_cons]; refine ⟨_, _, rfl, l k5, ?_⟩
      rw [rps_cons]; refine ⟨_, _, rfl, l k6, ?_⟩
      rw [rps_cons]; refine ⟨_, _, rfl, l k7, ?_⟩
      rw [rps_cons]; exact ⟨_, _, rfl, l k8, by rw [rps_nil]⟩
    rw [rps_cons]; refine ⟨_, _, rfl, ?_, ?_⟩
    · rw [rp_lst]
      refine ⟨c4, _, rfl, hW _ _ k9 (by rintro rfl; exact hx3 _ (U.HN.get k9)), U.HN.get k9, ?_⟩
      rw [rps_cons]; refine ⟨_, _, rfl, lf k10, ?_⟩
      rw [rps_cons]; refine ⟨_, _, rfl, lf k11, ?_⟩
      rw [rps_cons]; exact ⟨_, _, rfl, lf k12, by rw [rps_nil]⟩
    rw [rps_cons]; refine ⟨_, _, rfl, lf k13, ?_⟩
    rw [rps_cons]; refine ⟨_, _, rfl, l k14, ?_⟩
    rw [rps_cons]; refine ⟨_, _, rfl, l k15, ?_⟩
    rw [rps_cons]; exact ⟨_, _, rfl, l k16, by rw [rps_nil]⟩
theorem fg_rp {K : PySem.W.Frag} {W : Wd} {H : Hp} {CF : Addr} {v : V} {n : Nat} {T : Nat → Int} (h : Rp K W H (fgT CF n T) v) : ∃ a, v = .ref a ∧ U.FgX CF H a n T := by
  unfold fgT at h
  rw [rp_ins] at h
  obtain ⟨a, dx, vs, rfl, _, ha, _, h⟩ := h
  rw [rps_cons] at h; obtain ⟨v1, r, rfl, h1, h⟩ := h
  rw [rps_cons] at h; obtain ⟨v2, r, rfl, h2, h⟩ := h
  rw [rps_cons] at h; obtain ⟨v3, r, rfl, h3, h⟩ := h
  rw [rps_nil] at h; subst h
  obtain ⟨a1, rfl, q1⟩ := iv_rp h1
  obtain ⟨a2, rfl, q2⟩ := iv_rp h2
  obtain ⟨a3, rfl, q3⟩ := iv_rp h3
  exact ⟨a, rfl, dx, a1, a2, a3, ha, q1, q2, q3⟩
theorem cn_rp {K : PySem.W.Frag} {W : Wd} {H : Hp} {C CF : Addr} {v : V} {n : Nat} (h : Rp K W H (cnT C CF n) v) : ∃ a, v = .ref a ∧ U.CnA C CF H a n := by
  unfold cnT at h
  rw [rp_ins] at h
  obtain ⟨a, dx, vs, rfl, _, ha, _, h⟩ := h
  rw [rps_cons] at h; obtain ⟨v1, r, rfl, h1, h⟩ := h
  rw [rps_cons] at h; obtain ⟨v2, r, rfl, h2, h⟩ := h
  rw [rps_cons] at h; obtain ⟨v3, r, rfl, h3, h⟩ := h
  rw [rps_cons] at h; obtain ⟨v4, r, rfl, h4, h⟩ := h
  rw [rps_cons] at h; obtain ⟨v5, r, rfl, h5, h⟩ := h
  rw [rps_cons] at h; obtain ⟨v6, r, rfl, h6, h⟩ := h
  rw [rps_cons] at h; obtain ⟨v7, r, rfl, h7, h⟩ := h
  rw [rps_cons] at h; obtain ⟨v8, r, rfl, h8, h⟩ := h
  rw [rps_nil] at h; subst h
  obtain ⟨a1, rfl, q1⟩ := iv_rp h1
  obtain ⟨a2, rfl, q2⟩ := iv_rp h2
  rw [rp_lst] at h3; obtain ⟨a3, vs3, rfl, _, q3, h3⟩ := h3
  rw [rps_cons] at h3; obtain ⟨v1, r, rfl, i1, h3⟩ := h3
  rw [rps_cons] at h3; obtain ⟨v2, r, rfl, i2, h3⟩ := h3
  rw [rps_cons] at h3; obtain ⟨v3, r, rfl, i3, h3⟩ := h3
  rw [rps_cons] at h3; obtain ⟨v4, r, rfl, i4, h3⟩ := h3
  rw [rps_nil] at h3; subst h3
  obtain ⟨e0, rfl, p0⟩ := iv_rp i1
  obtain ⟨e1, rfl, p1⟩ := iv_rp i2
  obtain ⟨e2, rfl, p2⟩ := iv_rp i3
  obtain ⟨e3, rfl, p3⟩ := iv_rp i4
  rw [rp_lst] at h4; obtain ⟨a4, vs4, rfl, _, q4, h4⟩ := h4
  rw [rps_cons] at h4; obtain ⟨v1, r, rfl, j1, h4⟩ := h4
  rw [rps_cons] at h4; obtain ⟨v2, r, rfl, j2, h4⟩ := h4
  rw [rps_cons] at h4; obtain ⟨v3, r, rfl, j3, h4⟩ := h4
  rw [rps_nil] at h4; subst h4
  obtain ⟨f0, rfl, g0⟩ := fg_rp j1
  obtain ⟨f1, rfl, g1⟩ := fg_rp j2
  obtain ⟨f2, rfl, g2⟩ := fg_rp j3
  obtain ⟨a5, rfl, q5⟩ := fg_rp h5
  obtain ⟨a6, rfl, q6⟩ := iv_rp h6
  obtain ⟨a7, rfl, q7⟩ := iv_rp h7
  obtain ⟨a8, rfl, q8⟩ := iv_rp h8
  exact ⟨a, rfl, a1, a2, a3, a4, a5, a6, a7, a8, e1, e2, e3, f0, f1, f2, ⟨dx, ha⟩, q1, q2, ⟨e0, q3⟩, p3, q4, g0, g1, g2, q5, q6, q7, q8⟩
/-! the parameters of a promise over trees, out of its arguments -/
theorem args_fz {K : PySem.W.Frag} {W : Wd} {H : Hp} {k : Nat} {t : Tr} {as : List A} {vs : List V} (h : Args K W H k (.fz t :: as) vs) : ∃ v r, vs = v :: r ∧ Rp K W H t v ∧ Args K W H (k + 1) as r := by rw [Args] at h; exact h
theorem args_mu {K : PySem.W.Frag} {W : Wd} {H : Hp} {k : Nat} {t : Tr} {as : List A} {vs : List V} (h : Args K W H k (.mu t :: as) vs) : ∃ a r, vs = .ref a :: r ∧ W a = some (some k) ∧ Nd K W H t a ∧ Args K W H (k + 1) as r := by rw [Args] at h; exact h
theorem args_nil {K : PySem.W.Frag} {W : Wd} {H : Hp} {k : Nat} {vs : List V} (h : Args K W H k [] vs) : vs = [] := by rw [Args] at h; exact h
theorem outs_fz {K : PySem.W.Frag} {W : Wd} {H : Hp} {k : Nat} {t : Tr} {as : List A} {v : V} {vs : List V} {os : List Tr} (h : Outs K W H (k + 1) as vs os) : Outs K W H k (.fz t :: as) (v :: vs) os := by rw [Outs]; exact ⟨v, vs, rfl, h⟩
theorem outs_mu {K : PySem.W.Frag} {W : Wd} {H : Hp} {k : Nat} {t o : Tr} {as : List A} {a : Addr} {vs : List V} {os : List Tr} (w : W a = some (some k)) (h1 : Nd K W H o a) (h : Outs K W H (k + 1) as vs os) : Outs K W H k (.mu t :: as) (.ref a :: vs) (o :: os) := by rw [Outs]; exact ⟨a, vs, o, os, rfl, rfl, w, h1, h⟩
theorem outs_nil {K : PySem.W.Frag} {W : Wd} {H : Hp} {k : Nat} {vs : List V} : Outs K W H k [] vs [] := by rw [Outs]
theorem ens_of {i : Nat} {l : List Nat} {u : Tr} (h : (enT 0 (sgT l))[i]? = some u) : ∃ c, l[i]? = some c ∧ u = .tup [.int i, .str [c]] := by
  obtain ⟨t, h1, rfl⟩ := enT_of h
  unfold sgT at h1
  rw [List.getElem?_map] at h1
  cases e : l[i]? with
  | none => rw [e] at h1; cases h1
  | some c => rw [e] at h1; cases h1; exact ⟨c, rfl, by rw [Nat.zero_add]⟩
theorem ent_of {i : Nat} {ms : List (List Nat)} {u : Tr} (h : (enT 0 (ms.map Tr.str))[i]? = some u) : ∃ m, ms[i]? = some m ∧ u = .tup [.int i, .str m] := by
  obtain ⟨t, h1, rfl⟩ := enT_of h
  rw [List.getElem?_map] at h1
  cases e : ms[i]? with
  | none => rw [e] at h1; cases h1
  | some c => rw [e] at h1; cases h1; exact ⟨c, rfl, by rw [Nat.zero_add]⟩
theorem rg_of {lo : Int} {n i : Nat} {u : Tr} (h : (rgT lo n)[i]? = some u) : i < n ∧ u = .int (lo + i) := by
  unfold rgT at h
  rw [List.getElem?_map] at h
  cases e : (List.range n)[i]? with
  | none => rw [e] at h; cases h
  | some j =>
    rw [e] at h; cases h
    have e1 := List.getElem?_eq_some_iff.mp e
    obtain ⟨h1, h2⟩ := e1
    rw [List.getElem_range] at h2
    rw [List.length_range] at h1
    exact ⟨h1, by rw [h2]⟩
theorem ent_len {ms : List (List Nat)} : (enT 0 (ms.map Tr.str)).length = ms.length := by rw [enT_len]; simp
theorem mlen_memZ : ∀ {ms : List (List Nat)} {m : List Nat}, m ∈ ms → m.length ≤ U.mlen ms
  | x :: xs, m, h => by
    rcases List.mem_cons.mp h with rfl | h
    · show _ ≤ _ + _; omega
    · have := mlen_memZ h; show _ ≤ _ + _; omega
theorem leV_add : ∀ (l : List Nat) (k n : Nat) (r : Int), l ≠ [] → U.leV k l n r = U.leV k l n 0 + r
  | [], _, _, _, h => (h rfl).elim
  | [d], k, n, r, _ => by show _ + r = _ + 0 + r; omega
  | d :: e :: ds, k, n, r, _ => by
    have ih := leV_add (e :: ds) (k - 1) (n - 1) r (by simp)
    show _ + U.leV (k - 1) (e :: ds) (n - 1) r = _ + U.leV (k - 1) (e :: ds) (n - 1) 0 + r
    omega
theorem tails {t : U.Pt} (ok : t.Ok) : ∀ m ∈ t.ms, m.tail ≠ [] := fun m h => by
  obtain ⟨c, l, rfl, hc, hf⟩ := U.maker_at (ok.ms m h).1
  exact (U.figs_ok hf).1
theorem rank_eq {t : U.Pt} (ok : t.Ok) {k M N : Nat} (hM : M = k - t.l.length - t.nlen) (hN : N = M - U.plen t.p) :
    U.rank t k = U.leV 2 t.l k 0 + (U.nuB t.n (k - t.l.length) + ((if t.p = [] then 0 else U.endF 3 M + U.gv (U.endF 3) t.p (M - 1) 0) + (U.mkR 3 t.ms N 0 + U.endR t.y t.c (N - U.mlen t.ms)))) := by
  have e1 : U.rank t k = U.leV 2 t.l k 0 + U.rankN t (k - t.l.length) := leV_add _ _ _ _ (U.let_ok ok.l).1.1
  have e2 : U.rankN t (k - t.l.length) = U.nuB t.n (k - t.l.length) + U.rankP t M := by rw [hM]; rfl
  have e3 : U.rankP t M = (if t.p = [] then 0 else U.endF 3 M + U.gv (U.endF 3) t.p (M - 1) 0) + U.rankM t N := by
    show U.ptR t.p M (U.rankM t (M - U.plen t.p)) = _
    rw [← hN]
    unfold U.ptR
    split
    · omega
    · rename_i h; rw [U.gv_add _ _ _ h]; omega
  have e4 : U.rankM t N = U.mkR 3 t.ms N 0 + U.endR t.y t.c (N - U.mlen t.ms) := U.mkR_add _ _ _ _ (tails ok)
  rw [e1, e2, e3, e4]
theorem fz_int {T : R → List Tr → Prop} {i j : Int} {os : List Tr} (e : i = j) (h : T (.fz (.int j)) os) : T (.fz (.int i)) os := e ▸ h
theorem ens_len {l : List Nat} : (enT 0 (sgT l)).length = l.length := by rw [enT_len]; simp [sgT]
end Z

/-! len(x), str(x), repr(x) of own instances, by trees -/
namespace Z
open PySem PySem.Spec PyProof.Rows L2
section
variable {c : Ctx} {ta : L2.TE} {fa : FE}
def fLenI (C : Addr) (tp : TP) (fa : FE) : FE := fun Γ P => fa Γ fun r1 Γ1 => frz r1 Γ1 fun s Γ2 => insIs C "__len__" s ∧ tp [.fz s] fun r outs => U.optE ((con Γ2 r).bind intT) fun i => (0 ≤ i ∧ i < 2 ^ 63) ∧ P (.fz (.int i)) Γ2
def fStrI (C : Addr) (m : Str) (tp : TP) (fa : FE) : FE := fun Γ P => fa Γ fun r1 Γ1 => frz r1 Γ1 fun s Γ2 => insIs C m s ∧ tp [.fz s] fun r outs => U.optE ((con Γ2 r).bind strS) fun l => P (.fz (.str l)) Γ2
theorem re_lenI {C : Addr} {tp : TP} (ha : RE c ta fa) : RE c (tCB (U.rLenI C (spT c.K 1 tp)) (tCons ta tNil)) (fLenI C tp fa) := fun Γ σ H W P Q E p k => by
  refine ha Γ σ H W _ _ E p fun r1 Γ1 v1 H1 W1 q E1 s1 h1 => ?_
  obtain ⟨s, Γ2, W2, ⟨i1, q⟩, E2, s2, h2⟩ := frz_ok E1 s1 h1 q E.dm
  obtain ⟨a, dx, fs, rfl, ha⟩ := ins_of i1 h2
  refine ⟨a, dx, fs, rfl, ha, ?_⟩
  have := call_core (n := 1) (tp := tp) (as := [.fz s]) (vs := [.ref a]) (dvs := []) (dts := []) (ss := [.fz s]) (P := fun r Γ' => U.optE ((con Γ' r).bind intT) fun i => (0 ≤ i ∧ i < 2 ^ 63) ∧ P (.fz (.int i)) Γ') (Q := fun v H' => ∃ i : Int, v = .int i ∧ (0 ≤ i ∧ i < 2 ^ 63) ∧ Q (.int i) H') (E' := L2.E0) E2 (.cons h2 .nil) rfl rfl (fun _ _ => by rw [rps_nil]) rfl q
    (fun r Γ' v H' W' ⟨i, eb, hi, p⟩ E' s' rr => ⟨i, rr.int E' eb, hi, k _ Γ' _ H' W' p E' (s2.trans s') (by show Rp _ _ _ _ _; rw [rp_int])⟩)
  exact this
theorem re_strI {C : Addr} {m : Str} {tp : TP} (ha : RE c ta fa) : RE c (tCB (U.rStrI C (spT c.K 1 tp)) (tCons ta tNil)) (fStrI C m tp fa) := fun Γ σ H W P Q E p k => by
  refine ha Γ σ H W _ _ E p fun r1 Γ1 v1 H1 W1 q E1 s1 h1 => ?_
  obtain ⟨s, Γ2, W2, ⟨i1, q⟩, E2, s2, h2⟩ := frz_ok E1 s1 h1 q E.dm
  obtain ⟨a, dx, fs, rfl, ha⟩ := ins_of i1 h2
  refine ⟨a, dx, fs, rfl, ha, ?_⟩
  have := call_core (n := 1) (tp := tp) (as := [.fz s]) (vs := [.ref a]) (dvs := []) (dts := []) (ss := [.fz s]) (P := fun r Γ' => U.optE ((con Γ' r).bind strS) fun l => P (.fz (.str l)) Γ') (Q := fun v H' => ∃ z, v = .str z ∧ Q (.str z) H') (E' := L2.E0) E2 (.cons h2 .nil) rfl rfl (fun _ _ => by rw [rps_nil]) rfl q
    (fun r Γ' v H' W' ⟨l, eb, p⟩ E' s' rr => ⟨_, rr.str E' eb, k _ Γ' _ H' W' p E' (s2.trans s') (by show Rp _ _ _ _ _; rw [rp_str])⟩)
  exact this
end
theorem e_lenI {s : Option Sl} {Γ : G} {C : Addr} {tp : TP} {fa : FE} {P : R → G → Prop} : fLenI C tp fa (s :: Γ) P = fa (s :: Γ) fun r1 Γ1 => frz r1 Γ1 fun s Γ2 => insIs C "__len__" s ∧ tp [.fz s] fun r outs => U.optE ((con Γ2 r).bind intT) fun i => (0 ≤ i ∧ i < 2 ^ 63) ∧ P (.fz (.int i)) Γ2 := rfl
theorem e_strI {s : Option Sl} {Γ : G} {C : Addr} {m : Str} {tp : TP} {fa : FE} {P : R → G → Prop} : fStrI C m tp fa (s :: Γ) P = fa (s :: Γ) fun r1 Γ1 => frz r1 Γ1 fun s Γ2 => insIs C m s ∧ tp [.fz s] fun r outs => U.optE ((con Γ2 r).bind strS) fun l => P (.fz (.str l)) Γ2 := rfl
theorem nc_len : mkN.contains "__len__" = false := by decide +kernel
theorem nc_str : mkN.contains "__str__" = false := by decide +kernel
theorem nc_repr : mkN.contains "__repr__" = false := by decide +kernel
end Z

namespace Z
open PySem PySem.Spec PyProof.Rows L2
/-- parts as the laws draw them -/
structure Sm (k : Nat) (t : U.Pt) : Prop where
  l : U.lettersB t.l = true
  n : 1 ≤ t.n ∧ t.n ≤ 9999
  p : U.pointsB t.p = true ∧ t.p.length ≤ 9
  ms : t.ms.length ≤ 3 ∧ ∀ m ∈ t.ms, U.makerB m = true ∧ m.length ≤ 10
  y : ∀ i, t.y = some i → 1000 ≤ i ∧ i ≤ 2999
  c : ∀ i, t.c = some i → 2 ≤ i ∧ i < 10 ^ k
theorem Sm.of {k : Nat} {t : U.Pt} (ok : t.Ok) (h1 : t.p.length ≤ 9) (h2 : ∀ m ∈ t.ms, m.length ≤ 10) (h3 : ∀ i, t.c = some i → i < 10 ^ k) : Sm k t :=
  ⟨ok.l, ⟨ok.n1, ok.n2⟩, ⟨ok.p, h1⟩, ⟨ok.mn, fun m hm => ⟨(ok.ms m hm).1, h2 m hm⟩⟩, ok.y, fun i hi => ⟨(ok.c i hi).1, h3 i hi⟩⟩
theorem Sm.mono {k j : Nat} {t : U.Pt} (h : Sm k t) (hk : (10 : Int) ^ k ≤ 10 ^ j) : Sm j t := ⟨h.l, h.n, h.p, h.ms, h.y, fun i hi => ⟨(h.c i hi).1, Int.lt_of_lt_of_le (h.c i hi).2 hk⟩⟩
theorem Sm.ok {t : U.Pt} {k : Nat} (h : Sm k t) (hk : (10 : Int) ^ k ≤ 10 ^ 60) : t.Ok :=
  ⟨h.l, h.n.1, h.n.2, h.p.1, by have := h.p.2; omega, h.ms.1, fun m hm => ⟨(h.ms.2 m hm).1, by have := (h.ms.2 m hm).2; omega⟩, h.y, fun i hi => ⟨(h.c i hi).1, Int.lt_of_lt_of_le (h.c i hi).2 hk⟩⟩
end Z
namespace Z
open PySem PySem.Spec PyProof.Rows L2
section
variable {α : Type} {a b c d e f : α}
theorem cz0 : U.cutL [a, b, c, d, e, f] none (some 0) = [] := rfl
theorem cz1 : U.cutL [a, b, c, d, e, f] (some 0) none = [a, b, c, d, e, f] := rfl
theorem cz6 : U.cutL [a, b, c, d, e, f] (some 6) none = [] := rfl
theorem co0 : U.cutL [a, b, c, d, e, f] (some 0) (some 1) = [a] := rfl
theorem co1 : U.cutL [a, b, c, d, e, f] (some 1) (some 2) = [b] := rfl
theorem co2 : U.cutL [a, b, c, d, e, f] (some 2) (some 3) = [c] := rfl
theorem co3 : U.cutL [a, b, c, d, e, f] (some 3) (some 4) = [d] := rfl
theorem co4 : U.cutL [a, b, c, d, e, f] (some 4) (some 5) = [e] := rfl
theorem co5 : U.cutL [a, b, c, d, e, f] (some 5) (some 6) = [f] := rfl
end
end Z
namespace Z
open PySem PySem.Spec PyProof.Rows L2
def keyDl (l : List Nat) (n : Int) (p : List Nat) (ms : List (List Nat)) (y c : Int) : PyData := .list [.str ⟨l.toArray⟩, .int n, .str ⟨p.toArray⟩, .list (U.msD ms), .int y, .int c]
theorem dt_keyl {l : List Nat} {n : Int} {p : List Nat} {ms : List (List Nat)} {y c : Int} : dtT (.lst [.str l, .int n, .str p, .lst (ms.map Tr.str), .int y, .int c]) = some (keyDl l n p ms y c) := by
  simp only [dtT, dtTs, dtTs_str]
  rfl
section
variable {l l' p p' : List Nat} {n n' y y' c c' : Int} {ms ms' : List (List Nat)}
theorem kl_alike : PySem.W.alike (keyDl l n p ms y c) (keyDl l' n' p' ms' y' c') = true := by
  have h := U.alike_ms ms ms'
  simp [keyDl, PySem.W.alike, PySem.W.alikeAll, h]
theorem kl_ne : ¬ keyDl l n p ms y c = PyData.none := by intro h; cases h
theorem kl_dep : (keyDl l n p ms y c).depth = 2 := by
  have h := U.depth_ms ms
  simp [keyDl, PyData.depth, PyData.depthAll, h]
theorem kl_depth : min (keyDl l n p ms y c).depth (keyDl l' n' p' ms' y' c').depth ≤ 60 := by rw [kl_dep, kl_dep]; decide
theorem kl_toks : PySem.W.keyToks (keyDl l n p ms y c) = PySem.W.keyToks (U.keyD ⟨l, n, p, ms, some y, some c⟩) := by
  simp only [keyDl, U.keyD, U.keyL, PySem.W.keyToks, PySem.W.keyToksAll, Option.getD_some]
theorem kl_lt {t u : U.Pt} : PySem.W.dataLt (keyDl t.l t.n t.p t.ms (t.y.getD 0) (t.c.getD 0)) (keyDl u.l u.n u.p u.ms (u.y.getD 0) (u.c.getD 0)) = PySem.W.dataLt (U.keyD t) (U.keyD u) := by
  show lexLt PyProof.Rows.itemOrd _ _ = lexLt PyProof.Rows.itemOrd _ _
  rw [kl_toks, kl_toks]; rfl
end
/-- the signs behind the first word -/
def sp32 (xs : List (List Nat)) : List Nat := xs.flatMap fun x => 32 :: x
theorem sp_snoc {xs : List (List Nat)} {x : List Nat} : sp32 (xs ++ [x]) = sp32 xs ++ 32 :: x := by simp [sp32]
theorem sp_take {xs : List (List Nat)} {i : Nat} {x : List Nat} (h : xs[i]? = some x) : sp32 (xs.take (i + 1)) = sp32 (xs.take i) ++ 32 :: x := by
  rw [List.take_add_one, h]; exact sp_snoc
theorem join_sp : ∀ (w : List Nat) (xs : List (List Nat)), TL.joinL [32] (w :: xs) = w ++ sp32 xs
  | w, [] => by simp [TL.joinL, sp32]
  | w, x :: xs => by
    have h := join_sp x xs
    rw [TL.joinL]
    · rw [h]; simp [sp32]
    all_goals simp
theorem sp_len {k : Nat} : ∀ (xs : List (List Nat)), (∀ x ∈ xs, x.length ≤ k) → (sp32 xs).length ≤ xs.length * (k + 1)
  | [], _ => by simp [sp32]
  | x :: xs, h => by
    have ih := sp_len xs fun y hy => h y (List.mem_cons_of_mem _ hy)
    have h0 := h x List.mem_cons_self
    show ((32 :: x) ++ sp32 xs).length ≤ (xs.length + 1) * (k + 1)
    rw [Nat.add_mul, List.length_append, List.length_cons]
    omega
theorem sp_lenT {k : Nat} {xs : List (List Nat)} (h : ∀ x ∈ xs, x.length ≤ k) (i : Nat) : (sp32 (xs.take i)).length ≤ xs.length * (k + 1) := by
  refine Nat.le_trans (sp_len _ fun x hx => h x (List.mem_of_mem_take hx)) (Nat.mul_le_mul_right _ ?_)
  rw [List.length_take]; omega
theorem fz_str {T : R → List Tr → Prop} {i j : List Nat} {os : List Tr} (e : i = j) (h : T (.fz (.str j)) os) : T (.fz (.str i)) os := e ▸ h
end Z
namespace Z
open PySem PySem.Spec PyProof.Rows L2
def twA (u v : Tr) (Γ0 : G) (i : Nat) (acc : List Tr) (Γ : G) : Prop := acc = [u, v].take i ∧ Γ = Γ0
theorem lc_two {fg : FG} {ft : FT} {fe : FE} {vs : List Nat} {P : R → G → Prop} {a b : Tr} {Γ0 : G} (u v : Tr) (nn : noneB Γ0 vs = true)
    (s0 : fg a Γ0 fun Γ2 => ft Γ2 fun b Γ3 => if b = true then fe Γ3 fun r Γ4 => frz r Γ4 fun w Γ5 => twA u v Γ0 1 ([] ++ [w]) (wipeG Γ5 vs) else twA u v Γ0 1 [] (wipeG Γ3 vs))
    (s1 : fg b Γ0 fun Γ2 => ft Γ2 fun b Γ3 => if b = true then fe Γ3 fun r Γ4 => frz r Γ4 fun w Γ5 => twA u v Γ0 2 ([u] ++ [w]) (wipeG Γ5 vs) else twA u v Γ0 2 [u] (wipeG Γ3 vs))
    (fin : P (.mu (.lst [u, v])) Γ0) : lcT fg ft fe vs P [a, b] Γ0 := by
  refine ⟨by show 2 ≤ _; decide, twA u v Γ0, ⟨rfl, rfl⟩, ?_, ?_, ?_⟩
  · rintro i acc Γ ⟨_, rfl⟩; exact nn
  · rintro i t acc Γ et ⟨rfl, rfl⟩
    rcases i with _ | _ | i
    · simp at et; subst et; exact s0
    · simp at et; subst et; exact s1
    · simp at et
  · rintro acc Γ ⟨rfl, rfl⟩; exact fin
theorem Sm.cut {l : List Nat} {n : Int} {p : List Nat} {ms : List (List Nat)} {y c : Option Int} (sm : Sm 11 ⟨l, n, p, ms, y, c⟩) : Sm 11 ⟨l, n, p, [], y, c⟩ ∧ (⟨l, n, p, [], y, c⟩ : U.Pt).slen ≤ 60 := by
  have ok := (sm.mono (show (10 : Int) ^ 11 ≤ 10 ^ 60 by decide)).ok (Int.le_refl _)
  have a1 := ok.ll
  have a2 := ok.nl
  have a3 := sm.p.2
  have a4 : U.ylen y ≤ 5 := by cases y <;> simp [U.ylen]
  have a5 : U.clen c ≤ 14 := by
    cases c with
    | none => simp [U.clen]
    | some i =>
      have := sm.c i rfl
      have := U.num_len (i := i) (k := 11) (by omega) (by decide) this.2
      show 3 + _ ≤ 14
      omega
  have a6 : U.plen p ≤ 10 := by
    unfold U.plen
    dsimp only at a3
    split <;> omega
  refine ⟨⟨sm.l, sm.n, sm.p, ⟨by simp, fun m hm => by simp at hm⟩, sm.y, sm.c⟩, ?_⟩
  unfold U.Pt.slen U.Pt.nlen
  dsimp only at *
  show _ + _ + _ + 0 + _ + _ ≤ 60
  omega
end Z
namespace Z
theorem pow_le {i j : Nat} (h : i ≤ j) : (10 : Int) ^ i ≤ 10 ^ j := by
  have : (10 : Nat) ^ i ≤ 10 ^ j := Nat.pow_le_pow_right (by decide) h
  exact_mod_cast this
end Z

namespace Hd
open PySem PySem.Spec PyProof.Rows L2
def topS (i : Nat) : Stmt := PySem.Challenge.pw_spinemarks_k21_numbers_rise.main.body.getD i (.Pass ⟨0, 0, 0, 0⟩)
abbrev s_NoLetters___init__ : Stmt := (inClass (topS 3) 0)
def d_NoLetters___init__ : He.DefD := ⟨("NoLetters", some "__init__"), "__init__", "NoLetters.__init__", defArgs s_NoLetters___init__, defBody s_NoLetters___init__, defScope s_NoLetters___init__, [], []⟩
abbrev s_NoNumber___init__ : Stmt := (inClass (topS 4) 0)
def d_NoNumber___init__ : He.DefD := ⟨("NoNumber", some "__init__"), "__init__", "NoNumber.__init__", defArgs s_NoNumber___init__, defBody s_NoNumber___init__, defScope s_NoNumber___init__, [], []⟩
abbrev s_NoPoints___init__ : Stmt := (inClass (topS 5) 0)
def d_NoPoints___init__ : He.DefD := ⟨("NoPoints", some "__init__"), "__init__", "NoPoints.__init__", defArgs s_NoPoints___init__, defBody s_NoPoints___init__, defScope s_NoPoints___init__, [], []⟩
abbrev s_NoMakers___init__ : Stmt := (inClass (topS 6) 0)
def d_NoMakers___init__ : He.DefD := ⟨("NoMakers", some "__init__"), "__init__", "NoMakers.__init__", defArgs s_NoMakers___init__, defBody s_NoMakers___init__, defScope s_NoMakers___init__, [], []⟩
abbrev s_NoMaker___init__ : Stmt := (inClass (topS 7) 0)
def d_NoMaker___init__ : He.DefD := ⟨("NoMaker", some "__init__"), "__init__", "NoMaker.__init__", defArgs s_NoMaker___init__, defBody s_NoMaker___init__, defScope s_NoMaker___init__, [], []⟩
abbrev s_NoYear___init__ : Stmt := (inClass (topS 8) 0)
def d_NoYear___init__ : He.DefD := ⟨("NoYear", some "__init__"), "__init__", "NoYear.__init__", defArgs s_NoYear___init__, defBody s_NoYear___init__, defScope s_NoYear___init__, [], []⟩
abbrev s_NoCopy___init__ : Stmt := (inClass (topS 9) 0)
def d_NoCopy___init__ : He.DefD := ⟨("NoCopy", some "__init__"), "__init__", "NoCopy.__init__", defArgs s_NoCopy___init__, defBody s_NoCopy___init__, defScope s_NoCopy___init__, [], []⟩
abbrev s_NoBound___init__ : Stmt := (inClass (topS 10) 0)
def d_NoBound___init__ : He.DefD := ⟨("NoBound", some "__init__"), "__init__", "NoBound.__init__", defArgs s_NoBound___init__, defBody s_NoBound___init__, defScope s_NoBound___init__, [], []⟩
abbrev s_TooLong___init__ : Stmt := (inClass (topS 11) 0)
def d_TooLong___init__ : He.DefD := ⟨("TooLong", some "__init__"), "__init__", "TooLong.__init__", defArgs s_TooLong___init__, defBody s_TooLong___init__, defScope s_TooLong___init__, [], []⟩
abbrev s_is_whole : Stmt := (topS 17)
def d_is_whole : He.DefD := ⟨("is_whole", none), "is_whole", "is_whole", defArgs s_is_whole, defBody s_is_whole, defScope s_is_whole, [.non], []⟩
abbrev s_figures_of : Stmt := (topS 18)
def d_figures_of : He.DefD := ⟨("figures_of", none), "figures_of", "figures_of", defArgs s_figures_of, defBody s_figures_of, defScope s_figures_of, [], []⟩
abbrev s_is_name : Stmt := (topS 19)
def d_is_name : He.DefD := ⟨("is_name", none), "is_name", "is_name", defArgs s_is_name, defBody s_is_name, defScope s_is_name, [], []⟩
abbrev s_is_figures : Stmt := (topS 20)
def d_is_figures : He.DefD := ⟨("is_figures", none), "is_figures", "is_figures", defArgs s_is_figures, defBody s_is_figures, defScope s_is_figures, [], []⟩
abbrev s_is_points : Stmt := (topS 21)
def d_is_points : He.DefD := ⟨("is_points", none), "is_points", "is_points", defArgs s_is_points, defBody s_is_points, defScope s_is_points, [], []⟩
abbrev s_is_maker : Stmt := (topS 22)
def d_is_maker : He.DefD := ⟨("is_maker", none), "is_maker", "is_maker", defArgs s_is_maker, defBody s_is_maker, defScope s_is_maker, [], []⟩
abbrev s_is_letters : Stmt := (topS 23)
def d_is_letters : He.DefD := ⟨("is_letters", none), "is_letters", "is_letters", defArgs s_is_letters, defBody s_is_letters, defScope s_is_letters, [], []⟩
abbrev s_entry : Stmt := (topS 26)
def d_entry : He.DefD := ⟨("entry", none), "entry", "entry", defArgs s_entry, defBody s_entry, defScope s_entry, [], []⟩
abbrev s_Figures___init__ : Stmt := (inClass (topS 27) 0)
def d_Figures___init__ : He.DefD := ⟨("Figures", some "__init__"), "__init__", "Figures.__init__", defArgs s_Figures___init__, defBody s_Figures___init__, defScope s_Figures___init__, [], []⟩
abbrev s_Figures_lesser : Stmt := (inClass (topS 27) 1)
def d_Figures_lesser : He.DefD := ⟨("Figures", some "lesser"), "lesser", "Figures.lesser", defArgs s_Figures_lesser, defBody s_Figures_lesser, defScope s_Figures_lesser, [], []⟩
abbrev s_Figures_found_at : Stmt := (inClass (topS 27) 2)
def d_Figures_found_at : He.DefD := ⟨("Figures", some "found_at"), "found_at", "Figures.found_at", defArgs s_Figures_found_at, defBody s_Figures_found_at, defScope s_Figures_found_at, [], []⟩
abbrev s_copies_by : Stmt := (topS 28)
def d_copies_by : He.DefD := ⟨("copies_by", none), "copies_by", "copies_by", defArgs s_copies_by, defBody s_copies_by, defScope s_copies_by, [], []⟩
abbrev s_Counts___init__ : Stmt := (inClass (topS 29) 0)
def d_Counts___init__ : He.DefD := ⟨("Counts", some "__init__"), "__init__", "Counts.__init__", defArgs s_Counts___init__, defBody s_Counts___init__, defScope s_Counts___init__, [], []⟩
abbrev s_Counts_longer : Stmt := (inClass (topS 29) 1)
def d_Counts_longer : He.DefD := ⟨("Counts", some "longer"), "longer", "Counts.longer", defArgs s_Counts_longer, defBody s_Counts_longer, defScope s_Counts_longer, [], []⟩
abbrev s_Counts_begun : Stmt := (inClass (topS 29) 2)
def d_Counts_begun : He.DefD := ⟨("Counts", some "begun"), "begun", "Counts.begun", defArgs s_Counts_begun, defBody s_Counts_begun, defScope s_Counts_begun, [], []⟩
abbrev s_need_bound : Stmt := (topS 30)
def d_need_bound : He.DefD := ⟨("need_bound", none), "need_bound", "need_bound", defArgs s_need_bound, defBody s_need_bound, defScope s_need_bound, [], []⟩
abbrev s_how_many : Stmt := (topS 31)
def d_how_many : He.DefD := ⟨("how_many", none), "how_many", "how_many", defArgs s_how_many, defBody s_how_many, defScope s_how_many, [], []⟩
abbrev s_need_year : Stmt := (topS 37)
def d_need_year : He.DefD := ⟨("need_year", none), "need_year", "need_year", defArgs s_need_year, defBody s_need_year, defScope s_need_year, [], []⟩
abbrev s_need_copy : Stmt := (topS 38)
def d_need_copy : He.DefD := ⟨("need_copy", none), "need_copy", "need_copy", defArgs s_need_copy, defBody s_need_copy, defScope s_need_copy, [], []⟩
abbrev s_makers_in : Stmt := (topS 39)
def d_makers_in : He.DefD := ⟨("makers_in", none), "makers_in", "makers_in", defArgs s_makers_in, defBody s_makers_in, defScope s_makers_in, [], []⟩
abbrev s_Mark___init__ : Stmt := (inClass (topS 40) 0)
def d_Mark___init__ : He.DefD := ⟨("Mark", some "__init__"), "__init__", "Mark.__init__", defArgs s_Mark___init__, defBody s_Mark___init__, defScope s_Mark___init__, [(.str ""), .non, .non, .non], []⟩
abbrev s_Mark_text_of : Stmt := (inClass (topS 40) 1)
def d_Mark_text_of : He.DefD := ⟨("Mark", some "text_of"), "text_of", "Mark.text_of", defArgs s_Mark_text_of, defBody s_Mark_text_of, defScope s_Mark_text_of, [], []⟩
abbrev s_Mark___eq__ : Stmt := (inClass (topS 40) 2)
def d_Mark___eq__ : He.DefD := ⟨("Mark", some "__eq__"), "__eq__", "Mark.__eq__", defArgs s_Mark___eq__, defBody s_Mark___eq__, defScope s_Mark___eq__, [], []⟩
abbrev s_Mark___str__ : Stmt := (inClass (topS 40) 3)
def d_Mark___str__ : He.DefD := ⟨("Mark", some "__str__"), "__str__", "Mark.__str__", defArgs s_Mark___str__, defBody s_Mark___str__, defScope s_Mark___str__, [], []⟩
abbrev s_Mark___repr__ : Stmt := (inClass (topS 40) 4)
def d_Mark___repr__ : He.DefD := ⟨("Mark", some "__repr__"), "__repr__", "Mark.__repr__", defArgs s_Mark___repr__, defBody s_Mark___repr__, defScope s_Mark___repr__, [], []⟩
abbrev s_Mark___len__ : Stmt := (inClass (topS 40) 5)
def d_Mark___len__ : He.DefD := ⟨("Mark", some "__len__"), "__len__", "Mark.__len__", defArgs s_Mark___len__, defBody s_Mark___len__, defScope s_Mark___len__, [], []⟩
abbrev s_Mark_letters : Stmt := (inClass (topS 40) 6)
def d_Mark_letters : He.DefD := ⟨("Mark", some "letters"), "letters", "Mark.letters", defArgs s_Mark_letters, defBody s_Mark_letters, defScope s_Mark_letters, [], []⟩
abbrev s_Mark_number : Stmt := (inClass (topS 40) 7)
def d_Mark_number : He.DefD := ⟨("Mark", some "number"), "number", "Mark.number", defArgs s_Mark_number, defBody s_Mark_number, defScope s_Mark_number, [], []⟩
abbrev s_Mark_points : Stmt := (inClass (topS 40) 8)
def d_Mark_points : He.DefD := ⟨("Mark", some "points"), "points", "Mark.points", defArgs s_Mark_points, defBody s_Mark_points, defScope s_Mark_points, [], []⟩
abbrev s_Mark_makers : Stmt := (inClass (topS 40) 9)
def d_Mark_makers : He.DefD := ⟨("Mark", some "makers"), "makers", "Mark.makers", defArgs s_Mark_makers, defBody s_Mark_makers, defScope s_Mark_makers, [], []⟩
abbrev s_Mark_year : Stmt := (inClass (topS 40) 10)
def d_Mark_year : He.DefD := ⟨("Mark", some "year"), "year", "Mark.year", defArgs s_Mark_year, defBody s_Mark_year, defScope s_Mark_year, [], []⟩
abbrev s_Mark_copy_number : Stmt := (inClass (topS 40) 11)
def d_Mark_copy_number : He.DefD := ⟨("Mark", some "copy_number"), "copy_number", "Mark.copy_number", defArgs s_Mark_copy_number, defBody s_Mark_copy_number, defScope s_Mark_copy_number, [], []⟩
abbrev s_Mark_parts : Stmt := (inClass (topS 40) 12)
def d_Mark_parts : He.DefD := ⟨("Mark", some "parts"), "parts", "Mark.parts", defArgs s_Mark_parts, defBody s_Mark_parts, defScope s_Mark_parts, [], []⟩
abbrev s_Mark_key : Stmt := (inClass (topS 40) 13)
def d_Mark_key : He.DefD := ⟨("Mark", some "key"), "key", "Mark.key", defArgs s_Mark_key, defBody s_Mark_key, defScope s_Mark_key, [], []⟩
abbrev s_Mark_ahead : Stmt := (inClass (topS 40) 14)
def d_Mark_ahead : He.DefD := ⟨("Mark", some "ahead"), "ahead", "Mark.ahead", defArgs s_Mark_ahead, defBody s_Mark_ahead, defScope s_Mark_ahead, [], []⟩
abbrev s_Mark_head : Stmt := (inClass (topS 40) 15)
def d_Mark_head : He.DefD := ⟨("Mark", some "head"), "head", "Mark.head", defArgs s_Mark_head, defBody s_Mark_head, defScope s_Mark_head, [], []⟩
abbrev s_Mark_book : Stmt := (inClass (topS 40) 16)
def d_Mark_book : He.DefD := ⟨("Mark", some "book"), "book", "Mark.book", defArgs s_Mark_book, defBody s_Mark_book, defScope s_Mark_book, [], []⟩
abbrev s_Mark_with_year : Stmt := (inClass (topS 40) 17)
def d_Mark_with_year : He.DefD := ⟨("Mark", some "with_year"), "with_year", "Mark.with_year", defArgs s_Mark_with_year, defBody s_Mark_with_year, defScope s_Mark_with_year, [.non], []⟩
abbrev s_Mark_with_copy : Stmt := (inClass (topS 40) 18)
def d_Mark_with_copy : He.DefD := ⟨("Mark", some "with_copy"), "with_copy", "Mark.with_copy", defArgs s_Mark_with_copy, defBody s_Mark_with_copy, defScope s_Mark_with_copy, [.non], []⟩
abbrev s_Mark_same_book : Stmt := (inClass (topS 40) 19)
def d_Mark_same_book : He.DefD := ⟨("Mark", some "same_book"), "same_book", "Mark.same_book", defArgs s_Mark_same_book, defBody s_Mark_same_book, defScope s_Mark_same_book, [], []⟩
abbrev s_lesser_letters : Stmt := (topS 43)
def d_lesser_letters : He.DefD := ⟨("lesser_letters", none), "lesser_letters", "lesser_letters", defArgs s_lesser_letters, defBody s_lesser_letters, defScope s_lesser_letters, [], []⟩
abbrev s_lesser_numbers : Stmt := (topS 44)
def d_lesser_numbers : He.DefD := ⟨("lesser_numbers", none), "lesser_numbers", "lesser_numbers", defArgs s_lesser_numbers, defBody s_lesser_numbers, defScope s_lesser_numbers, [], []⟩
abbrev s_lesser_makers : Stmt := (topS 45)
def d_lesser_makers : He.DefD := ⟨("lesser_makers", none), "lesser_makers", "lesser_makers", defArgs s_lesser_makers, defBody s_lesser_makers, defScope s_lesser_makers, [], []⟩
abbrev s_lesser_ends : Stmt := (topS 46)
def d_lesser_ends : He.DefD := ⟨("lesser_ends", none), "lesser_ends", "lesser_ends", defArgs s_lesser_ends, defBody s_lesser_ends, defScope s_lesser_ends, [], []⟩
abbrev s_rank : Stmt := (topS 47)
def d_rank : He.DefD := ⟨("rank", none), "rank", "rank", defArgs s_rank, defBody s_rank, defScope s_rank, [], []⟩
abbrev s_ahead_of : Stmt := (topS 48)
def d_ahead_of : He.DefD := ⟨("ahead_of", none), "ahead_of", "ahead_of", defArgs s_ahead_of, defBody s_ahead_of, defScope s_ahead_of, [], []⟩
abbrev s_number_of : Stmt := (topS 49)
def d_number_of : He.DefD := ⟨("number_of", none), "number_of", "number_of", defArgs s_number_of, defBody s_number_of, defScope s_number_of, [], []⟩
abbrev s__law_cell_at : Stmt := (topS 51)
def d__law_cell_at : He.DefD := ⟨("_law_cell_at", none), "_law_cell_at", "_law_cell_at", defArgs s__law_cell_at, defBody s__law_cell_at, defScope s__law_cell_at, [], []⟩
abbrev s__law_box : Stmt := (topS 52)
def d__law_box : He.DefD := ⟨("_law_box", none), "_law_box", "_law_box", defArgs s__law_box, defBody s__law_box, defScope s__law_box, [], []⟩
abbrev s__law_take : Stmt := (topS 53)
def d__law_take : He.DefD := ⟨("_law_take", none), "_law_take", "_law_take", defArgs s__law_take, defBody s__law_take, defScope s__law_take, [], []⟩
abbrev s__law_pick : Stmt := (topS 54)
def d__law_pick : He.DefD := ⟨("_law_pick", none), "_law_pick", "_law_pick", defArgs s__law_pick, defBody s__law_pick, defScope s__law_pick, [], []⟩
abbrev s__law_figures : Stmt := (topS 55)
def d__law_figures : He.DefD := ⟨("_law_figures", none), "_law_figures", "_law_figures", defArgs s__law_figures, defBody s__law_figures, defScope s__law_figures, [], []⟩
abbrev s__law_maker : Stmt := (topS 56)
def d__law_maker : He.DefD := ⟨("_law_maker", none), "_law_maker", "_law_maker", defArgs s__law_maker, defBody s__law_maker, defScope s__law_maker, [], []⟩
abbrev s__law_edge : Stmt := (topS 57)
def d__law_edge : He.DefD := ⟨("_law_edge", none), "_law_edge", "_law_edge", defArgs s__law_edge, defBody s__law_edge, defScope s__law_edge, [], []⟩
abbrev s__law_parts : Stmt := (topS 58)
def d__law_parts : He.DefD := ⟨("_law_parts", none), "_law_parts", "_law_parts", defArgs s__law_parts, defBody s__law_parts, defScope s__law_parts, [], []⟩
abbrev s__law_near : Stmt := (topS 59)
def d__law_near : He.DefD := ⟨("_law_near", none), "_law_near", "_law_near", defArgs s__law_near, defBody s__law_near, defScope s__law_near, [], []⟩
abbrev s__law_text : Stmt := (topS 60)
def d__law_text : He.DefD := ⟨("_law_text", none), "_law_text", "_law_text", defArgs s__law_text, defBody s__law_text, defScope s__law_text, [], []⟩
abbrev s__law_order : Stmt := (topS 61)
def d__law_order : He.DefD := ⟨("_law_order", none), "_law_order", "_law_order", defArgs s__law_order, defBody s__law_order, defScope s__law_order, [], []⟩
abbrev s__law_mark : Stmt := (topS 62)
def d__law_mark : He.DefD := ⟨("_law_mark", none), "_law_mark", "_law_mark", defArgs s__law_mark, defBody s__law_mark, defScope s__law_mark, [], []⟩
abbrev s__law_fitting : Stmt := (topS 63)
def d__law_fitting : He.DefD := ⟨("_law_fitting", none), "_law_fitting", "_law_fitting", defArgs s__law_fitting, defBody s__law_fitting, defScope s__law_fitting, [], []⟩
abbrev s__law_held : Stmt := (topS 64)
def d__law_held : He.DefD := ⟨("_law_held", none), "_law_held", "_law_held", defArgs s__law_held, defBody s__law_held, defScope s__law_held, [], []⟩
abbrev s_law : Stmt := (topS 65)
def d_law : He.DefD := ⟨("law", none), "law", "law", defArgs s_law, defBody s_law, defScope s_law, [], []⟩
def fn0 : List He.DefD := [d_NoLetters___init__, d_NoNumber___init__, d_NoPoints___init__, d_NoMakers___init__, d_NoMaker___init__, d_NoYear___init__, d_NoCopy___init__, d_NoBound___init__, d_TooLong___init__, d_is_whole, d_figures_of, d_is_name, d_is_figures, d_is_points, d_is_maker, d_is_letters, d_entry, d_Figures___init__, d_Figures_lesser, d_Figures_found_at, d_copies_by, d_Counts___init__, d_Counts_longer, d_Counts_begun, d_need_bound, d_how_many, d_need_year, d_need_copy, d_makers_in, d_Mark___init__]
def fn1 : List He.DefD := [d_Mark_text_of, d_Mark___eq__, d_Mark___str__, d_Mark___repr__, d_Mark___len__, d_Mark_letters, d_Mark_number, d_Mark_points, d_Mark_makers, d_Mark_year, d_Mark_copy_number, d_Mark_parts, d_Mark_key, d_Mark_ahead, d_Mark_head, d_Mark_book, d_Mark_with_year, d_Mark_with_copy, d_Mark_same_book, d_lesser_letters, d_lesser_numbers, d_lesser_makers, d_lesser_ends, d_rank, d_ahead_of, d_number_of, d__law_cell_at, d__law_box, d__law_take, d__law_pick]
def fn2 : List He.DefD := [d__law_figures, d__law_maker, d__law_edge, d__law_parts, d__law_near, d__law_text, d__law_order, d__law_mark, d__law_fitting, d__law_held, d_law]
def fn : List He.DefD := fn0 ++ fn1 ++ fn2
def fa0 : List He.Fa := [.glo "is_whole", .glo "figures_of", .glo "is_name", .glo "is_figures", .glo "is_points", .glo "is_maker", .glo "is_letters", .glo "entry", .glo "copies_by", .glo "need_bound", .glo "how_many", .glo "need_year", .glo "need_copy", .glo "makers_in", .glo "lesser_letters", .glo "lesser_numbers", .glo "lesser_makers", .glo "lesser_ends", .glo "rank", .glo "ahead_of", .glo "number_of", .glo "_law_cell_at", .glo "_law_box", .glo "_law_take", .glo "_law_pick", .glo "_law_figures", .glo "_law_maker", .glo "_law_edge", .glo "_law_parts", .glo "_law_near"]
def fa1 : List He.Fa := [.glo "_law_text", .glo "_law_order", .glo "_law_mark", .glo "_law_fitting", .glo "_law_held", .glo "law", .glo "MarkError", .glo "NoLetters", .glo "NoNumber", .glo "NoPoints", .glo "NoMakers", .glo "NoMaker", .glo "NoYear", .glo "NoCopy", .glo "NoBound", .glo "TooLong", .glo "Figures", .cls "Figures", .noat "Figures" "tails", .noat "Figures" "going", .noat "Figures" "stopping", .meth "Figures" "__init__", .meth "Figures" "lesser", .meth "Figures" "found_at", .mkr "Figures", .glo "Counts", .cls "Counts", .noat "Counts" "by_copy", .noat "Counts" "by_year", .noat "Counts" "by_makers"]
def fa2 : List He.Fa := [.noat "Counts" "by_figures", .noat "Counts" "by_points", .noat "Counts" "by_number", .noat "Counts" "by_word", .noat "Counts" "by_sign", .meth "Counts" "__init__", .meth "Counts" "longer", .meth "Counts" "begun", .mkr "Counts", .glo "Mark", .cls "Mark", .noat "Mark" "kept_makers", .noat "Mark" "kept_letters", .noat "Mark" "kept_number", .noat "Mark" "kept_points", .noat "Mark" "kept_year", .noat "Mark" "kept_copy", .noat "Mark" "kept_text", .meth "Mark" "__init__", .meth "Mark" "text_of", .meth "Mark" "__eq__", .meth "Mark" "__str__", .meth "Mark" "__repr__", .meth "Mark" "__len__", .meth "Mark" "letters", .meth "Mark" "number", .meth "Mark" "points", .meth "Mark" "makers", .meth "Mark" "year", .meth "Mark" "copy_number"]
def fa3 : List He.Fa := [.meth "Mark" "parts", .meth "Mark" "key", .meth "Mark" "ahead", .meth "Mark" "head", .meth "Mark" "book", .meth "Mark" "with_year", .meth "Mark" "with_copy", .meth "Mark" "same_book", .mkr "Mark", .free "len", .free "isinstance", .free "all", .free "any", .free "range", .free "int", .free "str", .free "list", .free "tuple", .free "max", .free "min", .free "sorted", .free "repr", .free "enumerate", .free "zip", .free "divmod", .free "sum", .free "reversed", .free "dict", .free "bool", .str "LETTERS_signs" "abcdefghijklmnopqrstuvwxyz"]
def fa4 : List He.Fa := [.str "FIGURES" "0123456789", .int "LONGEST" 6, .int "PART" 60, .int "MOST" 60, .int "MOST_MAKERS" 3, .int "FIRST_YEAR" 1000, .int "LAST_YEAR" 2999, .int "GREATEST" 9999, .str "LETTERS_numbering" "abcdefghijklmnopqrstuvwxyz"]
def fa : List He.Fa := fa0 ++ fa1 ++ fa2 ++ fa3 ++ fa4
def lo0 : List Str := ["_wall", "MarkError", "NoLetters", "NoNumber", "NoPoints", "NoMakers", "NoMaker", "NoYear", "NoCopy", "NoBound", "TooLong", "LETTERS_signs", "FIGURES", "LONGEST", "PART", "is_whole", "figures_of", "is_name", "is_figures", "is_points", "is_maker", "is_letters", "MOST", "entry", "Figures", "copies_by", "Counts", "need_bound", "how_many", "MOST_MAKERS"]
def lo1 : List Str := ["FIRST_YEAR", "LAST_YEAR", "GREATEST", "need_year", "need_copy", "makers_in", "Mark", "LETTERS_numbering", "lesser_letters", "lesser_numbers", "lesser_makers", "lesser_ends", "rank", "ahead_of", "number_of", "_law_cell_at", "_law_box", "_law_take", "_law_pick", "_law_figures", "_law_maker", "_law_edge", "_law_parts", "_law_near", "_law_text", "_law_order", "_law_mark", "_law_fitting", "_law_held"]
def lo : List Str := lo0 ++ lo1
abbrev R : PySem.W.OpenRow := PySem.W.OpenLaw.row PySem.Challenge.rw_spinemarks_k21_numbers_rise
def exB : PySem.W.Frag → Bool := fun _ => true
def tabs : List He.Tab := []
abbrev hk : PySem.W.Hook := He.hookX 7 fa fn tabs [] exB
def ob (s : PySem.W.SharedT) : He.AlX := He.obsX 7 fa fn tabs [] exB (HandSHeadRun.getT s)
theorem ob_eq (s : PySem.W.SharedT) : ob s = hk.obs s.abs := He.obsX_eq (HandSHeadRun.getT_eq s)
theorem run (w : World) : HandSHeadRun.RunEq R (PySem.W.view R.prog [65]) hk ob 20000 lo w := by
  intro os
  kernel_rfl
end Hd

namespace My
open PySem PySem.Spec PyProof.Rows L2
open Hd
local macro_rules | `(tactic| walk_at "rd") => `(tactic| simp (config := { decide := false }) only [
  ↓tSeq, ↓tNext, ↓tRet, ↓tRetN, ↓tDrop, ↓tIfS, ↓tAsg, ↓gName, ↓tC, ↓tOp, ↓tUn, ↓tAnd, ↓tOr, ↓tNot, ↓tIf, ↓tCons, ↓tNil, ↓tCB, ↓tCall, ↓tLst, ↓tTup, ↓tSl, ↓tNoPart, ↓tBreak, ↓tCont, ↓gSub, ↓tAug, ↓tAugS, ↓tPar, ↓tYes, ↓tMeth, ↓tMake, ↓tMakeN, ↓tCallN, ↓tNever,
  ↓U.uFmt, ↓U.uJoined, ↓U.tBL, ↓U.tBL0, ↓U.tBS, ↓U.tBS0,
  ↓U.tVar_0, ↓U.tVar_s, ↓U.e_test, ↓U.e_tB, ↓U.e_andV, ↓U.e_orV, ↓U.e_notV, ↓U.e_chain, ↓U.e_part, ↓U.e_js0, ↓U.e_js1, ↓U.e_tr, ↓U.e_or,
  U.set_0, U.set_s, L2.start, List.map_cons, List.map_nil, List.length_cons, List.length_nil, List.replicate, List.cons_append, List.nil_append, List.append_nil, List.getElem?_cons_zero, List.getElem?_cons_succ, Nat.reduceSub, Nat.reduceAdd,
  ↓U.e_add1, ↓U.e_add2, ↓U.e_add3, ↓U.e_sub, ↓U.e_mul, ↓U.e_mul2', U.rep_iv, U.iv_cut, ↓U.e_mod, ↓U.e_div, ↓U.e_pow, ↓U.e_lt1, ↓U.e_lt2, ↓U.e_le1, ↓U.e_le2, ↓U.e_gt1, ↓U.e_gt2, ↓U.e_ge1, ↓U.e_ge2, ↓U.e_eqo, ↓U.e_neo,
  U.s_1, U.s_2, U.s_3, U.s_4, U.s_5, U.s_6, U.s_7, U.s_8, U.s_9, U.s_10, U.s_11, U.s_12, U.s_13, U.s_14,
  ↓U.e_is, ↓U.e_isn, ↓U.e_in1, ↓U.e_nin1, ↓U.e_in2, ↓U.e_nin2, U.e_one, ↓U.e_ix1, ↓U.e_ix2, ↓U.e_sl1, ↓U.e_sl2, ↓U.e_slo1, ↓U.e_slo2, ↓U.e_slo3, ↓U.e_len1, ↓U.e_len2, ↓U.e_isi1, ↓U.e_isi2,
  U.t_non, U.t_bl, U.t_int, U.t_str, U.t_ref, U.t_lst, U.t_tup, U.t_dK, U.q_lst, U.q_tup, U.q_frz, U.l_lst, U.l_tup, U.u_lst, U.u_tup,
  ↓U.e_max, ↓U.e_min, ↓U.e_str, ↓U.e_int1, ↓U.e_int2, ↓U.e_int3, ↓U.e_list, ↓U.e_tuple, ↓U.e_tuple1, ↓U.e_tuple2, ↓U.e_divmod, ↓U.e_append, ↓U.e_extend, ↓U.e_pop, ↓U.e_rstrip, ↓U.e_zfill, ↓U.e_join, ↓U.e_fmt1, ↓U.e_fmt2, ↓U.e_set, ↓U.e_get, ↓U.e_ipa1, ↓U.e_ipa2, ↓U.e_ips, ↓U.e_neg,
  U.i_ii, U.i_ib, U.i_is, U.i_si, U.i_ss, U.i_bi, U.i_bb, U.i_ni, U.i_ns, U.i_ll, U.i_lt, ↓U.e_fldG, ↓U.e_fldR, ↓U.e_sfG, ↓U.e_sfR, ↓U.e_mtG, ↓U.e_mtR, U.insOf_ins, ↓U.e_eqI, U.ix10, L2.wipe, ↓U.e_lcE, ↓U.e_lcR, ↓U.e_lcL, ↓U.e_lcZ, ↓U.e_lcZ3, ↓U.e_forE, ↓U.e_forES, ↓U.e_forET, ↓U.e_iEnumS, ↓U.e_iEnumT, ↓U.e_lcV, ↓iRev, ↓U.e_index, ↓U.e_for2, ↓U.e_forZ, ↓iEnum, ↓iRng1, ↓iRng2, ↓iZip, ↓U.iZip3, ↓iList, ↓U.e_sum, U.intsOf_map, U.fgp1, U.fgn1, U.fgl1_1, U.fgp2, U.fgn2, U.fgl2_1, U.fgl2_2, U.fgp3, U.fgn3, U.fgl3_1, U.fgl3_2, U.fgl3_3, U.ctp1, U.ctn1, U.ctl1_1, U.ctp2, U.ctn2, U.ctl2_1, U.ctl2_2, U.ctp3, U.ctn3, U.ctl3_1, U.ctl3_2, U.ctl3_3, U.ctp4, U.ctn4, U.ctl4_1, U.ctl4_2, U.ctl4_3, U.ctl4_4, U.ctp5, U.ctn5, U.ctl5_1, U.ctl5_2, U.ctl5_3, U.ctl5_4, U.ctl5_5, U.ctp6, U.ctn6, U.ctl6_1, U.ctl6_2, U.ctl6_3, U.ctl6_4, U.ctl6_5, U.ctl6_6, U.ctp7, U.ctn7, U.ctl7_1, U.ctl7_2, U.ctl7_3, U.ctl7_4, U.ctl7_5, U.ctl7_6, U.ctl7_7, U.ctp8, U.ctn8, U.ctl8_1, U.ctl8_2, U.ctl8_3, U.ctl8_4, U.ctl8_5, U.ctl8_6, U.ctl8_7, U.ctl8_8, U.ctm1, U.ctm2, U.ctm3, U.ctm4, U.ctm5, U.ctm6, U.ctm7, U.ctm8, U.nil_len, ↓U.e_slS, U.i60, U.i61, U.i62, U.i63, U.i64, U.i65, ↓U.e_orT, U.cut_from1, U.at1, U.at2, U.at3, U.at4, U.at5, U.pool_upd, ↓U.e_forR, ↓U.e_forL, U.atI_0, U.cxK, U.cxKn, ↓U.e_isC, U.p1, U.p2, U.p3, U.p4, U.p5, U.p6, U.p7, U.f1, U.f2, U.f3, U.f4, U.f5, U.f6, U.h1, U.h2, U.h3, U.h4, U.h5, U.h6, U.h7, U.k1, U.k2, U.k3, U.k4, U.k5, U.k6, U.n6, U.nk, U.na, U.ov_none, U.ov_some, eq_self,
  U.strOf_str, U.blOf_bl, U.refOf_ref, U.intOf_int, U.b_non, U.b_bl, U.b_int, U.isL_ref, U.isS_str, ↓U.optE_some,
  ↓U.sp0_at, ↓U.sp1_at, ↓U.sp2_at, ↓U.sp3_at, ↓U.sp4_at, ↓U.sp5_at, ↓U.sp6_at, ↓U.sp7_at,
  U.cps_mk, upd_same, L2.upd_upd, L2.upd_ne, ne_eq,
  U.ex_eq, exists_and_left, exists_and_right, exists_eq_left, exists_eq_left', exists_const, and_true, true_and, and_assoc, or_false, false_or, false_and, and_false, or_true, true_or, not_true_eq_false, not_false_eq_true, Bool.not_true, Bool.not_false, Bool.not_not, ite_true, ite_false, if_true, if_false, Bool.false_eq_true, reduceIte, reduceCtorEq, Option.some.injEq, Option.bind_some, V.int.injEq, V.bl.injEq, V.ref.injEq, V.str.injEq, V.ty.injEq, List.cons.injEq, HO.lst.injEq, HO.tup.injEq, Option.isSome_some, decide_true, decide_false, decide_eq_true_eq, Bool.not_eq_true', decide_eq_false_iff_not, Bool.and_true, Bool.true_and, Bool.and_false, Bool.false_and, Bool.or_true, Bool.true_or, Bool.or_false, Bool.false_or, Nat.reduceLeDiff, Int.reduceLT, Int.reduceLE, Int.reduceNeg, Int.reducePow, Int.reduceToNat, Int.reduceAdd, Int.reduceSub, Int.reduceMul, implies_true, *])
local macro_rules | `(tactic| walk_at "om") => `(tactic| (first | omega | (simp only [List.length_append, List.length_map, List.length_cons, List.length_nil, List.length_singleton]; omega) | (rw [U.sizeL]; decide)))

local macro_rules | `(tactic| walk_at "zd") => `(tactic| simp (config := { decide := false }) only [
  ↓Z.e_c, ↓Z.e_var, ↓Z.e_op, ↓Z.e_un, ↓Z.e_cb, ↓Z.e_nil, ↓Z.e_cons, ↓Z.e_anil, ↓Z.e_afz, ↓Z.e_alend, ↓Z.e_call, ↓Z.e_meth, ↓Z.e_methL, ↓Z.e_make, ↓Z.e_test, ↓Z.e_tr, ↓Z.e_and, ↓Z.e_or, ↓Z.e_not, ↓Z.e_andV, ↓Z.e_orV, ↓Z.e_notV, ↓Z.e_notT, ↓Z.e_if, ↓Z.e_orU, ↓Z.e_andU, ↓Z.e_chain, ↓Z.e_tup, ↓Z.e_lst, ↓Z.e_fld, ↓Z.e_nopart, ↓Z.e_part, ↓Z.e_sl, ↓Z.e_slT, ↓Z.e_tuple, ↓Z.e_revL, ↓Z.e_bs, ↓Z.e_bs0, ↓Z.e_fmt, ↓Z.e_js0, ↓Z.e_js1, ↓Z.e_joined, ↓Z.e_eqI, ↓Z.e_next, ↓Z.e_seq, ↓Z.e_break, ↓Z.e_cont, ↓Z.e_drop, ↓Z.e_ret, ↓Z.e_retN, ↓Z.e_ifS, ↓Z.e_never, ↓Z.e_set, ↓Z.e_asg, ↓Z.e_aug, ↓Z.e_par, ↓Z.e_augS, ↓Z.e_dropA, ↓Z.e_dropE, ↓Z.e_fldS, ↓Z.e_gname, ↓Z.e_gnil, ↓Z.e_gcons, ↓Z.e_gtup, ↓Z.e_gsub, ↓Z.e_ilist, ↓Z.e_iseq, Z.mf_n0, Z.mf_x0, Z.mf_n1, Z.mf_x1, Z.mf_n2, Z.mf_x2, Z.mf_n3, Z.mf_x3, Z.mf_n4, Z.mf_x4, Z.mf_n5, Z.mf_x5, Z.mf_n6, Z.mf_x6, Z.mf_l6_0, Z.mf_l6_1, Z.mf_l6_2, Z.mf_l6_3, Z.mf_l6_4, Z.mf_l6_5, Z.mf_l7_0, Z.mf_l7_1, Z.mf_l7_2, Z.mf_l7_3, Z.mf_l7_4, Z.mf_l7_5, Z.mf_l7_6, ↓Z.fgf1, ↓Z.fgf2, ↓Z.fgf3, ↓Z.cnf1, ↓Z.cnf2, ↓Z.cnf3, ↓Z.cnf4, ↓Z.cnf5, ↓Z.cnf6, ↓Z.cnf7, ↓Z.cnf8, Z.cn_is, Z.fg_is, Z.cn_begun, Z.fg_lesser, Z.fg_found, ↓Z.e_lenI, ↓Z.e_strI, Z.nc_len, Z.nc_str, Z.nc_repr, ↓Z.m1, ↓Z.m2, ↓Z.m3, ↓Z.m4, ↓Z.m5, ↓Z.m6, ↓Z.m7, Z.m_is, ↓Z.m_isc, Z.mk_inj, Z.nc6_text, Z.nc_eq, Z.nc_key, Z.nc_ahead, Z.nc_parts, ↓Z.e_itup, ↓Z.e_istr, ↓Z.e_irng1, ↓Z.e_irng2, ↓Z.e_ienum, ↓Z.e_ienumT, ↓Z.e_ienumS, ↓Z.e_irev, ↓Z.e_izip, ↓Z.e_for, ↓Z.e_while, ↓Z.e_cut, ↓Z.e_lc, ↓Z.e_augS1, ↓Z.a_fz, ↓Z.a_fzR, ↓Z.a_par, ↓Z.v_fz, ↓Z.v_mu, ↓Z.v_pm, ↓Z.f_fz, ↓Z.f_mu, ↓Z.f_bor, ↓Z.fs_fz, ↓Z.fs_mu, ↓Z.sr_fz, ↓Z.sr_mu, ↓Z.sr_bor, ↓Z.rt_fz, ↓Z.rt_mu, ↓Z.rt_bor, ↓Z.rs_fz, ↓Z.rs_mu, ↓Z.mk_at, ↓Z.tu_lst, ↓Z.tu_tup, ↓Z.en_nx, ↓Z.en_rt, ↓Z.en_bk, ↓Z.en_ct, ↓Z.fl_at, ↓Z.fm_str, ↓Z.fm_int, Z.c_fz, Z.c_mu, Z.c_bor, Z.cs_some, Z.s_fz, Z.s_mu, Z.s_pm, Z.cn_nil, Z.cn_cons, Z.co_some, Z.cb_fz, Z.cb_bor, Z.l_at, Z.ls_mu, Z.ls_pm, Z.i_at, Z.is_mu, Z.is_pm, Z.sc_at, Z.ss_mu, Z.ss_pm, Z.pb_n, Z.pb_fz, Z.pb_mu, Z.im_mu, Z.im_pm, Z.le_nil, Z.le_fz, Z.le_le, Z.nd_nil, Z.nd_one, Z.lt_nil, Z.lt_fz, Z.lt_le, Z.lS_mu, Z.lS_pm, Z.b_nil, Z.b_fz, Z.b_le, Z.z_nil, Z.z_fz, Z.o_map, Z.o_bind, Z.t_bl, Z.t_int, Z.t_str, Z.tr_non, Z.tr_bl, Z.tr_int, Z.tr_lst, Z.tr_tup, Z.q_lst, Z.q_scr, Z.q_tup, Z.q_lst2, Z.q_tup2, Z.st_nil, Z.st_fz, Z.st_mu, Z.o_nil, Z.o_fz, Z.o_mu, Z.in_is, Z.wg_nil, Z.wg_cons, Z.r_fz_inj, Z.r_mu_inj, U.cxK, U.cxKn, Z.bls_inS, Z.all_id, Z.any_id, Z.na_non, Z.na_bl, Z.na_int, Z.na_lst, Z.na_tup, Z.na_str, Z.strs_sg, Z.join_sg, Z.sum_sg, Z.strsT_map, Z.intsT_map, Nat.mul_zero, Nat.add_zero, Z.Bx.tr_inj, Z.gAdd.eq_1, Z.gAdd.eq_2, Z.gAdd.eq_3, Z.gSub.eq_1, Z.gMul.eq_1, Z.gMul.eq_2, Z.gDiv.eq_1, Z.gMod.eq_1, Z.gPow.eq_1, Z.gLt.eq_1, Z.gLt.eq_2, Z.gLe.eq_1, Z.gLe.eq_2, Z.gGt.eq_1, Z.gGt.eq_2, Z.gGe.eq_1, Z.gGe.eq_2, Z.gEq, Z.gNe, Z.gIs.eq_1, Z.gIsNot.eq_1, Z.gIn, Z.gNotIn, Z.gIx.eq_1, Z.gIx.eq_2, Z.gIx.eq_3, Z.gIxS.eq_1, Z.gSl.eq_1, Z.gSl.eq_2, Z.gSlS.eq_1, Z.gNeg.eq_1, Z.gLen.eq_1, Z.gLen.eq_2, Z.gLen.eq_3, Z.gLenS.eq_1, Z.gIsi.eq_1, Z.gIsi.eq_2, Z.gAll.eq_1, Z.gAny.eq_1, Z.gSum.eq_1, Z.gMax.eq_1, Z.gMin.eq_1, Z.gStr.eq_1, Z.gInt.eq_1, Z.gInt.eq_2, Z.gInt.eq_3, Z.gList.eq_1, Z.gList.eq_2, Z.gDivmod.eq_1, Z.gJoin.eq_1, Z.gJoin.eq_2, Z.gRstrip.eq_1, Z.gZfill.eq_1, Z.gIndex.eq_1, Z.gIpA.eq_1, Z.gIpA.eq_2, Z.gIpS.eq_1, Z.gEqD, Z.gNeD, Z.gLtD, Z.gGtD, Z.gIsC.eq_1, Z.eqT.eq_1, Z.eqT.eq_2, Z.eqT.eq_3, Z.eqT.eq_4, Z.eqT.eq_5, Z.eqT.eq_6, Z.eqT.eq_7, Z.eqT.eq_8, Z.eqT.eq_9, Z.eqT.eq_10, Z.eqT.eq_11, Z.eqT.eq_12, Z.eqT.eq_13, Z.eqT.eq_14, Z.ib_NoneType_bool, Z.ib_NoneType_int, Z.ib_NoneType_str, Z.ib_NoneType_list, Z.ib_NoneType_tuple, Z.ib_NoneType_dict, Z.ib_bool_bool, Z.ib_bool_int, Z.ib_bool_str, Z.ib_bool_list, Z.ib_bool_tuple, Z.ib_bool_dict, Z.ib_int_bool, Z.ib_int_int, Z.ib_int_str, Z.ib_int_list, Z.ib_int_tuple, Z.ib_int_dict, Z.ib_str_bool, Z.ib_str_int, Z.ib_str_str, Z.ib_str_list, Z.ib_str_tuple, Z.ib_str_dict, Z.ib_list_bool, Z.ib_list_int, Z.ib_list_str, Z.ib_list_list, Z.ib_list_tuple, Z.ib_list_dict, Z.ib_tuple_bool, Z.ib_tuple_int, Z.ib_tuple_str, Z.ib_tuple_list, Z.ib_tuple_tuple, Z.ib_tuple_dict, Z.ib_dict_bool, Z.ib_dict_int, Z.ib_dict_str, Z.ib_dict_list, Z.ib_dict_tuple, Z.ib_dict_dict, Z.ia_NoneType, Z.ia_bool, Z.ia_int, Z.ia_str, Z.ia_list, Z.ia_tuple, Z.nn_non, Z.nn_bl, Z.nn_int, Z.nn_str, Z.nn_lst, Z.nn_tup, Z.nn_ins, Z.ov_n, Z.ov_s, Z.tyT.eq_1, Z.tyT.eq_2, Z.tyT.eq_3, Z.tyT.eq_4, Z.tyT.eq_5, Z.tyT.eq_6, Z.tysT.eq_1, Z.tysT.eq_2, Z.blsT.eq_1, Z.blsT.eq_2, Z.intsT.eq_1, Z.intsT.eq_2, Z.strsT.eq_1, Z.strsT.eq_2, Z.gInB.eq_1, Z.gInB.eq_2, Z.gInB.eq_3, Z.oneT.eq_1, Z.flT.eq_1, Z.flT.eq_2, Z.flT.eq_3, Z.flT.eq_4, Z.flTs, Z.dt_key, Z.dt_keyl, Z.dtT.eq_1, Z.dtT.eq_2, Z.dtT.eq_3, Z.dtT.eq_4, ↓Z.tp0_at, ↓Z.tp1_at, ↓Z.tp2_at, ↓Z.tp3_at, ↓Z.tp4_at, ↓Z.tp5_at, ↓Z.tp6_at, ↓Z.tp7_at, U.set_0, U.set_s, U.optE_some, L2.start, List.map_cons, List.map_nil, List.length_cons, List.length_nil, List.length_replicate, List.length_map, List.replicate, List.cons_append, List.nil_append, List.append_nil, List.getElem?_cons_zero, List.getElem?_cons_succ, Nat.reduceSub, Nat.reduceAdd, U.ex_eq, exists_and_left, exists_and_right, exists_eq_left, exists_eq_left', exists_const, and_true, true_and, and_self, and_assoc, or_false, false_or, false_and, and_false, or_true, true_or, not_true_eq_false, not_false_eq_true, Bool.not_true, Bool.not_false, Bool.not_not, ite_true, ite_false, if_true, if_false, Bool.false_eq_true, reduceIte, reduceCtorEq, Option.some.injEq, Option.bind_some, Option.isSome_some, V.ty.injEq, Z.Tr.int.injEq, Z.Tr.bl.injEq, Z.Tr.str.injEq, Z.Tr.lst.injEq, Z.Tr.tup.injEq, Z.Tr.adr.injEq, Z.Tr.scr.injEq, Z.Tr.ins.injEq, Z.A.fz.injEq, Z.A.mu.injEq, Z.R.fz.injEq, Z.Sl.fz.injEq, Z.Sl.mu.injEq, Z.Sl.pm.injEq, Z.R.mu.injEq, List.cons.injEq, List.nil_eq, decide_true, decide_false, decide_eq_true_eq, Bool.not_eq_true', decide_eq_false_iff_not, Bool.and_true, Bool.true_and, Bool.and_false, Bool.false_and, Bool.or_true, Bool.true_or, Bool.or_false, Bool.false_or, Nat.reduceLeDiff, Nat.reduceLT, Nat.reducePow, Int.reduceLT, Int.reduceLE, Int.reduceNeg, Int.reduceEq, Int.reduceNe, Int.reducePow, Int.reduceToNat, Int.reduceAdd, Int.reduceSub, Int.reduceMul, implies_true, eq_self, ne_eq, U.i_ii, U.i_ib, U.i_is, U.i_si, U.i_ss, U.i_bi, U.i_bb, U.i_ni, U.i_ns, U.i_ll, U.i_lt, U.atI_0, U.at1, U.at2, U.at3, U.at4, U.at5, U.ix10, U.i60, U.i61, U.i62, U.i63, U.i64, U.i65, Z.ix30, Z.ix31, Z.ix32, Z.a0, Z.a1, Z.a2, Z.a3, Z.a4, Z.a5, Z.ct1, Z.ct2, Z.ct3, Z.ct4, Z.ct5, Z.cf1, Z.cf2, Z.cf3, Z.cf4, Z.cf5, Z.cz0, Z.cz1, Z.cz6, Z.co0, Z.co1, Z.co2, Z.co3, Z.co4, Z.co5, Z.cm1, *])

abbrev sp_entry : Sp := U.sp2 fun t i H Q _ => U.optE (U.refOf t) fun p => U.optE (U.intOf i) fun k => ∃ (n : Nat) (F : Nat → Int), H p = some (.lst (U.iv (U.sq n F))) ∧ k < n ∧ Q (.int (U.entF F k)) H
theorem sc_entry : FnScope ["table", "at"] ["table", "at"] (defScope s_entry) := U.scope_by (by decide +kernel)
theorem ok_entry {P : Program} {w : World} {K : PySem.W.Frag} {mg : Str → Option Value} {base : Heap} {f : Addr} {fd : FuncData}
    (F : FunD K "entry" "entry" (defArgs s_entry) (defBody s_entry) (defScope s_entry) [] [] f fd) (B : U.BI mg)  :
    FnOk P w K mg base C8.CX0 1 f fd ["table", "at"] (sp_entry) := by
  have sc := sc_entry
  refine F.ok sc (fun vs H Q E h => ?_) (fun cdv A outer s H vs Q E hr h => ⟨_, PSs.nox (pss_cons (ps_if (pt_cmpR U.lt (pv 1) pe_int (nomark _)) (pss_one (ps_ret pe_int)) pss_nil)
      (pss_one (ps_ret (pe_ix U.ix (pv 0) (pv 1) (fun _ _ => rfl))))), ?_⟩)
  · obtain ⟨_, _, rfl, _⟩ := h; rfl
  · obtain ⟨t, i, rfl, p, hp, k, hk, n, F, h1, h2, q⟩ := h
    cases U.refOf_eq hp
    cases U.intOf_eq hk
    unfold U.entF at q
    walk_at "rd"
    by_cases e : k < 0
    · rw [if_pos e] at q ⊢; exact q
    · rw [if_neg e] at q ⊢
      exact U.optE_of (U.sq_ix (by omega) h2) q
abbrev tp_entry : Z.TP := Z.tp2 fun t i P => ∃ (n : Nat) (F : Nat → Int) (k : Int), t = .fz (Z.ivT n F) ∧ i = .fz (.int k) ∧ k < n ∧ P (.fz (.int (U.entF F k))) []
abbrev sz_entry (K : PySem.W.Frag) : Sp := Z.spT K 2 (tp_entry)
theorem br_entry {K : PySem.W.Frag} (vs : List V) (H : Hp) (Q : VK) (E : XK) (h : sz_entry K vs H Q E) : (sp_entry) vs H Q E := by
  obtain ⟨_, W, ss, P, d, ha, ⟨t, i, rfl, n, F, k, rfl, rfl, hk, p⟩, q⟩ := h
  obtain ⟨v, r, rfl, h1, ha⟩ := Z.args_fz ha
  obtain ⟨w, r, rfl, h2, ha⟩ := Z.args_fz ha
  cases Z.args_nil ha
  rw [Z.rp_int] at h2
  subst h2
  obtain ⟨a, rfl, e⟩ := Z.iv_rp h1
  refine ⟨_, _, rfl, a, rfl, k, rfl, n, F, e, hk, q _ _ _ H W p .refl d (Z.outs_fz (Z.outs_fz Z.outs_nil)) ?_⟩
  show Z.Rp K W H (.int _) _
  rw [Z.rp_int]

abbrev tp_lesser_ends (C CF : Addr) : Z.TP := Z.tp4 fun s a b l P => ∃ (n k : Nat) (y c : Option Int), s = .fz (Z.cnT C CF n) ∧ a = .fz (Z.ovT y) ∧ b = .fz (Z.ovT c) ∧ l = .fz (.int k) ∧ k ≤ n ∧ n ≤ 100 ∧ (∀ i, y = some i → 1000 ≤ i ∧ i ≤ 2999) ∧ (∀ i, c = some i → 2 ≤ i) ∧ U.ylen y + U.clen c ≤ k ∧ P (.fz (.int (U.endR y c k))) []
abbrev sp_lesser_ends (K : PySem.W.Frag) (C_Counts : Addr) (C_Figures : Addr) : Sp := Z.spT K 4 (tp_lesser_ends C_Counts C_Figures)
theorem sc_lesser_ends : FnScope ["counts", "year", "number", "left", "found"] ["counts", "year", "number", "left"] (defScope s_lesser_ends) := U.scope_by (by decide +kernel)
theorem ok_lesser_ends {P : Program} {w : World} {K : PySem.W.Frag} {mg : Str → Option Value} {base : Heap} {f : Addr} {fd : FuncData} {C_Counts : Addr} {C_Figures : Addr}
    (F : FunD K "lesser_ends" "lesser_ends" (defArgs s_lesser_ends) (defBody s_lesser_ends) (defScope s_lesser_ends) [] [] f fd) (B : U.BI mg) (MC : U.CtC K C_Counts) (z_entry : C8.Cal P w K mg base 1 "entry" (sz_entry K) []) :
    FnOk P w K mg base C8.CX0 2 f fd ["counts", "year", "number", "left"] (sp_lesser_ends K C_Counts C_Figures) := by
  have sc := sc_lesser_ends
  refine F.ok sc (fun vs H Q E h => h.1) (fun cdv A outer s H vs Q E hr h => ⟨_, PSs.nox (pss_cons (ps_set (i := 4) sc.nd rfl (Or.inl rfl) pe_int)
      (pss_cons (ps_if (pt_cmpR U.isNot (pv 1) pe_non (nomark _)) (pss_cons (ps_aug (i := 4) sc.nd rfl (Or.inl rfl) (pe_op U.add (C8.pe_c z_entry hr (by decide) rfl (pa_cons (pe_fld (pv 0) rfl) (pa_cons (pv 3) pa_nil))) (pe_op U.mul (pe_op U.sub (pv 1) pe_int) (C8.pe_c z_entry hr (by decide) rfl (pa_cons (pe_fld (pv 0) rfl) (pa_cons (pe_op U.sub (pv 3) pe_int) pa_nil))))) U.ip_add)
      (pss_one (ps_aug (i := 3) sc.nd rfl (Or.inl rfl) pe_int U.ip_sub))) pss_nil)
      (pss_cons (ps_if (PW.pt (pw_and (pt_cmpR U.isNot (pv 2) pe_non (nomark _)) (pw_and1 (pt_cmpR U.ge (pv 3) pe_int (nomark _))))) (pss_one (ps_aug (i := 4) sc.nd rfl (Or.inl rfl) (pe_callB (U.c_min rfl) (by rfl) B.min_ U.bt_min (pa_cons (pe_op U.sub (pv 2) pe_int) (pa_cons (pe_ix U.ix (pe_fld (pv 0) rfl) (pv 3) (fun _ _ => rfl)) pa_nil))) U.ip_add)) pss_nil)
      (pss_one (ps_ret (pv 4)))))), Z.body (N := ["counts", "year", "number", "left", "found"]) (fun H0 W0 pa => (Z.rs_seq (Z.rs_set Z.re_int)
      (Z.rs_seq (Z.rs_if (Z.rt_test (Z.re_op Z.o_isNot Z.re_var Z.re_non)) (Z.rs_seq (Z.rs_aug (Z.re_op Z.o_add (Z.re_call (Z.rf_fz (Z.re_fld Z.re_var) (Z.rf_fz Z.re_var Z.rf_nil)) (fun _ _ => Z.r_nil) rfl) (Z.re_op Z.o_mul (Z.re_op Z.o_sub Z.re_var Z.re_int) (Z.re_call (Z.rf_fz (Z.re_fld Z.re_var) (Z.rf_fz (Z.re_op Z.o_sub Z.re_var Z.re_int) Z.rf_nil)) (fun _ _ => Z.r_nil) rfl))) Z.o_ipAdd)
      (Z.rs_aug Z.re_int Z.o_ipSub)) Z.rs_next)
      (Z.rs_seq (Z.rs_if (Z.rt_and (Z.rt_test (Z.re_op Z.o_isNot Z.re_var Z.re_non)) (Z.rt_test (Z.re_op Z.o_ge Z.re_var Z.re_int))) (Z.rs_aug (Z.re_cb Z.o_min (Z.ra_cons (Z.re_op Z.o_sub Z.re_var Z.re_int) (Z.ra_cons (Z.re_op Z.o_ix (Z.re_fld Z.re_var) Z.re_var) Z.ra_nil))) Z.o_ipAdd) Z.rs_next)
      (Z.rs_ret Z.re_var))))) h (by decide) (fun ss T h hn => ?_)⟩)
  clear hn
  obtain ⟨s, a, b, l, rfl, n, kk, y, c, rfl, rfl, rfl, rfl, hk, hn, hy, hc, hl, k1⟩ := h
  obtain ⟨mc, a1, a2, a3, a4, a5, a6, a7, a8⟩ := MC
  have en0 : U.entF U.copF (kk : Int) = U.copF kk := by have := U.entF_nat (F := U.copF) (Nat.zero_le kk); simpa using this
  rcases y with - | j <;> rcases c with - | i
  · walk_at "zd"
    exact k1
  · have hl : 0 + U.clen (some i) ≤ kk := hl
    have r := U.copR_lt hc (show U.clen (some i) ≤ kk by omega)
    have r2 : U.copR (some i) = i - 1 := rfl
    walk_at "zd"
    rw [if_pos (by omega)]
    refine Z.ivT_ix (by omega) (by omega) ?_
    walk_at "zd"
    rw [Int.toNat_natCast, show (0 : Int) + min (i - 1) (U.copF kk) = U.endR none (some i) kk by show _ = i - 1; omega]
    exact k1
  · have hl : 5 + U.clen none ≤ kk := hl
    have hj := hy j rfl
    have en5 : U.entF U.copF ((kk : Int) - 5) = U.copF (kk - 5) := U.entF_nat (k := 5) (by omega)
    walk_at "zd"
    refine ⟨n + 1, _, rfl, by omega, n + 1, _, rfl, by omega, U.mulL ⟨by omega, by omega⟩, ?_⟩
    rw [en0, en5, show (0 : Int) + (U.copF kk + (j - 1000) * U.copF (kk - 5)) = U.endR (some j) none kk by show _ = U.copF kk + (j - 1000) * U.copF (kk - 5) + 0; omega]
    exact k1
  · have hl : 5 + U.clen (some i) ≤ kk := hl
    have hj := hy j rfl
    have en5 : U.entF U.copF ((kk : Int) - 5) = U.copF (kk - 5) := U.entF_nat (k := 5) (by omega)
    have r := U.copR_lt hc (show U.clen (some i) ≤ kk - 5 by omega)
    have r2 : U.copR (some i) = i - 1 := rfl
    walk_at "zd"
    refine ⟨n + 1, _, rfl, by omega, n + 1, _, rfl, by omega, U.mulL ⟨by omega, by omega⟩, ?_⟩
    rw [if_pos (by omega)]
    refine Z.ivT_ix (by omega) (by omega) ?_
    walk_at "zd"
    rw [show ((kk : Int) - 5).toNat = kk - 5 by omega, show (0 : Int) + (U.copF kk + (j - 1000) * U.copF (kk - 5)) + min (i - 1) (U.copF (kk - 5)) = U.endR (some j) (some i) kk by show _ = U.copF kk + (j - 1000) * U.copF (kk - 5) + (i - 1); omega]
    exact k1

abbrev tp_Figures_lesser (C : Addr) : Z.TP := Z.tp3 fun s t l P => ∃ (n k : Nat) (T : Nat → Int) (ds : List Nat), s = .fz (Z.fgT C (n + 1) T) ∧ t = .fz (.str ds) ∧ l = .fz (.int k) ∧ k ≤ n ∧ n ≤ 100 ∧ U.FigOk ds ∧ ds.length ≤ k ∧ P (.fz (.int (U.gv T ds k 0))) []
abbrev sp_Figures_lesser (K : PySem.W.Frag) (C_Figures : Addr) : Sp := Z.spT K 3 (tp_Figures_lesser C_Figures)
theorem sc_Figures_lesser : FnScope ["self", "text", "left", "found", "at", "sign", "figure"] ["self", "text", "left"] (defScope s_Figures_lesser) := U.scope_by (by decide +kernel)
theorem ok_Figures_lesser {P : Program} {w : World} {K : PySem.W.Frag} {mg : Str → Option Value} {base : Heap} {f : Addr} {fd : FuncData} {C_Figures : Addr}
    (F : FunD K "lesser" "Figures.lesser" (defArgs s_Figures_lesser) (defBody s_Figures_lesser) (defScope s_Figures_lesser) [] [] f fd) (B : U.BI mg) (MF : U.FgC K C_Figures) (z_entry : C8.Cal P w K mg base 1 "entry" (sz_entry K) []) :
    FnOk P w K mg base C8.CX0 2 f fd ["self", "text", "left"] (sp_Figures_lesser K C_Figures) := by
  have sc := sc_Figures_lesser
  refine F.ok sc (fun vs H Q E h => h.1) (fun cdv A outer s H vs Q E hr h => ⟨_, PSs.nox (pss_cons (ps_set (i := 3) sc.nd rfl (Or.inl rfl) pe_int)
      (pss_cons (ps_for PassesOwn.never rfl (U.pi_enumS (by rfl) B.enumerate_ (pa_cons (pv 1) pa_nil)) (U.pg_tupK (K := K) (n := 2) rfl (pg_tup (by rfl) (pgs_cons (pg_name (i := 4) sc.nd rfl (Or.inl rfl)) (pgs_cons (pg_name (i := 5) sc.nd rfl (Or.inl rfl)) pgs_nil)))) (pss_cons (ps_if (PW.pt (pw_and (pt_cmpR U.gt (pv 4) pe_int (nomark _)) (pw_and1 (pt_cmpR U.ne (pe_ix U.ix (pv 1) (pe_op U.sub (pv 4) pe_int) (fun _ _ => rfl)) (U.pe_s' [48] (by decide +kernel)) (nomark _))))) (pss_one (ps_aug (i := 3) sc.nd rfl (Or.inl rfl) (C8.pe_c z_entry hr (by decide) rfl (pa_cons (pe_fld (pv 0) rfl) (pa_cons (pe_op U.sub (pv 2) (pv 4)) pa_nil))) U.ip_add)) pss_nil)
      (pss_cons (ps_set (i := 6) sc.nd rfl (Or.inl rfl) (pe_callTy U.c_int (by rfl) B.int_ U.bt_int (pa_cons (pv 5) pa_nil)))
      (pss_one (ps_if (pt_cmpR U.gt (pv 6) pe_int (nomark _)) (pss_cons (ps_aug (i := 3) sc.nd rfl (Or.inl rfl) (C8.pe_c z_entry hr (by decide) rfl (pa_cons (pe_fld (pv 0) rfl) (pa_cons (pe_op U.sub (pe_op U.sub (pv 2) (pv 4)) pe_int) pa_nil))) U.ip_add)
      (pss_one (ps_aug (i := 3) sc.nd rfl (Or.inl rfl) (pe_op U.mul (pe_op U.sub (pv 6) pe_int) (C8.pe_c z_entry hr (by decide) rfl (pa_cons (pe_fld (pv 0) rfl) (pa_cons (pe_op U.sub (pe_op U.sub (pv 2) (pv 4)) pe_int) pa_nil)))) U.ip_add))) pss_nil)))))
      (pss_one (ps_ret (pv 3))))), Z.body (N := ["self", "text", "left", "found", "at", "sign", "figure"]) (fun H0 W0 pa => (Z.rs_seq (Z.rs_set Z.re_int)
      (Z.rs_seq (Z.rs_for (Z.ri_enumS Z.re_var) (Z.rg_tup (Z.rgs_cons (Z.rgs_cons Z.rgs_nil))) (Z.rs_seq (Z.rs_if (Z.rt_and (Z.rt_test (Z.re_op Z.o_gt Z.re_var Z.re_int)) (Z.rt_test (Z.re_op Z.o_ne (Z.re_op Z.o_ix Z.re_var (Z.re_op Z.o_sub Z.re_var Z.re_int)) Z.re_str))) (Z.rs_aug (Z.re_call (Z.rf_fz (Z.re_fld Z.re_var) (Z.rf_fz (Z.re_op Z.o_sub Z.re_var Z.re_var) Z.rf_nil)) (fun _ _ => Z.r_nil) rfl) Z.o_ipAdd) Z.rs_next)
      (Z.rs_seq (Z.rs_set (Z.re_cb Z.o_int (Z.ra_cons Z.re_var Z.ra_nil)))
      (Z.rs_if (Z.rt_test (Z.re_op Z.o_gt Z.re_var Z.re_int)) (Z.rs_seq (Z.rs_aug (Z.re_call (Z.rf_fz (Z.re_fld Z.re_var) (Z.rf_fz (Z.re_op Z.o_sub (Z.re_op Z.o_sub Z.re_var Z.re_var) Z.re_int) Z.rf_nil)) (fun _ _ => Z.r_nil) rfl) Z.o_ipAdd)
      (Z.rs_aug (Z.re_op Z.o_mul (Z.re_op Z.o_sub Z.re_var Z.re_int) (Z.re_call (Z.rf_fz (Z.re_fld Z.re_var) (Z.rf_fz (Z.re_op Z.o_sub (Z.re_op Z.o_sub Z.re_var Z.re_var) Z.re_int) Z.rf_nil)) (fun _ _ => Z.r_nil) rfl)) Z.o_ipAdd)) Z.rs_next))))
      (Z.rs_ret Z.re_var)))) h (by decide) (fun ss T h hn => ?_)⟩)
  clear hn
  obtain ⟨s, t, l, rfl, n, kk, F, ds, rfl, rfl, rfl, hk, hn, hd, hl, k1⟩ := h
  obtain ⟨m0, m1, m2, m3⟩ := MF
  walk_at "zd"
  refine Z.for_by (fun i Γ => ∃ o o1 o2, Z.pmB (some o) = false ∧ Z.pmB (some o1) = false ∧ Z.pmB (some o2) = false ∧ Γ = [some (.fz (Z.fgT C_Figures (n + 1) F)), some (.fz (.str ds)), some (.fz (.int kk)), some (.fz (.int (U.gv F (ds.take i) kk 0))), o, o1, o2]) ⟨none, none, none, rfl, rfl, rfl, rfl⟩ ?_ ?_
  · rintro i t Γ ht ⟨o, o1, o2, ho, ho1, ho2, rfl⟩
    obtain ⟨c, hc, rfl⟩ := Z.ens_of ht
    have hi : i < ds.length := (List.getElem?_eq_some_iff.mp hc).1
    have cm := hd.2.1 c (List.mem_of_getElem? hc)
    have dg0 := U.digs_1 cm.1 cm.2
    have vc := U.val_1 cm.1 cm.2
    have sp : ∀ p q r : Z.Tr, ∃ o, Z.pmB (some o) = false ∧ ∃ x, Z.pmB (some x) = false ∧ ∃ y, Z.pmB (some y) = false ∧ some (Z.Sl.fz p) = o ∧ some (Z.Sl.fz q) = x ∧ some (Z.Sl.fz r) = y := fun p q r => ⟨_, rfl, _, rfl, _, rfl, rfl, rfl, rfl⟩
    have fin : ∀ B : Int, U.gv F (List.take (i + 1) ds) kk 0 = B + U.dg F c (kk - i - 1) → (if 0 < ((c - 48 : Nat) : Int) then ∃ (n_1 : Nat) (F_1 : Nat → Int), Z.ivT (n + 1) (U.goF F) = Z.ivT n_1 F_1 ∧ (kk : Int) - i - 1 < n_1 ∧
        ∃ (n_2 : Nat) (F_2 : Nat → Int), Z.ivT (n + 1) (U.stF F) = Z.ivT n_2 F_2 ∧ (kk : Int) - i - 1 < n_2 ∧ U.MulOk ((c - 48 : Nat) - 1) (U.entF F_2 (kk - i - 1)) ∧
        ∃ o, Z.pmB (some o) = false ∧ ∃ x, Z.pmB (some x) = false ∧ ∃ y, Z.pmB (some y) = false ∧ B + U.entF F_1 (kk - i - 1) + ((c - 48 : Nat) - 1) * U.entF F_2 (kk - i - 1) = U.gv F (List.take (i + 1) ds) kk 0 ∧ some (Z.Sl.fz (.int i)) = o ∧ some (Z.Sl.fz (.str [c])) = x ∧ some (Z.Sl.fz (.int (c - 48 : Nat))) = y
        else ∃ o, Z.pmB (some o) = false ∧ ∃ x, Z.pmB (some x) = false ∧ ∃ y, Z.pmB (some y) = false ∧ B = U.gv F (List.take (i + 1) ds) kk 0 ∧ some (Z.Sl.fz (.int i)) = o ∧ some (Z.Sl.fz (.str [c])) = x ∧ some (Z.Sl.fz (.int (c - 48 : Nat))) = y) := by
      intro B hB
      by_cases e : c = 48
      · subst e
        rw [if_neg (by decide)]
        exact ⟨_, rfl, _, rfl, _, rfl, by rw [hB]; show B = B + 0; omega, rfl, rfl, rfl⟩
      · rw [if_pos (by omega)]
        refine ⟨n + 1, _, rfl, by omega, n + 1, _, rfl, by omega, U.mulL ⟨by omega, by omega⟩, _, ?_, _, ?_, _, ?_, ?_, rfl, rfl, rfl⟩
        · rfl
        · rfl
        · rfl
        rw [hB, U.entF_1 (by omega), U.entF_1 (by omega), show (((c - 48 : Nat) : Int) - 1) = (c : Int) - 49 by omega]
        unfold U.dg
        rw [if_neg e]
        omega
    walk_at "zd"
    rcases i with _ | j
    · rw [if_neg (by decide)]
      exact fin _ (U.gv_step0 hc)
    · obtain ⟨d, hdj⟩ : ∃ d, ds[j]? = some d := ⟨ds[j], List.getElem?_eq_getElem (by omega)⟩
      have a1 : atI ds (((j + 1 : Nat) : Int) - 1) = some d := by rw [show ((j + 1 : Nat) : Int) - 1 = (j : Int) by omega]; exact atI_nat hdj
      have st := U.gv_stepS (T := F) (k := kk) hdj hc
      rw [if_pos (by omega)]
      refine ⟨by omega, U.optE_of a1 ?_⟩
      by_cases e48 : d = 48
      · rw [if_neg (by simp [e48])]
        rw [if_pos e48] at st
        exact fin _ (by omega)
      · rw [if_pos e48]
        rw [if_neg e48] at st
        have en := U.entF_nat (F := F) (show j + 1 ≤ kk by omega)
        exact ⟨n + 1, F, rfl, by omega, fin _ (by omega)⟩
  · rintro Γ ⟨o, o1, o2, ho, ho1, ho2, rfl⟩
    rw [Z.ens_len, List.take_length]
    walk_at "zd"

abbrev tp_lesser_makers (C CF : Addr) : Z.TP := Z.tp3 fun s b l P => ∃ (n k : Nat) (ms : List (List Nat)), s = .fz (Z.cnT C CF n) ∧ b = .fz (.tup (ms.map Z.Tr.str)) ∧ l = .fz (.int k) ∧ k ≤ n ∧ n ≤ 100 ∧ ms.length ≤ 3 ∧ (∀ m ∈ ms, U.makerB m = true ∧ m.length ≤ 100) ∧ U.mlen ms ≤ k ∧
  P (.fz (.tup [.int (U.mkR 3 ms k 0), .int ((k : Int) - (U.mlen ms : Int))])) []
abbrev sp_lesser_makers (K : PySem.W.Frag) (C_Counts : Addr) (C_Figures : Addr) : Sp := Z.spT K 3 (tp_lesser_makers C_Counts C_Figures)
theorem sc_lesser_makers : FnScope ["counts", "makers", "left", "found", "at", "maker", "figures"] ["counts", "makers", "left"] (defScope s_lesser_makers) := U.scope_by (by decide +kernel)
theorem ok_lesser_makers {P : Program} {w : World} {K : PySem.W.Frag} {mg : Str → Option Value} {base : Heap} {f : Addr} {fd : FuncData} {C_Counts : Addr} {C_Figures : Addr}
    (F : FunD K "lesser_makers" "lesser_makers" (defArgs s_lesser_makers) (defBody s_lesser_makers) (defScope s_lesser_makers) [] [] f fd) (B : U.BI mg) (MC : U.CtC K C_Counts) (MF : U.FgC K C_Figures) (g_LETTERS_numbering : U.GStr mg "LETTERS_numbering" [97, 98, 99, 100, 101, 102, 103, 104, 105, 106, 107, 108, 109, 110, 111, 112, 113, 114, 115, 116, 117, 118, 119, 120, 121, 122]) (m_Figures_lesser : C8.Met P w K mg base 2 C_Figures "lesser" (sp_Figures_lesser K C_Figures) []) (z_entry : C8.Cal P w K mg base 1 "entry" (sz_entry K) []) :
    FnOk P w K mg base C8.CX0 3 f fd ["counts", "makers", "left"] (sp_lesser_makers K C_Counts C_Figures) := by
  have sc := sc_lesser_makers
  refine F.ok sc (fun vs H Q E h => h.1) (fun cdv A outer s H vs Q E hr h => ⟨_, PSs.nox (pss_cons (ps_set (i := 3) sc.nd rfl (Or.inl rfl) pe_int)
      (pss_cons (ps_for PassesOwn.never rfl (U.pi_enumT (by rfl) B.enumerate_ (pa_cons (pv 1) pa_nil)) (U.pg_tupK (K := K) (n := 2) rfl (pg_tup (by rfl) (pgs_cons (pg_name (i := 4) sc.nd rfl (Or.inl rfl)) (pgs_cons (pg_name (i := 5) sc.nd rfl (Or.inl rfl)) pgs_nil)))) (pss_cons (ps_set (i := 6) sc.nd rfl (Or.inl rfl) (pe_ix U.ix (pe_fld (pv 0) rfl) (pe_op U.sub pe_int (pv 4)) (fun _ _ => rfl)))
      (pss_cons (ps_aug (i := 3) sc.nd rfl (Or.inl rfl) (C8.pe_c z_entry hr (by decide) rfl (pa_cons (pe_fld (pv 0) rfl) (pa_cons (pv 2) pa_nil))) U.ip_add)
      (pss_cons (ps_aug (i := 3) sc.nd rfl (Or.inl rfl) (pe_op U.mul (U.pe_s PySem.F.slot_str_index PySem.F.type_str_index U.m_index (U.pe_gs rfl g_LETTERS_numbering) (pa_cons (pe_ix U.ix (pv 5) pe_int (fun _ _ => rfl)) pa_nil)) (C8.pe_c z_entry hr (by decide) rfl (pa_cons (pe_fld (pv 6) rfl) (pa_cons (pe_op U.sub (pv 2) pe_int) pa_nil)))) U.ip_add)
      (pss_cons (ps_aug (i := 3) sc.nd rfl (Or.inl rfl) (C8.pe_mt m_Figures_lesser hr (by decide) (pv 6) (pa_cons (pe_slice U.sl (pv 5) (po_some pe_int) po_none) (pa_cons (pe_op U.sub (pv 2) pe_int) pa_nil))) U.ip_add)
      (pss_one (ps_aug (i := 2) sc.nd rfl (Or.inl rfl) (pe_op U.add pe_int (pe_callB U.c_len (by rfl) B.len_ U.bt_len (pa_cons (pv 5) pa_nil))) U.ip_sub)))))))
      (pss_one (ps_ret (pe_tup (pa_cons (pv 3) (pa_cons (pv 2) pa_nil))))))), Z.body (N := ["counts", "makers", "left", "found", "at", "maker", "figures"]) (fun H0 W0 pa => (Z.rs_seq (Z.rs_set Z.re_int)
      (Z.rs_seq (Z.rs_for (Z.ri_enumT Z.re_var) (Z.rg_tup (Z.rgs_cons (Z.rgs_cons Z.rgs_nil))) (Z.rs_seq (Z.rs_set (Z.re_op Z.o_ix (Z.re_fld Z.re_var) (Z.re_op Z.o_sub Z.re_int Z.re_var)))
      (Z.rs_seq (Z.rs_aug (Z.re_call (Z.rf_fz (Z.re_fld Z.re_var) (Z.rf_fz Z.re_var Z.rf_nil)) (fun _ _ => Z.r_nil) rfl) Z.o_ipAdd)
      (Z.rs_seq (Z.rs_aug (Z.re_op Z.o_mul (Z.re_bs Z.o_index Z.re_str (Z.ra_cons (Z.re_op Z.o_ix Z.re_var Z.re_int) Z.ra_nil)) (Z.re_call (Z.rf_fz (Z.re_fld Z.re_var) (Z.rf_fz (Z.re_op Z.o_sub Z.re_var Z.re_int) Z.rf_nil)) (fun _ _ => Z.r_nil) rfl)) Z.o_ipAdd)
      (Z.rs_seq (Z.rs_aug (Z.re_meth Z.re_var (Z.rf_fz (Z.re_sl Z.o_sl Z.re_var (Z.ro_part Z.re_int) Z.ro_no) (Z.rf_fz (Z.re_op Z.o_sub Z.re_var Z.re_int) Z.rf_nil)) (fun _ _ => Z.r_nil) rfl) Z.o_ipAdd)
      (Z.rs_aug (Z.re_op Z.o_add Z.re_int (Z.re_cb Z.o_len (Z.ra_cons Z.re_var Z.ra_nil))) Z.o_ipSub))))))
      (Z.rs_ret (Z.re_tup (Z.rf_fz Z.re_var (Z.rf_fz Z.re_var Z.rf_nil))))))) h (by decide) (fun ss T h hn => ?_)⟩)
  clear hn
  obtain ⟨s, b, l, rfl, n, kk, ms, rfl, rfl, rfl, hk, hn, hm3, hms, hl, k1⟩ := h
  obtain ⟨mc, a1, a2, a3, a4, a5, a6, a7, a8⟩ := MC
  obtain ⟨m0, m1, m2, m3⟩ := MF
  walk_at "zd"
  refine Z.for_by (fun i Γ => ∃ o o1 o2, Z.pmB (some o) = false ∧ Z.pmB (some o1) = false ∧ Z.pmB (some o2) = false ∧ Γ = [some (.fz (Z.cnT C_Counts C_Figures n)), some (.fz (.tup (ms.map Z.Tr.str))), some (.fz (.int ((kk - U.mlen (ms.take i) : Nat) : Int))), some (.fz (.int (U.mkR 3 (ms.take i) kk 0))), o, o1, o2]) ⟨none, none, none, rfl, rfl, rfl, rfl⟩ ?_ ?_
  · rintro i t Γ ht ⟨o, o1, o2, ho, ho1, ho2, rfl⟩
    obtain ⟨m, hm, rfl⟩ := Z.ent_of ht
    have hi : i < ms.length := (List.getElem?_eq_some_iff.mp hm).1
    have tl : ∀ m ∈ ms, m.tail ≠ [] := fun m h => by
      obtain ⟨c, l, rfl, hc, hf⟩ := U.maker_at (hms m h).1
      exact (U.figs_ok hf).1
    obtain ⟨st1, st2⟩ := U.mk_step (k := 3) (n := kk) tl hm
    have lt := U.mlen_take ms (i + 1)
    have hmm := hms m (List.mem_of_getElem? hm)
    obtain ⟨c, l, rfl, hc, hf⟩ := U.maker_at hmm.1
    have fo := U.figs_ok hf
    have ix := U.idx_abc c hc.1 hc.2
    have ll : (c :: l).length = l.length + 1 := rfl
    obtain ⟨N, hN⟩ : ∃ N, N = kk - U.mlen (ms.take i) := ⟨_, rfl⟩
    obtain ⟨fg, hfa⟩ : ∃ fg, atI [Z.fgT C_Figures (n + 1) (U.endF 0), Z.fgT C_Figures (n + 1) (U.endF 1), Z.fgT C_Figures (n + 1) (U.endF 2)] (2 - (i : Int)) = some (Z.fgT C_Figures (n + 1) (U.endF (3 - i - 1))) := by
      rcases i with _ | _ | _ | i
      · exact ⟨0, rfl⟩
      · exact ⟨0, rfl⟩
      · exact ⟨0, rfl⟩
      · omega
    walk_at "zd"
    rw [← hN] at st1 ⊢
    have q2 : U.entF U.yearF ((N : Nat) : Int) = U.yearF N := by have := U.entF_nat (F := U.yearF) (Nat.zero_le N); simpa using this
    have q3 : U.entF (U.goF (U.endF (3 - i - 1))) ((N : Int) - 2) = U.goF (U.endF (3 - i - 1)) (N - 2) := U.entF_nat (k := 2) (by omega)
    have c97 : ((c - 97 : Nat) : Int) = (c : Int) - 97 := by omega
    refine ⟨n + 1, _, rfl, by omega, by omega, n + 1, _, rfl, by omega, U.mulL ⟨by omega, by omega⟩, by omega, n, N - 2, _, rfl, by omega, by omega, hn, by omega, by omega, some (.fz _), rfl, some (.fz _), rfl, some (.fz _), rfl, by omega, ?_, rfl, rfl, rfl⟩
    rw [q2, q3, c97]
    show _ = _ + (U.yearF N + ((c : Nat) - 97 : Int) * U.goF (U.endF (3 - i - 1)) (N - 2) + U.gv (U.endF (3 - i - 1)) l (N - 2) 0)
    omega
  · rintro Γ ⟨o, o1, o2, ho, ho1, ho2, rfl⟩
    rw [Z.ent_len, List.take_length, show ((kk - U.mlen ms : Nat) : Int) = (kk : Int) - (U.mlen ms : Int) by omega]
    walk_at "zd"

abbrev tp_lesser_numbers (C CF : Addr) : Z.TP := Z.tp3 fun s z l P => ∃ (n k : Nat) (m : Int), s = .fz (Z.cnT C CF n) ∧ z = .fz (.int m) ∧ l = .fz (.int k) ∧ k ≤ n ∧ n ≤ 100 ∧ 1 ≤ m ∧ m ≤ 9999 ∧ P (.fz (.int (U.nuB m k))) []
abbrev sp_lesser_numbers (K : PySem.W.Frag) (C_Counts : Addr) (C_Figures : Addr) : Sp := Z.spT K 3 (tp_lesser_numbers C_Counts C_Figures)
theorem sc_lesser_numbers : FnScope ["counts", "number", "left", "found", "first", "size", "many"] ["counts", "number", "left"] (defScope s_lesser_numbers) := U.scope_by (by decide +kernel)
theorem ok_lesser_numbers {P : Program} {w : World} {K : PySem.W.Frag} {mg : Str → Option Value} {base : Heap} {f : Addr} {fd : FuncData} {C_Counts : Addr} {C_Figures : Addr}
    (F : FunD K "lesser_numbers" "lesser_numbers" (defArgs s_lesser_numbers) (defBody s_lesser_numbers) (defScope s_lesser_numbers) [] [] f fd) (B : U.BI mg) (MC : U.CtC K C_Counts) (z_entry : C8.Cal P w K mg base 1 "entry" (sz_entry K) []) :
    FnOk P w K mg base C8.CX0 2 f fd ["counts", "number", "left"] (sp_lesser_numbers K C_Counts C_Figures) := by
  have sc := sc_lesser_numbers
  refine F.ok sc (fun vs H Q E h => h.1) (fun cdv A outer s H vs Q E hr h => ⟨_, PSs.nox (pss_cons (ps_set (i := 3) sc.nd rfl (Or.inl rfl) pe_int)
      (pss_cons (ps_set (i := 4) sc.nd rfl (Or.inl rfl) pe_int)
      (pss_cons (ps_for PassesOwn.never rfl (pi_range2 rfl B.range_ (pa_cons pe_int (pa_cons pe_int pa_nil))) (pg_name (i := 5) sc.nd rfl (Or.inl rfl)) (pss_cons (ps_set (i := 6) sc.nd rfl (Or.inl rfl) (pe_callB (U.c_max rfl) (by rfl) B.max_ U.bt_max (pa_cons pe_int (pa_cons (pe_op U.sub (pe_callB (U.c_min rfl) (by rfl) B.min_ U.bt_min (pa_cons (pv 1) (pa_cons (pe_op U.mul pe_int (pv 4)) pa_nil))) (pv 4)) pa_nil))))
      (pss_cons (ps_aug (i := 3) sc.nd rfl (Or.inl rfl) (pe_op U.mul (pv 6) (C8.pe_c z_entry hr (by decide) rfl (pa_cons (pe_fld (pv 0) rfl) (pa_cons (pe_op U.sub (pv 2) (pv 5)) pa_nil)))) U.ip_add)
      (pss_one (ps_set (i := 4) sc.nd rfl (Or.inl rfl) (pe_op U.mul pe_int (pv 4)))))))
      (pss_one (ps_ret (pv 3)))))), Z.body (N := ["counts", "number", "left", "found", "first", "size", "many"]) (fun H0 W0 pa => (Z.rs_seq (Z.rs_set Z.re_int)
      (Z.rs_seq (Z.rs_set Z.re_int)
      (Z.rs_seq (Z.rs_for (Z.ri_rng2 Z.re_int Z.re_int) Z.rg_name (Z.rs_seq (Z.rs_set (Z.re_cb Z.o_max (Z.ra_cons Z.re_int (Z.ra_cons (Z.re_op Z.o_sub (Z.re_cb Z.o_min (Z.ra_cons Z.re_var (Z.ra_cons (Z.re_op Z.o_mul Z.re_int Z.re_var) Z.ra_nil))) Z.re_var) Z.ra_nil))))
      (Z.rs_seq (Z.rs_aug (Z.re_op Z.o_mul Z.re_var (Z.re_call (Z.rf_fz (Z.re_fld Z.re_var) (Z.rf_fz (Z.re_op Z.o_sub Z.re_var Z.re_var) Z.rf_nil)) (fun _ _ => Z.r_nil) rfl)) Z.o_ipAdd)
      (Z.rs_set (Z.re_op Z.o_mul Z.re_int Z.re_var)))))
      (Z.rs_ret Z.re_var))))) h (by decide) (fun ss T h hn => ?_)⟩)
  clear hn
  obtain ⟨s, z, l, rfl, n, kk, m, rfl, rfl, rfl, hk, hn, hm1, hm2, k1⟩ := h
  obtain ⟨mc, a1, a2, a3, a4, a5, a6, a7, a8⟩ := MC
  rw [← U.nuS_eq] at k1
  walk_at "zd"
  refine Z.for_by (fun i Γ => ∃ o o1, Z.pmB (some o) = false ∧ Z.pmB (some o1) = false ∧ Γ = [some (.fz (Z.cnT C_Counts C_Figures n)), some (.fz (.int m)), some (.fz (.int kk)), some (.fz (.int (U.nuS m kk i))), some (.fz (.int (10 ^ i))), o, o1]) ⟨none, none, rfl, rfl, rfl⟩ ?_ ?_
  · rintro i t Γ ht ⟨o, o1, ho, ho1, rfl⟩
    obtain ⟨hi, rfl⟩ := Z.rg_of ht
    walk_at "zd"
    exact ⟨U.mulL (by decide), n + 1, _, rfl, by omega, U.mulL ⟨by omega, by omega⟩, U.mulL (by decide), some (.fz _), rfl, some (.fz _), rfl, rfl, by rw [Int.pow_succ, Int.mul_comm], rfl, rfl⟩
  · rintro Γ ⟨o, o1, ho, ho1, rfl⟩
    walk_at "zd"
    exact k1

abbrev sp_Counts_begun (C CF : Addr) (d : Nat) : Sp := U.sp3 fun s z l H Q _ => ∃ (x : Addr) (n e : Nat) (k : Int), s = .ref x ∧ z = .int (3 - (e : Int)) ∧ l = .int k ∧ e ≤ d ∧ k ≤ n ∧ n ≤ 100 ∧ U.CnA C CF H x n ∧ Q (.int (U.begI e k)) H
theorem sc_Counts_begun : FnScope ["self", "size", "left"] ["self", "size", "left"] (defScope s_Counts_begun) := U.scope_by (by decide +kernel)
theorem ok_Counts_begun_d0 {P : Program} {w : World} {K : PySem.W.Frag} {mg : Str → Option Value} {base : Heap} {f : Addr} {fd : FuncData} {C_Counts : Addr} {C_Figures : Addr}
    (F : FunD K "begun" "Counts.begun" (defArgs s_Counts_begun) (defBody s_Counts_begun) (defScope s_Counts_begun) [] [] f fd) (B : U.BI mg) (MC : U.CtC K C_Counts) (c_entry : C8.Cal P w K mg base 1 "entry" (sp_entry) []) (mrec : C8.Met P w K mg base 1 C_Counts "begun" (U.spNo) []) :
    FnOk P w K mg base C8.CX0 2 f fd ["self", "size", "left"] (sp_Counts_begun C_Counts C_Figures 0) := by
  have sc := sc_Counts_begun
  refine F.ok sc (fun vs H Q E h => ?_) (fun cdv A outer s H vs Q E hr h => ⟨_, PSs.nox (pss_cons (ps_if (pt_cmpR U.eq (pv 1) pe_int (nomark _)) (pss_one (ps_ret (C8.pe_c c_entry hr (by decide) rfl (pa_cons (pe_fld (pv 0) rfl) (pa_cons (pv 2) pa_nil))))) pss_nil)
      (pss_one (ps_ret (pe_op U.add (C8.pe_c c_entry hr (by decide) rfl (pa_cons (pe_fld (pv 0) rfl) (pa_cons (pv 2) pa_nil))) (pe_op U.mul pe_int (C8.pe_mt mrec hr (by decide) (pv 0) (pa_cons (pe_op U.add (pv 1) pe_int) (pa_cons (pe_op U.sub (pv 2) pe_int) pa_nil)))))))), ?_⟩)
  · obtain ⟨_, _, _, rfl, _⟩ := h; rfl
  · obtain ⟨s', z, l, rfl, x, n, e, kk, rfl, rfl, rfl, hd, hk, hn, G, k⟩ := h
    obtain ⟨mc, a1, a2, a3, a4, a5, a6, a7, a8⟩ := MC
    have G' := G
    obtain ⟨c1, c2, c3, c4, c5, c6, c7, c8, e1, e2, e3, f0, f1', f2, G'⟩ := G'
    obtain ⟨dx, g1⟩ := G'.x
    have g2 := G'.word
    walk_at "rd"
    rcases e with _ | e
    · rw [if_pos (by omega)]
      exact ⟨n + 1, _, rfl, by omega, k⟩
    · first
      | exact absurd hd (by omega)
      | rw [if_neg (by omega)]
        rw [U.begI_s] at k
        exact ⟨n + 1, _, rfl, by omega, rfl, n, e, by omega, by omega, by omega, hn, G, U.mulL (by decide), k⟩
theorem ok_Counts_begun_d1 {P : Program} {w : World} {K : PySem.W.Frag} {mg : Str → Option Value} {base : Heap} {f : Addr} {fd : FuncData} {C_Counts : Addr} {C_Figures : Addr}
    (F : FunD K "begun" "Counts.begun" (defArgs s_Counts_begun) (defBody s_Counts_begun) (defScope s_Counts_begun) [] [] f fd) (B : U.BI mg) (MC : U.CtC K C_Counts) (c_entry : C8.Cal P w K mg base 1 "entry" (sp_entry) []) (mrec : C8.Met P w K mg base 2 C_Counts "begun" (sp_Counts_begun C_Counts C_Figures 0) []) :
    FnOk P w K mg base C8.CX0 3 f fd ["self", "size", "left"] (sp_Counts_begun C_Counts C_Figures 1) := by
  have sc := sc_Counts_begun
  refine F.ok sc (fun vs H Q E h => ?_) (fun cdv A outer s H vs Q E hr h => ⟨_, PSs.nox (pss_cons (ps_if (pt_cmpR U.eq (pv 1) pe_int (nomark _)) (pss_one (ps_ret (C8.pe_c c_entry hr (by decide) rfl (pa_cons (pe_fld (pv 0) rfl) (pa_cons (pv 2) pa_nil))))) pss_nil)
      (pss_one (ps_ret (pe_op U.add (C8.pe_c c_entry hr (by decide) rfl (pa_cons (pe_fld (pv 0) rfl) (pa_cons (pv 2) pa_nil))) (pe_op U.mul pe_int (C8.pe_mt mrec hr (by decide) (pv 0) (pa_cons (pe_op U.add (pv 1) pe_int) (pa_cons (pe_op U.sub (pv 2) pe_int) pa_nil)))))))), ?_⟩)
  · obtain ⟨_, _, _, rfl, _⟩ := h; rfl
  · obtain ⟨s', z, l, rfl, x, n, e, kk, rfl, rfl, rfl, hd, hk, hn, G, k⟩ := h
    obtain ⟨mc, a1, a2, a3, a4, a5, a6, a7, a8⟩ := MC
    have G' := G
    obtain ⟨c1, c2, c3, c4, c5, c6, c7, c8, e1, e2, e3, f0, f1', f2, G'⟩ := G'
    obtain ⟨dx, g1⟩ := G'.x
    have g2 := G'.word
    walk_at "rd"
    rcases e with _ | e
    · rw [if_pos (by omega)]
      exact ⟨n + 1, _, rfl, by omega, k⟩
    · first
      | exact absurd hd (by omega)
      | rw [if_neg (by omega)]
        rw [U.begI_s] at k
        exact ⟨n + 1, _, rfl, by omega, rfl, n, e, by omega, by omega, by omega, hn, G, U.mulL (by decide), k⟩
theorem ok_Counts_begun_d2 {P : Program} {w : World} {K : PySem.W.Frag} {mg : Str → Option Value} {base : Heap} {f : Addr} {fd : FuncData} {C_Counts : Addr} {C_Figures : Addr}
    (F : FunD K "begun" "Counts.begun" (defArgs s_Counts_begun) (defBody s_Counts_begun) (defScope s_Counts_begun) [] [] f fd) (B : U.BI mg) (MC : U.CtC K C_Counts) (c_entry : C8.Cal P w K mg base 1 "entry" (sp_entry) []) (mrec : C8.Met P w K mg base 3 C_Counts "begun" (sp_Counts_begun C_Counts C_Figures 1) []) :
    FnOk P w K mg base C8.CX0 4 f fd ["self", "size", "left"] (sp_Counts_begun C_Counts C_Figures 2) := by
  have sc := sc_Counts_begun
  refine F.ok sc (fun vs H Q E h => ?_) (fun cdv A outer s H vs Q E hr h => ⟨_, PSs.nox (pss_cons (ps_if (pt_cmpR U.eq (pv 1) pe_int (nomark _)) (pss_one (ps_ret (C8.pe_c c_entry hr (by decide) rfl (pa_cons (pe_fld (pv 0) rfl) (pa_cons (pv 2) pa_nil))))) pss_nil)
      (pss_one (ps_ret (pe_op U.add (C8.pe_c c_entry hr (by decide) rfl (pa_cons (pe_fld (pv 0) rfl) (pa_cons (pv 2) pa_nil))) (pe_op U.mul pe_int (C8.pe_mt mrec hr (by decide) (pv 0) (pa_cons (pe_op U.add (pv 1) pe_int) (pa_cons (pe_op U.sub (pv 2) pe_int) pa_nil)))))))), ?_⟩)
  · obtain ⟨_, _, _, rfl, _⟩ := h; rfl
  · obtain ⟨s', z, l, rfl, x, n, e, kk, rfl, rfl, rfl, hd, hk, hn, G, k⟩ := h
    obtain ⟨mc, a1, a2, a3, a4, a5, a6, a7, a8⟩ := MC
    have G' := G
    obtain ⟨c1, c2, c3, c4, c5, c6, c7, c8, e1, e2, e3, f0, f1', f2, G'⟩ := G'
    obtain ⟨dx, g1⟩ := G'.x
    have g2 := G'.word
    walk_at "rd"
    rcases e with _ | e
    · rw [if_pos (by omega)]
      exact ⟨n + 1, _, rfl, by omega, k⟩
    · first
      | exact absurd hd (by omega)
      | rw [if_neg (by omega)]
        rw [U.begI_s] at k
        exact ⟨n + 1, _, rfl, by omega, rfl, n, e, by omega, by omega, by omega, hn, G, U.mulL (by decide), k⟩
abbrev tp_Counts_begun (C CF : Addr) : Z.TP := Z.tp3 fun s z l P => ∃ (n e : Nat) (k : Int), s = .fz (Z.cnT C CF n) ∧ z = .fz (.int (3 - (e : Int))) ∧ l = .fz (.int k) ∧ e ≤ 2 ∧ k ≤ n ∧ n ≤ 100 ∧ P (.fz (.int (U.begI e k))) []
abbrev sz_Counts_begun (K : PySem.W.Frag) (C_Counts : Addr) (C_Figures : Addr) : Sp := Z.spT K 3 (tp_Counts_begun C_Counts C_Figures)
theorem br_Counts_begun {K : PySem.W.Frag} {C_Counts : Addr} {C_Figures : Addr} (vs : List V) (H : Hp) (Q : VK) (E : XK) (h : sz_Counts_begun K C_Counts C_Figures vs H Q E) : (sp_Counts_begun C_Counts C_Figures 2) vs H Q E := by
  obtain ⟨_, W, ss, P, d, ha, ⟨s, z, l, rfl, n, e, k, rfl, rfl, rfl, he, hk, hn, p⟩, q⟩ := h
  obtain ⟨v, r, rfl, h1, ha⟩ := Z.args_fz ha
  obtain ⟨w, r, rfl, h2, ha⟩ := Z.args_fz ha
  obtain ⟨u, r, rfl, h3, ha⟩ := Z.args_fz ha
  cases Z.args_nil ha
  rw [Z.rp_int] at h2 h3
  subst h2 h3
  obtain ⟨a, rfl, G⟩ := Z.cn_rp h1
  refine ⟨_, _, _, rfl, a, n, e, k, rfl, rfl, rfl, he, hk, hn, G, q _ _ _ H W p .refl d (Z.outs_fz (Z.outs_fz (Z.outs_fz Z.outs_nil))) ?_⟩
  show Z.Rp K W H (.int _) _
  rw [Z.rp_int]

abbrev tp_lesser_letters (C CF : Addr) : Z.TP := Z.tp3 fun s z l P => ∃ (n k : Nat) (ds : List Nat), s = .fz (Z.cnT C CF n) ∧ z = .fz (.str ds) ∧ l = .fz (.int k) ∧ k ≤ n ∧ n ≤ 100 ∧ U.LetOk ds ∧ ds.length ≤ 3 ∧ ds.length ≤ k ∧ P (.fz (.int (U.leV 2 ds k 0))) []
abbrev sp_lesser_letters (K : PySem.W.Frag) (C_Counts : Addr) (C_Figures : Addr) : Sp := Z.spT K 3 (tp_lesser_letters C_Counts C_Figures)
theorem sc_lesser_letters : FnScope ["counts", "letters", "left", "found", "at", "sign"] ["counts", "letters", "left"] (defScope s_lesser_letters) := U.scope_by (by decide +kernel)
theorem ok_lesser_letters {P : Program} {w : World} {K : PySem.W.Frag} {mg : Str → Option Value} {base : Heap} {f : Addr} {fd : FuncData} {C_Counts : Addr} {C_Figures : Addr}
    (F : FunD K "lesser_letters" "lesser_letters" (defArgs s_lesser_letters) (defBody s_lesser_letters) (defScope s_lesser_letters) [] [] f fd) (B : U.BI mg) (MC : U.CtC K C_Counts) (g_LETTERS_numbering : U.GStr mg "LETTERS_numbering" [97, 98, 99, 100, 101, 102, 103, 104, 105, 106, 107, 108, 109, 110, 111, 112, 113, 114, 115, 116, 117, 118, 119, 120, 121, 122]) (mz_Counts_begun : C8.Met P w K mg base 4 C_Counts "begun" (sz_Counts_begun K C_Counts C_Figures) []) (z_entry : C8.Cal P w K mg base 1 "entry" (sz_entry K) []) :
    FnOk P w K mg base C8.CX0 5 f fd ["counts", "letters", "left"] (sp_lesser_letters K C_Counts C_Figures) := by
  have sc := sc_lesser_letters
  refine F.ok sc (fun vs H Q E h => h.1) (fun cdv A outer s H vs Q E hr h => ⟨_, PSs.nox (pss_cons (ps_set (i := 3) sc.nd rfl (Or.inl rfl) pe_int)
      (pss_cons (ps_for PassesOwn.never rfl (U.pi_enumS (by rfl) B.enumerate_ (pa_cons (pv 1) pa_nil)) (U.pg_tupK (K := K) (n := 2) rfl (pg_tup (by rfl) (pgs_cons (pg_name (i := 4) sc.nd rfl (Or.inl rfl)) (pgs_cons (pg_name (i := 5) sc.nd rfl (Or.inl rfl)) pgs_nil)))) (pss_cons (ps_if (pt_cmpR U.gt (pv 4) pe_int (nomark _)) (pss_one (ps_aug (i := 3) sc.nd rfl (Or.inl rfl) (C8.pe_c z_entry hr (by decide) rfl (pa_cons (pe_fld (pv 0) rfl) (pa_cons (pe_op U.sub (pv 2) (pv 4)) pa_nil))) U.ip_add)) pss_nil)
      (pss_one (ps_aug (i := 3) sc.nd rfl (Or.inl rfl) (pe_op U.mul (U.pe_s PySem.F.slot_str_index PySem.F.type_str_index U.m_index (U.pe_gs rfl g_LETTERS_numbering) (pa_cons (pv 5) pa_nil)) (C8.pe_mt mz_Counts_begun hr (by decide) (pv 0) (pa_cons (pe_op U.add (pv 4) pe_int) (pa_cons (pe_op U.sub (pe_op U.sub (pv 2) (pv 4)) pe_int) pa_nil)))) U.ip_add))))
      (pss_one (ps_ret (pv 3))))), Z.body (N := ["counts", "letters", "left", "found", "at", "sign"]) (fun H0 W0 pa => (Z.rs_seq (Z.rs_set Z.re_int)
      (Z.rs_seq (Z.rs_for (Z.ri_enumS Z.re_var) (Z.rg_tup (Z.rgs_cons (Z.rgs_cons Z.rgs_nil))) (Z.rs_seq (Z.rs_if (Z.rt_test (Z.re_op Z.o_gt Z.re_var Z.re_int)) (Z.rs_aug (Z.re_call (Z.rf_fz (Z.re_fld Z.re_var) (Z.rf_fz (Z.re_op Z.o_sub Z.re_var Z.re_var) Z.rf_nil)) (fun _ _ => Z.r_nil) rfl) Z.o_ipAdd) Z.rs_next)
      (Z.rs_aug (Z.re_op Z.o_mul (Z.re_bs Z.o_index Z.re_str (Z.ra_cons Z.re_var Z.ra_nil)) (Z.re_meth Z.re_var (Z.rf_fz (Z.re_op Z.o_add Z.re_var Z.re_int) (Z.rf_fz (Z.re_op Z.o_sub (Z.re_op Z.o_sub Z.re_var Z.re_var) Z.re_int) Z.rf_nil)) (fun _ _ => Z.r_nil) rfl)) Z.o_ipAdd)))
      (Z.rs_ret Z.re_var)))) h (by decide) (fun ss T h hn => ?_)⟩)
  clear hn
  obtain ⟨s, z, l, rfl, n, kk, ds, rfl, rfl, rfl, hk, hn, hd, hl3, hl, k1⟩ := h
  obtain ⟨mc, a1, a2, a3, a4, a5, a6, a7, a8⟩ := MC
  walk_at "zd"
  refine Z.for_by (fun i Γ => ∃ o o1, Z.pmB (some o) = false ∧ Z.pmB (some o1) = false ∧ Γ = [some (.fz (Z.cnT C_Counts C_Figures n)), some (.fz (.str ds)), some (.fz (.int kk)), some (.fz (.int (U.leV 2 (ds.take i) kk 0))), o, o1]) ⟨none, none, rfl, rfl, rfl⟩ ?_ ?_
  · rintro i t Γ ht ⟨o, o1, ho, ho1, rfl⟩
    obtain ⟨c, hc, rfl⟩ := Z.ens_of ht
    have hi : i < ds.length := (List.getElem?_eq_some_iff.mp hc).1
    have cm := hd.2 c (List.mem_of_getElem? hc)
    have ix := U.idx_abc c cm.1 cm.2
    have st := U.le_step (k := 2) (n := kk) hc
    have bi := U.begI_nat (e := 2 - i) (k := kk) (i := i) (by omega)
    have c97 : ((c - 97 : Nat) : Int) = (c : Int) - 97 := by omega
    walk_at "zd"
    by_cases e0 : i = 0
    · subst e0
      rw [if_neg (by decide)]
      exact ⟨n, rfl, 2 - 0, by omega, by omega, by omega, hn, U.mulL ⟨by omega, by omega⟩, some (.fz _), rfl, some (.fz _), rfl, by rw [bi, if_pos rfl, Int.add_zero], rfl, rfl⟩
    · rw [if_pos (by omega)]
      exact ⟨n + 1, _, rfl, by omega, n, rfl, 2 - i, by omega, by omega, by omega, hn, U.mulL ⟨by omega, by omega⟩, some (.fz _), rfl, some (.fz _), rfl, by rw [bi, U.entF_nat (by omega), if_neg e0], rfl, rfl⟩
  · rintro Γ ⟨o, o1, ho, ho1, rfl⟩
    rw [Z.ens_len, List.take_length]
    walk_at "zd"

abbrev tp_Mark_parts (C : Addr) : Z.TP := Z.tp1 fun a P => ∃ t : U.Pt, a = .fz (Z.mkT C t) ∧ P (.fz (.tup [.str t.l, .int t.n, .str t.p, .tup (t.ms.map Z.Tr.str), Z.ovT t.y, Z.ovT t.c])) []
abbrev sp_Mark_parts (K : PySem.W.Frag) (C_Mark : Addr) : Sp := Z.spT K 1 (tp_Mark_parts C_Mark)
theorem sc_Mark_parts : FnScope ["self"] ["self"] (defScope s_Mark_parts) := U.scope_by (by decide +kernel)
theorem ok_Mark_parts {P : Program} {w : World} {K : PySem.W.Frag} {mg : Str → Option Value} {base : Heap} {f : Addr} {fd : FuncData} {C_Mark : Addr}
    (F : FunD K "parts" "Mark.parts" (defArgs s_Mark_parts) (defBody s_Mark_parts) (defScope s_Mark_parts) [] [] f fd) (B : U.BI mg) (M : U.MkC K C_Mark) :
    FnOk P w K mg base C8.CX0 1 f fd ["self"] (sp_Mark_parts K C_Mark) := by
  have sc := sc_Mark_parts
  refine F.ok sc (fun vs H Q E h => h.1) (fun cdv A outer s H vs Q E hr h => ⟨_, PSs.nox (pss_one (ps_ret (pe_tup (pa_cons (pe_fld (pv 0) rfl) (pa_cons (pe_fld (pv 0) rfl) (pa_cons (pe_fld (pv 0) rfl) (pa_cons (pe_fld (pv 0) rfl) (pa_cons (pe_fld (pv 0) rfl) (pa_cons (pe_fld (pv 0) rfl) pa_nil))))))))), Z.body (N := ["self"]) (fun H0 W0 pa => (Z.rs_ret (Z.re_tup (Z.rf_fz (Z.re_fld Z.re_var) (Z.rf_fz (Z.re_fld Z.re_var) (Z.rf_fz (Z.re_fld Z.re_var) (Z.rf_fz (Z.re_fld Z.re_var) (Z.rf_fz (Z.re_fld Z.re_var) (Z.rf_fz (Z.re_fld Z.re_var) Z.rf_nil))))))))) h (by decide) (fun ss T h hn => ?_)⟩)
  clear hn
  obtain ⟨a, rfl, t, rfl, k1⟩ := h
  obtain ⟨m0, m1, m2, m3, m4, m5, m6, m7⟩ := M
  walk_at "zd"

abbrev tp_rank (C CF CM : Addr) : Z.TP := Z.tp3 fun s m l P => ∃ (n k : Nat) (t : U.Pt), s = .fz (Z.cnT C CF n) ∧ m = .fz (Z.mkT CM t) ∧ l = .fz (.int k) ∧ t.Ok ∧ k ≤ n ∧ n ≤ 60 ∧ t.slen ≤ k ∧ P (.fz (.int (U.rank t k))) []
abbrev sp_rank (K : PySem.W.Frag) (C_Counts : Addr) (C_Figures : Addr) (C_Mark : Addr) : Sp := Z.spT K 3 (tp_rank C_Counts C_Figures C_Mark)
theorem sc_rank : FnScope ["counts", "mark", "many", "letters", "number", "points", "makers", "year", "copy_number", "found", "left", "more"] ["counts", "mark", "many"] (defScope s_rank) := U.scope_by (by decide +kernel)
theorem ok_rank {P : Program} {w : World} {K : PySem.W.Frag} {mg : Str → Option Value} {base : Heap} {f : Addr} {fd : FuncData} {C_Counts : Addr} {C_Figures : Addr} {C_Mark : Addr}
    (F : FunD K "rank" "rank" (defArgs s_rank) (defBody s_rank) (defScope s_rank) [] [] f fd) (B : U.BI mg) (MC : U.CtC K C_Counts) (MF : U.FgC K C_Figures) (c_lesser_ends : C8.Cal P w K mg base 2 "lesser_ends" (sp_lesser_ends K C_Counts C_Figures) []) (c_lesser_letters : C8.Cal P w K mg base 5 "lesser_letters" (sp_lesser_letters K C_Counts C_Figures) []) (c_lesser_makers : C8.Cal P w K mg base 3 "lesser_makers" (sp_lesser_makers K C_Counts C_Figures) []) (c_lesser_numbers : C8.Cal P w K mg base 2 "lesser_numbers" (sp_lesser_numbers K C_Counts C_Figures) []) (m_Figures_lesser : C8.Met P w K mg base 2 C_Figures "lesser" (sp_Figures_lesser K C_Figures) []) (m_Mark_parts : C8.Met P w K mg base 1 C_Mark "parts" (sp_Mark_parts K C_Mark) []) (z_entry : C8.Cal P w K mg base 1 "entry" (sz_entry K) []) :
    FnOk P w K mg base C8.CX0 6 f fd ["counts", "mark", "many"] (sp_rank K C_Counts C_Figures C_Mark) := by
  have sc := sc_rank
  refine F.ok sc (fun vs H Q E h => h.1) (fun cdv A outer s H vs Q E hr h => ⟨_, PSs.nox (pss_cons (ps_asg (C8.pe_mt0 m_Mark_parts hr (by decide) (pv 1)) (U.pg_tupK (K := K) (n := 6) rfl (pg_tup (by rfl) (pgs_cons (pg_name (i := 3) sc.nd rfl (Or.inl rfl)) (pgs_cons (pg_name (i := 4) sc.nd rfl (Or.inl rfl)) (pgs_cons (pg_name (i := 5) sc.nd rfl (Or.inl rfl)) (pgs_cons (pg_name (i := 6) sc.nd rfl (Or.inl rfl)) (pgs_cons (pg_name (i := 7) sc.nd rfl (Or.inl rfl)) (pgs_cons (pg_name (i := 8) sc.nd rfl (Or.inl rfl)) pgs_nil)))))))))
      (pss_cons (ps_set (i := 9) sc.nd rfl (Or.inl rfl) (C8.pe_c c_lesser_letters hr (by decide) rfl (pa_cons (pv 0) (pa_cons (pv 3) (pa_cons (pv 2) pa_nil)))))
      (pss_cons (ps_set (i := 10) sc.nd rfl (Or.inl rfl) (pe_op U.sub (pv 2) (pe_callB U.c_len (by rfl) B.len_ U.bt_len (pa_cons (pv 3) pa_nil))))
      (pss_cons (ps_aug (i := 9) sc.nd rfl (Or.inl rfl) (C8.pe_c c_lesser_numbers hr (by decide) rfl (pa_cons (pv 0) (pa_cons (pv 4) (pa_cons (pv 10) pa_nil)))) U.ip_add)
      (pss_cons (ps_aug (i := 10) sc.nd rfl (Or.inl rfl) (pe_callB U.c_len (by rfl) B.len_ U.bt_len (pa_cons (pe_callTy U.c_str (by rfl) B.str_ U.bt_str (pa_cons (pv 4) pa_nil)) pa_nil)) U.ip_sub)
      (pss_cons (ps_if (pt_cmpR U.ne (pv 5) (U.pe_s' [] (by decide +kernel)) (nomark _)) (pss_cons (ps_aug (i := 9) sc.nd rfl (Or.inl rfl) (C8.pe_c z_entry hr (by decide) rfl (pa_cons (pe_ix U.ix (pe_fld (pv 0) rfl) pe_int (fun _ _ => rfl)) (pa_cons (pv 10) pa_nil))) U.ip_add)
      (pss_cons (ps_aug (i := 9) sc.nd rfl (Or.inl rfl) (C8.pe_mt m_Figures_lesser hr (by decide) (pe_fld (pv 0) rfl) (pa_cons (pv 5) (pa_cons (pe_op U.sub (pv 10) pe_int) pa_nil))) U.ip_add)
      (pss_one (ps_aug (i := 10) sc.nd rfl (Or.inl rfl) (pe_op U.add pe_int (pe_callB U.c_len (by rfl) B.len_ U.bt_len (pa_cons (pv 5) pa_nil))) U.ip_sub)))) pss_nil)
      (pss_cons (ps_asg (C8.pe_c c_lesser_makers hr (by decide) rfl (pa_cons (pv 0) (pa_cons (pv 6) (pa_cons (pv 10) pa_nil)))) (U.pg_tupK (K := K) (n := 2) rfl (pg_tup (by rfl) (pgs_cons (pg_name (i := 11) sc.nd rfl (Or.inl rfl)) (pgs_cons (pg_name (i := 10) sc.nd rfl (Or.inl rfl)) pgs_nil)))))
      (pss_one (ps_ret (pe_op U.add (pe_op U.add (pv 9) (pv 11)) (C8.pe_c c_lesser_ends hr (by decide) rfl (pa_cons (pv 0) (pa_cons (pv 7) (pa_cons (pv 8) (pa_cons (pv 10) pa_nil))))))))))))))), Z.body (N := ["counts", "mark", "many", "letters", "number", "points", "makers", "year", "copy_number", "found", "left", "more"]) (fun H0 W0 pa => (Z.rs_seq (Z.rs_asg (Z.re_meth Z.re_var Z.rf_nil (fun _ _ => Z.r_nil) rfl) (Z.rg_tup (Z.rgs_cons (Z.rgs_cons (Z.rgs_cons (Z.rgs_cons (Z.rgs_cons (Z.rgs_cons Z.rgs_nil))))))))
      (Z.rs_seq (Z.rs_set (Z.re_call (Z.rf_fz Z.re_var (Z.rf_fz Z.re_var (Z.rf_fz Z.re_var Z.rf_nil))) (fun _ _ => Z.r_nil) rfl))
      (Z.rs_seq (Z.rs_set (Z.re_op Z.o_sub Z.re_var (Z.re_cb Z.o_len (Z.ra_cons Z.re_var Z.ra_nil))))
      (Z.rs_seq (Z.rs_aug (Z.re_call (Z.rf_fz Z.re_var (Z.rf_fz Z.re_var (Z.rf_fz Z.re_var Z.rf_nil))) (fun _ _ => Z.r_nil) rfl) Z.o_ipAdd)
      (Z.rs_seq (Z.rs_aug (Z.re_cb Z.o_len (Z.ra_cons (Z.re_cb Z.o_str (Z.ra_cons Z.re_var Z.ra_nil)) Z.ra_nil)) Z.o_ipSub)
      (Z.rs_seq (Z.rs_if (Z.rt_test (Z.re_op Z.o_ne Z.re_var Z.re_str)) (Z.rs_seq (Z.rs_aug (Z.re_call (Z.rf_fz (Z.re_op Z.o_ix (Z.re_fld Z.re_var) Z.re_int) (Z.rf_fz Z.re_var Z.rf_nil)) (fun _ _ => Z.r_nil) rfl) Z.o_ipAdd)
      (Z.rs_seq (Z.rs_aug (Z.re_meth (Z.re_fld Z.re_var) (Z.rf_fz Z.re_var (Z.rf_fz (Z.re_op Z.o_sub Z.re_var Z.re_int) Z.rf_nil)) (fun _ _ => Z.r_nil) rfl) Z.o_ipAdd)
      (Z.rs_aug (Z.re_op Z.o_add Z.re_int (Z.re_cb Z.o_len (Z.ra_cons Z.re_var Z.ra_nil))) Z.o_ipSub))) Z.rs_next)
      (Z.rs_seq (Z.rs_asg (Z.re_call (Z.rf_fz Z.re_var (Z.rf_fz Z.re_var (Z.rf_fz Z.re_var Z.rf_nil))) (fun _ _ => Z.r_nil) rfl) (Z.rg_tup (Z.rgs_cons (Z.rgs_cons Z.rgs_nil))))
      (Z.rs_ret (Z.re_op Z.o_add (Z.re_op Z.o_add Z.re_var Z.re_var) (Z.re_call (Z.rf_fz Z.re_var (Z.rf_fz Z.re_var (Z.rf_fz Z.re_var (Z.rf_fz Z.re_var Z.rf_nil)))) (fun _ _ => Z.r_nil) rfl))))))))))) h (by decide) (fun ss T h hn => ?_)⟩)
  clear hn
  obtain ⟨s, m, l, rfl, n, kk, t, rfl, rfl, rfl, ok, hk, hn, hl, k1⟩ := h
  obtain ⟨mc, a1, a2, a3, a4, a5, a6, a7, a8⟩ := MC
  obtain ⟨m0, m1, m2, m3⟩ := MF
  obtain ⟨M, hM⟩ : ∃ M, M = kk - t.l.length - t.nlen := ⟨_, rfl⟩
  obtain ⟨N, hN⟩ : ∃ N, N = M - U.plen t.p := ⟨_, rfl⟩
  rw [Z.rank_eq ok hM hN] at k1
  have lo := U.let_ok ok.l
  have n1 := ok.n1
  have n2 := ok.n2
  have hnl : (U.numL t.n.toNat).length = t.nlen := rfl
  unfold U.Pt.slen at hl
  have hms : ∀ m ∈ t.ms, U.makerB m = true ∧ m.length ≤ 100 := fun m hm => by
    have := Z.mlen_memZ hm
    exact ⟨(ok.ms m hm).1, by omega⟩
  have hmn := ok.mn
  have n3 : t.n < 2 ^ 1900 := U.lt1900 (by omega)
  have hy := ok.y
  have hc : ∀ i, t.c = some i → 2 ≤ i := fun i hi => (ok.c i hi).1
  by_cases hp : t.p = []
  · have hpl : U.plen t.p = 0 := by unfold U.plen; rw [if_pos hp]
    rw [if_pos hp] at k1
    walk_at "zd"
    refine ⟨n, rfl, kk, rfl, hk, by omega, by omega, by omega, n, rfl, kk - t.l.length, by omega, by omega, by omega, by omega, by omega, ?_⟩
    refine ⟨n, rfl, N, t.ms, rfl, by omega, by omega, by omega, hmn, hms, by omega, n, rfl, N - U.mlen t.ms, t.y, rfl, t.c, rfl, by omega, by omega, by omega, hy, hc, by omega, ?_⟩
    refine Z.fz_int ?_ k1
    omega
  · have hpl : U.plen t.p = 1 + t.p.length := by unfold U.plen; rw [if_neg hp]
    rw [if_neg hp] at k1
    walk_at "zd"
    refine ⟨n, rfl, kk, rfl, hk, by omega, by omega, by omega, n, rfl, kk - t.l.length, by omega, by omega, by omega, by omega, by omega, n + 1, _, rfl, by omega, n, M - 1, _, rfl, by omega, by omega, by omega, U.pts_ok ok.p hp, by omega, by omega, ?_⟩
    have en : U.entF (U.endF 3) ((kk : Int) - t.l.length - t.nlen) = U.endF 3 M := by
      have := U.entF_nat (F := U.endF 3) (Nat.zero_le M)
      rw [show ((kk : Int) - t.l.length - t.nlen) = (M : Int) - ((0 : Nat) : Int) by omega, this]; rfl
    refine ⟨n, rfl, N, t.ms, rfl, by omega, by omega, by omega, hmn, hms, by omega, n, rfl, N - U.mlen t.ms, t.y, rfl, t.c, rfl, by omega, by omega, by omega, hy, hc, by omega, ?_⟩
    refine Z.fz_int ?_ k1
    rw [en]
    omega

abbrev sp_Counts_longer : Sp := U.sp3 fun _ t z H Q _ => ∃ (q r : Addr) (n m : Nat) (F S : Nat → Int), t = .ref q ∧ z = .ref r ∧ H q = some (.lst (U.iv (U.sq n F))) ∧ H r = some (.lst (U.iv (U.sq m S))) ∧ n ≤ 1000 ∧ m ≤ 1000 ∧ (∀ i, -(2 ^ 64) < S i ∧ S i < 2 ^ 64) ∧
  ∀ H' p, U.Fr [] H H' → H p = none → H' p = some (.lst (U.iv (U.sq n (U.lonF F m S)))) → Q (.ref p) H'
theorem sc_Counts_longer : FnScope ["self", "table", "sizes", "found", "at", "size", "many"] ["self", "table", "sizes"] (defScope s_Counts_longer) := U.scope_by (by decide +kernel)
theorem ok_Counts_longer {P : Program} {w : World} {K : PySem.W.Frag} {mg : Str → Option Value} {base : Heap} {f : Addr} {fd : FuncData}
    (F : FunD K "longer" "Counts.longer" (defArgs s_Counts_longer) (defBody s_Counts_longer) (defScope s_Counts_longer) [] [] f fd) (B : U.BI mg) (c_entry : C8.Cal P w K mg base 1 "entry" (sp_entry) []) :
    FnOk P w K mg base C8.CX0 2 f fd ["self", "table", "sizes"] (sp_Counts_longer) := by
  have sc := sc_Counts_longer
  refine F.ok sc (fun vs H Q E h => ?_) (fun cdv A outer s H vs Q E hr h => ⟨_, PSs.nox (pss_cons (ps_set (i := 3) sc.nd rfl (Or.inl rfl) (pe_lst pa_nil))
      (pss_cons (ps_for PassesOwn.never rfl (pi_range1 rfl B.range_ (pa_cons (pe_callB U.c_len (by rfl) B.len_ U.bt_len (pa_cons (pv 1) pa_nil)) pa_nil)) (pg_name (i := 4) sc.nd rfl (Or.inr rfl)) (pss_one (ps_expr (U.pe_l PySem.F.slot_list_append PySem.F.type_list_append U.m_append (pv 3) (pa_cons (pe_callB (U.c_sum rfl) (by rfl) B.sum_ U.bt_sum (pa_cons (pe_lc (own := [("size", 5), ("many", 6)]) rfl sc.nd (pi_enum (by rfl) B.enumerate_ (pa_cons (pv 2) pa_nil)) (blkOk_by (N := ["self", "table", "sizes", "found", "at", "size", "many"]) (sc := defScope s_Counts_longer) (own := [("size", 5), ("many", 6)]) (by decide +kernel)) (fun _ _ _ _ _ => (U.pg_tupK (K := K) (n := 2) rfl (pg_tup (by rfl) (pgs_cons (pg_name (i := 5) sc.nd rfl (Or.inl rfl)) (pgs_cons (pg_name (i := 6) sc.nd rfl (Or.inl rfl)) pgs_nil))))) (fun _ _ _ _ _ => pts_nil) (fun _ _ _ _ _ => (pe_op U.mul (pv 6) (C8.pe_c c_entry hr (by decide) rfl (pa_cons (pv 1) (pa_cons (pe_op U.sub (pv 4) (pv 5)) pa_nil)))))) pa_nil)) pa_nil)))))
      (pss_one (ps_ret (pv 3))))), ?_⟩)
  · obtain ⟨_, _, _, rfl, _⟩ := h; rfl
  · obtain ⟨s', t, z, rfl, q, r, n, m, F, S, rfl, rfl, hq, hr', hn, hm, hS, k⟩ := h
    walk_at "rd"
    refine ⟨by rw [U.sizeL]; decide, fun p hp => ?_⟩
    have pq : p ≠ q := U.ne_new hp hq
    have qp := pq.symm
    have pr : p ≠ r := U.ne_new hp hr'
    have rp := pr.symm
    have ln1 : (U.iv (U.sq n F)).length = n := by rw [U.iv_len, U.sq_len]
    walk_at "rd"
    refine U.r_rng (by omega) (by omega) (fun i σ H' => (∃ o o1 o2, σ = [some s', some (.ref q), some (.ref r), some (.ref p), o, o1, o2]) ∧ H' q = some (.lst (U.iv (U.sq n F))) ∧ H' r = some (.lst (U.iv (U.sq m S))) ∧ H' p = some (.lst (U.iv (U.sq i (U.lonF F m S)))) ∧ U.Fr [] H H')
      ⟨⟨_, _, _, rfl⟩, by rw [upd_ne qp]; exact hq, by rw [upd_ne rp]; exact hr', upd_same, U.fr1 hp⟩ ?_ ?_
    · rintro i σ H' hi ⟨⟨o, o1, o2, rfl⟩, b1, b2, b3, f⟩
      walk_at "rd"
      refine ⟨⟨_, SqL.of b2⟩, ?_⟩
      refine U.lcM walk_enum (U.iv (U.sq m fun z => S z * U.entF F ((i : Int) - (z : Int)))) (by rw [U.iv_len, U.iv_len, U.sq_len, U.sq_len]) (by rw [U.iv_len, U.sq_len]; omega) rfl (fun H4 f4 => U.SqL_fr f4 (SqL.of b2)) ?_ ?_
      · rintro j y v H4 H5 R hy f4 ⟨T, x1, z1, rfl, hT, rfl, hx1, hz1⟩ kR
        obtain ⟨hj, rfl⟩ := U.sq_at hy
        cases hx1
        obtain ⟨hj2, rfl⟩ := U.sq_at hz1
        refine U.tgt2 upd_same rfl ⟨rfl, ?_⟩
        have e1 := U.upd_old2 (o := .tup [.int (j : Nat), .int (S j)]) hT (f4.get (by simp) b1)
        walk_at "rd"
        refine ⟨n, F, rfl, by omega, U.mulL (hS j), ?_⟩
        exact kR _ (U.fr1 hT)
      · intro D H6 hD f6 hDl
        have e2 := f6.get (by simp) b3
        have ln2 : (U.iv (U.sq i (U.lonF F m S))).length = i := by rw [U.iv_len, U.sq_len]
        have ap : U.iv (U.sq i (U.lonF F m S)) ++ [V.int (U.sq m fun z => S z * U.entF F ((i : Int) - (z : Int))).sum] = U.iv (U.sq (i + 1) (U.lonF F m S)) := by rw [U.sq_succ, ← U.iv_app]; rfl
        walk_at "rd"
        exact ⟨by omega, ⟨_, rfl⟩, f6.get (by simp) b1, f6.get (by simp) b2, (f.trans f6).own (.inr hp)⟩
    · rintro σ H' ⟨⟨o, o1, o2, rfl⟩, b1, b2, b3, f⟩
      have e1 : (n : Int).toNat = n := by omega
      rw [e1] at b3
      walk_at "rd"

abbrev sp_Figures___init__ (C : Addr) : Sp := U.sp2 fun s t H Q _ => ∃ (x q dx : Addr) (n : Nat) (T : Nat → Int), s = .ref x ∧ t = .ref q ∧ H x = some (.ins C dx []) ∧ H q = some (.lst (U.iv (U.sq n T))) ∧ 1 ≤ n ∧ n ≤ 1000 ∧ ∀ H', U.Fr [x] H H' → U.FgN C H H' x q n T → Q .non H'
theorem sc_Figures___init__ : FnScope ["self", "tails", "at"] ["self", "tails"] (defScope s_Figures___init__) := U.scope_by (by decide +kernel)
theorem ok_Figures___init__ {P : Program} {w : World} {K : PySem.W.Frag} {mg : Str → Option Value} {base : Heap} {f : Addr} {fd : FuncData} {C_Figures : Addr}
    (F : FunD K "__init__" "Figures.__init__" (defArgs s_Figures___init__) (defBody s_Figures___init__) (defScope s_Figures___init__) [] [] f fd) (B : U.BI mg) (MF : U.FgC K C_Figures) :
    FnOk P w K mg base C8.CX0 1 f fd ["self", "tails"] (sp_Figures___init__ C_Figures) := by
  have sc := sc_Figures___init__
  refine F.ok sc (fun vs H Q E h => ?_) (fun cdv A outer s H vs Q E hr h => ⟨_, PSs.nox (pss_cons (ps_fld (pv 0) (pv 1) rfl)
      (pss_cons (ps_fld (pv 0) (pe_lst (pa_cons pe_int pa_nil)) rfl)
      (pss_cons (ps_fld (pv 0) (pe_lst (pa_cons (pe_ix U.ix (pv 1) pe_int (fun _ _ => rfl)) pa_nil)) rfl)
      (pss_one (ps_for PassesOwn.never rfl (pi_range2 rfl B.range_ (pa_cons pe_int (pa_cons (pe_callB U.c_len (by rfl) B.len_ U.bt_len (pa_cons (pv 1) pa_nil)) pa_nil))) (pg_name (i := 2) sc.nd rfl (Or.inl rfl)) (pss_cons (ps_expr (U.pe_l PySem.F.slot_list_append PySem.F.type_list_append U.m_append (pe_fld (pv 0) rfl) (pa_cons (pe_op U.add (pe_ix U.ix (pe_fld (pv 0) rfl) (pe_op U.sub (pv 2) pe_int) (fun _ _ => rfl)) (pe_op U.mul pe_int (pe_ix U.ix (pe_fld (pv 0) rfl) (pe_op U.sub (pv 2) pe_int) (fun _ _ => rfl)))) pa_nil)))
      (pss_one (ps_expr (U.pe_l PySem.F.slot_list_append PySem.F.type_list_append U.m_append (pe_fld (pv 0) rfl) (pa_cons (pe_op U.add (pe_ix U.ix (pv 1) (pv 2) (fun _ _ => rfl)) (pe_ix U.ix (pe_fld (pv 0) rfl) (pv 2) (fun _ _ => rfl))) pa_nil)))))))))), ?_⟩)
  · obtain ⟨_, _, rfl, _⟩ := h; rfl
  · obtain ⟨s', t, rfl, x, q, dx, n, T, rfl, rfl, hx, hq, hn1, hn2, k⟩ := h
    obtain ⟨m0, m1, m2, m3⟩ := MF
    have xq : x ≠ q := by rintro rfl; rw [hx] at hq; cases hq
    have qx := xq.symm
    have a0 : atI (U.iv (U.sq n T)) 0 = some (.int (T 0)) := U.sq_ix (by decide) (by omega)
    have ln : (U.iv (U.sq n T)).length = n := by rw [U.iv_len, U.sq_len]
    walk_at "rd"
    refine ⟨by decide, by rw [U.sizeL]; decide, fun p hp => ?_⟩
    have px : p ≠ x := by rintro rfl; rw [upd_same] at hp; cases hp
    have xp := px.symm
    have hp0 : H p = none := by rw [upd_ne px] at hp; exact hp
    have pq : p ≠ q := U.ne_new hp0 hq
    have qp := pq.symm
    walk_at "rd"
    refine ⟨by rw [U.sizeL]; decide, fun p1 hp1 => ?_⟩
    have p1x : p1 ≠ x := by rintro rfl; rw [upd_same] at hp1; cases hp1
    have xp1 := p1x.symm
    have p1p : p1 ≠ p := by rintro rfl; rw [upd_ne p1x, upd_same] at hp1; cases hp1
    have pp1 := p1p.symm
    have hp10 : H p1 = none := by rw [upd_ne p1x, upd_ne p1p, upd_ne p1x] at hp1; exact hp1
    have p1q : p1 ≠ q := U.ne_new hp10 hq
    have qp1 := p1q.symm
    walk_at "rd"
    refine ⟨by omega, by omega, ?_⟩
    have en : ((n : Int) - 1).toNat = n - 1 := by omega
    rw [en]
    unfold U.forBody
    refine for_it walk_range (fun i σ H' => (∃ o, σ = [some (.ref x), some (.ref q), o]) ∧ H' x = some (.ins C_Figures dx (U.fg3 q p p1)) ∧ H' q = some (.lst (U.iv (U.sq n T))) ∧ H' p = some (.lst (U.iv (U.sq (i + 1) (U.goF T)))) ∧ H' p1 = some (.lst (U.iv (U.sq (i + 1) (U.stF T)))) ∧ U.Fr [x] H H') ?_ (fun _ _ _ _ _ => trivial) ?_ ?_
    · refine ⟨⟨_, rfl⟩, upd_same, ?_, ?_, ?_, ?_⟩
      · rw [upd_ne qx, upd_ne qp1, upd_ne qx, upd_ne qp, upd_ne qx]; exact hq
      · rw [upd_ne px, upd_ne pp1, upd_ne px, upd_same]; rfl
      · rw [upd_ne p1x, upd_same]; rfl
      · exact ((((U.Fr.refl.own (.inl (by simp))).new hp).own (.inl (by simp))).new hp1).own (.inl (by simp))
    · rintro i v σ H' H2 hi ⟨⟨o, rfl⟩, b1, b2, b3, b4, f⟩ ⟨rfl, rfl⟩
      have c1 : atI (U.iv (U.sq (i + 1) (U.goF T))) (1 + (i : Int) - 1) = some (.int (U.goF T i)) := by rw [U.sq_ix (by omega) (by omega)]; congr 3; omega
      have c2 : atI (U.iv (U.sq (i + 1) (U.stF T))) (1 + (i : Int) - 1) = some (.int (U.stF T i)) := by rw [U.sq_ix (by omega) (by omega)]; congr 3; omega
      have c3 : atI (U.iv (U.sq n T)) (1 + (i : Int)) = some (.int (T (i + 1))) := by rw [U.sq_ix (by omega) (by omega)]; congr 3; omega
      have c4 : U.iv (U.sq (i + 1) (U.goF T)) ++ [V.int (U.goF T i + 9 * U.stF T i)] = U.iv (U.sq (i + 1 + 1) (U.goF T)) := by rw [← U.goF_s, U.sq_succ (n := i + 1), ← U.iv_app]; rfl
      have c5 : atI (U.iv (U.sq (i + 1 + 1) (U.goF T))) (1 + (i : Int)) = some (.int (U.goF T (i + 1))) := by rw [U.sq_ix (by omega) (by omega)]; congr 3; omega
      have c6 : U.iv (U.sq (i + 1) (U.stF T)) ++ [V.int (T (i + 1) + U.goF T (i + 1))] = U.iv (U.sq (i + 1 + 1) (U.stF T)) := by rw [← U.stF_s, U.sq_succ (n := i + 1), ← U.iv_app]; rfl
      have c7 : (U.iv (U.sq (i + 1) (U.goF T))).length = i + 1 := by rw [U.iv_len, U.sq_len]
      have c8 : (U.iv (U.sq (i + 1) (U.stF T))).length = i + 1 := by rw [U.iv_len, U.sq_len]
      walk_at "rd"
      exact ⟨U.mulL (by decide), by omega, by omega, ⟨_, rfl⟩, (f.own (.inr hp0)).own (.inr hp10)⟩
    · rintro σ H' ⟨⟨o, rfl⟩, b1, b2, b3, b4, f⟩
      have e1 : n - 1 + 1 = n := by omega
      rw [e1] at b3 b4
      exact k _ f ⟨dx, p, p1, b1, b3, b4, hp0, hp10⟩

abbrev sp_copies_by : Sp := U.sp1 fun m H Q _ => U.optE (U.intOf m) fun n => 0 ≤ n ∧ n ≤ 100 ∧ ∀ H' p, U.Fr [] H H' → H p = none → H' p = some (.lst (U.iv (U.sq (n.toNat + 1) U.copF))) → Q (.ref p) H'
theorem sc_copies_by : FnScope ["most", "found", "at"] ["most"] (defScope s_copies_by) := U.scope_by (by decide +kernel)
theorem ok_copies_by {P : Program} {w : World} {K : PySem.W.Frag} {mg : Str → Option Value} {base : Heap} {f : Addr} {fd : FuncData}
    (F : FunD K "copies_by" "copies_by" (defArgs s_copies_by) (defBody s_copies_by) (defScope s_copies_by) [] [] f fd) (B : U.BI mg)  :
    FnOk P w K mg base C8.CX0 1 f fd ["most"] (sp_copies_by) := by
  have sc := sc_copies_by
  refine F.ok sc (fun vs H Q E h => ?_) (fun cdv A outer s H vs Q E hr h => ⟨_, PSs.nox (pss_cons (ps_set (i := 1) sc.nd rfl (Or.inl rfl) (pe_lst pa_nil))
      (pss_cons (ps_for PassesOwn.never rfl (pi_range1 rfl B.range_ (pa_cons (pe_op U.add (pv 0) pe_int) pa_nil)) (pg_name (i := 2) sc.nd rfl (Or.inl rfl)) (pss_one (ps_if (pt_cmpR U.lt (pv 2) pe_int (nomark _)) (pss_one (ps_expr (U.pe_l PySem.F.slot_list_append PySem.F.type_list_append U.m_append (pv 1) (pa_cons pe_int pa_nil)))) (pss_one (ps_if (pt_cmpR U.eq (pv 2) pe_int (nomark _)) (pss_one (ps_expr (U.pe_l PySem.F.slot_list_append PySem.F.type_list_append U.m_append (pv 1) (pa_cons pe_int pa_nil)))) (pss_one (ps_expr (U.pe_l PySem.F.slot_list_append PySem.F.type_list_append U.m_append (pv 1) (pa_cons (pe_op U.add (pe_op U.mul pe_int (pe_ix U.ix (pv 1) (pe_un U.neg pe_int) (fun _ _ => rfl))) pe_int) pa_nil)))))))))
      (pss_one (ps_ret (pv 1))))), ?_⟩)
  · obtain ⟨_, rfl, _⟩ := h; rfl
  · obtain ⟨m, rfl, n, hm, h0, h1, k⟩ := h
    cases U.intOf_eq hm
    walk_at "rd"
    refine ⟨by rw [U.sizeL]; decide, fun p hp => ?_⟩
    refine U.r_rng (by omega) (by omega) (fun i σ H' => (∃ o, σ = [some (.int n), some (.ref p), o]) ∧ H' p = some (.lst (U.iv (U.sq i U.copF))) ∧ U.Fr [] H H') ⟨⟨_, rfl⟩, upd_same, U.fr1 hp⟩ ?_ ?_
    · rintro i σ H' hi ⟨⟨o, rfl⟩, b1, f⟩
      have ln : (U.iv (U.sq i U.copF)).length = i := by rw [U.iv_len, U.sq_len]
      have ap : ∀ v, U.copF i = v → U.iv (U.sq i U.copF) ++ [V.int v] = U.iv (U.sq (i + 1) U.copF) := by rintro v rfl; rw [U.sq_succ, ← U.iv_app]; rfl
      have fin : ∀ o : HO, U.Fr [] H (upd H' p o) := fun o => f.own (.inr hp)
      by_cases e : i < 4
      · have e1 : (i : Int) < 4 := by omega
        have ap1 := ap 1 (by cases i with | zero => rfl | succ j => show (if j + 1 < 4 then 1 else _) = _; rw [if_pos e])
        walk_at "rd"
        exact ⟨by omega, _, rfl⟩
      · have e1 : ¬ (i : Int) < 4 := by omega
        by_cases e2 : i = 4
        · subst e2
          have ap1 := ap 9 rfl
          walk_at "rd"
          rw [if_pos (by decide)]
          exact ⟨by decide, _, rfl⟩
        · have e3 : ¬ (i : Int) = 4 := by omega
          obtain ⟨j, rfl⟩ : ∃ j, i = j + 1 := ⟨i - 1, by omega⟩
          have ap1 := ap (10 * U.copF j + 9) (by show (if j + 1 < 4 then 1 else if j + 1 = 4 then 9 else 10 * U.copF j + 9) = _; rw [if_neg e, if_neg e2])
          have la := U.sq_last (n := j) (F := U.copF)
          walk_at "rd"
          exact ⟨U.mulL (by decide), by omega, _, rfl⟩
    · rintro σ H' ⟨⟨o, rfl⟩, b1, f⟩
      have e1 : (n + 1).toNat = n.toNat + 1 := by omega
      rw [e1] at b1
      walk_at "rd"

abbrev sp_Counts___init__ (C CF : Addr) : Sp := U.sp2 fun s m H Q _ => ∃ (x dx : Addr) (n : Nat), s = .ref x ∧ m = .int n ∧ n ≤ 60 ∧ H x = some (.ins C dx []) ∧ ∀ H', U.Fr [x] H H' → U.CnB C CF (U.HN H x H') x n → Q .non H'
theorem sc_Counts___init__ : FnScope ["self", "most", "more", "figures", "ends", "at", "one"] ["self", "most"] (defScope s_Counts___init__) := U.scope_by (by decide +kernel)
theorem ok_Counts___init__ {P : Program} {w : World} {K : PySem.W.Frag} {mg : Str → Option Value} {base : Heap} {f : Addr} {fd : FuncData} {C_Counts : Addr} {C_Figures : Addr}
    (F : FunD K "__init__" "Counts.__init__" (defArgs s_Counts___init__) (defBody s_Counts___init__) (defScope s_Counts___init__) [] [] f fd) (B : U.BI mg) (MC : U.CtC K C_Counts) (MF : U.FgC K C_Figures) (c_copies_by : C8.Cal P w K mg base 1 "copies_by" (sp_copies_by) []) (c_entry : C8.Cal P w K mg base 1 "entry" (sp_entry) []) (k_Figures : C8.Mak P w K mg base 1 "Figures" C_Figures (sp_Figures___init__ C_Figures) []) (m_Counts_longer : C8.Met P w K mg base 2 C_Counts "longer" (sp_Counts_longer) []) :
    FnOk P w K mg base C8.CX0 3 f fd ["self", "most"] (sp_Counts___init__ C_Counts C_Figures) := by
  have sc := sc_Counts___init__
  refine F.ok sc (fun vs H Q E h => ?_) (fun cdv A outer s H vs Q E hr h => ⟨_, PSs.nox (pss_cons (ps_fld (pv 0) (C8.pe_c c_copies_by hr (by decide) rfl (pa_cons (pv 1) pa_nil)) rfl)
      (pss_cons (ps_fld (pv 0) (pe_lc (own := [("at", 5), ("one", 6)]) rfl sc.nd (pi_enum (by rfl) B.enumerate_ (pa_cons (pe_fld (pv 0) rfl) pa_nil)) (blkOk_by (N := ["self", "most", "more", "figures", "ends", "at", "one"]) (sc := defScope s_Counts___init__) (own := [("at", 5), ("one", 6)]) (by decide +kernel)) (fun _ _ _ _ _ => (U.pg_tupK (K := K) (n := 2) rfl (pg_tup (by rfl) (pgs_cons (pg_name (i := 5) sc.nd rfl (Or.inl rfl)) (pgs_cons (pg_name (i := 6) sc.nd rfl (Or.inl rfl)) pgs_nil))))) (fun _ _ _ _ _ => pts_nil) (fun _ _ _ _ _ => (pe_op U.add (pv 6) (pe_op U.mul pe_int (C8.pe_c c_entry hr (by decide) rfl (pa_cons (U.pe_fldK (K := K) rfl (pe_fld (pv 0) rfl)) (pa_cons (pe_op U.sub (pv 5) pe_int) pa_nil))))))) rfl)
      (pss_cons (ps_fld (pv 0) (pe_lst (pa_cons (pe_fld (pv 0) rfl) pa_nil)) rfl)
      (pss_cons (ps_fld (pv 0) (pe_lst pa_nil) rfl)
      (pss_cons (ps_for PassesOwn.never rfl (pi_range1 rfl B.range_ (pa_cons pe_int pa_nil)) (pg_name (i := 2) sc.nd rfl (Or.inl rfl)) (pss_cons (ps_set (i := 3) sc.nd rfl (Or.inr rfl) (C8.pe_mk k_Figures hr (by decide) rfl (pa_cons (pe_ix U.ix (pe_fld (pv 0) rfl) (pe_un U.neg pe_int) (fun _ _ => rfl)) pa_nil)))
      (pss_cons (ps_expr (U.pe_l PySem.F.slot_list_append PySem.F.type_list_append U.m_append (pe_fld (pv 0) rfl) (pa_cons (pv 3) pa_nil)))
      (pss_one (ps_expr (U.pe_l PySem.F.slot_list_append PySem.F.type_list_append U.m_append (pe_fld (pv 0) rfl) (pa_cons (pe_lc (own := [("at", 5), ("one", 6)]) rfl sc.nd (pi_enum (by rfl) B.enumerate_ (pa_cons (pe_fld (pv 0) rfl) pa_nil)) (blkOk_by (N := ["self", "most", "more", "figures", "ends", "at", "one"]) (sc := defScope s_Counts___init__) (own := [("at", 5), ("one", 6)]) (by decide +kernel)) (fun _ _ _ _ _ => (U.pg_tupK (K := K) (n := 2) rfl (pg_tup (by rfl) (pgs_cons (pg_name (i := 5) sc.nd rfl (Or.inl rfl)) (pgs_cons (pg_name (i := 6) sc.nd rfl (Or.inl rfl)) pgs_nil))))) (fun _ _ _ _ _ => pts_nil) (fun _ _ _ _ _ => (pe_op U.add (pv 6) (pe_op U.mul pe_int (C8.pe_c c_entry hr (by decide) rfl (pa_cons (U.pe_fldK (K := K) rfl (pe_fld (pv 3) rfl)) (pa_cons (pe_op U.sub (pv 5) pe_int) pa_nil))))))) pa_nil)))))))
      (pss_cons (ps_set (i := 4) sc.nd rfl (Or.inl rfl) (pe_ix U.ix (pe_fld (pv 0) rfl) (pe_un U.neg pe_int) (fun _ _ => rfl)))
      (pss_cons (ps_fld (pv 0) (C8.pe_mk k_Figures hr (by decide) rfl (pa_cons (pv 4) pa_nil)) rfl)
      (pss_cons (ps_fld (pv 0) (pe_lc (own := [("at", 5), ("one", 6)]) rfl sc.nd (pi_enum (by rfl) B.enumerate_ (pa_cons (pv 4) pa_nil)) (blkOk_by (N := ["self", "most", "more", "figures", "ends", "at", "one"]) (sc := defScope s_Counts___init__) (own := [("at", 5), ("one", 6)]) (by decide +kernel)) (fun _ _ _ _ _ => (U.pg_tupK (K := K) (n := 2) rfl (pg_tup (by rfl) (pgs_cons (pg_name (i := 5) sc.nd rfl (Or.inl rfl)) (pgs_cons (pg_name (i := 6) sc.nd rfl (Or.inl rfl)) pgs_nil))))) (fun _ _ _ _ _ => pts_nil) (fun _ _ _ _ _ => (pe_op U.add (pv 6) (C8.pe_c c_entry hr (by decide) rfl (pa_cons (U.pe_fldK (K := K) rfl (pe_fld (U.pe_fldK (K := K) rfl (pe_fld (pv 0) rfl)) rfl)) (pa_cons (pe_op U.sub (pv 5) pe_int) pa_nil)))))) rfl)
      (pss_cons (ps_fld (pv 0) (C8.pe_mt m_Counts_longer hr (by decide) (pv 0) (pa_cons (pe_fld (pv 0) rfl) (pa_cons (pe_lst (pa_cons pe_int (pa_cons pe_int (pa_cons pe_int (pa_cons pe_int (pa_cons pe_int pa_nil)))))) pa_nil))) rfl)
      (pss_one (ps_fld (pv 0) (C8.pe_mt m_Counts_longer hr (by decide) (pv 0) (pa_cons (pe_fld (pv 0) rfl) (pa_cons (pe_lst (pa_cons pe_int (pa_cons pe_int (pa_cons pe_int (pa_cons pe_int pa_nil))))) pa_nil))) rfl))))))))))), ?_⟩)
  · obtain ⟨_, _, rfl, _⟩ := h; rfl
  · obtain ⟨s', m, rfl, x, dx, n, rfl, rfl, hn, hx, k⟩ := h
    obtain ⟨m0, m1, m2, m3⟩ := MF
    obtain ⟨mc, a1, a2, a3, a4, a5, a6, a7, a8⟩ := MC
    have lY : ∀ F : Nat → Int, (U.iv (U.sq (n + 1) F)).length = n + 1 := fun F => by rw [U.iv_len, U.sq_len]
    walk_at "rd"
    refine ⟨by omega, by omega, fun H1 c1 f1 hc1 gc1 => ?_⟩
    rw [Int.toNat_natCast] at gc1
    have hx1 := f1.get (by simp) hx
    have c1x := U.ne_new hc1 hx
    have xc1 := c1x.symm
    walk_at "rd"
    have e2 : upd H1 x (.ins C_Counts dx (U.ct1 c1)) c1 = some (.lst (U.iv (U.sq (n + 1) U.copF))) := by rw [upd_ne c1x]; exact gc1
    refine ⟨by decide, ⟨_, SqL.of e2⟩, ?_⟩
    refine U.lcM walk_enum (U.iv (U.sq (n + 1) U.yearF)) (by rw [lY, lY]) (by rw [lY]; omega) rfl (fun H4 f4 => U.SqL_fr f4 (SqL.of e2)) ?_ ?_
    · rintro j y v H4 H5 R hy f4 ⟨T, x1, z1, rfl, hT, rfl, hx1', hz1⟩ kR
      obtain ⟨hj, rfl⟩ := U.sq_at hy
      cases hx1'
      obtain ⟨hj2, rfl⟩ := U.sq_at hz1
      refine U.tgt2 upd_same rfl ⟨rfl, ?_⟩
      have g1 := U.upd_old2 (o := .tup [.int (j : Nat), .int (U.copF j)]) hT (f4.get (by simp) (upd_same (H := H1) (a := x) (o := .ins C_Counts dx (U.ct1 c1))))
      have g2 := U.upd_old2 (o := .tup [.int (j : Nat), .int (U.copF j)]) hT (f4.get (by simp) e2)
      walk_at "rd"
      exact ⟨n + 1, U.copF, rfl, by omega, U.mulL (by decide), kR _ (U.fr1 hT)⟩
    intro c2 H2 hD f2 gD
    have hx2 := f2.get (by simp) (upd_same (H := H1) (a := x) (o := .ins C_Counts dx (U.ct1 c1)))
    have c2x : c2 ≠ x := U.ne_new hD upd_same
    have xc2 := c2x.symm
    have F2 : U.Fr [x] H H2 := ((f1.sub (by simp)).own (.inl (by simp))).trans (f2.sub (by simp))
    have k1 := f2.get (by simp) e2
    clear gc1 e2
    walk_at "rd"
    refine ⟨by rw [U.sizeL]; decide, fun c3 h3 => ?_⟩
    have c3x : c3 ≠ x := by rintro rfl; rw [upd_same] at h3; cases h3
    have xc3 := c3x.symm
    have h30 : H2 c3 = none := by rw [upd_ne c3x] at h3; exact h3
    have c32 : c3 ≠ c2 := U.ne_new h30 gD
    have c23 := c32.symm
    walk_at "rd"
    refine ⟨by rw [U.sizeL]; decide, fun c4 h4 => ?_⟩
    have c4x : c4 ≠ x := by rintro rfl; rw [upd_same] at h4; cases h4
    have xc4 := c4x.symm
    have c43 : c4 ≠ c3 := by rintro rfl; rw [upd_ne c4x, upd_same] at h4; cases h4
    have c34 := c43.symm
    have h40 : H2 c4 = none := by rw [upd_ne c4x, upd_ne c43, upd_ne c4x] at h4; exact h4
    have c42 : c4 ≠ c2 := U.ne_new h40 gD
    have c24 := c42.symm
    have hc40 := F2.none h40 (by simp; exact c4x)
    have hc30 := F2.none h30 (by simp; exact c3x)
    walk_at "rd"
    refine U.r_rng (by decide) (by decide) (fun i σ H' => (∃ o o1 o2 o3 o4, σ = [some (.ref x), some (.int n), o, o1, o2, o3, o4]) ∧ H' x = some (.ins C_Counts dx (U.ct4 c1 c2 c3 c4)) ∧ H' c2 = some (.lst (U.iv (U.sq (n + 1) U.yearF))) ∧
      (∃ fs : List Addr, H' c4 = some (.lst (fs.map V.ref)) ∧ fs.length = i ∧ ∀ j f, fs[j]? = some f → U.FgX C_Figures (U.HN H x H') f (n + 1) (U.endF j)) ∧ (∃ (ms : List Addr) (e : Addr), H' c3 = some (.lst (ms.map V.ref ++ [.ref e])) ∧ ms.length = i ∧ (∀ j m, (ms ++ [e])[j]? = some m → U.HN H x H' m = some (.lst (U.iv (U.sq (n + 1) (U.endF j))))) ∧ H' e = some (.lst (U.iv (U.sq (n + 1) (U.endF i)))) ∧ e ≠ x ∧ e ≠ c3 ∧ e ≠ c4) ∧ U.Fr [x] H2 H') ?_ ?_ ?_
    · refine ⟨⟨_, _, _, _, _, rfl⟩, upd_same, ?_, ⟨[], ?_, by simp⟩, ⟨[], c2, ?_, rfl, ?_, ?_, c2x, c23, c24⟩, ?_⟩
      · rw [upd_ne c2x, upd_ne c24, upd_ne c2x, upd_ne c23, upd_ne c2x]; exact gD
      · rw [upd_ne c4x, upd_same]; rfl
      · rw [upd_ne c3x, upd_ne c34, upd_ne c3x, upd_same]; rfl
      · intro j m hj
        have e : j = 0 ∧ m = c2 := by
          cases j with
          | zero => simp at hj; exact ⟨rfl, hj.symm⟩
          | succ j => simp at hj
        obtain ⟨rfl, rfl⟩ := e
        exact U.HN.of (f1.none (U.upd_none hD) (by simp)) (by rw [upd_ne c2x, upd_ne c24, upd_ne c2x, upd_ne c23, upd_ne c2x]; exact gD)
      · rw [upd_ne c2x, upd_ne c24, upd_ne c2x, upd_ne c23, upd_ne c2x]; exact gD
      · exact ((((U.Fr.refl.own (.inl (by simp))).new h3).own (.inl (by simp))).new h4).own (.inl (by simp))
    · rintro i σ H' hi ⟨⟨o, o1, o2, o3, o4, rfl⟩, b1, b2, ⟨fs, b3, hfs⟩, ⟨ms, e, b4, hms, hme, b5, ex, ec3, ec4⟩, F3⟩
      have la := U.atI_lastV (l := ms.map V.ref) (c := V.ref e)
      have c1n : (U.iv (U.sq (n + 1) (U.endF i))).length = n + 1 := lY _
      walk_at "rd"
      intro xf df hxf hdf ndf
      have n1 := U.ne_new hxf b1
      have n2 := U.ne_new hxf b2
      have n3 := U.ne_new hxf b3
      have n4 := U.ne_new hxf b4
      have n5 := U.ne_new hxf b5
      have n5' := n5.symm
      have n6 := U.ne_new hdf b5
      have n6' := n6.symm
      walk_at "rd"
      refine ⟨⟨_, rfl⟩, n + 1, _, rfl, by omega, by omega, fun H6 f6 G6 => ?_⟩
      have F6 : U.Fr [] H' H6 := (((U.fr1 hdf).new (by rw [upd_ne (fun z => ndf z.symm)]; exact hxf))).wide f6 (by simp [hxf])
      obtain ⟨dxf, gf, sf, w1, w2, w3, ng, ns⟩ := G6
      have F03 := F2.trans F3
      have Nx : H xf = none := F03.none hxf (by simp; exact n1)
      have Ne : U.HN H x H' e = some (.lst (U.iv (U.sq (n + 1) (U.endF i)))) := hme i e (by rw [← hms]; simp)
      have ng0 := U.upd_none (U.upd_none ng)
      have ns0 := U.upd_none (U.upd_none ns)
      have Ng : H gf = none := F03.none ng0 (by simp; exact U.ne_new ng0 b1)
      have Ns : H sf = none := F03.none ns0 (by simp; exact U.ne_new ns0 b1)
      have F6h := F6.hn (H := H) (x := x)
      have G6 : U.FgX C_Figures (U.HN H x H6) xf (n + 1) (U.endF i) := ⟨dxf, e, gf, sf, U.HN.of Nx w1, F6h.get (by simp) Ne, U.HN.of Ng w2, U.HN.of Ns w3⟩
      have qf : Addr := e
      have d1 := F6.get (by simp) b1
      have d2 := F6.get (by simp) b2
      have d3 := F6.get (by simp) b3
      have d4 := F6.get (by simp) b4
      have gfc4 : gf ≠ c4 := by
        rintro rfl
        rw [w2] at d3
        simp only [Option.some.injEq, HO.lst.injEq] at d3
        exact U.iv_refs d3
      have gfc3 : gf ≠ c3 := by
        rintro rfl
        rw [w2] at d4
        simp only [Option.some.injEq, HO.lst.injEq] at d4
        have q1 := congrArg List.getLast? d4
        rw [U.sq_succ, ← U.iv_app] at q1
        simp [U.iv] at q1
      have c4gf := gfc4.symm
      have lf : (fs.map V.ref).length = fs.length := List.length_map ..
      have c4xf := n3.symm
      walk_at "rd"
      have e7 : upd H6 c4 (.lst (fs.map V.ref ++ [.ref xf])) c2 = some (.lst (U.iv (U.sq (n + 1) U.yearF))) := by rw [upd_ne c24]; exact d2
      have e8 : upd H6 c4 (.lst (fs.map V.ref ++ [.ref xf])) xf = some (.ins C_Figures dxf (U.fg3 e gf sf)) := by rw [upd_ne n3]; exact w1
      have e9 : upd H6 c4 (.lst (fs.map V.ref ++ [.ref xf])) gf = some (.lst (U.iv (U.sq (n + 1) (U.goF (U.endF i))))) := by rw [upd_ne gfc4]; exact w2
      refine ⟨by omega, ⟨_, SqL.of e7⟩, ?_⟩
      refine U.lcM walk_enum (U.iv (U.sq (n + 1) (U.endF (i + 1)))) (by rw [lY, lY]) (by rw [lY]; omega) rfl (fun H4 f4 => U.SqL_fr f4 (SqL.of e7)) ?_ ?_
      · rintro j y v H7 H8 R hy f7 ⟨T, x1, z1, rfl, hT, rfl, hx1', hz1⟩ kR
        obtain ⟨hj, rfl⟩ := U.sq_at hy
        cases hx1'
        obtain ⟨hj2, rfl⟩ := U.sq_at hz1
        refine U.tgt2 upd_same rfl ⟨rfl, ?_⟩
        have g1 := U.upd_old2 (o := .tup [.int (j : Nat), .int (U.yearF j)]) hT (f7.get (by simp) e8)
        have g2 := U.upd_old2 (o := .tup [.int (j : Nat), .int (U.yearF j)]) hT (f7.get (by simp) e9)
        walk_at "rd"
        exact ⟨n + 1, _, rfl, by omega, U.mulL (by decide), kR _ (U.fr1 hT)⟩
      · intro D H7 hD7 f7 gD7
        have q1 := f7.get (b := x) (by simp) (by rw [upd_ne xc4]; exact d1)
        have q2 := f7.get (by simp) e7
        have q3 := f7.get (b := c3) (by simp) (by rw [upd_ne c34]; exact d4)
        have q4 := f7.get (b := c4) (by simp) upd_same
        have Dx : D ≠ x := U.ne_new hD7 (by rw [upd_ne xc4]; exact d1)
        have Dc3 : D ≠ c3 := U.ne_new hD7 (by rw [upd_ne c34]; exact d4)
        have Dc4 : D ≠ c4 := U.ne_new hD7 upd_same
        walk_at "rd"
        refine ⟨by walk_at "om", ⟨_, rfl⟩, ⟨fs ++ [xf], by simp, by simp; omega, ?_⟩, ⟨ms ++ [e], D, by simp, by simp; omega, ?_, by rw [upd_ne Dc3]; exact gD7, Dx, Dc3, Dc4⟩, ?_⟩
        · have T6 := fun o => U.Fr.hn (H := H) (x := x) <| ((U.Fr.refl (S := [c3, c4]) (H := H6)).own (p := c4) (o := .lst (fs.map V.ref ++ [.ref xf])) (.inl (by simp))).trans (f7.sub (by simp)) |>.own (p := c3) (o := o) (.inl (by simp))
          have hS : ∀ b ∈ [c3, c4], ∃ o, U.HN H x H6 b = some o ∧ U.NotFg o := by
            intro b hb
            simp only [List.mem_cons, List.not_mem_nil, or_false] at hb
            rcases hb with rfl | rfl
            · exact ⟨_, U.HN.of hc30 d4, U.notFg_last⟩
            · exact ⟨_, U.HN.of hc40 d3, U.notFg_refs⟩
          intro j f hj
          rcases Nat.lt_or_ge j fs.length with h | h
          · rw [List.getElem?_append_left h] at hj
            exact ((hfs.2 j f hj).fr F6h).keep (T6 _) hS
          · rw [List.getElem?_append_right h] at hj
            have hj0 : j = fs.length := by
              rcases Nat.eq_zero_or_pos (j - fs.length) with h2 | h2
              · omega
              · rw [List.getElem?_eq_none (by simp; omega)] at hj; cases hj
            subst hj0
            simp at hj
            subst hj
            rw [hfs.1]
            exact G6.keep (T6 _) hS
        · have T6 := fun o => U.Fr.hn (H := H) (x := x) <| ((U.Fr.refl (S := [c3, c4]) (H := H6)).own (p := c4) (o := .lst (fs.map V.ref ++ [.ref xf])) (.inl (by simp))).trans (f7.sub (by simp)) |>.own (p := c3) (o := o) (.inl (by simp))
          have hS : ∀ b ∈ [c3, c4], ∃ o, U.HN H x H6 b = some o ∧ U.NotFg o := by
            intro b hb
            simp only [List.mem_cons, List.not_mem_nil, or_false] at hb
            rcases hb with rfl | rfl
            · exact ⟨_, U.HN.of hc30 d4, U.notFg_last⟩
            · exact ⟨_, U.HN.of hc40 d3, U.notFg_refs⟩
          intro j m hj
          rcases Nat.lt_or_ge j (ms ++ [e]).length with h | h
          · rw [List.getElem?_append_left h] at hj
            exact U.iv_keep (F6h.get (by simp) (hme j m hj)) (T6 _) hS
          · rw [List.getElem?_append_right h] at hj
            have hj0 : j = (ms ++ [e]).length := by
              rcases Nat.eq_zero_or_pos (j - (ms ++ [e]).length) with h2 | h2
              · omega
              · rw [List.getElem?_eq_none (by simp only [List.length_singleton]; omega)] at hj; cases hj
            subst hj0
            simp at hj
            subst hj
            have ej : (ms ++ [e]).length = i + 1 := by simp; omega
            rw [ej]
            have nD : H D = none := F03.none (F6.none (U.upd_none hD7) (by simp)) (by simp; exact Dx)
            exact U.HN.of nD (by rw [upd_ne Dc3]; exact gD7)
        · exact (((F3.trans (F6.sub (by simp))).own (.inr h40)).trans (f7.sub (by simp))).own (.inr h30)
    rintro σ H3 ⟨⟨o, o1, o2, o3, o4, rfl⟩, b1, b2, ⟨fs, b3, hfs⟩, ⟨ms, e, b4, hms, hme, b5, ex, ec3, ec4⟩, F3⟩
    have la := U.atI_lastV (l := ms.map V.ref) (c := V.ref e)
    have b5 : H3 e = some (.lst (U.iv (U.sq (n + 1) (U.endF 3)))) := b5
    walk_at "rd"
    intro xf df hxf hdf ndf
    have n1 := U.ne_new hxf b1
    have n5 := U.ne_new hxf b5
    have n5' := n5.symm
    have n6 := U.ne_new hdf b5
    have n6' := n6.symm
    walk_at "rd"
    refine ⟨⟨_, rfl⟩, n + 1, _, rfl, by omega, by omega, fun H6 f6 G6 => ?_⟩
    have F6 : U.Fr [] H3 H6 := (((U.fr1 hdf).new (by rw [upd_ne (fun z => ndf z.symm)]; exact hxf))).wide f6 (by simp [hxf])
    obtain ⟨dxf, gf, sf, w1, w2, w3, ng, ns⟩ := G6
    have F03 := F2.trans F3
    have Nx : H xf = none := F03.none hxf (by simp; exact n1)
    have Ne : U.HN H x H3 e = some (.lst (U.iv (U.sq (n + 1) (U.endF 3)))) := hme 3 e (by rw [← show ms.length = 3 from hms]; simp)
    have ng0 := U.upd_none (U.upd_none ng)
    have ns0 := U.upd_none (U.upd_none ns)
    have Ng : H gf = none := F03.none ng0 (by simp; exact U.ne_new ng0 b1)
    have Ns : H sf = none := F03.none ns0 (by simp; exact U.ne_new ns0 b1)
    have F6h := F6.hn (H := H) (x := x)
    have G6 : U.FgX C_Figures (U.HN H x H6) xf (n + 1) (U.endF 3) := ⟨dxf, e, gf, sf, U.HN.of Nx w1, F6h.get (by simp) Ne, U.HN.of Ng w2, U.HN.of Ns w3⟩
    have d1 := F6.get (by simp) b1
    have d5 := F6.get (by simp) b5
    have xxf := n1.symm
    have gfx : gf ≠ x := by rintro rfl; rw [w2] at d1; cases d1
    walk_at "rd"
    have e7 : upd H6 x (.ins C_Counts dx (U.ct5 c1 c2 c3 c4 xf)) e = some (.lst (U.iv (U.sq (n + 1) (U.endF 3)))) := by rw [upd_ne ex]; exact d5
    have e8 : upd H6 x (.ins C_Counts dx (U.ct5 c1 c2 c3 c4 xf)) xf = some (.ins C_Figures dxf (U.fg3 e gf sf)) := by rw [upd_ne n1]; exact w1
    have e9 : upd H6 x (.ins C_Counts dx (U.ct5 c1 c2 c3 c4 xf)) gf = some (.lst (U.iv (U.sq (n + 1) (U.goF (U.endF 3))))) := by rw [upd_ne gfx]; exact w2
    refine ⟨⟨_, SqL.of e7⟩, ?_⟩
    refine U.lcM walk_enum (U.iv (U.sq (n + 1) U.numF)) (by rw [lY, lY]) (by rw [lY]; omega) rfl (fun H4 f4 => U.SqL_fr f4 (SqL.of e7)) ?_ ?_
    · rintro j y v H7 H8 R hy f7 ⟨T, x1, z1, rfl, hT, rfl, hx1', hz1⟩ kR
      obtain ⟨hj, rfl⟩ := U.sq_at hy
      cases hx1'
      obtain ⟨hj2, rfl⟩ := U.sq_at hz1
      refine U.tgt2 upd_same rfl ⟨rfl, ?_⟩
      have g0 := U.upd_old2 (o := .tup [.int (j : Nat), .int (U.endF 3 j)]) hT (f7.get (b := x) (by simp) upd_same)
      have g1 := U.upd_old2 (o := .tup [.int (j : Nat), .int (U.endF 3 j)]) hT (f7.get (by simp) e8)
      have g2 := U.upd_old2 (o := .tup [.int (j : Nat), .int (U.endF 3 j)]) hT (f7.get (by simp) e9)
      walk_at "rd"
      exact ⟨n + 1, _, rfl, by omega, kR _ (U.fr1 hT)⟩
    intro D H7 hD7 f7 gD7
    have qx := f7.get (b := x) (by simp) upd_same
    have Dx : D ≠ x := U.ne_new hD7 upd_same
    have xD := Dx.symm
    have FF : U.Fr [x] H6 H7 := (U.Fr.refl.own (.inl (by simp))).trans (f7.sub (by simp))
    walk_at "rd"
    refine ⟨by rw [U.sizeL]; decide, fun p5 hp5 => ?_⟩
    have p5x : p5 ≠ x := by rintro rfl; rw [upd_same] at hp5; cases hp5
    have xp5 := p5x.symm
    have hp50 : H7 p5 = none := by rw [upd_ne p5x] at hp5; exact hp5
    have p5D := U.ne_new hp50 gD7
    have Dp5 := p5D.symm
    walk_at "rd"
    refine ⟨n + 1, 5, _, rfl, (fun z => [0, 9, 90, 900, 9000].getD z 0), rfl, by omega, by omega, ?_, fun H8 p8 f8 hp8 gp8 => ?_⟩
    · intro i
      rcases i with _ | _ | _ | _ | _ | i <;> simp [List.getD]
    have qx8 := f8.get (b := x) (by simp) (by rw [upd_ne xp5]; exact upd_same)
    have p8x : p8 ≠ x := U.ne_new hp8 (by rw [upd_ne xp5]; exact upd_same)
    have xp8 := p8x.symm
    have FG : U.Fr [x] H7 H8 := ((U.Fr.refl.own (.inl (by simp))).new hp5).trans (f8.sub (by simp))
    walk_at "rd"
    refine ⟨by rw [U.sizeL]; decide, fun p6 hp6 => ?_⟩
    have p6x : p6 ≠ x := by rintro rfl; rw [upd_same] at hp6; cases hp6
    have xp6 := p6x.symm
    have hp60 : H8 p6 = none := by rw [upd_ne p6x] at hp6; exact hp6
    have p68 := U.ne_new hp60 gp8
    have p86 := p68.symm
    walk_at "rd"
    refine ⟨n + 1, 4, _, rfl, (fun z => [0, 26, 676, 17576].getD z 0), rfl, by omega, by omega, ?_, fun H9 p9 f9 hp9 gp9 => ?_⟩
    · intro i
      rcases i with _ | _ | _ | _ | i <;> simp [List.getD]
    have qx9 := f9.get (b := x) (by simp) (by rw [upd_ne xp6]; exact upd_same)
    have p9x : p9 ≠ x := U.ne_new hp9 (by rw [upd_ne xp6]; exact upd_same)
    walk_at "rd"
    obtain ⟨m0, m1, m2, rfl⟩ : ∃ m0 m1 m2, ms = [m0, m1, m2] := by
      match ms, hms with
      | [m0, m1, m2], _ => exact ⟨_, _, _, rfl⟩
    obtain ⟨g0, g1, g2, rfl⟩ : ∃ g0 g1 g2, fs = [g0, g1, g2] := by
      match fs, hfs.1 with
      | [g0, g1, g2], _ => exact ⟨_, _, _, rfl⟩
    have FL : ∀ o, U.Fr [x] H8 (upd H9 x o) := fun o => (((U.Fr.refl.own (.inl (by simp))).new hp6).trans (f9.sub (by simp))).own (.inl (by simp))
    have E8 := fun o => FG.trans (FL o)
    have E6 := fun o => FF.trans (E8 o)
    have E3 := fun o => (F6.sub (by simp)).trans (E6 o)
    have E2 := fun o => F3.trans (E3 o)
    have F06 := F03.trans (F6.sub (by simp))
    have F07 := F06.trans FF
    have F08 := F07.trans FG
    have E8h := fun o => (E8 o).hn (H := H) (x := x)
    have E6h := fun o => (E6 o).hn (H := H) (x := x)
    have E3h := fun o => (E3 o).hn (H := H) (x := x)
    have E2h := fun o => (E2 o).hn (H := H) (x := x)
    have hS3 : ∀ b ∈ [x], ∃ o, U.HN H x H3 b = some o ∧ U.NotFg o := by
      intro b hb
      cases List.mem_singleton.mp hb
      exact ⟨_, U.HN.at b1, fun _ _ _ z => by have z2 := congrArg List.length z; cases z2⟩
    have hS6 : ∀ b ∈ [x], ∃ o, U.HN H x H6 b = some o ∧ U.NotFg o := by
      intro b hb
      cases List.mem_singleton.mp hb
      exact ⟨_, U.HN.at d1, fun _ _ _ z => by have z2 := congrArg List.length z; cases z2⟩
    have nD : H D = none := F06.none (U.upd_none hD7) (by simp; exact Dx)
    have n8 : H p8 = none := F07.none (U.upd_none (U.upd_none hp8)) (by simp; exact p8x)
    have n9 : H p9 = none := F08.none (U.upd_none (U.upd_none hp9)) (by simp; exact p9x)
    have nc2 : H c2 = none := f1.none (U.upd_none hD) (by simp)
    refine k _ (F2.trans (E2 _)) ⟨c1, c2, c3, c4, xf, D, p8, p9, m0, m1, m2, e, g0, g1, g2, ⟨dx, U.HN.at upd_same⟩, ?_, ?_, ?_, ?_, ?_, ?_, ?_, ?_, ?_, ?_, ?_, ?_, ?_, ?_, ?_⟩
    · exact U.HN.of hc1 ((E2 _).get (by simpa using c1x) k1)
    · exact U.HN.of nc2 ((E2 _).get (by simpa using c2x) gD)
    · exact U.HN.of hc30 ((E3 _).get (by simpa using c3x) b4)
    · exact U.iv_keep (hme 0 m0 rfl) (E3h _) hS3
    · exact U.iv_keep (hme 1 m1 rfl) (E3h _) hS3
    · exact U.iv_keep (hme 2 m2 rfl) (E3h _) hS3
    · exact U.iv_keep (hme 3 e rfl) (E3h _) hS3
    · exact U.HN.of hc40 ((E3 _).get (by simpa using c4x) b3)
    · exact (hfs.2 0 g0 rfl).keep (E3h _) hS3
    · exact (hfs.2 1 g1 rfl).keep (E3h _) hS3
    · exact (hfs.2 2 g2 rfl).keep (E3h _) hS3
    · exact G6.keep (E6h _) hS6
    · exact U.HN.of nD ((E8 _).get (by simpa using Dx) gD7)
    · exact U.HN.of n8 ((FL _).get (by simpa using p8x) gp8)
    · exact U.HN.of n9 (by rw [upd_ne p9x]; exact gp9)
abbrev tp_Counts___init__ (C CF : Addr) : Z.TP := Z.tp2 fun s m P => ∃ n : Nat, s = .mu (.ins C [] []) ∧ m = .fz (.int n) ∧ n ≤ 60 ∧ P (.fz .non) [Z.cnT C CF n]
abbrev sz_Counts___init__ (K : PySem.W.Frag) (C_Counts : Addr) (C_Figures : Addr) : Sp := Z.spT K 2 (tp_Counts___init__ C_Counts C_Figures)
theorem br_Counts___init__ {K : PySem.W.Frag} {C_Counts : Addr} {C_Figures : Addr} (vs : List V) (H : Hp) (Q : VK) (E : XK) (h : sz_Counts___init__ K C_Counts C_Figures vs H Q E) : (sp_Counts___init__ C_Counts C_Figures) vs H Q E := by
  obtain ⟨_, W, ss, P, d, ha, ⟨s, m, rfl, n, rfl, rfl, hn, p⟩, q⟩ := h
  obtain ⟨x, r, rfl, wx, ⟨dx, us, hx, _⟩, ha⟩ := Z.args_mu ha
  obtain ⟨w, r, rfl, h2, ha⟩ := Z.args_fz ha
  cases Z.args_nil ha
  rw [Z.rp_int] at h2
  subst h2
  refine ⟨_, _, rfl, x, dx, n, rfl, rfl, hn, hx, fun H' f G => ?_⟩
  obtain ⟨W', st, d', w', nd⟩ := Z.cn_bridge (K := K) d wx hx f G
  refine q _ _ _ H' W' p st d' (Z.outs_mu w' nd (Z.outs_fz Z.outs_nil)) ?_
  show Z.Rp K W' H' .non _
  rw [Z.rp_non]

abbrev tp_Mark___len__ (C : Addr) : Z.TP := Z.tp1 fun a P => ∃ t : U.Pt, a = .fz (Z.mkT C t) ∧ t.Ok ∧ P (.fz (.int t.text.length)) []
abbrev sp_Mark___len__ (K : PySem.W.Frag) (C_Mark : Addr) : Sp := Z.spT K 1 (tp_Mark___len__ C_Mark)
theorem sc_Mark___len__ : FnScope ["self"] ["self"] (defScope s_Mark___len__) := U.scope_by (by decide +kernel)
theorem ok_Mark___len__ {P : Program} {w : World} {K : PySem.W.Frag} {mg : Str → Option Value} {base : Heap} {f : Addr} {fd : FuncData} {C_Mark : Addr}
    (F : FunD K "__len__" "Mark.__len__" (defArgs s_Mark___len__) (defBody s_Mark___len__) (defScope s_Mark___len__) [] [] f fd) (B : U.BI mg) (M : U.MkC K C_Mark) :
    FnOk P w K mg base C8.CX0 1 f fd ["self"] (sp_Mark___len__ K C_Mark) := by
  have sc := sc_Mark___len__
  refine F.ok sc (fun vs H Q E h => h.1) (fun cdv A outer s H vs Q E hr h => ⟨_, PSs.nox (pss_one (ps_ret (pe_callB U.c_len (by rfl) B.len_ U.bt_len (pa_cons (pe_fld (pv 0) rfl) pa_nil)))), Z.body (N := ["self"]) (fun H0 W0 pa => (Z.rs_ret (Z.re_cb Z.o_len (Z.ra_cons (Z.re_fld Z.re_var) Z.ra_nil)))) h (by decide) (fun ss T h hn => ?_)⟩)
  clear hn
  obtain ⟨a, rfl, t, rfl, ok, k1⟩ := h
  have hl : t.text.length ≤ 16777216 := Z.text_short ok
  obtain ⟨m0, m1, m2, m3, m4, m5, m6, m7⟩ := M
  walk_at "zd"

abbrev tp_is_whole : Z.TP := Z.tp3 fun a b c P => ∃ (t : Z.Tr) (lo : Int) (hi : Option Int), a = .fz t ∧ b = .fz (.int lo) ∧ c = .fz (Z.ovT hi) ∧ (Z.tyT t).isSome = true ∧ P (.fz (.bl (Z.wholeT t lo hi))) []
abbrev sp_is_whole (K : PySem.W.Frag) : Sp := Z.spT K 3 (tp_is_whole)
theorem sc_is_whole : FnScope ["thing", "low", "high"] ["thing", "low", "high"] (defScope s_is_whole) := U.scope_by (by decide +kernel)
theorem ok_is_whole {P : Program} {w : World} {K : PySem.W.Frag} {mg : Str → Option Value} {base : Heap} {f : Addr} {fd : FuncData}
    (F : FunD K "is_whole" "is_whole" (defArgs s_is_whole) (defBody s_is_whole) (defScope s_is_whole) [.non] [] f fd) (B : U.BI mg)  :
    FnOk P w K mg base C8.CX0 1 f fd ["thing", "low", "high"] (sp_is_whole K) := by
  have sc := sc_is_whole
  refine F.ok sc (fun vs H Q E h => h.1) (fun cdv A outer s H vs Q E hr h => ⟨_, PSs.nox (pss_cons (ps_if (PW.pt (pw_or (pt_not (pt_val (pe_callB U.c_isinstance (by rfl) B.isinstance_ U.bt_isinstance (pa_cons (pv 0) (pa_cons (U.pe_ty rfl B.int_ U.bt_int) pa_nil))))) (pw_or (pt_val (pe_callB U.c_isinstance (by rfl) B.isinstance_ U.bt_isinstance (pa_cons (pv 0) (pa_cons (U.pe_ty rfl B.bool_ U.bt_bool) pa_nil)))) (pw_or1 (pt_cmpR U.lt (pv 0) (pv 1) (nomark _)))))) (pss_one (ps_ret pe_bl)) pss_nil)
      (pss_one (ps_ret (pe_or (pe_cmpR U.is_ (pv 2) pe_non (nomark _)) (pe_one (pe_cmpR U.le (pv 0) (pv 2) (nomark _))))))), Z.body (N := ["thing", "low", "high"]) (fun H0 W0 pa => (Z.rs_seq (Z.rs_if (Z.rt_or (Z.rt_not (Z.rt_B (Z.re_cb Z.o_isi (Z.ra_cons Z.re_var (Z.ra_cons Z.re_ty Z.ra_nil))))) (Z.rt_or (Z.rt_B (Z.re_cb Z.o_isi (Z.ra_cons Z.re_var (Z.ra_cons Z.re_ty Z.ra_nil)))) (Z.rt_test (Z.re_op Z.o_lt Z.re_var Z.re_var)))) (Z.rs_ret Z.re_bl) Z.rs_next)
      (Z.rs_ret (Z.re_orV (Z.re_op Z.o_is Z.re_var Z.re_non) (Z.re_op Z.o_le Z.re_var Z.re_var))))) h (by decide) (fun ss T h hn => ?_)⟩)
  clear hn
  obtain ⟨a, b, c, rfl, t, lo, hi, rfl, rfl, rfl, ht, k1⟩ := h
  cases t with
  | int i =>
    cases hi with
    | none =>
      have k1 : T (.fz (.bl (decide (lo ≤ i)))) [] := k1
      walk_at "zd"
      by_cases e : i < lo
      · rw [if_pos e]; rw [decide_eq_false (by omega)] at k1; exact k1
      · rw [if_neg e]; rw [decide_eq_true (by omega)] at k1; exact k1
    | some j =>
      have k1 : T (.fz (.bl (decide (lo ≤ i) && decide (i ≤ j)))) [] := k1
      walk_at "zd"
      by_cases e : i < lo
      · rw [if_pos e]; rw [decide_eq_false (by omega), Bool.false_and] at k1; exact k1
      · rw [if_neg e]; rw [decide_eq_true (by omega), Bool.true_and] at k1; exact k1
  | non => have k1 : T (.fz (.bl false)) [] := k1; walk_at "zd"
  | bl b => have k1 : T (.fz (.bl false)) [] := k1; walk_at "zd"
  | str b => have k1 : T (.fz (.bl false)) [] := k1; walk_at "zd"
  | lst b => have k1 : T (.fz (.bl false)) [] := k1; walk_at "zd"
  | tup b => have k1 : T (.fz (.bl false)) [] := k1; walk_at "zd"
  | _ => simp [Z.tyT] at ht

abbrev tp_need_bound : Z.TP := Z.tp1 fun m P => ∃ n : Int, m = .fz (.int n) ∧ 0 ≤ n ∧ n ≤ 60 ∧ P (.fz .non) []
abbrev sp_need_bound (K : PySem.W.Frag) : Sp := Z.spT K 1 (tp_need_bound)
theorem sc_need_bound : FnScope ["many"] ["many"] (defScope s_need_bound) := U.scope_by (by decide +kernel)
theorem ok_need_bound {P : Program} {w : World} {K : PySem.W.Frag} {mg : Str → Option Value} {base : Heap} {f : Addr} {fd : FuncData}
    (F : FunD K "need_bound" "need_bound" (defArgs s_need_bound) (defBody s_need_bound) (defScope s_need_bound) [] [] f fd) (B : U.BI mg) (c_is_whole : C8.Cal P w K mg base 1 "is_whole" (sp_is_whole K) []) (g_MOST : U.GInt mg "MOST" 60) :
    FnOk P w K mg base C8.CX0 2 f fd ["many"] (sp_need_bound K) := by
  have sc := sc_need_bound
  refine F.ok sc (fun vs H Q E h => h.1) (fun cdv A outer s H vs Q E hr h => ⟨_, PSs.nox (pss_one (ps_if (pt_not (pt_val (C8.pe_c c_is_whole hr (by decide) rfl (pa_cons (pv 0) (pa_cons pe_int (pa_cons (U.pe_gi rfl g_MOST) pa_nil)))))) (pss_one ps_never) pss_nil)), Z.body (N := ["many"]) (fun H0 W0 pa => (Z.rs_if (Z.rt_not (Z.rt_B (Z.re_call (Z.rf_fz Z.re_var (Z.rf_fz Z.re_int (Z.rf_fz Z.re_int Z.rf_nil))) (fun _ _ => Z.r_nil) rfl))) Z.rs_never Z.rs_next)) h (by decide) (fun ss T h hn => ?_)⟩)
  clear hn
  obtain ⟨m, rfl, n, rfl, h0, h1, k1⟩ := h
  walk_at "zd"
  refine ⟨some 60, rfl, ?_⟩
  rw [show Z.wholeT (.int n) 0 (some 60) = true by simp [Z.wholeT]; omega]
  walk_at "zd"

abbrev tp_number_of (C CF CM : Addr) : Z.TP := Z.tp2 fun m l P => ∃ (k : Nat) (t : U.Pt), m = .fz (Z.mkT CM t) ∧ l = .fz (.int k) ∧ t.Ok ∧ k ≤ 60 ∧ t.slen ≤ k ∧ P (.fz (.int (U.rank t k))) []
abbrev sp_number_of (K : PySem.W.Frag) (C_Counts : Addr) (C_Figures : Addr) (C_Mark : Addr) : Sp := Z.spT K 2 (tp_number_of C_Counts C_Figures C_Mark)
theorem sc_number_of : FnScope ["mark", "many"] ["mark", "many"] (defScope s_number_of) := U.scope_by (by decide +kernel)
theorem ok_number_of {P : Program} {w : World} {K : PySem.W.Frag} {mg : Str → Option Value} {base : Heap} {f : Addr} {fd : FuncData} {C_Counts : Addr} {C_Figures : Addr} {C_Mark : Addr}
    (F : FunD K "number_of" "number_of" (defArgs s_number_of) (defBody s_number_of) (defScope s_number_of) [] [] f fd) (B : U.BI mg) (c_need_bound : C8.Cal P w K mg base 2 "need_bound" (sp_need_bound K) []) (c_rank : C8.Cal P w K mg base 6 "rank" (sp_rank K C_Counts C_Figures C_Mark) []) (kz_Counts : C8.Mak P w K mg base 3 "Counts" C_Counts (sz_Counts___init__ K C_Counts C_Figures) []) (ow_Mark___len__ : U.OwG P w K mg base 1 C_Mark "__len__" (sp_Mark___len__ K C_Mark)) :
    FnOk P w K mg base C8.CX0 7 f fd ["mark", "many"] (sp_number_of K C_Counts C_Figures C_Mark) := by
  have sc := sc_number_of
  refine F.ok sc (fun vs H Q E h => h.1) (fun cdv A outer s H vs Q E hr h => ⟨_, PSs.nox (pss_cons (ps_expr (C8.pe_c c_need_bound hr (by decide) rfl (pa_cons (pv 1) pa_nil)))
      (pss_cons (ps_if (pt_cmpR U.gt (pe_callB (U.call_lenI ow_Mark___len__ hr (by decide)) (by rfl) B.len_ U.bt_len (pa_cons (pv 0) pa_nil)) (pv 1) (nomark _)) (pss_one ps_never) pss_nil)
      (pss_one (ps_ret (C8.pe_c c_rank hr (by decide) rfl (pa_cons (C8.pe_mk kz_Counts hr (by decide) rfl (pa_cons (pv 1) pa_nil)) (pa_cons (pv 0) (pa_cons (pv 1) pa_nil)))))))), Z.body (N := ["mark", "many"]) (fun H0 W0 pa => (Z.rs_seq (Z.rs_drop (Z.re_call (Z.rf_fz Z.re_var Z.rf_nil) (fun _ _ => Z.r_nil) rfl))
      (Z.rs_seq (Z.rs_if (Z.rt_test (Z.re_op Z.o_gt (Z.re_lenI Z.re_var) Z.re_var)) Z.rs_never Z.rs_next)
      (Z.rs_ret (Z.re_call (Z.rf_fz (Z.re_make (Z.rf_fz Z.re_var Z.rf_nil) (fun _ _ => Z.r_nil) rfl) (Z.rf_fz Z.re_var (Z.rf_fz Z.re_var Z.rf_nil))) (fun _ _ => Z.r_nil) rfl))))) h (by decide) (fun ss T h hn => ?_)⟩)
  clear hn
  obtain ⟨m, l, rfl, k, t, rfl, rfl, ok, hk, hl, k1⟩ := h
  have hts := U.text_len ok
  walk_at "zd"
  refine ⟨by omega, by omega, by omega, by omega, ?_⟩
  rw [if_neg (by omega)]
  exact ⟨k, rfl, hk, k, rfl, k, rfl, Nat.le_refl _, hk, hl, k1⟩

abbrev tp_ahead_of (C CF CM : Addr) : Z.TP := Z.tp2 fun m l P => ∃ (k : Nat) (t : U.Pt), m = .fz (Z.mkT CM t) ∧ l = .fz (.int k) ∧ t.Ok ∧ k ≤ 60 ∧ t.slen ≤ k ∧ P (.fz (.int (U.rank t k))) []
abbrev sp_ahead_of (K : PySem.W.Frag) (C_Counts : Addr) (C_Figures : Addr) (C_Mark : Addr) : Sp := Z.spT K 2 (tp_ahead_of C_Counts C_Figures C_Mark)
theorem sc_ahead_of : FnScope ["mark", "many"] ["mark", "many"] (defScope s_ahead_of) := U.scope_by (by decide +kernel)
theorem ok_ahead_of {P : Program} {w : World} {K : PySem.W.Frag} {mg : Str → Option Value} {base : Heap} {f : Addr} {fd : FuncData} {C_Counts : Addr} {C_Figures : Addr} {C_Mark : Addr}
    (F : FunD K "ahead_of" "ahead_of" (defArgs s_ahead_of) (defBody s_ahead_of) (defScope s_ahead_of) [] [] f fd) (B : U.BI mg) (c_need_bound : C8.Cal P w K mg base 2 "need_bound" (sp_need_bound K) []) (c_rank : C8.Cal P w K mg base 6 "rank" (sp_rank K C_Counts C_Figures C_Mark) []) (kz_Counts : C8.Mak P w K mg base 3 "Counts" C_Counts (sz_Counts___init__ K C_Counts C_Figures) []) :
    FnOk P w K mg base C8.CX0 7 f fd ["mark", "many"] (sp_ahead_of K C_Counts C_Figures C_Mark) := by
  have sc := sc_ahead_of
  refine F.ok sc (fun vs H Q E h => h.1) (fun cdv A outer s H vs Q E hr h => ⟨_, PSs.nox (pss_cons (ps_expr (C8.pe_c c_need_bound hr (by decide) rfl (pa_cons (pv 1) pa_nil)))
      (pss_one (ps_ret (C8.pe_c c_rank hr (by decide) rfl (pa_cons (C8.pe_mk kz_Counts hr (by decide) rfl (pa_cons (pv 1) pa_nil)) (pa_cons (pv 0) (pa_cons (pv 1) pa_nil))))))), Z.body (N := ["mark", "many"]) (fun H0 W0 pa => (Z.rs_seq (Z.rs_drop (Z.re_call (Z.rf_fz Z.re_var Z.rf_nil) (fun _ _ => Z.r_nil) rfl))
      (Z.rs_ret (Z.re_call (Z.rf_fz (Z.re_make (Z.rf_fz Z.re_var Z.rf_nil) (fun _ _ => Z.r_nil) rfl) (Z.rf_fz Z.re_var (Z.rf_fz Z.re_var Z.rf_nil))) (fun _ _ => Z.r_nil) rfl)))) h (by decide) (fun ss T h hn => ?_)⟩)
  clear hn
  obtain ⟨m, l, rfl, k, t, rfl, rfl, ok, hk, hl, k1⟩ := h
  walk_at "zd"
  exact ⟨by omega, by omega, k, rfl, hk, k, rfl, k, rfl, Nat.le_refl _, hk, hl, k1⟩

abbrev tp__law_order : Z.TP := Z.tp2 fun a b P => ∃ (t u : U.Pt), a = .fz (Z.ptT t) ∧ b = .fz (Z.ptT u) ∧ Z.Sm 60 t ∧ Z.Sm 60 u ∧ P (.fz (.int ((if PySem.W.dataLt (U.keyD u) (U.keyD t) = true then 1 else 0) - (if PySem.W.dataLt (U.keyD t) (U.keyD u) = true then 1 else 0)))) []
abbrev sp__law_order (K : PySem.W.Frag) : Sp := Z.spT K 2 (tp__law_order)
theorem sc__law_order : FnScope ["_law_one", "_law_other", "_law_mine", "_law_theirs"] ["_law_one", "_law_other"] (defScope s__law_order) := U.scope_by (by decide +kernel)
theorem ok__law_order {P : Program} {w : World} {K : PySem.W.Frag} {mg : Str → Option Value} {base : Heap} {f : Addr} {fd : FuncData}
    (F : FunD K "_law_order" "_law_order" (defArgs s__law_order) (defBody s__law_order) (defScope s__law_order) [] [] f fd) (B : U.BI mg)  :
    FnOk P w K mg base C8.CX0 1 f fd ["_law_one", "_law_other"] (sp__law_order K) := by
  have sc := sc__law_order
  refine F.ok sc (fun vs H Q E h => h.1) (fun cdv A outer s H vs Q E hr h => ⟨_, PSs.nox (pss_cons (ps_set (i := 2) sc.nd rfl (Or.inl rfl) (pe_lst (pa_cons (pe_ix U.ix (pv 0) pe_int (fun _ _ => rfl)) (pa_cons (pe_ix U.ix (pv 0) pe_int (fun _ _ => rfl)) (pa_cons (pe_ix U.ix (pv 0) pe_int (fun _ _ => rfl)) (pa_cons (pe_callTy U.c_list (by rfl) B.list_ U.bt_list (pa_cons (pe_ix U.ix (pv 0) pe_int (fun _ _ => rfl)) pa_nil)) (pa_cons (pe_orT (pe_ix U.ix (pv 0) pe_int (fun _ _ => rfl)) (pe_one pe_int)) (pa_cons (pe_orT (pe_ix U.ix (pv 0) pe_int (fun _ _ => rfl)) (pe_one pe_int)) pa_nil))))))))
      (pss_cons (ps_set (i := 3) sc.nd rfl (Or.inl rfl) (pe_lst (pa_cons (pe_ix U.ix (pv 1) pe_int (fun _ _ => rfl)) (pa_cons (pe_ix U.ix (pv 1) pe_int (fun _ _ => rfl)) (pa_cons (pe_ix U.ix (pv 1) pe_int (fun _ _ => rfl)) (pa_cons (pe_callTy U.c_list (by rfl) B.list_ U.bt_list (pa_cons (pe_ix U.ix (pv 1) pe_int (fun _ _ => rfl)) pa_nil)) (pa_cons (pe_orT (pe_ix U.ix (pv 1) pe_int (fun _ _ => rfl)) (pe_one pe_int)) (pa_cons (pe_orT (pe_ix U.ix (pv 1) pe_int (fun _ _ => rfl)) (pe_one pe_int)) pa_nil))))))))
      (pss_one (ps_ret (pe_op U.sub (pe_callTy U.c_int (by rfl) B.int_ U.bt_int (pa_cons (pe_cmpR (U.gtR hr) (pv 2) (pv 3) (nomark _)) pa_nil)) (pe_callTy U.c_int (by rfl) B.int_ U.bt_int (pa_cons (pe_cmpR (U.ltR hr) (pv 2) (pv 3) (nomark _)) pa_nil))))))), Z.body (N := ["_law_one", "_law_other", "_law_mine", "_law_theirs"]) (fun H0 W0 pa => (Z.rs_seq (Z.rs_set (Z.re_lst (Z.rf_fz (Z.re_op Z.o_ix Z.re_var Z.re_int) (Z.rf_fz (Z.re_op Z.o_ix Z.re_var Z.re_int) (Z.rf_fz (Z.re_op Z.o_ix Z.re_var Z.re_int) (Z.rf_fz (Z.re_cb Z.o_list (Z.ra_cons (Z.re_op Z.o_ix Z.re_var Z.re_int) Z.ra_nil)) (Z.rf_fz (Z.re_orT (Z.re_op Z.o_ix Z.re_var Z.re_int) Z.re_int) (Z.rf_fz (Z.re_orT (Z.re_op Z.o_ix Z.re_var Z.re_int) Z.re_int) Z.rf_nil))))))))
      (Z.rs_seq (Z.rs_set (Z.re_lst (Z.rf_fz (Z.re_op Z.o_ix Z.re_var Z.re_int) (Z.rf_fz (Z.re_op Z.o_ix Z.re_var Z.re_int) (Z.rf_fz (Z.re_op Z.o_ix Z.re_var Z.re_int) (Z.rf_fz (Z.re_cb Z.o_list (Z.ra_cons (Z.re_op Z.o_ix Z.re_var Z.re_int) Z.ra_nil)) (Z.rf_fz (Z.re_orT (Z.re_op Z.o_ix Z.re_var Z.re_int) Z.re_int) (Z.rf_fz (Z.re_orT (Z.re_op Z.o_ix Z.re_var Z.re_int) Z.re_int) Z.rf_nil))))))))
      (Z.rs_ret (Z.re_op Z.o_sub (Z.re_cb Z.o_int (Z.ra_cons (Z.re_op Z.o_gtD Z.re_var Z.re_var) Z.ra_nil)) (Z.re_cb Z.o_int (Z.ra_cons (Z.re_op Z.o_ltD Z.re_var Z.re_var) Z.ra_nil))))))) h (by decide) (fun ss T h hn => ?_)⟩)
  clear hn
  obtain ⟨a, b, rfl, t, u, rfl, rfl, sm1, sm2, k1⟩ := h
  rw [← Z.kl_lt, ← Z.kl_lt] at k1
  have y1 : ∀ i, t.y = some i → (i != 0) = true := fun i e => by have := sm1.y i e; rw [bne_iff_ne]; omega
  have y2 : ∀ i, u.y = some i → (i != 0) = true := fun i e => by have := sm2.y i e; rw [bne_iff_ne]; omega
  have c1 : ∀ i, t.c = some i → (i != 0) = true := fun i e => by have := sm1.c i e; rw [bne_iff_ne]; omega
  have c2 : ∀ i, u.c = some i → (i != 0) = true := fun i e => by have := sm2.c i e; rw [bne_iff_ne]; omega
  clear sm1 sm2
  obtain ⟨l, n, p, ms, y, c⟩ := t
  obtain ⟨l', n', p', ms', y', c'⟩ := u
  rcases y with - | y <;> rcases c with - | c <;> rcases y' with - | y' <;> rcases c' with - | c'
  all_goals
    try have y1 := y1 _ rfl
    try have y2 := y2 _ rfl
    try have c1 := c1 _ rfl
    try have c2 := c2 _ rfl
    dsimp only [Z.ptT, Option.getD_some, Option.getD_none] at k1 ⊢
    walk_at "zd"
    exact ⟨Z.kl_alike, Z.kl_ne, Z.kl_depth, Z.kl_alike, Z.kl_ne, Z.kl_depth⟩

abbrev tp_how_many (C CF : Addr) : Z.TP := Z.tp1 fun l P => ∃ (k : Nat), l = .fz (.int k) ∧ k ≤ 60 ∧ P (.fz (.int (U.sigF k))) []
abbrev sp_how_many (K : PySem.W.Frag) (C_Counts : Addr) (C_Figures : Addr) : Sp := Z.spT K 1 (tp_how_many C_Counts C_Figures)
theorem sc_how_many : FnScope ["many"] ["many"] (defScope s_how_many) := U.scope_by (by decide +kernel)
theorem ok_how_many {P : Program} {w : World} {K : PySem.W.Frag} {mg : Str → Option Value} {base : Heap} {f : Addr} {fd : FuncData} {C_Counts : Addr} {C_Figures : Addr}
    (F : FunD K "how_many" "how_many" (defArgs s_how_many) (defBody s_how_many) (defScope s_how_many) [] [] f fd) (B : U.BI mg) (MC : U.CtC K C_Counts) (c_need_bound : C8.Cal P w K mg base 2 "need_bound" (sp_need_bound K) []) (kz_Counts : C8.Mak P w K mg base 3 "Counts" C_Counts (sz_Counts___init__ K C_Counts C_Figures) []) :
    FnOk P w K mg base C8.CX0 5 f fd ["many"] (sp_how_many K C_Counts C_Figures) := by
  have sc := sc_how_many
  refine F.ok sc (fun vs H Q E h => h.1) (fun cdv A outer s H vs Q E hr h => ⟨_, PSs.nox (pss_cons (ps_expr (C8.pe_c c_need_bound hr (by decide) rfl (pa_cons (pv 0) pa_nil)))
      (pss_one (ps_ret (pe_ix U.ix (pe_fld (C8.pe_mk kz_Counts hr (by decide) rfl (pa_cons (pv 0) pa_nil)) rfl) (pv 0) (fun _ _ => rfl))))), Z.body (N := ["many"]) (fun H0 W0 pa => (Z.rs_seq (Z.rs_drop (Z.re_call (Z.rf_fz Z.re_var Z.rf_nil) (fun _ _ => Z.r_nil) rfl))
      (Z.rs_ret (Z.re_op Z.o_ix (Z.re_fld (Z.re_make (Z.rf_fz Z.re_var Z.rf_nil) (fun _ _ => Z.r_nil) rfl)) Z.re_var)))) h (by decide) (fun ss T h hn => ?_)⟩)
  clear hn
  obtain ⟨l, rfl, k, rfl, hk, k1⟩ := h
  obtain ⟨mc, a1, a2, a3, a4, a5, a6, a7, a8⟩ := MC
  walk_at "zd"
  refine ⟨by omega, by omega, k, rfl, hk, Z.ivT_ix (by omega) (by omega) ?_⟩
  rw [Int.toNat_natCast]
  exact k1

abbrev tp_figures_of : Z.TP := Z.tp1 fun a P => ∃ (i : Int), a = .fz (.int i) ∧ 0 ≤ i ∧ i < 10 ^ 60 ∧ P (.fz (.str (U.numL i.toNat))) []
abbrev sp_figures_of (K : PySem.W.Frag) : Sp := Z.spT K 1 (tp_figures_of)
theorem sc_figures_of : FnScope ["number", "parts", "rest"] ["number"] (defScope s_figures_of) := U.scope_by (by decide +kernel)
theorem ok_figures_of {P : Program} {w : World} {K : PySem.W.Frag} {mg : Str → Option Value} {base : Heap} {f : Addr} {fd : FuncData}
    (F : FunD K "figures_of" "figures_of" (defArgs s_figures_of) (defBody s_figures_of) (defScope s_figures_of) [] [] f fd) (B : U.BI mg) (g_PART : U.GInt mg "PART" 60) :
    FnOk P w K mg base C8.CX0 1 f fd ["number"] (sp_figures_of K) := by
  have sc := sc_figures_of
  refine F.ok sc (fun vs H Q E h => h.1) (fun cdv A outer s H vs Q E hr h => ⟨_, PSs.nox (pss_cons (ps_set (i := 1) sc.nd rfl (Or.inl rfl) (pe_lst pa_nil))
      (pss_cons (ps_while PassesOwn.never (pt_cmpR U.ge (pv 0) (pe_op U.pow pe_int pe_int) (nomark _)) (pss_cons (ps_asg (pe_callB U.c_divmod (by rfl) B.divmod_ U.bt_divmod (pa_cons (pv 0) (pa_cons (pe_op U.pow pe_int pe_int) pa_nil))) (U.pg_tupK (K := K) (n := 2) rfl (pg_tup (by rfl) (pgs_cons (pg_name (i := 0) sc.nd rfl (Or.inl rfl)) (pgs_cons (pg_name (i := 2) sc.nd rfl (Or.inl rfl)) pgs_nil)))))
      (pss_one (ps_expr (U.pe_l PySem.F.slot_list_append PySem.F.type_list_append U.m_append (pv 1) (pa_cons (U.pe_s PySem.F.slot_str_zfill PySem.F.type_str_zfill U.m_zfill (pe_callTy U.c_str (by rfl) B.str_ U.bt_str (pa_cons (pv 2) pa_nil)) (pa_cons (U.pe_gi rfl g_PART) pa_nil)) pa_nil))))))
      (pss_cons (ps_expr (U.pe_l PySem.F.slot_list_append PySem.F.type_list_append U.m_append (pv 1) (pa_cons (pe_callTy U.c_str (by rfl) B.str_ U.bt_str (pa_cons (pv 0) pa_nil)) pa_nil)))
      (pss_one (ps_ret (U.pe_s PySem.F.slot_str_join PySem.F.type_str_join U.m_join (U.pe_s' [] (by decide +kernel)) (pa_cons (pe_revL (pv 1)) pa_nil))))))), Z.body (N := ["number", "parts", "rest"]) (fun H0 W0 pa => (Z.rs_seq (Z.rs_set (Z.re_lst Z.rf_nil))
      (Z.rs_seq (Z.rs_while (Z.rt_test (Z.re_op Z.o_ge Z.re_var (Z.re_op Z.o_pow Z.re_int Z.re_int))) (Z.rs_seq (Z.rs_asg (Z.re_cb Z.o_divmod (Z.ra_cons Z.re_var (Z.ra_cons (Z.re_op Z.o_pow Z.re_int Z.re_int) Z.ra_nil))) (Z.rg_tup (Z.rgs_cons (Z.rgs_cons Z.rgs_nil))))
      (Z.rs_append (Z.re_bs Z.o_zfill (Z.re_cb Z.o_str (Z.ra_cons Z.re_var Z.ra_nil)) (Z.ra_cons Z.re_int Z.ra_nil)))))
      (Z.rs_seq (Z.rs_append (Z.re_cb Z.o_str (Z.ra_cons Z.re_var Z.ra_nil)))
      (Z.rs_ret (Z.re_bs Z.o_join Z.re_str (Z.ra_cons (Z.re_revL Z.re_var) Z.ra_nil))))))) h (by decide) (fun ss T h hn => ?_)⟩)
  clear hn
  obtain ⟨a, rfl, i, rfl, h0, h1, k1⟩ := h
  have h2 := U.lt1900 h1
  walk_at "zd"
  refine Z.while_no fun k => ?_
  walk_at "zd"
  refine ⟨⟨by decide, by decide, by decide⟩, ?_⟩
  rw [if_neg (by omega)]
  have e : (U.numL i.toNat).length ≤ 60 := U.num_len h0 (by decide) h1
  exact ⟨[U.numL i.toNat], rfl, by simp; omega, k1⟩

abbrev tp_Mark_text_of (C : Addr) : Z.TP := Z.tp1 fun a P => ∃ t : U.Pt, a = .mu (.ins C Z.mkN6 [.tup (t.ms.map Z.Tr.str), .str t.l, .int t.n, .str t.p, Z.ovT t.y, Z.ovT t.c]) ∧ t.Ok ∧ P (.fz (.str t.text)) [.ins C Z.mkN6 [.tup (t.ms.map Z.Tr.str), .str t.l, .int t.n, .str t.p, Z.ovT t.y, Z.ovT t.c]]
abbrev sp_Mark_text_of (K : PySem.W.Frag) (C_Mark : Addr) : Sp := Z.spT K 1 (tp_Mark_text_of C_Mark)
theorem sc_Mark_text_of : FnScope ["self", "words"] ["self"] (defScope s_Mark_text_of) := U.scope_by (by decide +kernel)
theorem ok_Mark_text_of {P : Program} {w : World} {K : PySem.W.Frag} {mg : Str → Option Value} {base : Heap} {f : Addr} {fd : FuncData} {C_Mark : Addr}
    (F : FunD K "text_of" "Mark.text_of" (defArgs s_Mark_text_of) (defBody s_Mark_text_of) (defScope s_Mark_text_of) [] [] f fd) (B : U.BI mg) (M : U.MkC K C_Mark) (c_figures_of : C8.Cal P w K mg base 1 "figures_of" (sp_figures_of K) []) :
    FnOk P w K mg base C8.CX0 2 f fd ["self"] (sp_Mark_text_of K C_Mark) := by
  have sc := sc_Mark_text_of
  refine F.ok sc (fun vs H Q E h => h.1) (fun cdv A outer s H vs Q E hr h => ⟨_, PSs.nox (pss_cons (ps_set (i := 1) sc.nd rfl (Or.inl rfl) (pe_lst (pa_cons (U.pe_jn (PJ.cons (U.pe_fm (pe_fld (pv 0) rfl)) (PJ.cons (U.pe_fm (pe_fld (pv 0) rfl)) PJ.nil)) (List.forall_mem_cons.mpr ⟨(U.mono_fmt (U.mono_fld U.mono_var)), (List.forall_mem_cons.mpr ⟨(U.mono_fmt (U.mono_fld U.mono_var)), (fun _ z => nomatch z)⟩)⟩)) pa_nil)))
      (pss_cons (ps_if (pt_cmpR U.ne (pe_fld (pv 0) rfl) (U.pe_s' [] (by decide +kernel)) (nomark _)) (pss_one (ps_augS (pv 1) pe_int U.getL (pe_op U.add (U.pe_s' [46] (by decide +kernel)) (pe_fld (pv 0) rfl)) U.ip_add U.setL)) pss_nil)
      (pss_cons (ps_expr (U.pe_l PySem.F.slot_list_extend PySem.F.type_list_extend U.m_extend (pv 1) (pa_cons (pe_fld (pv 0) rfl) pa_nil)))
      (pss_cons (ps_if (pt_cmpR U.isNot (pe_fld (pv 0) rfl) pe_non (nomark _)) (pss_one (ps_expr (U.pe_l PySem.F.slot_list_append PySem.F.type_list_append U.m_append (pv 1) (pa_cons (pe_callTy U.c_str (by rfl) B.str_ U.bt_str (pa_cons (pe_fld (pv 0) rfl) pa_nil)) pa_nil)))) pss_nil)
      (pss_cons (ps_if (pt_cmpR U.isNot (pe_fld (pv 0) rfl) pe_non (nomark _)) (pss_one (ps_expr (U.pe_l PySem.F.slot_list_append PySem.F.type_list_append U.m_append (pv 1) (pa_cons (pe_op U.add (U.pe_s' [99, 46] (by decide +kernel)) (C8.pe_c c_figures_of hr (by decide) rfl (pa_cons (pe_fld (pv 0) rfl) pa_nil))) pa_nil)))) pss_nil)
      (pss_one (ps_ret (U.pe_s PySem.F.slot_str_join PySem.F.type_str_join U.m_join (U.pe_s' [32] (by decide +kernel)) (pa_cons (pv 1) pa_nil))))))))), Z.body (N := ["self", "words"]) (fun H0 W0 pa => (Z.rs_seq (Z.rs_set (Z.re_lst (Z.rf_fz (Z.re_joined (.cons (Z.re_fmt (Z.re_fld Z.re_var)) (.cons (Z.re_fmt (Z.re_fld Z.re_var)) .nil))) Z.rf_nil)))
      (Z.rs_seq (Z.rs_if (Z.rt_test (Z.re_op Z.o_ne (Z.re_fld Z.re_var) Z.re_str)) (Z.rs_augS Z.re_int (Z.re_op Z.o_add Z.re_str (Z.re_fld Z.re_var)) Z.o_ipAdd) Z.rs_next)
      (Z.rs_seq (Z.rs_extend (Z.re_fld Z.re_var))
      (Z.rs_seq (Z.rs_if (Z.rt_test (Z.re_op Z.o_isNot (Z.re_fld Z.re_var) Z.re_non)) (Z.rs_append (Z.re_cb Z.o_str (Z.ra_cons (Z.re_fld Z.re_var) Z.ra_nil))) Z.rs_next)
      (Z.rs_seq (Z.rs_if (Z.rt_test (Z.re_op Z.o_isNot (Z.re_fld Z.re_var) Z.re_non)) (Z.rs_append (Z.re_op Z.o_add Z.re_str (Z.re_call (Z.rf_fz (Z.re_fld Z.re_var) Z.rf_nil) (fun _ _ => Z.r_nil) rfl))) Z.rs_next)
      (Z.rs_ret (Z.re_bs Z.o_join Z.re_str (Z.ra_cons Z.re_var Z.ra_nil))))))))) h (by decide) (fun ss T h hn => ?_)⟩)
  clear hn
  obtain ⟨a, rfl, t, rfl, ok, k1⟩ := h
  obtain ⟨m0, m1, m2, m3, m4, m5, m6, m7⟩ := M
  have a1 := ok.ll
  have a2 := ok.nl
  have a3 := ok.n1
  have a4 := ok.n2
  have a5 := ok.pl
  have a6 := ok.join
  have a7 := ok.mn
  have a8 := ok.y
  have a9 := ok.c
  have b0 : 0 ≤ t.n := by omega
  have b1 : t.n < 2 ^ 1900 := U.lt1900 (by omega)
  have e0 : t.text = TL.joinL [32] t.ws := rfl
  rw [e0] at k1
  unfold U.Pt.ws U.Pt.w0 at k1 a6
  clear ok e0
  obtain ⟨l, n, pp, ms, y, c⟩ := t
  dsimp only at *
  rw [List.map_cons, List.sum_cons, List.length_cons] at a6
  have c1 : ∀ i, c = some i → 0 ≤ i ∧ i < 10 ^ 60 ∧ (U.numL i.toNat).length ≤ 60 := fun i e => by
    obtain ⟨c1, c2⟩ := a9 i e
    exact ⟨by omega, c2, U.num_len (by omega) (by decide) c2⟩
  have y1 : ∀ i, y = some i → 0 ≤ i ∧ i < 2 ^ 1900 := fun i e => by
    obtain ⟨c1, c2⟩ := a8 i e
    exact ⟨by omega, U.lt1900 (by omega)⟩
  by_cases hp0 : pp = [] <;> rcases y with - | y <;> rcases c with - | c
  all_goals
    try obtain ⟨c2, c3, c4⟩ := c1 _ rfl
    try obtain ⟨y2, y3⟩ := y1 _ rfl
    clear c1 y1 a8 a9
    simp only [hp0, if_true, if_false, List.append_nil, List.nil_append] at k1 a6
    walk_at "zd"
    try simp only [Z.strsT_1, Z.strsT_2, Option.map_some, U.optE_some]
    simp only [List.length_append, List.length_cons, List.length_nil, List.length_map, List.map_append, List.map_cons, List.map_nil, List.sum_append, List.sum_cons, List.sum_nil, List.append_nil, List.nil_append, List.cons_append] at a6 k1 ⊢
    (repeat' apply And.intro) <;> first | exact k1 | omega

abbrev tp_need_copy : Z.TP := Z.tp1 fun a P => ∃ o : Option Int, a = .fz (Z.ovT o) ∧ (∀ i, o = some i → 2 ≤ i) ∧ P (.fz .non) []
abbrev sp_need_copy (K : PySem.W.Frag) : Sp := Z.spT K 1 (tp_need_copy)
theorem sc_need_copy : FnScope ["copy"] ["copy"] (defScope s_need_copy) := U.scope_by (by decide +kernel)
theorem ok_need_copy {P : Program} {w : World} {K : PySem.W.Frag} {mg : Str → Option Value} {base : Heap} {f : Addr} {fd : FuncData}
    (F : FunD K "need_copy" "need_copy" (defArgs s_need_copy) (defBody s_need_copy) (defScope s_need_copy) [] [] f fd) (B : U.BI mg) (c_is_whole_d1 : C8.Cal P w K mg base 1 "is_whole" (sp_is_whole K) [.non]) :
    FnOk P w K mg base C8.CX0 2 f fd ["copy"] (sp_need_copy K) := by
  have sc := sc_need_copy
  refine F.ok sc (fun vs H Q E h => h.1) (fun cdv A outer s H vs Q E hr h => ⟨_, PSs.nox (pss_one (ps_if (PW.pt (pw_and (pt_cmpR U.isNot (pv 0) pe_non (nomark _)) (pw_and1 (pt_not (pt_val (C8.pe_c c_is_whole_d1 hr (by decide) rfl (pa_cons (pv 0) (pa_cons pe_int pa_nil)))))))) (pss_one ps_never) pss_nil)), Z.body (N := ["copy"]) (fun H0 W0 pa => (Z.rs_if (Z.rt_and (Z.rt_test (Z.re_op Z.o_isNot Z.re_var Z.re_non)) (Z.rt_not (Z.rt_B (Z.re_call (Z.rf_fz Z.re_var (Z.rf_fz Z.re_int Z.rf_nil)) (fun _ _ => (Z.r_cons Z.r_non Z.r_nil)) rfl)))) Z.rs_never Z.rs_next)) h (by decide) (fun ss T h hn => ?_)⟩)
  clear hn
  obtain ⟨a, rfl, o, rfl, ho, k1⟩ := h
  cases o with
  | none => walk_at "zd"
  | some i =>
    have h1 := ho i rfl
    walk_at "zd"
    refine ⟨none, rfl, ?_⟩
    rw [show Z.wholeT (.int i) 2 none = true by simp [Z.wholeT]; omega]
    walk_at "zd"

abbrev tp_need_year : Z.TP := Z.tp1 fun a P => ∃ o : Option Int, a = .fz (Z.ovT o) ∧ (∀ i, o = some i → 1000 ≤ i ∧ i ≤ 2999) ∧ P (.fz .non) []
abbrev sp_need_year (K : PySem.W.Frag) : Sp := Z.spT K 1 (tp_need_year)
theorem sc_need_year : FnScope ["year"] ["year"] (defScope s_need_year) := U.scope_by (by decide +kernel)
theorem ok_need_year {P : Program} {w : World} {K : PySem.W.Frag} {mg : Str → Option Value} {base : Heap} {f : Addr} {fd : FuncData}
    (F : FunD K "need_year" "need_year" (defArgs s_need_year) (defBody s_need_year) (defScope s_need_year) [] [] f fd) (B : U.BI mg) (c_is_whole : C8.Cal P w K mg base 1 "is_whole" (sp_is_whole K) []) (g_FIRST_YEAR : U.GInt mg "FIRST_YEAR" 1000) (g_LAST_YEAR : U.GInt mg "LAST_YEAR" 2999) :
    FnOk P w K mg base C8.CX0 2 f fd ["year"] (sp_need_year K) := by
  have sc := sc_need_year
  refine F.ok sc (fun vs H Q E h => h.1) (fun cdv A outer s H vs Q E hr h => ⟨_, PSs.nox (pss_one (ps_if (PW.pt (pw_and (pt_cmpR U.isNot (pv 0) pe_non (nomark _)) (pw_and1 (pt_not (pt_val (C8.pe_c c_is_whole hr (by decide) rfl (pa_cons (pv 0) (pa_cons (U.pe_gi rfl g_FIRST_YEAR) (pa_cons (U.pe_gi rfl g_LAST_YEAR) pa_nil))))))))) (pss_one ps_never) pss_nil)), Z.body (N := ["year"]) (fun H0 W0 pa => (Z.rs_if (Z.rt_and (Z.rt_test (Z.re_op Z.o_isNot Z.re_var Z.re_non)) (Z.rt_not (Z.rt_B (Z.re_call (Z.rf_fz Z.re_var (Z.rf_fz Z.re_int (Z.rf_fz Z.re_int Z.rf_nil))) (fun _ _ => Z.r_nil) rfl)))) Z.rs_never Z.rs_next)) h (by decide) (fun ss T h hn => ?_)⟩)
  clear hn
  obtain ⟨a, rfl, o, rfl, ho, k1⟩ := h
  cases o with
  | none => walk_at "zd"
  | some i =>
    obtain ⟨h1, h2⟩ := ho i rfl
    walk_at "zd"
    refine ⟨some 2999, rfl, ?_⟩
    rw [show Z.wholeT (.int i) 1000 (some 2999) = true by simp [Z.wholeT]; omega]
    walk_at "zd"

abbrev tp_is_figures : Z.TP := Z.tp1 fun a P => ∃ (l : List Nat), a = .fz (.str l) ∧ l.length ≤ 16777214 ∧ P (.fz (.bl (U.figsB l))) []
abbrev sp_is_figures (K : PySem.W.Frag) : Sp := Z.spT K 1 (tp_is_figures)
theorem sc_is_figures : FnScope ["thing", "sign"] ["thing"] (defScope s_is_figures) := U.scope_by (by decide +kernel)
theorem ok_is_figures {P : Program} {w : World} {K : PySem.W.Frag} {mg : Str → Option Value} {base : Heap} {f : Addr} {fd : FuncData}
    (F : FunD K "is_figures" "is_figures" (defArgs s_is_figures) (defBody s_is_figures) (defScope s_is_figures) [] [] f fd) (B : U.BI mg) (g_FIGURES : U.GStr mg "FIGURES" [48, 49, 50, 51, 52, 53, 54, 55, 56, 57]) :
    FnOk P w K mg base C8.CX0 1 f fd ["thing"] (sp_is_figures K) := by
  have sc := sc_is_figures
  refine F.ok sc (fun vs H Q E h => h.1) (fun cdv A outer s H vs Q E hr h => ⟨_, PSs.nox (pss_one (ps_ret (pe_and (pe_cmpR U.ne (pv 0) (U.pe_s' [] (by decide +kernel)) (nomark _)) (pe_and (pe_callB (U.c_all rfl) (by rfl) B.all_ U.bt_all (pa_cons (pe_lc (own := [("sign", 1)]) rfl sc.nd (pi_str (pv 0)) (blkOk_by (N := ["thing", "sign"]) (sc := defScope s_is_figures) (own := [("sign", 1)]) (by decide +kernel)) (fun _ _ _ _ _ => (pg_name (i := 1) sc.nd rfl (Or.inl rfl))) (fun _ _ _ _ _ => pts_nil) (fun _ _ _ _ _ => (pe_cmpR U.in_ (pv 1) (U.pe_gs rfl g_FIGURES) rfl))) pa_nil)) (pe_one (pe_cmpR U.ne (pe_ix U.ix (pv 0) (pe_un U.neg pe_int) (fun _ _ => rfl)) (U.pe_s' [48] (by decide +kernel)) (nomark _))))))), Z.body (N := ["thing", "sign"]) (fun H0 W0 pa => (Z.rs_ret (Z.re_andV (Z.re_op Z.o_ne Z.re_var Z.re_str) (Z.re_andV (Z.re_cb Z.o_all (Z.ra_cons (Z.re_lc (by decide) (Z.ri_str Z.re_var) Z.rg_name Z.rt_yes (Z.re_op Z.o_in Z.re_var Z.re_str)) Z.ra_nil)) (Z.re_op Z.o_ne (Z.re_op Z.o_ix Z.re_var (Z.re_un Z.o_neg Z.re_int)) Z.re_str))))) h (by decide) (fun ss T h hn => ?_)⟩)
  clear hn
  obtain ⟨a, rfl, l, rfl, hl, k1⟩ := h
  by_cases hn : l = []
  · subst hn
    have k1 : T (.fz (.bl false)) [] := k1
    walk_at "zd"
  · unfold U.figsB at k1
    rw [show l.isEmpty = false by cases l <;> simp at hn ⊢] at k1
    walk_at "zd"
    refine Z.lc_map (Z.inS Z.D09) (by simp [Z.sgT]; omega) rfl (fun i t acc et ha => ?_) ?_
    · obtain ⟨d, hd, rfl⟩ := Z.sgT_at et
      walk_at "zd"
      exact Z.mpI_next rfl et rfl rfl
    · walk_at "zd"
      rw [Z.all_fig]
      obtain ⟨l', c, rfl⟩ : ∃ l' c, l = l' ++ [c] := ⟨_, _, (List.dropLast_concat_getLast hn).symm⟩
      rw [List.getLast?_append] at k1
      by_cases e : (l' ++ [c]).all U.figB = true
      · rw [if_pos e]
        rw [e] at k1
        refine ⟨by omega, c, U.atI_last, ?_⟩
        by_cases e2 : c = 48
        · subst e2; simpa using k1
        · have : (([c].getLast?.or l'.getLast?) == some 48) = false := by simp [e2]
          rw [this] at k1
          simpa [e2] using k1
      · rw [if_neg e]
        rw [Bool.not_eq_true] at e
        rw [e] at k1
        simpa using k1

abbrev tp_is_maker : Z.TP := Z.tp1 fun a P => ∃ (t : Z.Tr), a = .fz t ∧ Z.shortT t = true ∧ P (.fz (.bl (Z.makerT t))) []
abbrev sp_is_maker (K : PySem.W.Frag) : Sp := Z.spT K 1 (tp_is_maker)
theorem sc_is_maker : FnScope ["thing"] ["thing"] (defScope s_is_maker) := U.scope_by (by decide +kernel)
theorem ok_is_maker {P : Program} {w : World} {K : PySem.W.Frag} {mg : Str → Option Value} {base : Heap} {f : Addr} {fd : FuncData}
    (F : FunD K "is_maker" "is_maker" (defArgs s_is_maker) (defBody s_is_maker) (defScope s_is_maker) [] [] f fd) (B : U.BI mg) (c_is_figures : C8.Cal P w K mg base 1 "is_figures" (sp_is_figures K) []) (g_LETTERS_signs : U.GStr mg "LETTERS_signs" [97, 98, 99, 100, 101, 102, 103, 104, 105, 106, 107, 108, 109, 110, 111, 112, 113, 114, 115, 116, 117, 118, 119, 120, 121, 122]) :
    FnOk P w K mg base C8.CX0 2 f fd ["thing"] (sp_is_maker K) := by
  have sc := sc_is_maker
  refine F.ok sc (fun vs H Q E h => h.1) (fun cdv A outer s H vs Q E hr h => ⟨_, PSs.nox (pss_cons (ps_if (PW.pt (pw_or (pt_not (pt_val (pe_callB U.c_isinstance (by rfl) B.isinstance_ U.bt_isinstance (pa_cons (pv 0) (pa_cons (U.pe_ty rfl B.str_ U.bt_str) pa_nil))))) (pw_or1 (pt_cmpR U.eq (pv 0) (U.pe_s' [] (by decide +kernel)) (nomark _))))) (pss_one (ps_ret pe_bl)) pss_nil)
      (pss_one (ps_ret (pe_and (pe_cmpR U.in_ (pe_ix U.ix (pv 0) pe_int (fun _ _ => rfl)) (U.pe_gs rfl g_LETTERS_signs) rfl) (pe_one (C8.pe_c c_is_figures hr (by decide) rfl (pa_cons (pe_slice U.sl (pv 0) (po_some pe_int) po_none) pa_nil))))))), Z.body (N := ["thing"]) (fun H0 W0 pa => (Z.rs_seq (Z.rs_if (Z.rt_or (Z.rt_not (Z.rt_B (Z.re_cb Z.o_isi (Z.ra_cons Z.re_var (Z.ra_cons Z.re_ty Z.ra_nil))))) (Z.rt_test (Z.re_op Z.o_eq Z.re_var Z.re_str))) (Z.rs_ret Z.re_bl) Z.rs_next)
      (Z.rs_ret (Z.re_andV (Z.re_op Z.o_in (Z.re_op Z.o_ix Z.re_var Z.re_int) Z.re_str) (Z.re_call (Z.rf_fz (Z.re_sl Z.o_sl Z.re_var (Z.ro_part Z.re_int) Z.ro_no) Z.rf_nil) (fun _ _ => Z.r_nil) rfl))))) h (by decide) (fun ss T h hn => ?_)⟩)
  clear hn
  obtain ⟨a, rfl, t, rfl, ht, k1⟩ := h
  cases t with
  | str l =>
    have hl : l.length ≤ 16777214 := by simpa [Z.shortT] using ht
    have k1 : T (.fz (.bl (U.makerB l))) [] := k1
    cases l with
    | nil => have k1 : T (.fz (.bl false)) [] := k1; walk_at "zd"
    | cons c l =>
      have k1 : T (.fz (.bl (U.lowB c && U.figsB l))) [] := k1
      unfold U.lowB at k1
      have hl2 : l.length + 1 ≤ 16777214 := by simpa using hl
      have hl3 : l.length ≤ 16777214 := by omega
      walk_at "zd"
      refine ⟨by omega, ?_⟩
      by_cases e : c ∈ Z.AZ
      · rw [if_pos e]
        rw [decide_eq_true e, Bool.true_and] at k1
        exact ⟨by omega, k1⟩
      · rw [if_neg e]
        rw [decide_eq_false e, Bool.false_and] at k1
        exact k1
  | non => have k1 : T (.fz (.bl false)) [] := k1; walk_at "zd"
  | bl b => have k1 : T (.fz (.bl false)) [] := k1; walk_at "zd"
  | int b => have k1 : T (.fz (.bl false)) [] := k1; walk_at "zd"
  | lst b => have k1 : T (.fz (.bl false)) [] := k1; walk_at "zd"
  | tup b => have k1 : T (.fz (.bl false)) [] := k1; walk_at "zd"
  | _ => simp [Z.shortT, Z.tyT] at ht

abbrev tp_makers_in : Z.TP := Z.tp1 fun a P => ∃ (t : Z.Tr) (ms : List (List Nat)), a = .fz t ∧ Z.mkrT t ms ∧ ms.length ≤ 3 ∧ (∀ m ∈ ms, U.makerB m = true ∧ m.length ≤ 1000) ∧ P (.fz (.tup (ms.map Z.Tr.str))) [] ∧ P (.mu (.tup (ms.map Z.Tr.str))) []
abbrev sp_makers_in (K : PySem.W.Frag) : Sp := Z.spT K 1 (tp_makers_in)
theorem sc_makers_in : FnScope ["makers", "maker"] ["makers"] (defScope s_makers_in) := U.scope_by (by decide +kernel)
theorem ok_makers_in {P : Program} {w : World} {K : PySem.W.Frag} {mg : Str → Option Value} {base : Heap} {f : Addr} {fd : FuncData}
    (F : FunD K "makers_in" "makers_in" (defArgs s_makers_in) (defBody s_makers_in) (defScope s_makers_in) [] [] f fd) (B : U.BI mg) (c_is_maker : C8.Cal P w K mg base 2 "is_maker" (sp_is_maker K) []) (g_MOST_MAKERS : U.GInt mg "MOST_MAKERS" 3) :
    FnOk P w K mg base C8.CX0 3 f fd ["makers"] (sp_makers_in K) := by
  have sc := sc_makers_in
  refine F.ok sc (fun vs H Q E h => h.1) (fun cdv A outer s H vs Q E hr h => ⟨_, PSs.nox (pss_cons (ps_if (pt_cmpR U.is_ (pv 0) pe_non (nomark _)) (pss_one (ps_ret (pe_tup pa_nil))) pss_nil)
      (pss_cons (ps_if (PW.pt (pw_or (pt_not (pt_val (pe_callB U.c_isinstance (by rfl) B.isinstance_ U.bt_isinstance (pa_cons (pv 0) (pa_cons (pe_tup (pa_cons (U.pe_ty rfl B.list_ U.bt_list) (pa_cons (U.pe_ty rfl B.tuple_ U.bt_tuple) pa_nil))) pa_nil))))) (pw_or1 (pt_cmpR U.gt (pe_callB U.c_len (by rfl) B.len_ U.bt_len (pa_cons (pv 0) pa_nil)) (U.pe_gi rfl g_MOST_MAKERS) (nomark _))))) (pss_one ps_never) pss_nil)
      (pss_cons (ps_for PassesOwn.never rfl (Z.pi_seq (pv 0)) (pg_name (i := 1) sc.nd rfl (Or.inl rfl)) (pss_one (ps_if (pt_not (pt_val (C8.pe_c c_is_maker hr (by decide) rfl (pa_cons (pv 1) pa_nil)))) (pss_one ps_never) pss_nil)))
      (pss_one (ps_ret (pe_callTy U.c_tuple (by rfl) B.tuple_ U.bt_tuple (pa_cons (pv 0) pa_nil))))))), Z.body (N := ["makers", "maker"]) (fun H0 W0 pa => (Z.rs_seq (Z.rs_if (Z.rt_test (Z.re_op Z.o_is Z.re_var Z.re_non)) (Z.rs_ret (Z.re_tup Z.rf_nil)) Z.rs_next)
      (Z.rs_seq (Z.rs_if (Z.rt_or (Z.rt_not (Z.rt_B (Z.re_cb Z.o_isi (Z.ra_cons Z.re_var (Z.ra_cons (Z.re_tup (Z.rf_fz Z.re_ty (Z.rf_fz Z.re_ty Z.rf_nil))) Z.ra_nil))))) (Z.rt_test (Z.re_op Z.o_gt (Z.re_cb Z.o_len (Z.ra_cons Z.re_var Z.ra_nil)) Z.re_int))) Z.rs_never Z.rs_next)
      (Z.rs_seq (Z.rs_for (Z.ri_seq Z.re_var) Z.rg_name (Z.rs_if (Z.rt_not (Z.rt_B (Z.re_call (Z.rf_fz Z.re_var Z.rf_nil) (fun _ _ => Z.r_nil) rfl))) Z.rs_never Z.rs_next))
      (Z.rs_ret (Z.re_tuple Z.re_var)))))) h (by decide) (fun ss T h hn => ?_)⟩)
  clear hn
  obtain ⟨a, rfl, t, ms, rfl, ht, hn, hms, k1, k2⟩ := h
  rcases ht with ⟨rfl, rfl⟩ | rfl | rfl
  · walk_at "zd"
    exact k1
  · walk_at "zd"
    rw [if_neg (by omega)]
    refine Z.for_by (fun i Γ => ∃ o, Z.pmB (some o) = false ∧ Γ = [some (Z.Sl.fz (Z.Tr.lst (List.map Z.Tr.str ms))), o]) ⟨none, rfl, rfl⟩ ?_ ?_
    · rintro i t Γ ht ⟨o, ho, rfl⟩
      obtain ⟨m, hm, rfl⟩ := Z.str_at ht
      obtain ⟨h1, h2⟩ := hms m (List.mem_of_getElem? hm)
      have h3 : Z.makerT (.str m) = true := h1
      have h4 : Z.shortT (.str m) = true := Z.short_str (by omega)
      walk_at "zd"
      exact ⟨_, rfl, rfl⟩
    · rintro Γ ⟨o, ho, rfl⟩
      walk_at "zd"
  · walk_at "zd"
    rw [if_neg (by omega)]
    refine Z.for_by (fun i Γ => ∃ o, Z.pmB (some o) = false ∧ Γ = [some (Z.Sl.fz (Z.Tr.tup (List.map Z.Tr.str ms))), o]) ⟨none, rfl, rfl⟩ ?_ ?_
    · rintro i t Γ ht ⟨o, ho, rfl⟩
      obtain ⟨m, hm, rfl⟩ := Z.str_at ht
      obtain ⟨h1, h2⟩ := hms m (List.mem_of_getElem? hm)
      have h3 : Z.makerT (.str m) = true := h1
      have h4 : Z.shortT (.str m) = true := Z.short_str (by omega)
      walk_at "zd"
      exact ⟨_, rfl, rfl⟩
    · rintro Γ ⟨o, ho, rfl⟩
      walk_at "zd"

abbrev tp_is_points : Z.TP := Z.tp1 fun a P => ∃ (t : Z.Tr), a = .fz t ∧ Z.shortT t = true ∧ P (.fz (.bl (Z.pointsT t))) []
abbrev sp_is_points (K : PySem.W.Frag) : Sp := Z.spT K 1 (tp_is_points)
theorem sc_is_points : FnScope ["thing"] ["thing"] (defScope s_is_points) := U.scope_by (by decide +kernel)
theorem ok_is_points {P : Program} {w : World} {K : PySem.W.Frag} {mg : Str → Option Value} {base : Heap} {f : Addr} {fd : FuncData}
    (F : FunD K "is_points" "is_points" (defArgs s_is_points) (defBody s_is_points) (defScope s_is_points) [] [] f fd) (B : U.BI mg) (c_is_figures : C8.Cal P w K mg base 1 "is_figures" (sp_is_figures K) []) :
    FnOk P w K mg base C8.CX0 2 f fd ["thing"] (sp_is_points K) := by
  have sc := sc_is_points
  refine F.ok sc (fun vs H Q E h => h.1) (fun cdv A outer s H vs Q E hr h => ⟨_, PSs.nox (pss_one (ps_ret (pe_and (pe_callB U.c_isinstance (by rfl) B.isinstance_ U.bt_isinstance (pa_cons (pv 0) (pa_cons (U.pe_ty rfl B.str_ U.bt_str) pa_nil))) (pe_one (pe_or (pe_cmpR U.eq (pv 0) (U.pe_s' [] (by decide +kernel)) (nomark _)) (pe_one (C8.pe_c c_is_figures hr (by decide) rfl (pa_cons (pv 0) pa_nil)))))))), Z.body (N := ["thing"]) (fun H0 W0 pa => (Z.rs_ret (Z.re_andV (Z.re_cb Z.o_isi (Z.ra_cons Z.re_var (Z.ra_cons Z.re_ty Z.ra_nil))) (Z.re_orV (Z.re_op Z.o_eq Z.re_var Z.re_str) (Z.re_call (Z.rf_fz Z.re_var Z.rf_nil) (fun _ _ => Z.r_nil) rfl))))) h (by decide) (fun ss T h hn => ?_)⟩)
  clear hn
  obtain ⟨a, rfl, t, rfl, ht, k1⟩ := h
  cases t with
  | str l =>
    have hl : l.length ≤ 16777214 := by simpa [Z.shortT] using ht
    have k1 : T (.fz (.bl (U.pointsB l))) [] := k1
    unfold U.pointsB at k1
    walk_at "zd"
    by_cases e : l = []
    · subst e; simpa using k1
    · rw [show l.isEmpty = false by cases l <;> simp at e ⊢, Bool.false_or] at k1
      simp only [e, if_false]
      exact k1
  | non => have k1 : T (.fz (.bl false)) [] := k1; walk_at "zd"
  | bl b => have k1 : T (.fz (.bl false)) [] := k1; walk_at "zd"
  | int b => have k1 : T (.fz (.bl false)) [] := k1; walk_at "zd"
  | lst b => have k1 : T (.fz (.bl false)) [] := k1; walk_at "zd"
  | tup b => have k1 : T (.fz (.bl false)) [] := k1; walk_at "zd"
  | _ => simp [Z.shortT, Z.tyT] at ht

abbrev tp_is_name : Z.TP := Z.tp1 fun a P => ∃ (t : Z.Tr), a = .fz t ∧ Z.shortT t = true ∧ P (.fz (.bl (Z.nameT t))) []
abbrev sp_is_name (K : PySem.W.Frag) : Sp := Z.spT K 1 (tp_is_name)
theorem sc_is_name : FnScope ["thing", "sign"] ["thing"] (defScope s_is_name) := U.scope_by (by decide +kernel)
theorem ok_is_name {P : Program} {w : World} {K : PySem.W.Frag} {mg : Str → Option Value} {base : Heap} {f : Addr} {fd : FuncData}
    (F : FunD K "is_name" "is_name" (defArgs s_is_name) (defBody s_is_name) (defScope s_is_name) [] [] f fd) (B : U.BI mg) (g_LETTERS_signs : U.GStr mg "LETTERS_signs" [97, 98, 99, 100, 101, 102, 103, 104, 105, 106, 107, 108, 109, 110, 111, 112, 113, 114, 115, 116, 117, 118, 119, 120, 121, 122]) (g_LONGEST : U.GInt mg "LONGEST" 6) :
    FnOk P w K mg base C8.CX0 1 f fd ["thing"] (sp_is_name K) := by
  have sc := sc_is_name
  refine F.ok sc (fun vs H Q E h => h.1) (fun cdv A outer s H vs Q E hr h => ⟨_, PSs.nox (pss_cons (ps_if (PW.pt (pw_or (pt_not (pt_val (pe_callB U.c_isinstance (by rfl) B.isinstance_ U.bt_isinstance (pa_cons (pv 0) (pa_cons (U.pe_ty rfl B.str_ U.bt_str) pa_nil))))) (pw_or1 (pt_not (pt_chain U.le U.le pe_int (pe_callB U.c_len (by rfl) B.len_ U.bt_len (pa_cons (pv 0) pa_nil)) (U.pe_gi rfl g_LONGEST)))))) (pss_one (ps_ret pe_bl)) pss_nil)
      (pss_one (ps_ret (pe_callB (U.c_all rfl) (by rfl) B.all_ U.bt_all (pa_cons (pe_lc (own := [("sign", 1)]) rfl sc.nd (pi_str (pv 0)) (blkOk_by (N := ["thing", "sign"]) (sc := defScope s_is_name) (own := [("sign", 1)]) (by decide +kernel)) (fun _ _ _ _ _ => (pg_name (i := 1) sc.nd rfl (Or.inl rfl))) (fun _ _ _ _ _ => pts_nil) (fun _ _ _ _ _ => (pe_cmpR U.in_ (pv 1) (U.pe_gs rfl g_LETTERS_signs) rfl))) pa_nil))))), Z.body (N := ["thing", "sign"]) (fun H0 W0 pa => (Z.rs_seq (Z.rs_if (Z.rt_or (Z.rt_not (Z.rt_B (Z.re_cb Z.o_isi (Z.ra_cons Z.re_var (Z.ra_cons Z.re_ty Z.ra_nil))))) (Z.rt_not (Z.rt_test (Z.re_chain Z.o_le Z.o_le Z.re_int (Z.re_cb Z.o_len (Z.ra_cons Z.re_var Z.ra_nil)) Z.re_int)))) (Z.rs_ret Z.re_bl) Z.rs_next)
      (Z.rs_ret (Z.re_cb Z.o_all (Z.ra_cons (Z.re_lc (by decide) (Z.ri_str Z.re_var) Z.rg_name Z.rt_yes (Z.re_op Z.o_in Z.re_var Z.re_str)) Z.ra_nil))))) h (by decide) (fun ss T h hn => ?_)⟩)
  clear hn
  obtain ⟨a, rfl, t, rfl, ht, k1⟩ := h
  cases t with
  | str l =>
    have hl : l.length ≤ 16777214 := by simpa [Z.shortT] using ht
    have k1 : T (.fz (.bl (U.nameB l))) [] := k1
    walk_at "zd"
    refine ⟨by omega, ?_⟩
    unfold U.nameB at k1
    rw [Z.ite_and, Z.ite_and]
    refine ⟨fun h1 => ⟨fun h2 => ?_, fun h2 => ?_⟩, fun h1 => ?_⟩
    · rw [decide_eq_false (show ¬ l.length ≤ 6 by omega), Bool.and_false, Bool.false_and] at k1; exact k1
    · refine Z.lc_map (Z.inS Z.AZ) (by simp [Z.sgT]; omega) rfl (fun i t acc et ha => ?_) ?_
      · obtain ⟨d, hd, rfl⟩ := Z.sgT_at et
        walk_at "zd"
        exact Z.mpI_next rfl et rfl rfl
      · walk_at "zd"
        rw [decide_eq_true (show 1 ≤ l.length by omega), decide_eq_true (show l.length ≤ 6 by omega), Bool.true_and, Bool.true_and] at k1
        exact k1
    · rw [decide_eq_false (show ¬ 1 ≤ l.length by omega), Bool.false_and, Bool.false_and] at k1; exact k1
  | non => have k1 : T (.fz (.bl false)) [] := k1; walk_at "zd"
  | bl b => have k1 : T (.fz (.bl false)) [] := k1; walk_at "zd"
  | int b => have k1 : T (.fz (.bl false)) [] := k1; walk_at "zd"
  | lst b => have k1 : T (.fz (.bl false)) [] := k1; walk_at "zd"
  | tup b => have k1 : T (.fz (.bl false)) [] := k1; walk_at "zd"
  | _ => simp [Z.shortT, Z.tyT] at ht

abbrev tp_is_letters : Z.TP := Z.tp1 fun a P => ∃ (t : Z.Tr), a = .fz t ∧ Z.shortT t = true ∧ P (.fz (.bl (Z.lettersT t))) []
abbrev sp_is_letters (K : PySem.W.Frag) : Sp := Z.spT K 1 (tp_is_letters)
theorem sc_is_letters : FnScope ["thing"] ["thing"] (defScope s_is_letters) := U.scope_by (by decide +kernel)
theorem ok_is_letters {P : Program} {w : World} {K : PySem.W.Frag} {mg : Str → Option Value} {base : Heap} {f : Addr} {fd : FuncData}
    (F : FunD K "is_letters" "is_letters" (defArgs s_is_letters) (defBody s_is_letters) (defScope s_is_letters) [] [] f fd) (B : U.BI mg) (c_is_name : C8.Cal P w K mg base 1 "is_name" (sp_is_name K) []) :
    FnOk P w K mg base C8.CX0 2 f fd ["thing"] (sp_is_letters K) := by
  have sc := sc_is_letters
  refine F.ok sc (fun vs H Q E h => h.1) (fun cdv A outer s H vs Q E hr h => ⟨_, PSs.nox (pss_one (ps_ret (pe_and (C8.pe_c c_is_name hr (by decide) rfl (pa_cons (pv 0) pa_nil)) (pe_one (pe_cmpR U.le (pe_callB U.c_len (by rfl) B.len_ U.bt_len (pa_cons (pv 0) pa_nil)) pe_int (nomark _)))))), Z.body (N := ["thing"]) (fun H0 W0 pa => (Z.rs_ret (Z.re_andV (Z.re_call (Z.rf_fz Z.re_var Z.rf_nil) (fun _ _ => Z.r_nil) rfl) (Z.re_op Z.o_le (Z.re_cb Z.o_len (Z.ra_cons Z.re_var Z.ra_nil)) Z.re_int)))) h (by decide) (fun ss T h hn => ?_)⟩)
  clear hn
  obtain ⟨a, rfl, t, rfl, ht, k1⟩ := h
  cases t with
  | str l =>
    have hl : l.length ≤ 16777214 := by simpa [Z.shortT] using ht
    have k1 : T (.fz (.bl (U.lettersB l))) [] := k1
    unfold U.lettersB at k1
    walk_at "zd"
    by_cases e : U.nameB l = true
    · simp only [e, if_true]
      rw [e, Bool.true_and] at k1
      refine ⟨by omega, ?_⟩
      have e2 : decide ((l.length : Int) ≤ 3) = decide (l.length ≤ 3) := by
        by_cases h : l.length ≤ 3
        · rw [decide_eq_true h, decide_eq_true (by omega)]
        · rw [decide_eq_false h, decide_eq_false (by omega)]
      rw [e2]; exact k1
    · rw [Bool.not_eq_true] at e
      simp only [e, if_false, Bool.false_eq_true]
      rw [e, Bool.false_and] at k1
      exact k1
  | non => have k1 : T (.fz (.bl false)) [] := k1; walk_at "zd"
  | bl b => have k1 : T (.fz (.bl false)) [] := k1; walk_at "zd"
  | int b => have k1 : T (.fz (.bl false)) [] := k1; walk_at "zd"
  | lst b => have k1 : T (.fz (.bl false)) [] := k1; walk_at "zd"
  | tup b => have k1 : T (.fz (.bl false)) [] := k1; walk_at "zd"
  | _ => simp [Z.shortT, Z.tyT] at ht

abbrev tp_Mark___init__ (C : Addr) : Z.TP := Z.tp7 fun s l n p m y c P => ∃ (t : U.Pt) (mt : Z.Tr), s = .mu (.ins C [] []) ∧ l = .fz (.str t.l) ∧ n = .fz (.int t.n) ∧ p = .fz (.str t.p) ∧ m = .fz mt ∧ Z.mkrT mt t.ms ∧ y = .fz (Z.ovT t.y) ∧ c = .fz (Z.ovT t.c) ∧ t.Ok ∧ P (.fz .non) [Z.mkT C t]
abbrev sp_Mark___init__ (K : PySem.W.Frag) (C_Mark : Addr) : Sp := Z.spT K 7 (tp_Mark___init__ C_Mark)
theorem sc_Mark___init__ : FnScope ["self", "letters", "number", "points", "makers", "year", "copy"] ["self", "letters", "number", "points", "makers", "year", "copy"] (defScope s_Mark___init__) := U.scope_by (by decide +kernel)
theorem ok_Mark___init__ {P : Program} {w : World} {K : PySem.W.Frag} {mg : Str → Option Value} {base : Heap} {f : Addr} {fd : FuncData} {C_Mark : Addr}
    (F : FunD K "__init__" "Mark.__init__" (defArgs s_Mark___init__) (defBody s_Mark___init__) (defScope s_Mark___init__) [(.str ""), .non, .non, .non] [] f fd) (B : U.BI mg) (M : U.MkC K C_Mark) (c_is_letters : C8.Cal P w K mg base 2 "is_letters" (sp_is_letters K) []) (c_is_points : C8.Cal P w K mg base 2 "is_points" (sp_is_points K) []) (c_is_whole : C8.Cal P w K mg base 1 "is_whole" (sp_is_whole K) []) (c_makers_in : C8.Cal P w K mg base 3 "makers_in" (sp_makers_in K) []) (c_need_copy : C8.Cal P w K mg base 2 "need_copy" (sp_need_copy K) []) (c_need_year : C8.Cal P w K mg base 2 "need_year" (sp_need_year K) []) (g_GREATEST : U.GInt mg "GREATEST" 9999) (m_Mark_text_of : C8.Met P w K mg base 2 C_Mark "text_of" (sp_Mark_text_of K C_Mark) []) :
    FnOk P w K mg base C8.CX0 4 f fd ["self", "letters", "number", "points", "makers", "year", "copy"] (sp_Mark___init__ K C_Mark) := by
  have sc := sc_Mark___init__
  refine F.ok sc (fun vs H Q E h => h.1) (fun cdv A outer s H vs Q E hr h => ⟨_, PSs.nox (pss_cons (ps_if (pt_not (pt_val (C8.pe_c c_is_letters hr (by decide) rfl (pa_cons (pv 1) pa_nil)))) (pss_one ps_never) pss_nil)
      (pss_cons (ps_if (pt_not (pt_val (C8.pe_c c_is_whole hr (by decide) rfl (pa_cons (pv 2) (pa_cons pe_int (pa_cons (U.pe_gi rfl g_GREATEST) pa_nil)))))) (pss_one ps_never) pss_nil)
      (pss_cons (ps_if (pt_not (pt_val (C8.pe_c c_is_points hr (by decide) rfl (pa_cons (pv 3) pa_nil)))) (pss_one ps_never) pss_nil)
      (pss_cons (ps_fld (pv 0) (C8.pe_c c_makers_in hr (by decide) rfl (pa_cons (pv 4) pa_nil)) rfl)
      (pss_cons (ps_expr (C8.pe_c c_need_year hr (by decide) rfl (pa_cons (pv 5) pa_nil)))
      (pss_cons (ps_expr (C8.pe_c c_need_copy hr (by decide) rfl (pa_cons (pv 6) pa_nil)))
      (pss_cons (ps_fld (pv 0) (pv 1) rfl)
      (pss_cons (ps_fld (pv 0) (pv 2) rfl)
      (pss_cons (ps_fld (pv 0) (pv 3) rfl)
      (pss_cons (ps_fld (pv 0) (pv 5) rfl)
      (pss_cons (ps_fld (pv 0) (pv 6) rfl)
      (pss_one (ps_fld (pv 0) (C8.pe_mt0 m_Mark_text_of hr (by decide) (pv 0)) rfl))))))))))))), Z.body (N := ["self", "letters", "number", "points", "makers", "year", "copy"]) (fun H0 W0 pa => (Z.rs_seq (Z.rs_if (Z.rt_not (Z.rt_B (Z.re_call (Z.rf_fz Z.re_var Z.rf_nil) (fun _ _ => Z.r_nil) rfl))) Z.rs_never Z.rs_next)
      (Z.rs_seq (Z.rs_if (Z.rt_not (Z.rt_B (Z.re_call (Z.rf_fz Z.re_var (Z.rf_fz Z.re_int (Z.rf_fz Z.re_int Z.rf_nil))) (fun _ _ => Z.r_nil) rfl))) Z.rs_never Z.rs_next)
      (Z.rs_seq (Z.rs_if (Z.rt_not (Z.rt_B (Z.re_call (Z.rf_fz Z.re_var Z.rf_nil) (fun _ _ => Z.r_nil) rfl))) Z.rs_never Z.rs_next)
      (Z.rs_seq (Z.rs_fld (Z.re_call (Z.rf_fz Z.re_var Z.rf_nil) (fun _ _ => Z.r_nil) rfl))
      (Z.rs_seq (Z.rs_drop (Z.re_call (Z.rf_fz Z.re_var Z.rf_nil) (fun _ _ => Z.r_nil) rfl))
      (Z.rs_seq (Z.rs_drop (Z.re_call (Z.rf_fz Z.re_var Z.rf_nil) (fun _ _ => Z.r_nil) rfl))
      (Z.rs_seq (Z.rs_fld Z.re_var)
      (Z.rs_seq (Z.rs_fld Z.re_var)
      (Z.rs_seq (Z.rs_fld Z.re_var)
      (Z.rs_seq (Z.rs_fld Z.re_var)
      (Z.rs_seq (Z.rs_fld Z.re_var)
      (Z.rs_fld (Z.re_methL Z.rf_nil (fun _ _ => Z.r_nil) rfl)))))))))))))) h (by decide) (fun ss T h hn => ?_)⟩)
  clear hn
  obtain ⟨s, l, n, p, m, y, c, rfl, t, mt, rfl, rfl, rfl, rfl, rfl, hm, rfl, rfl, ok, k1⟩ := h
  obtain ⟨m0, m1, m2, m3, m4, m5, m6, m7⟩ := M
  have o1 := ok.l
  have o2 := ok.p
  have o3 := ok.ll
  have o4 := ok.pl
  have h1 := ok.n1
  have h2 := ok.n2
  have e1 : Z.lettersT (.str t.l) = true := o1
  have e2 : Z.wholeT (.int t.n) 1 (some 9999) = true := by simp [Z.wholeT]; omega
  have e3 : Z.pointsT (.str t.p) = true := o2
  have e4 : Z.shortT (.str t.l) = true := Z.short_str (by omega)
  have e5 : Z.shortT (.str t.p) = true := Z.short_str (by omega)
  have f1 := ok.y
  have f2 : ∀ i, t.c = some i → 2 ≤ i := fun i hi => (ok.c i hi).1
  walk_at "zd"
  refine ⟨some 9999, rfl, ?_⟩
  rw [e2]
  walk_at "zd"
  exact ⟨t.ms, hm, ok.mn, ok.ms, t.y, rfl, f1, t.c, rfl, f2, t, rfl, rfl, rfl, rfl, rfl, rfl, ok, k1⟩

abbrev tp__law_mark (C : Addr) : Z.TP := Z.tp1 fun a P => ∃ (t : U.Pt), a = .fz (Z.ptT t) ∧ Z.Sm 60 t ∧ P (.mu (Z.mkT C t)) []
abbrev sp__law_mark (K : PySem.W.Frag) (C_Mark : Addr) : Sp := Z.spT K 1 (tp__law_mark C_Mark)
theorem sc__law_mark : FnScope ["_law_parts_here"] ["_law_parts_here"] (defScope s__law_mark) := U.scope_by (by decide +kernel)
theorem ok__law_mark {P : Program} {w : World} {K : PySem.W.Frag} {mg : Str → Option Value} {base : Heap} {f : Addr} {fd : FuncData} {C_Mark : Addr}
    (F : FunD K "_law_mark" "_law_mark" (defArgs s__law_mark) (defBody s__law_mark) (defScope s__law_mark) [] [] f fd) (B : U.BI mg) (k_Mark : C8.Mak P w K mg base 4 "Mark" C_Mark (sp_Mark___init__ K C_Mark) []) :
    FnOk P w K mg base C8.CX0 6 f fd ["_law_parts_here"] (sp__law_mark K C_Mark) := by
  have sc := sc__law_mark
  refine F.ok sc (fun vs H Q E h => h.1) (fun cdv A outer s H vs Q E hr h => ⟨_, PSs.nox (pss_one (ps_ret (C8.pe_mk k_Mark hr (by decide) rfl (pa_cons (pe_ix U.ix (pv 0) pe_int (fun _ _ => rfl)) (pa_cons (pe_ix U.ix (pv 0) pe_int (fun _ _ => rfl)) (pa_cons (pe_ix U.ix (pv 0) pe_int (fun _ _ => rfl)) (pa_cons (pe_callTy U.c_list (by rfl) B.list_ U.bt_list (pa_cons (pe_ix U.ix (pv 0) pe_int (fun _ _ => rfl)) pa_nil)) (pa_cons (pe_ix U.ix (pv 0) pe_int (fun _ _ => rfl)) (pa_cons (pe_ix U.ix (pv 0) pe_int (fun _ _ => rfl)) pa_nil))))))))), Z.body (N := ["_law_parts_here"]) (fun H0 W0 pa => (Z.rs_ret (Z.re_make (Z.rf_fz (Z.re_op Z.o_ix Z.re_var Z.re_int) (Z.rf_fz (Z.re_op Z.o_ix Z.re_var Z.re_int) (Z.rf_fz (Z.re_op Z.o_ix Z.re_var Z.re_int) (Z.rf_fz (Z.re_cb Z.o_list (Z.ra_cons (Z.re_op Z.o_ix Z.re_var Z.re_int) Z.ra_nil)) (Z.rf_fz (Z.re_op Z.o_ix Z.re_var Z.re_int) (Z.rf_fz (Z.re_op Z.o_ix Z.re_var Z.re_int) Z.rf_nil)))))) (fun _ _ => Z.r_nil) rfl))) h (by decide) (fun ss T h hn => ?_)⟩)
  clear hn
  obtain ⟨a, rfl, t, rfl, sm, k1⟩ := h
  have ok := sm.ok (Int.le_refl _)
  obtain ⟨l, n, p, ms, y, c⟩ := t
  dsimp only [Z.ptT] at k1 ⊢
  walk_at "zd"
  exact ⟨⟨l, n, p, ms, y, c⟩, rfl, rfl, rfl, .inr (.inl rfl), rfl, rfl, ok, k1⟩

abbrev tp__law_held (C CF CM : Addr) : Z.TP := Z.tp3 fun a b c P => ∃ (t u : U.Pt) (k : Nat), a = .fz (Z.ptT t) ∧ b = .fz (Z.ptT u) ∧ c = .fz (.int k) ∧ Z.Sm 11 t ∧ Z.Sm 11 u ∧ t.slen ≤ k ∧ u.slen ≤ k ∧ k ≤ 60 ∧ P (.fz (.bl true)) []
abbrev sp__law_held (K : PySem.W.Frag) (C_Counts : Addr) (C_Figures : Addr) (C_Mark : Addr) : Sp := Z.spT K 3 (tp__law_held C_Counts C_Figures C_Mark)
theorem sc__law_held : FnScope ["_law_one", "_law_other", "_law_limit", "_law_marks", "_law_numbers", "_law_number", "_law_again", "_law_book"] ["_law_one", "_law_other", "_law_limit"] (defScope s__law_held) := U.scope_by (by decide +kernel)
theorem ok__law_held {P : Program} {w : World} {K : PySem.W.Frag} {mg : Str → Option Value} {base : Heap} {f : Addr} {fd : FuncData} {C_Counts : Addr} {C_Figures : Addr} {C_Mark : Addr}
    (F : FunD K "_law_held" "_law_held" (defArgs s__law_held) (defBody s__law_held) (defScope s__law_held) [] [] f fd) (B : U.BI mg) (c__law_mark : C8.Cal P w K mg base 6 "_law_mark" (sp__law_mark K C_Mark) []) (c__law_order : C8.Cal P w K mg base 1 "_law_order" (sp__law_order K) []) (c_ahead_of : C8.Cal P w K mg base 7 "ahead_of" (sp_ahead_of K C_Counts C_Figures C_Mark) []) (c_how_many : C8.Cal P w K mg base 5 "how_many" (sp_how_many K C_Counts C_Figures) []) (c_number_of : C8.Cal P w K mg base 7 "number_of" (sp_number_of K C_Counts C_Figures C_Mark) []) :
    FnOk P w K mg base C8.CX0 8 f fd ["_law_one", "_law_other", "_law_limit"] (sp__law_held K C_Counts C_Figures C_Mark) := by
  have sc := sc__law_held
  refine F.ok sc (fun vs H Q E h => h.1) (fun cdv A outer s H vs Q E hr h => ⟨_, PSs.nox (pss_cons (ps_set (i := 3) sc.nd rfl (Or.inl rfl) (pe_lst (pa_cons (C8.pe_c c__law_mark hr (by decide) rfl (pa_cons (pv 0) pa_nil)) (pa_cons (C8.pe_c c__law_mark hr (by decide) rfl (pa_cons (pv 1) pa_nil)) pa_nil))))
      (pss_cons (ps_setLc (i := 4) (own := [("_law_book", 7)]) rfl sc.nd rfl rfl (sw_true rfl rfl rfl (by decide +kernel)) (pi_list (pv 3)) (blkOk_by (N := ["_law_one", "_law_other", "_law_limit", "_law_marks", "_law_numbers", "_law_number", "_law_again", "_law_book"]) (sc := defScope s__law_held) (own := [("_law_book", 7)]) (by decide +kernel)) (fun _ _ _ _ _ => (pg_name (i := 7) sc.nd rfl (Or.inl rfl))) (fun _ _ _ _ _ => pts_nil) (fun _ _ _ _ _ => (C8.pe_c c_number_of hr (by decide) rfl (pa_cons (pv 7) (pa_cons (pv 2) pa_nil)))))
      (pss_cons (ps_for PassesOwn.never rfl (pi_list (pv 4)) (pg_name (i := 5) sc.nd rfl (Or.inl rfl)) (pss_one (ps_if (PW.pt (pw_or (pt_not (pt_val (pe_callB U.c_isinstance (by rfl) B.isinstance_ U.bt_isinstance (pa_cons (pv 5) (pa_cons (U.pe_ty rfl B.int_ U.bt_int) pa_nil))))) (pw_or (pt_val (pe_callB U.c_isinstance (by rfl) B.isinstance_ U.bt_isinstance (pa_cons (pv 5) (pa_cons (U.pe_ty rfl B.bool_ U.bt_bool) pa_nil)))) (pw_or1 (pt_not (pt_chain U.le U.lt pe_int (pv 5) (C8.pe_c c_how_many hr (by decide) rfl (pa_cons (pv 2) pa_nil)))))))) (pss_one (ps_ret pe_bl)) pss_nil)))
      (pss_cons (ps_if (pt_cmpR U.ne (pe_op U.sub (pe_callTy U.c_int (by rfl) B.int_ U.bt_int (pa_cons (pe_cmpR U.gt (pe_ix U.ix (pv 4) pe_int (fun _ _ => rfl)) (pe_ix U.ix (pv 4) pe_int (fun _ _ => rfl)) (nomark _)) pa_nil)) (pe_callTy U.c_int (by rfl) B.int_ U.bt_int (pa_cons (pe_cmpR U.lt (pe_ix U.ix (pv 4) pe_int (fun _ _ => rfl)) (pe_ix U.ix (pv 4) pe_int (fun _ _ => rfl)) (nomark _)) pa_nil))) (C8.pe_c c__law_order hr (by decide) rfl (pa_cons (pv 0) (pa_cons (pv 1) pa_nil))) (nomark _)) (pss_one (ps_ret pe_bl)) pss_nil)
      (pss_cons (ps_setLc (i := 6) (own := [("_law_book", 7)]) rfl sc.nd rfl rfl (sw_true rfl rfl rfl (by decide +kernel)) (pi_reversed (by rfl) B.reversed_ (pa_cons (pv 3) pa_nil)) (blkOk_by (N := ["_law_one", "_law_other", "_law_limit", "_law_marks", "_law_numbers", "_law_number", "_law_again", "_law_book"]) (sc := defScope s__law_held) (own := [("_law_book", 7)]) (by decide +kernel)) (fun _ _ _ _ _ => (pg_name (i := 7) sc.nd rfl (Or.inl rfl))) (fun _ _ _ _ _ => pts_nil) (fun _ _ _ _ _ => (C8.pe_c c_ahead_of hr (by decide) rfl (pa_cons (pv 7) (pa_cons (pv 2) pa_nil)))))
      (pss_one (ps_ret (pe_and (pe_cmpR (U.eqR hr) (pv 6) (pe_lst (pa_cons (pe_ix U.ix (pv 4) pe_int (fun _ _ => rfl)) (pa_cons (pe_ix U.ix (pv 4) pe_int (fun _ _ => rfl)) pa_nil))) (nomark _)) (pe_one (pe_cmpR U.eq (C8.pe_c c_number_of hr (by decide) rfl (pa_cons (pe_ix U.ix (pv 3) pe_int (fun _ _ => rfl)) (pa_cons (pv 2) pa_nil))) (pe_ix U.ix (pv 4) pe_int (fun _ _ => rfl)) (nomark _))))))))))), Z.body (N := ["_law_one", "_law_other", "_law_limit", "_law_marks", "_law_numbers", "_law_number", "_law_again", "_law_book"]) (fun H0 W0 pa => (Z.rs_seq (Z.rs_set (Z.re_lst (Z.rf_fz (Z.re_call (Z.rf_fz Z.re_var Z.rf_nil) (fun _ _ => Z.r_nil) rfl) (Z.rf_fz (Z.re_call (Z.rf_fz Z.re_var Z.rf_nil) (fun _ _ => Z.r_nil) rfl) Z.rf_nil))))
      (Z.rs_seq (Z.rs_set (Z.re_lc (by decide) (Z.ri_list Z.re_var) Z.rg_name Z.rt_yes (Z.re_call (Z.rf_fz Z.re_var (Z.rf_fz Z.re_var Z.rf_nil)) (fun _ _ => Z.r_nil) rfl)))
      (Z.rs_seq (Z.rs_for (Z.ri_list Z.re_var) Z.rg_name (Z.rs_if (Z.rt_or (Z.rt_not (Z.rt_B (Z.re_cb Z.o_isi (Z.ra_cons Z.re_var (Z.ra_cons Z.re_ty Z.ra_nil))))) (Z.rt_or (Z.rt_B (Z.re_cb Z.o_isi (Z.ra_cons Z.re_var (Z.ra_cons Z.re_ty Z.ra_nil)))) (Z.rt_not (Z.rt_test (Z.re_chain Z.o_le Z.o_lt Z.re_int Z.re_var (Z.re_call (Z.rf_fz Z.re_var Z.rf_nil) (fun _ _ => Z.r_nil) rfl)))))) (Z.rs_ret Z.re_bl) Z.rs_next))
      (Z.rs_seq (Z.rs_if (Z.rt_test (Z.re_op Z.o_ne (Z.re_op Z.o_sub (Z.re_cb Z.o_int (Z.ra_cons (Z.re_op Z.o_gt (Z.re_op Z.o_ix Z.re_var Z.re_int) (Z.re_op Z.o_ix Z.re_var Z.re_int)) Z.ra_nil)) (Z.re_cb Z.o_int (Z.ra_cons (Z.re_op Z.o_lt (Z.re_op Z.o_ix Z.re_var Z.re_int) (Z.re_op Z.o_ix Z.re_var Z.re_int)) Z.ra_nil))) (Z.re_call (Z.rf_fz Z.re_var (Z.rf_fz Z.re_var Z.rf_nil)) (fun _ _ => Z.r_nil) rfl))) (Z.rs_ret Z.re_bl) Z.rs_next)
      (Z.rs_seq (Z.rs_set (Z.re_lc (by decide) (Z.ri_rev Z.re_var) Z.rg_name Z.rt_yes (Z.re_call (Z.rf_fz Z.re_var (Z.rf_fz Z.re_var Z.rf_nil)) (fun _ _ => Z.r_nil) rfl)))
      (Z.rs_ret (Z.re_andV (Z.re_op Z.o_eqD Z.re_var (Z.re_lst (Z.rf_fz (Z.re_op Z.o_ix Z.re_var Z.re_int) (Z.rf_fz (Z.re_op Z.o_ix Z.re_var Z.re_int) Z.rf_nil)))) (Z.re_op Z.o_eq (Z.re_call (Z.rf_fz (Z.re_op Z.o_ix Z.re_var Z.re_int) (Z.rf_fz Z.re_var Z.rf_nil)) (fun _ _ => Z.r_nil) rfl) (Z.re_op Z.o_ix Z.re_var Z.re_int)))))))))) h (by decide) (fun ss T h hn => ?_)⟩)
  clear hn
  obtain ⟨a, b, c, rfl, t, u, k, rfl, rfl, rfl, sm1, sm2, h1, h2, h3, k1⟩ := h
  have s1 := sm1.mono (show (10 : Int) ^ 11 ≤ 10 ^ 60 by decide)
  have s2 := sm2.mono (show (10 : Int) ^ 11 ≤ 10 ^ 60 by decide)
  have ok1 := s1.ok (Int.le_refl _)
  have ok2 := s2.ok (Int.le_refl _)
  have r1 := U.rank_in ok1 h1
  have r2 := U.rank_in ok2 h2
  walk_at "zd"
  refine ⟨t, rfl, s1, u, rfl, s2, Z.lc_two (.int (U.rank t k)) (.int (U.rank u k)) rfl ?_ ?_ ?_⟩
  · walk_at "zd"
    refine ⟨k, rfl, h3, h1, rfl, rfl⟩
  · walk_at "zd"
    refine ⟨k, rfl, h3, h2, rfl, rfl⟩
  walk_at "zd"
  refine Z.for_by (fun i Γ => ∃ o, Z.pmB (some o) = false ∧ Γ = [some (.fz (Z.ptT t)), some (.fz (Z.ptT u)), some (.fz (.int k)), some (.fz (.lst [Z.mkT C_Mark t, Z.mkT C_Mark u])), some (.fz (.lst [.int (U.rank t k), .int (U.rank u k)])), o, none, none]) ⟨none, rfl, rfl⟩ ?_ ?_
  · rintro i t Γ ht ⟨o, ho, rfl⟩
    rcases i with _ | _ | i
    · simp at ht
      subst ht
      walk_at "zd"
      refine ⟨k, rfl, h3, ?_⟩
      rw [if_neg (by omega)]
      exact ⟨_, rfl, rfl⟩
    · simp at ht
      subst ht
      walk_at "zd"
      refine ⟨k, rfl, h3, ?_⟩
      rw [if_neg (by omega)]
      exact ⟨_, rfl, rfl⟩
    · simp at ht
  rintro Γ ⟨o, ho, rfl⟩
  have c1 := U.rank_cmp ok1 ok2 h1 h2
  have c2 := U.rank_cmp ok2 ok1 h2 h1
  walk_at "zd"
  refine ⟨t, rfl, u, rfl, s1, s2, ?_⟩
  simp only [c1, c2]
  rw [if_neg (by simp)]
  refine Z.lc_two (.int (U.rank u k)) (.int (U.rank t k)) rfl ?_ ?_ ?_
  · walk_at "zd"
    exact ⟨k, rfl, h3, h2, rfl, rfl⟩
  · walk_at "zd"
    exact ⟨k, rfl, h3, h1, rfl, rfl⟩
  walk_at "zd"
  have e1 : Z.dtT (.lst [.int (U.rank u k), .int (U.rank t k)]) = some (.list [.int (U.rank u k), .int (U.rank t k)]) := by simp [Z.dtT, Z.dtTs]
  refine U.optE_of e1 (U.optE_of e1 ⟨rfl, rfl, ?_⟩)
  rw [if_pos (by simp [PyData.eqv, PyData.eqvAll])]
  refine ⟨k, rfl, h3, h1, ?_⟩
  rw [decide_eq_true rfl]
  exact k1

abbrev tp__law_take : Z.TP := Z.tp2 fun a b P => ∃ (x : Z.Bx) (n : Int), a = .mu x.tr ∧ b = .fz (.int n) ∧ 0 < n ∧ n < 2 ^ 100 ∧ ∀ (r : Int) (y : Z.Bx), 0 ≤ r → r < n → P (.fz (.int r)) [y.tr]
abbrev sp__law_take (K : PySem.W.Frag) : Sp := Z.spT K 2 (tp__law_take)
theorem sc__law_take : FnScope ["_law_box_here", "_law_choices", "_law_digit", "_law_mixed"] ["_law_box_here", "_law_choices"] (defScope s__law_take) := U.scope_by (by decide +kernel)
theorem ok__law_take {P : Program} {w : World} {K : PySem.W.Frag} {mg : Str → Option Value} {base : Heap} {f : Addr} {fd : FuncData}
    (F : FunD K "_law_take" "_law_take" (defArgs s__law_take) (defBody s__law_take) (defScope s__law_take) [] [] f fd) (B : U.BI mg)  :
    FnOk P w K mg base C8.CX0 1 f fd ["_law_box_here", "_law_choices"] (sp__law_take K) := by
  have sc := sc__law_take
  refine F.ok sc (fun vs H Q E h => h.1) (fun cdv A outer s H vs Q E hr h => ⟨_, PSs.nox (pss_cons (ps_if (pt_cmpR U.gt (pe_ix U.ix (pv 0) pe_int (fun _ _ => rfl)) pe_int (nomark _)) (pss_cons (ps_set (i := 2) sc.nd rfl (Or.inl rfl) (pe_op U.mod (pe_ix U.ix (pv 0) pe_int (fun _ _ => rfl)) (pv 1)))
      (pss_cons (ps_asg (pe_op U.div (pe_ix U.ix (pv 0) pe_int (fun _ _ => rfl)) (pv 1)) (pg_sub (pv 0) pe_int U.setL))
      (pss_one (ps_ret (pv 2))))) pss_nil)
      (pss_cons (ps_asg (pe_op U.add (pe_ix U.ix (pv 0) pe_int (fun _ _ => rfl)) pe_int) (pg_sub (pv 0) pe_int U.setL))
      (pss_cons (ps_set (i := 3) sc.nd rfl (Or.inl rfl) (pe_op U.mod (pe_op U.add (pe_op U.add (pe_op U.mul (pe_ix U.ix (pv 0) pe_int (fun _ _ => rfl)) (pe_op U.add pe_int (pe_op U.mul pe_int (pe_ix U.ix (pv 0) pe_int (fun _ _ => rfl))))) (pe_op U.mul pe_int (pe_ix U.ix (pv 0) pe_int (fun _ _ => rfl)))) pe_int) pe_int))
      (pss_one (ps_ret (pe_op U.mod (pe_op U.div (pe_op U.mod (pe_op U.pow (pv 3) pe_int) pe_int) pe_int) (pv 1))))))), Z.body (N := ["_law_box_here", "_law_choices", "_law_digit", "_law_mixed"]) (fun H0 W0 pa => (Z.rs_seq (Z.rs_if (Z.rt_test (Z.re_op Z.o_gt (Z.re_op Z.o_ix Z.re_var Z.re_int) Z.re_int)) (Z.rs_seq (Z.rs_set (Z.re_op Z.o_mod (Z.re_op Z.o_ix Z.re_var Z.re_int) Z.re_var))
      (Z.rs_seq (Z.rs_asg (Z.re_op Z.o_div (Z.re_op Z.o_ix Z.re_var Z.re_int) Z.re_var) (Z.rg_sub Z.re_int))
      (Z.rs_ret Z.re_var))) Z.rs_next)
      (Z.rs_seq (Z.rs_asg (Z.re_op Z.o_add (Z.re_op Z.o_ix Z.re_var Z.re_int) Z.re_int) (Z.rg_sub Z.re_int))
      (Z.rs_seq (Z.rs_set (Z.re_op Z.o_mod (Z.re_op Z.o_add (Z.re_op Z.o_add (Z.re_op Z.o_mul (Z.re_op Z.o_ix Z.re_var Z.re_int) (Z.re_op Z.o_add Z.re_int (Z.re_op Z.o_mul Z.re_int (Z.re_op Z.o_ix Z.re_var Z.re_int)))) (Z.re_op Z.o_mul Z.re_int (Z.re_op Z.o_ix Z.re_var Z.re_int))) Z.re_int) Z.re_int))
      (Z.rs_ret (Z.re_op Z.o_mod (Z.re_op Z.o_div (Z.re_op Z.o_mod (Z.re_op Z.o_pow Z.re_var Z.re_int) Z.re_int) Z.re_int) Z.re_var)))))) h (by decide) (fun ss T h hn => ?_)⟩)
  clear hn
  obtain ⟨a, b, rfl, x, n, rfl, rfl, h0, h1, k1⟩ := h
  obtain ⟨p, q, r, hq⟩ := x
  unfold Z.Bx.tr
  have h2 : n < 2 ^ 8000 := Int.lt_trans h1 (by decide +kernel)
  walk_at "zd"
  split
  · exact k1 _ ⟨_, _, _, hq⟩ (Int.emod_nonneg _ (by omega)) (Int.emod_lt_of_pos _ h0)
  · refine ⟨U.mulL (by decide), U.mulL (by omega), U.mulL (by decide), ⟨by decide, by decide, by omega⟩, by decide, k1 _ ⟨_, _, _, hq⟩ (Int.emod_nonneg _ (by omega)) (Int.emod_lt_of_pos _ h0)⟩

abbrev tp__law_pick : Z.TP := Z.tp2 fun a b P => ∃ (x : Z.Bx) (ts : List Z.Tr), a = .mu x.tr ∧ b = .fz (.lst ts) ∧ 0 < ts.length ∧ ts.length < 2 ^ 60 ∧ ∀ (t : Z.Tr) (y : Z.Bx), t ∈ ts → P (.fz t) [y.tr]
abbrev sp__law_pick (K : PySem.W.Frag) : Sp := Z.spT K 2 (tp__law_pick)
theorem sc__law_pick : FnScope ["_law_box_here", "_law_some"] ["_law_box_here", "_law_some"] (defScope s__law_pick) := U.scope_by (by decide +kernel)
theorem ok__law_pick {P : Program} {w : World} {K : PySem.W.Frag} {mg : Str → Option Value} {base : Heap} {f : Addr} {fd : FuncData}
    (F : FunD K "_law_pick" "_law_pick" (defArgs s__law_pick) (defBody s__law_pick) (defScope s__law_pick) [] [] f fd) (B : U.BI mg) (c__law_take : C8.Cal P w K mg base 1 "_law_take" (sp__law_take K) []) :
    FnOk P w K mg base C8.CX0 2 f fd ["_law_box_here", "_law_some"] (sp__law_pick K) := by
  have sc := sc__law_pick
  refine F.ok sc (fun vs H Q E h => h.1) (fun cdv A outer s H vs Q E hr h => ⟨_, PSs.nox (pss_one (ps_ret (pe_ix U.ix (pv 1) (C8.pe_c c__law_take hr (by decide) rfl (pa_cons (pv 0) (pa_cons (pe_callB U.c_len (by rfl) B.len_ U.bt_len (pa_cons (pv 1) pa_nil)) pa_nil))) (fun _ _ => rfl)))), Z.body (N := ["_law_box_here", "_law_some"]) (fun H0 W0 pa => (Z.rs_ret (Z.re_op Z.o_ix Z.re_var (Z.re_call (Z.rf_lend (Z.rf_fz (Z.re_cb Z.o_len (Z.ra_cons Z.re_var Z.ra_nil)) Z.rf_nil)) (fun _ _ => Z.r_nil) rfl)))) h (by decide) (fun ss T h hn => ?_)⟩)
  clear hn
  obtain ⟨a, b, rfl, x, ts, rfl, rfl, h0, h1, k1⟩ := h
  walk_at "zd"
  refine ⟨by omega, by omega, fun r y h2 h3 => ?_⟩
  obtain ⟨t, ht, e⟩ := U.atI_in h2 h3
  exact ⟨t, e, k1 t y ht⟩

abbrev tp__law_text : Z.TP := Z.tp1 fun a P => ∃ (t : U.Pt), a = .fz (Z.ptT t) ∧ Z.Sm 60 t ∧ P (.fz (.str t.text)) []
abbrev sp__law_text (K : PySem.W.Frag) : Sp := Z.spT K 1 (tp__law_text)
theorem sc__law_text : FnScope ["_law_parts_here", "_law_text_here", "_law_maker_here"] ["_law_parts_here"] (defScope s__law_text) := U.scope_by (by decide +kernel)
theorem ok__law_text {P : Program} {w : World} {K : PySem.W.Frag} {mg : Str → Option Value} {base : Heap} {f : Addr} {fd : FuncData}
    (F : FunD K "_law_text" "_law_text" (defArgs s__law_text) (defBody s__law_text) (defScope s__law_text) [] [] f fd) (B : U.BI mg)  :
    FnOk P w K mg base C8.CX0 1 f fd ["_law_parts_here"] (sp__law_text K) := by
  have sc := sc__law_text
  refine F.ok sc (fun vs H Q E h => h.1) (fun cdv A outer s H vs Q E hr h => ⟨_, PSs.nox (pss_cons (ps_set (i := 1) sc.nd rfl (Or.inl rfl) (pe_op U.add (pe_ix U.ix (pv 0) pe_int (fun _ _ => rfl)) (pe_callTy U.c_str (by rfl) B.str_ U.bt_str (pa_cons (pe_ix U.ix (pv 0) pe_int (fun _ _ => rfl)) pa_nil))))
      (pss_cons (ps_if (pt_cmpR U.ne (pe_ix U.ix (pv 0) pe_int (fun _ _ => rfl)) (U.pe_s' [] (by decide +kernel)) (nomark _)) (pss_one (ps_set (i := 1) sc.nd rfl (Or.inl rfl) (pe_op U.add (pe_op U.add (pv 1) (U.pe_s' [46] (by decide +kernel))) (pe_ix U.ix (pv 0) pe_int (fun _ _ => rfl))))) pss_nil)
      (pss_cons (ps_for PassesOwn.never rfl (pi_tup (pe_ix U.ix (pv 0) pe_int (fun _ _ => rfl))) (pg_name (i := 2) sc.nd rfl (Or.inl rfl)) (pss_one (ps_set (i := 1) sc.nd rfl (Or.inl rfl) (pe_op U.add (pe_op U.add (pv 1) (U.pe_s' [32] (by decide +kernel))) (pv 2)))))
      (pss_cons (ps_if (pt_cmpR U.isNot (pe_ix U.ix (pv 0) pe_int (fun _ _ => rfl)) pe_non (nomark _)) (pss_one (ps_set (i := 1) sc.nd rfl (Or.inl rfl) (pe_op U.add (pe_op U.add (pv 1) (U.pe_s' [32] (by decide +kernel))) (pe_callTy U.c_str (by rfl) B.str_ U.bt_str (pa_cons (pe_ix U.ix (pv 0) pe_int (fun _ _ => rfl)) pa_nil))))) pss_nil)
      (pss_cons (ps_if (pt_cmpR U.isNot (pe_ix U.ix (pv 0) pe_int (fun _ _ => rfl)) pe_non (nomark _)) (pss_one (ps_set (i := 1) sc.nd rfl (Or.inl rfl) (pe_op U.add (pe_op U.add (pv 1) (U.pe_s' [32, 99, 46] (by decide +kernel))) (pe_callTy U.c_str (by rfl) B.str_ U.bt_str (pa_cons (pe_ix U.ix (pv 0) pe_int (fun _ _ => rfl)) pa_nil))))) pss_nil)
      (pss_one (ps_ret (pv 1)))))))), Z.body (N := ["_law_parts_here", "_law_text_here", "_law_maker_here"]) (fun H0 W0 pa => (Z.rs_seq (Z.rs_set (Z.re_op Z.o_add (Z.re_op Z.o_ix Z.re_var Z.re_int) (Z.re_cb Z.o_str (Z.ra_cons (Z.re_op Z.o_ix Z.re_var Z.re_int) Z.ra_nil))))
      (Z.rs_cut (Z.rs_if (Z.rt_test (Z.re_op Z.o_ne (Z.re_op Z.o_ix Z.re_var Z.re_int) Z.re_str)) (Z.rs_set (Z.re_op Z.o_add (Z.re_op Z.o_add Z.re_var Z.re_str) (Z.re_op Z.o_ix Z.re_var Z.re_int))) Z.rs_next)
      (Z.rs_seq (Z.rs_for (Z.ri_tup (Z.re_op Z.o_ix Z.re_var Z.re_int)) Z.rg_name (Z.rs_set (Z.re_op Z.o_add (Z.re_op Z.o_add Z.re_var Z.re_str) Z.re_var)))
      (Z.rs_seq (Z.rs_if (Z.rt_test (Z.re_op Z.o_isNot (Z.re_op Z.o_ix Z.re_var Z.re_int) Z.re_non)) (Z.rs_set (Z.re_op Z.o_add (Z.re_op Z.o_add Z.re_var Z.re_str) (Z.re_cb Z.o_str (Z.ra_cons (Z.re_op Z.o_ix Z.re_var Z.re_int) Z.ra_nil)))) Z.rs_next)
      (Z.rs_seq (Z.rs_if (Z.rt_test (Z.re_op Z.o_isNot (Z.re_op Z.o_ix Z.re_var Z.re_int) Z.re_non)) (Z.rs_set (Z.re_op Z.o_add (Z.re_op Z.o_add Z.re_var Z.re_str) (Z.re_cb Z.o_str (Z.ra_cons (Z.re_op Z.o_ix Z.re_var Z.re_int) Z.ra_nil)))) Z.rs_next)
      (Z.rs_ret Z.re_var))))))) h (by decide) (fun ss T h hn => ?_)⟩)
  clear hn
  obtain ⟨a, rfl, t, rfl, sm, k1⟩ := h
  have ok := sm.ok (Int.le_refl _)
  have a1 := ok.ll
  have a2 := ok.nl
  have a3 := ok.n1
  have a4 := ok.n2
  have a5 := sm.p.2
  have a6 := sm.ms.1
  have a7 : ∀ m ∈ t.ms, m.length ≤ 10 := fun m hm => (sm.ms.2 m hm).2
  have b0 : 0 ≤ t.n := by omega
  have b1 : t.n < 2 ^ 1900 := U.lt1900 (by omega)
  have e0 : t.text = t.w0 ++ Z.sp32 (t.ms ++ ((match t.y with | none => [] | some i => [U.numL i.toNat]) ++ match t.c with | none => [] | some i => [99 :: 46 :: U.numL i.toNat])) := Z.join_sp _ _
  rw [e0] at k1
  have y1 : ∀ i, t.y = some i → 0 ≤ i ∧ i < 2 ^ 1900 ∧ (U.numL i.toNat).length ≤ 4 := fun i e => by
    obtain ⟨c1, c2⟩ := sm.y i e
    exact ⟨by omega, U.lt1900 (by omega), U.num_len (by omega) (by decide) (by omega)⟩
  have c1 : ∀ i, t.c = some i → 0 ≤ i ∧ i < 2 ^ 1900 ∧ (U.numL i.toNat).length ≤ 60 := fun i e => by
    obtain ⟨c1, c2⟩ := sm.c i e
    exact ⟨by omega, U.lt1900 c2, U.num_len (by omega) (by decide) c2⟩
  have w1 : t.w0.length ≤ 17 := by
    unfold U.Pt.w0
    split <;> simp only [List.length_append, List.length_nil, List.length_cons] <;> omega
  clear ok e0 sm
  have w2 : t.w0 = (t.l ++ U.numL t.n.toNat) ++ (if t.p = [] then [] else 46 :: t.p) := rfl
  obtain ⟨w, hw⟩ : ∃ w, w = t.w0 := ⟨_, rfl⟩
  rw [← hw] at k1 w1 w2
  clear hw
  obtain ⟨l, n, p, ms, y, c⟩ := t
  dsimp only [Z.ptT] at *
  walk_at "zd"
  refine ⟨by omega, ?_⟩
  refine Z.cut_by (fun Γ => Γ = [some (.fz (.lst [.str l, .int n, .str p, .tup (ms.map Z.Tr.str), Z.ovT y, Z.ovT c])), some (.fz (.str w)), none]) ?_ ?_
  · by_cases hp : p = []
    · rw [if_pos hp, List.append_nil] at w2
      walk_at "zd"
    · rw [if_neg hp] at w2
      walk_at "zd"
      refine ⟨by walk_at "om", by walk_at "om", by simp⟩
  · rintro Γ rfl
    clear w2
    walk_at "zd"
    refine Z.for_by (fun i Γ => ∃ o, Z.pmB (some o) = false ∧ Γ = [some (.fz (.lst [.str l, .int n, .str p, .tup (ms.map Z.Tr.str), Z.ovT y, Z.ovT c])), some (.fz (.str (w ++ Z.sp32 (ms.take i)))), o]) ⟨none, rfl, by simp [Z.sp32]⟩ ?_ ?_
    · rintro i t Γ ht ⟨o, ho, rfl⟩
      obtain ⟨m, hm, rfl⟩ := Z.str_at ht
      have h1 := a7 m (List.mem_of_getElem? hm)
      have h2 := Z.sp_lenT a7 i
      have h3 := Z.sp_take hm
      walk_at "zd"
      exact ⟨by walk_at "om", by walk_at "om", _, rfl, by simp, rfl⟩
    · rintro Γ ⟨o, ho, rfl⟩
      have h2 := Z.sp_len ms a7
      rw [List.length_map, List.take_length]
      rcases y with - | y <;> rcases c with - | c
      all_goals
        try obtain ⟨y2, y3, y4⟩ := y1 _ rfl
        try obtain ⟨c2, c3, c4⟩ := c1 _ rfl
        clear y1 c1
        walk_at "zd"
      · exact Z.fz_str (by simp) k1
      · exact ⟨by walk_at "om", by walk_at "om", Z.fz_str (by simp [Z.sp32]) k1⟩
      · exact ⟨by walk_at "om", by walk_at "om", Z.fz_str (by simp [Z.sp32]) k1⟩
      · exact ⟨by walk_at "om", by walk_at "om", by walk_at "om", by walk_at "om", Z.fz_str (by simp [Z.sp32]) k1⟩

abbrev tp__law_fitting : Z.TP := Z.tp1 fun a P => ∃ (t : U.Pt) (j : Nat), a = .fz (Z.ptT t) ∧ Z.Sm j t ∧ j ≤ 11 ∧ ∀ u : U.Pt, Z.Sm j u → u.slen ≤ 60 → P (.fz (Z.ptT u)) [] ∧ P (.mu (Z.ptT u)) []
abbrev sp__law_fitting (K : PySem.W.Frag) : Sp := Z.spT K 1 (tp__law_fitting)
theorem sc__law_fitting : FnScope ["_law_parts_here"] ["_law_parts_here"] (defScope s__law_fitting) := U.scope_by (by decide +kernel)
theorem ok__law_fitting {P : Program} {w : World} {K : PySem.W.Frag} {mg : Str → Option Value} {base : Heap} {f : Addr} {fd : FuncData}
    (F : FunD K "_law_fitting" "_law_fitting" (defArgs s__law_fitting) (defBody s__law_fitting) (defScope s__law_fitting) [] [] f fd) (B : U.BI mg) (c__law_text : C8.Cal P w K mg base 1 "_law_text" (sp__law_text K) []) :
    FnOk P w K mg base C8.CX0 2 f fd ["_law_parts_here"] (sp__law_fitting K) := by
  have sc := sc__law_fitting
  refine F.ok sc (fun vs H Q E h => h.1) (fun cdv A outer s H vs Q E hr h => ⟨_, PSs.nox (pss_cons (ps_if (pt_cmpR U.gt (pe_callB U.c_len (by rfl) B.len_ U.bt_len (pa_cons (C8.pe_c c__law_text hr (by decide) rfl (pa_cons (pv 0) pa_nil)) pa_nil)) pe_int (nomark _)) (pss_one (ps_ret (pe_op U.add (pe_op U.add (pe_slice U.sl (pv 0) po_none (po_some pe_int)) (pe_lst (pa_cons (pe_tup pa_nil) pa_nil))) (pe_slice U.sl (pv 0) (po_some pe_int) po_none)))) pss_nil)
      (pss_one (ps_ret (pv 0)))), Z.body (N := ["_law_parts_here"]) (fun H0 W0 pa => (Z.rs_seq (Z.rs_if (Z.rt_test (Z.re_op Z.o_gt (Z.re_cb Z.o_len (Z.ra_cons (Z.re_call (Z.rf_fz Z.re_var Z.rf_nil) (fun _ _ => Z.r_nil) rfl) Z.ra_nil)) Z.re_int)) (Z.rs_ret (Z.re_op Z.o_add (Z.re_op Z.o_add (Z.re_sl Z.o_sl Z.re_var Z.ro_no (Z.ro_part Z.re_int)) (Z.re_lst (Z.rf_fz (Z.re_tup Z.rf_nil) Z.rf_nil))) (Z.re_sl Z.o_sl Z.re_var (Z.ro_part Z.re_int) Z.ro_no))) Z.rs_next)
      (Z.rs_ret Z.re_var))) h (by decide) (fun ss T h hn => ?_)⟩)
  clear hn
  obtain ⟨a, rfl, t, j, rfl, smj, hj, k1⟩ := h
  have sm := smj.mono (Z.pow_le hj)
  have sm6 := sm.mono (show (10 : Int) ^ 11 ≤ 10 ^ 60 by decide)
  have ok := sm6.ok (Int.le_refl _)
  have tl := U.text_len ok
  have ts := Z.text_short ok
  walk_at "zd"
  refine ⟨t, rfl, sm6, by omega, ?_⟩
  by_cases hl : 60 < t.slen
  · have e : (60 : Int) < (t.text.length : Nat) := by omega
    clear ok tl ts sm6
    obtain ⟨l, n, p, ms, y, c⟩ := t
    have k2 := (k1 ⟨l, n, p, [], y, c⟩ ⟨smj.l, smj.n, smj.p, ⟨by simp, fun m hm => by simp at hm⟩, smj.y, smj.c⟩ sm.cut.2).2
    clear k1
    dsimp only [Z.ptT] at *
    walk_at "zd"
    exact k2
  · have e : ¬ (60 : Int) < (t.slen : Nat) := by omega
    have k2 := (k1 t smj (by omega)).1
    walk_at "zd"

abbrev tp__law_edge : Z.TP := Z.tp1 fun a P => ∃ (x : Z.Bx), a = .mu x.tr ∧ ∀ (n : Int) (y : Z.Bx), 1 ≤ n → n ≤ 9999 → P (.fz (.int n)) [y.tr]
abbrev sp__law_edge (K : PySem.W.Frag) : Sp := Z.spT K 1 (tp__law_edge)
theorem sc__law_edge : FnScope ["_law_box_here"] ["_law_box_here"] (defScope s__law_edge) := U.scope_by (by decide +kernel)
theorem ok__law_edge {P : Program} {w : World} {K : PySem.W.Frag} {mg : Str → Option Value} {base : Heap} {f : Addr} {fd : FuncData}
    (F : FunD K "_law_edge" "_law_edge" (defArgs s__law_edge) (defBody s__law_edge) (defScope s__law_edge) [] [] f fd) (B : U.BI mg) (c__law_pick : C8.Cal P w K mg base 2 "_law_pick" (sp__law_pick K) []) :
    FnOk P w K mg base C8.CX0 3 f fd ["_law_box_here"] (sp__law_edge K) := by
  have sc := sc__law_edge
  refine F.ok sc (fun vs H Q E h => h.1) (fun cdv A outer s H vs Q E hr h => ⟨_, PSs.nox (pss_one (ps_ret (C8.pe_c c__law_pick hr (by decide) rfl (pa_cons (pv 0) (pa_cons (pe_lst (pa_cons pe_int (pa_cons pe_int (pa_cons pe_int (pa_cons pe_int (pa_cons pe_int (pa_cons pe_int (pa_cons pe_int (pa_cons pe_int pa_nil))))))))) pa_nil))))), Z.body (N := ["_law_box_here"]) (fun H0 W0 pa => (Z.rs_ret (Z.re_call (Z.rf_lend (Z.rf_fz (Z.re_lst (Z.rf_fz Z.re_int (Z.rf_fz Z.re_int (Z.rf_fz Z.re_int (Z.rf_fz Z.re_int (Z.rf_fz Z.re_int (Z.rf_fz Z.re_int (Z.rf_fz Z.re_int (Z.rf_fz Z.re_int Z.rf_nil))))))))) Z.rf_nil)) (fun _ _ => Z.r_nil) rfl))) h (by decide) (fun ss T h hn => ?_)⟩)
  clear hn
  obtain ⟨a, rfl, x, rfl, k1⟩ := h
  walk_at "zd"
  refine fun t u ht => ?_
  simp only [List.mem_cons, List.not_mem_nil, or_false] at ht
  rcases ht with rfl | rfl | rfl | rfl | rfl | rfl | rfl | rfl <;> exact k1 _ _ (by decide) (by decide)

abbrev tp__law_figures : Z.TP := Z.tp2 fun a b P => ∃ (x : Z.Bx) (n : Int), a = .mu x.tr ∧ b = .fz (.int n) ∧ 0 < n ∧ n ≤ 1000 ∧ ∀ (l : List Nat) (y : Z.Bx), U.figsB l = true → (l.length : Int) = n → P (.fz (.str l)) [y.tr]
abbrev sp__law_figures (K : PySem.W.Frag) : Sp := Z.spT K 2 (tp__law_figures)
theorem sc__law_figures : FnScope ["_law_box_here", "_law_limit", "_law_text_here", "_law_k"] ["_law_box_here", "_law_limit"] (defScope s__law_figures) := U.scope_by (by decide +kernel)
theorem ok__law_figures {P : Program} {w : World} {K : PySem.W.Frag} {mg : Str → Option Value} {base : Heap} {f : Addr} {fd : FuncData}
    (F : FunD K "_law_figures" "_law_figures" (defArgs s__law_figures) (defBody s__law_figures) (defScope s__law_figures) [] [] f fd) (B : U.BI mg) (c__law_take : C8.Cal P w K mg base 1 "_law_take" (sp__law_take K) []) :
    FnOk P w K mg base C8.CX0 2 f fd ["_law_box_here", "_law_limit"] (sp__law_figures K) := by
  have sc := sc__law_figures
  refine F.ok sc (fun vs H Q E h => h.1) (fun cdv A outer s H vs Q E hr h => ⟨_, PSs.nox (pss_cons (ps_set (i := 2) sc.nd rfl (Or.inl rfl) (U.pe_s PySem.F.slot_str_join PySem.F.type_str_join U.m_join (U.pe_s' [] (by decide +kernel)) (pa_cons (pe_lc (own := [("_law_k", 3)]) rfl sc.nd (pi_range1 rfl B.range_ (pa_cons (pe_op U.sub (pv 1) pe_int) pa_nil)) (blkOk_by (N := ["_law_box_here", "_law_limit", "_law_text_here", "_law_k"]) (sc := defScope s__law_figures) (own := [("_law_k", 3)]) (by decide +kernel)) (fun _ _ _ _ _ => (pg_name (i := 3) sc.nd rfl (Or.inl rfl))) (fun _ _ _ _ _ => pts_nil) (fun _ _ _ _ _ => (pe_ix U.ix (U.pe_s' [48, 49, 50, 51, 52, 53, 54, 55, 56, 57] (by decide +kernel)) (C8.pe_c c__law_take hr (by decide) rfl (pa_cons (pv 0) (pa_cons pe_int pa_nil))) (fun _ _ => rfl)))) pa_nil)))
      (pss_one (ps_ret (pe_op U.add (pv 2) (pe_ix U.ix (U.pe_s' [49, 50, 51, 52, 53, 54, 55, 56, 57] (by decide +kernel)) (C8.pe_c c__law_take hr (by decide) rfl (pa_cons (pv 0) (pa_cons pe_int pa_nil))) (fun _ _ => rfl)))))), Z.body (N := ["_law_box_here", "_law_limit", "_law_text_here", "_law_k"]) (fun H0 W0 pa => (Z.rs_seq (Z.rs_set (Z.re_bs Z.o_join Z.re_str (Z.ra_cons (Z.re_lc (by decide) (Z.ri_rng1 (Z.re_op Z.o_sub Z.re_var Z.re_int)) Z.rg_name Z.rt_yes (Z.re_op Z.o_ix Z.re_str (Z.re_call (Z.rf_lend (Z.rf_fz Z.re_int Z.rf_nil)) (fun _ _ => Z.r_nil) rfl))) Z.ra_nil)))
      (Z.rs_ret (Z.re_op Z.o_add Z.re_var (Z.re_op Z.o_ix Z.re_str (Z.re_call (Z.rf_lend (Z.rf_fz Z.re_int Z.rf_nil)) (fun _ _ => Z.r_nil) rfl)))))) h (by decide) (fun ss T h hn => ?_)⟩)
  clear hn
  obtain ⟨a, b, rfl, x, n, rfl, rfl, h0, h1, k1⟩ := h
  walk_at "zd"
  refine ⟨by omega, by omega, Z.lc_draw (Z.isSg U.figB) (fun y => [some (.pm y.tr), some (.fz (.int n)), none, none]) x (by rw [Z.rgT_len]; omega) (fun _ => rfl) (fun i t acc y et ha => ?_) (fun us y hl hp => ?_)⟩
  · walk_at "zd"
    refine fun r z h2 h3 => ?_
    obtain ⟨d, hd, e⟩ := U.atI_in (xs := [48, 49, 50, 51, 52, 53, 54, 55, 56, 57]) h2 h3
    exact ⟨d, e, Z.drI_next ha ⟨d, U.fig_in hd, rfl⟩ z rfl⟩
  · obtain ⟨l, rfl, hall, hlen⟩ := Z.signs_of hp
    rw [Z.rgT_len] at hl
    walk_at "zd"
    refine ⟨by omega, fun r z h2 h3 => ?_⟩
    obtain ⟨d, hd, e⟩ := U.atI_in (xs := [49, 50, 51, 52, 53, 54, 55, 56, 57]) h2 h3
    refine ⟨d, e, by walk_at "om", k1 _ z (U.figs_snoc hall hd) (by walk_at "om")⟩

abbrev tp__law_maker : Z.TP := Z.tp1 fun a P => ∃ (x : Z.Bx), a = .mu x.tr ∧ ∀ (l : List Nat) (y : Z.Bx), U.makerB l = true → l.length ≤ 10 → P (.fz (.str l)) [y.tr]
abbrev sp__law_maker (K : PySem.W.Frag) : Sp := Z.spT K 1 (tp__law_maker)
theorem sc__law_maker : FnScope ["_law_box_here", "_law_limit"] ["_law_box_here"] (defScope s__law_maker) := U.scope_by (by decide +kernel)
theorem ok__law_maker {P : Program} {w : World} {K : PySem.W.Frag} {mg : Str → Option Value} {base : Heap} {f : Addr} {fd : FuncData}
    (F : FunD K "_law_maker" "_law_maker" (defArgs s__law_maker) (defBody s__law_maker) (defScope s__law_maker) [] [] f fd) (B : U.BI mg) (c__law_figures : C8.Cal P w K mg base 2 "_law_figures" (sp__law_figures K) []) (c__law_pick : C8.Cal P w K mg base 2 "_law_pick" (sp__law_pick K) []) (c__law_take : C8.Cal P w K mg base 1 "_law_take" (sp__law_take K) []) :
    FnOk P w K mg base C8.CX0 3 f fd ["_law_box_here"] (sp__law_maker K) := by
  have sc := sc__law_maker
  refine F.ok sc (fun vs H Q E h => h.1) (fun cdv A outer s H vs Q E hr h => ⟨_, PSs.nox (pss_cons (ps_set (i := 1) sc.nd rfl (Or.inl rfl) (pe_op U.add pe_int (C8.pe_c c__law_pick hr (by decide) rfl (pa_cons (pv 0) (pa_cons (pe_lst (pa_cons pe_int (pa_cons (C8.pe_c c__law_take hr (by decide) rfl (pa_cons (pv 0) (pa_cons pe_int pa_nil))) (pa_cons (C8.pe_c c__law_take hr (by decide) rfl (pa_cons (pv 0) (pa_cons pe_int pa_nil))) pa_nil)))) pa_nil)))))
      (pss_one (ps_ret (pe_op U.add (pe_ix U.ix (U.pe_s' [97, 98, 99, 100, 101, 102, 103, 104, 105, 106, 107, 108, 109, 110, 111, 112, 113, 114, 115, 116, 117, 118, 119, 120, 121, 122] (by decide +kernel)) (C8.pe_c c__law_take hr (by decide) rfl (pa_cons (pv 0) (pa_cons pe_int pa_nil))) (fun _ _ => rfl)) (C8.pe_c c__law_figures hr (by decide) rfl (pa_cons (pv 0) (pa_cons (pv 1) pa_nil))))))), Z.body (N := ["_law_box_here", "_law_limit"]) (fun H0 W0 pa => (Z.rs_seq (Z.rs_set (Z.re_op Z.o_add Z.re_int (Z.re_call (Z.rf_lend (Z.rf_fz (Z.re_lst (Z.rf_fz Z.re_int (Z.rf_fz (Z.re_call (Z.rf_lend (Z.rf_fz Z.re_int Z.rf_nil)) (fun _ _ => Z.r_nil) rfl) (Z.rf_fz (Z.re_call (Z.rf_lend (Z.rf_fz Z.re_int Z.rf_nil)) (fun _ _ => Z.r_nil) rfl) Z.rf_nil)))) Z.rf_nil)) (fun _ _ => Z.r_nil) rfl)))
      (Z.rs_ret (Z.re_op Z.o_add (Z.re_op Z.o_ix Z.re_str (Z.re_call (Z.rf_lend (Z.rf_fz Z.re_int Z.rf_nil)) (fun _ _ => Z.r_nil) rfl)) (Z.re_call (Z.rf_lend (Z.rf_fz Z.re_var Z.rf_nil)) (fun _ _ => Z.r_nil) rfl))))) h (by decide) (fun ss T h hn => ?_)⟩)
  clear hn
  obtain ⟨a, rfl, x, rfl, k1⟩ := h
  walk_at "zd"
  refine fun r y h0 h1 r2 z h2 h3 t u ht => ?_
  have key : ∃ n : Int, t = .int n ∧ 0 ≤ n ∧ n < 9 := by
    simp only [List.mem_cons, List.not_mem_nil, or_false] at ht
    rcases ht with rfl | rfl | rfl
    · exact ⟨_, rfl, by decide, by decide⟩
    · exact ⟨_, rfl, by omega, by omega⟩
    · exact ⟨_, rfl, by omega, by omega⟩
  obtain ⟨n, rfl, n0, n1⟩ := key
  walk_at "zd"
  refine fun r y h2 h3 => ?_
  obtain ⟨d, hd, e⟩ := U.atI_in (xs := [97, 98, 99, 100, 101, 102, 103, 104, 105, 106, 107, 108, 109, 110, 111, 112, 113, 114, 115, 116, 117, 118, 119, 120, 121, 122]) h2 h3
  refine ⟨d, e, by omega, by omega, fun l y hl hz => ⟨by omega, ?_⟩⟩
  exact k1 _ y (U.maker_cons (U.low_in hd) hl) (by walk_at "om")

abbrev tp__law_parts : Z.TP := Z.tp1 fun a P => ∃ (x : Z.Bx), a = .mu x.tr ∧ ∀ (t : U.Pt) (y : Z.Bx), t.Ok → t.p.length ≤ 9 → (∀ m ∈ t.ms, m.length ≤ 10) → (∀ i, t.c = some i → i < 10 ^ 10) → P (.mu (Z.ptT t)) [y.tr]
abbrev sp__law_parts (K : PySem.W.Frag) : Sp := Z.spT K 1 (tp__law_parts)
theorem sc__law_parts : FnScope ["_law_box_here", "_law_letters", "_law_number", "_law_points", "_law_makers", "_law_year", "_law_copy", "_law_k"] ["_law_box_here"] (defScope s__law_parts) := U.scope_by (by decide +kernel)
theorem ok__law_parts {P : Program} {w : World} {K : PySem.W.Frag} {mg : Str → Option Value} {base : Heap} {f : Addr} {fd : FuncData}
    (F : FunD K "_law_parts" "_law_parts" (defArgs s__law_parts) (defBody s__law_parts) (defScope s__law_parts) [] [] f fd) (B : U.BI mg) (c__law_edge : C8.Cal P w K mg base 3 "_law_edge" (sp__law_edge K) []) (c__law_figures : C8.Cal P w K mg base 2 "_law_figures" (sp__law_figures K) []) (c__law_maker : C8.Cal P w K mg base 3 "_law_maker" (sp__law_maker K) []) (c__law_pick : C8.Cal P w K mg base 2 "_law_pick" (sp__law_pick K) []) (c__law_take : C8.Cal P w K mg base 1 "_law_take" (sp__law_take K) []) :
    FnOk P w K mg base C8.CX0 4 f fd ["_law_box_here"] (sp__law_parts K) := by
  have sc := sc__law_parts
  refine F.ok sc (fun vs H Q E h => h.1) (fun cdv A outer s H vs Q E hr h => ⟨_, PSs.nox (pss_cons (ps_set (i := 1) sc.nd rfl (Or.inl rfl) (U.pe_s PySem.F.slot_str_join PySem.F.type_str_join U.m_join (U.pe_s' [] (by decide +kernel)) (pa_cons (pe_lc (own := [("_law_k", 7)]) rfl sc.nd (pi_range1 rfl B.range_ (pa_cons (pe_op U.add pe_int (C8.pe_c c__law_take hr (by decide) rfl (pa_cons (pv 0) (pa_cons pe_int pa_nil)))) pa_nil)) (blkOk_by (N := ["_law_box_here", "_law_letters", "_law_number", "_law_points", "_law_makers", "_law_year", "_law_copy", "_law_k"]) (sc := defScope s__law_parts) (own := [("_law_k", 7)]) (by decide +kernel)) (fun _ _ _ _ _ => (pg_name (i := 7) sc.nd rfl (Or.inl rfl))) (fun _ _ _ _ _ => pts_nil) (fun _ _ _ _ _ => (pe_ix U.ix (U.pe_s' [97, 98, 99, 100, 101, 102, 103, 104, 105, 106, 107, 108, 109, 110, 111, 112, 113, 114, 115, 116, 117, 118, 119, 120, 121, 122] (by decide +kernel)) (C8.pe_c c__law_take hr (by decide) rfl (pa_cons (pv 0) (pa_cons pe_int pa_nil))) (fun _ _ => rfl)))) pa_nil)))
      (pss_cons (ps_set (i := 2) sc.nd rfl (Or.inl rfl) (C8.pe_c c__law_pick hr (by decide) rfl (pa_cons (pv 0) (pa_cons (pe_lst (pa_cons (pe_op U.add pe_int (C8.pe_c c__law_take hr (by decide) rfl (pa_cons (pv 0) (pa_cons pe_int pa_nil)))) (pa_cons (pe_op U.add pe_int (C8.pe_c c__law_take hr (by decide) rfl (pa_cons (pv 0) (pa_cons pe_int pa_nil)))) (pa_cons (C8.pe_c c__law_edge hr (by decide) rfl (pa_cons (pv 0) pa_nil)) pa_nil)))) pa_nil))))
      (pss_cons (ps_set (i := 3) sc.nd rfl (Or.inl rfl) (U.pe_s' [] (by decide +kernel)))
      (pss_cons (ps_if (pt_cmpR U.eq (C8.pe_c c__law_take hr (by decide) rfl (pa_cons (pv 0) (pa_cons pe_int pa_nil))) pe_int (nomark _)) (pss_one (ps_set (i := 3) sc.nd rfl (Or.inl rfl) (C8.pe_c c__law_figures hr (by decide) rfl (pa_cons (pv 0) (pa_cons (pe_op U.add pe_int (C8.pe_c c__law_pick hr (by decide) rfl (pa_cons (pv 0) (pa_cons (pe_lst (pa_cons (C8.pe_c c__law_take hr (by decide) rfl (pa_cons (pv 0) (pa_cons pe_int pa_nil))) (pa_cons (C8.pe_c c__law_take hr (by decide) rfl (pa_cons (pv 0) (pa_cons pe_int pa_nil))) pa_nil))) pa_nil)))) pa_nil))))) pss_nil)
      (pss_cons (ps_set (i := 4) sc.nd rfl (Or.inl rfl) (pe_callTy U.c_tuple (by rfl) B.tuple_ U.bt_tuple (pa_cons (pe_lc (own := [("_law_k", 7)]) rfl sc.nd (pi_range1 rfl B.range_ (pa_cons (C8.pe_c c__law_take hr (by decide) rfl (pa_cons (pv 0) (pa_cons pe_int pa_nil))) pa_nil)) (blkOk_by (N := ["_law_box_here", "_law_letters", "_law_number", "_law_points", "_law_makers", "_law_year", "_law_copy", "_law_k"]) (sc := defScope s__law_parts) (own := [("_law_k", 7)]) (by decide +kernel)) (fun _ _ _ _ _ => (pg_name (i := 7) sc.nd rfl (Or.inl rfl))) (fun _ _ _ _ _ => pts_nil) (fun _ _ _ _ _ => (C8.pe_c c__law_maker hr (by decide) rfl (pa_cons (pv 0) pa_nil)))) pa_nil)))
      (pss_cons (ps_set (i := 5) sc.nd rfl (Or.inl rfl) (C8.pe_c c__law_pick hr (by decide) rfl (pa_cons (pv 0) (pa_cons (pe_lst (pa_cons pe_non (pa_cons (pe_op U.add pe_int (C8.pe_c c__law_take hr (by decide) rfl (pa_cons (pv 0) (pa_cons pe_int pa_nil)))) (pa_cons (pe_op U.add pe_int (pe_op U.mul pe_int (C8.pe_c c__law_take hr (by decide) rfl (pa_cons (pv 0) (pa_cons pe_int pa_nil))))) pa_nil)))) pa_nil))))
      (pss_cons (ps_set (i := 6) sc.nd rfl (Or.inl rfl) (C8.pe_c c__law_pick hr (by decide) rfl (pa_cons (pv 0) (pa_cons (pe_lst (pa_cons pe_non (pa_cons (pe_op U.add pe_int (C8.pe_c c__law_take hr (by decide) rfl (pa_cons (pv 0) (pa_cons (C8.pe_c c__law_pick hr (by decide) rfl (pa_cons (pv 0) (pa_cons (pe_lst (pa_cons pe_int (pa_cons pe_int (pa_cons (pe_op U.pow pe_int pe_int) pa_nil)))) pa_nil))) pa_nil)))) (pa_cons (pe_callB (U.c_max rfl) (by rfl) B.max_ U.bt_max (pa_cons pe_int (pa_cons (C8.pe_c c__law_edge hr (by decide) rfl (pa_cons (pv 0) pa_nil)) pa_nil))) pa_nil)))) pa_nil))))
      (pss_one (ps_ret (pe_lst (pa_cons (pv 1) (pa_cons (pv 2) (pa_cons (pv 3) (pa_cons (pv 4) (pa_cons (pv 5) (pa_cons (pv 6) pa_nil)))))))))))))))), Z.body (N := ["_law_box_here", "_law_letters", "_law_number", "_law_points", "_law_makers", "_law_year", "_law_copy", "_law_k"]) (fun H0 W0 pa => (Z.rs_seq (Z.rs_set (Z.re_bs Z.o_join Z.re_str (Z.ra_cons (Z.re_lc (by decide) (Z.ri_rng1 (Z.re_op Z.o_add Z.re_int (Z.re_call (Z.rf_lend (Z.rf_fz Z.re_int Z.rf_nil)) (fun _ _ => Z.r_nil) rfl))) Z.rg_name Z.rt_yes (Z.re_op Z.o_ix Z.re_str (Z.re_call (Z.rf_lend (Z.rf_fz Z.re_int Z.rf_nil)) (fun _ _ => Z.r_nil) rfl))) Z.ra_nil)))
      (Z.rs_seq (Z.rs_set (Z.re_call (Z.rf_lend (Z.rf_fz (Z.re_lst (Z.rf_fz (Z.re_op Z.o_add Z.re_int (Z.re_call (Z.rf_lend (Z.rf_fz Z.re_int Z.rf_nil)) (fun _ _ => Z.r_nil) rfl)) (Z.rf_fz (Z.re_op Z.o_add Z.re_int (Z.re_call (Z.rf_lend (Z.rf_fz Z.re_int Z.rf_nil)) (fun _ _ => Z.r_nil) rfl)) (Z.rf_fz (Z.re_call (Z.rf_lend Z.rf_nil) (fun _ _ => Z.r_nil) rfl) Z.rf_nil)))) Z.rf_nil)) (fun _ _ => Z.r_nil) rfl))
      (Z.rs_seq (Z.rs_set Z.re_str)
      (Z.rs_cut (Z.rs_if (Z.rt_test (Z.re_op Z.o_eq (Z.re_call (Z.rf_lend (Z.rf_fz Z.re_int Z.rf_nil)) (fun _ _ => Z.r_nil) rfl) Z.re_int)) (Z.rs_set (Z.re_call (Z.rf_lend (Z.rf_fz (Z.re_op Z.o_add Z.re_int (Z.re_call (Z.rf_lend (Z.rf_fz (Z.re_lst (Z.rf_fz (Z.re_call (Z.rf_lend (Z.rf_fz Z.re_int Z.rf_nil)) (fun _ _ => Z.r_nil) rfl) (Z.rf_fz (Z.re_call (Z.rf_lend (Z.rf_fz Z.re_int Z.rf_nil)) (fun _ _ => Z.r_nil) rfl) Z.rf_nil))) Z.rf_nil)) (fun _ _ => Z.r_nil) rfl)) Z.rf_nil)) (fun _ _ => Z.r_nil) rfl)) Z.rs_next)
      (Z.rs_seq (Z.rs_set (Z.re_tuple (Z.re_lc (by decide) (Z.ri_rng1 (Z.re_call (Z.rf_lend (Z.rf_fz Z.re_int Z.rf_nil)) (fun _ _ => Z.r_nil) rfl)) Z.rg_name Z.rt_yes (Z.re_call (Z.rf_lend Z.rf_nil) (fun _ _ => Z.r_nil) rfl))))
      (Z.rs_seq (Z.rs_set (Z.re_call (Z.rf_lend (Z.rf_fz (Z.re_lst (Z.rf_fz Z.re_non (Z.rf_fz (Z.re_op Z.o_add Z.re_int (Z.re_call (Z.rf_lend (Z.rf_fz Z.re_int Z.rf_nil)) (fun _ _ => Z.r_nil) rfl)) (Z.rf_fz (Z.re_op Z.o_add Z.re_int (Z.re_op Z.o_mul Z.re_int (Z.re_call (Z.rf_lend (Z.rf_fz Z.re_int Z.rf_nil)) (fun _ _ => Z.r_nil) rfl))) Z.rf_nil)))) Z.rf_nil)) (fun _ _ => Z.r_nil) rfl))
      (Z.rs_seq (Z.rs_set (Z.re_call (Z.rf_lend (Z.rf_fz (Z.re_lst (Z.rf_fz Z.re_non (Z.rf_fz (Z.re_op Z.o_add Z.re_int (Z.re_call (Z.rf_lend (Z.rf_fz (Z.re_call (Z.rf_lend (Z.rf_fz (Z.re_lst (Z.rf_fz Z.re_int (Z.rf_fz Z.re_int (Z.rf_fz (Z.re_op Z.o_pow Z.re_int Z.re_int) Z.rf_nil)))) Z.rf_nil)) (fun _ _ => Z.r_nil) rfl) Z.rf_nil)) (fun _ _ => Z.r_nil) rfl)) (Z.rf_fz (Z.re_cb Z.o_max (Z.ra_cons Z.re_int (Z.ra_cons (Z.re_call (Z.rf_lend Z.rf_nil) (fun _ _ => Z.r_nil) rfl) Z.ra_nil))) Z.rf_nil)))) Z.rf_nil)) (fun _ _ => Z.r_nil) rfl))
      (Z.rs_ret (Z.re_lst (Z.rf_fz Z.re_var (Z.rf_fz Z.re_var (Z.rf_fz Z.re_var (Z.rf_fz Z.re_var (Z.rf_fz Z.re_var (Z.rf_fz Z.re_var Z.rf_nil)))))))))))))))) h (by decide) (fun ss T h hn => ?_)⟩)
  clear hn
  obtain ⟨a, rfl, x, rfl, k1⟩ := h
  walk_at "zd"
  refine fun r0 y0 g0 g1 => ⟨by omega, by omega, Z.lc_draw (Z.isSg U.lowB) (fun y => [some (.pm y.tr), none, none, none, none, none, none, none]) y0 (by rw [Z.rgT_len]; omega) (fun _ => rfl) (fun i t acc y et ha => ?_) (fun us y hl hp => ?_)⟩
  · walk_at "zd"
    refine fun r z h2 h3 => ?_
    obtain ⟨d, hd, e⟩ := U.atI_in (xs := [97, 98, 99, 100, 101, 102, 103, 104, 105, 106, 107, 108, 109, 110, 111, 112, 113, 114, 115, 116, 117, 118, 119, 120, 121, 122]) h2 h3
    exact ⟨d, e, Z.drI_next ha ⟨d, U.low_in hd, rfl⟩ z rfl⟩
  obtain ⟨l, rfl, hall, hlen⟩ := Z.signs_of hp
  rw [Z.rgT_len] at hl
  have hl1 : 1 ≤ l.length ∧ l.length ≤ 3 := by omega
  have hlt := U.letters_of hall hl1.1 hl1.2
  clear hp hl hlen hall g0 g1
  walk_at "zd"
  refine ⟨by omega, fun r1 y1 h1 h2 r2 y2 h3 h4 r3 y3 h5 h6 t y4 ht => ?_⟩
  have key : ∃ n : Int, t = .int n ∧ 1 ≤ n ∧ n ≤ 9999 := by
    simp only [List.mem_cons, List.not_mem_nil, or_false] at ht
    rcases ht with rfl | rfl | rfl
    · exact ⟨_, rfl, by omega, by omega⟩
    · exact ⟨_, rfl, by omega, by omega⟩
    · exact ⟨_, rfl, by omega, by omega⟩
  obtain ⟨n, rfl, n0, n1⟩ := key
  clear ht h1 h2 h3 h4 h5 h6
  refine Z.cut_by (fun Γ => ∃ (y : Z.Bx) (p : List Nat), U.pointsB p = true ∧ p.length ≤ 9 ∧ Γ = [some (.pm y.tr), some (.fz (.str l)), some (.fz (.int n)), some (.fz (.str p)), none, none, none, none]) ?_ ?_
  · walk_at "zd"
    refine fun r5 y5 h1 h2 => ?_
    rw [Z.ite_and]
    refine ⟨fun _ => ?_, fun _ => ⟨_, [], rfl, by simp, rfl, rfl⟩⟩
    refine fun r6 y6 h3 h4 r7 y7 h5 h6 t y8 ht => ?_
    have key : ∃ n : Int, t = .int n ∧ 0 ≤ n ∧ n < 9 := by
      simp only [List.mem_cons, List.not_mem_nil, or_false] at ht
      rcases ht with rfl | rfl
      · exact ⟨_, rfl, by omega, by omega⟩
      · exact ⟨_, rfl, by omega, by omega⟩
    obtain ⟨m, rfl, m0, m1⟩ := key
    walk_at "zd"
    refine ⟨by omega, by omega, fun p y9 hp hz => ⟨_, p, by unfold U.pointsB; rw [hp, Bool.or_true], by omega, rfl, rfl⟩⟩
  rintro Γ ⟨y5, p, hp, hpl, rfl⟩
  walk_at "zd"
  refine fun r6 y6 h1 h2 => ⟨by omega, by omega, ?_⟩
  refine Z.lc_draw (Z.isStr fun m => U.makerB m = true ∧ m.length ≤ 10) (fun y => [some (.pm y.tr), some (.fz (.str l)), some (.fz (.int n)), some (.fz (.str p)), none, none, none, none]) y6 (by rw [Z.rgT_len]; omega) (fun _ => rfl) (fun i t acc y et ha => ?_) (fun us y hl hp => ?_)
  · walk_at "zd"
    exact fun m z hm hl => Z.drI_next ha ⟨m, ⟨hm, hl⟩, rfl⟩ z rfl
  obtain ⟨ms, rfl, hms, hln⟩ := Z.strs_of hp
  rw [Z.rgT_len, List.length_map] at hl
  have hn3 : ms.length ≤ 3 := by omega
  clear hp hl hln h1 h2
  walk_at "zd"
  refine fun r7 y7 h1 h2 r8 y8 h3 h4 => ⟨U.mulL (by decide), fun t y9 ht => ⟨⟨by decide, by decide, by decide⟩, fun t1 y10 ht1 => ?_⟩⟩
  have k1y : ∃ yr : Option Int, t = Z.ovT yr ∧ ∀ i, yr = some i → 1000 ≤ i ∧ i ≤ 2999 := by
    simp only [List.mem_cons, List.not_mem_nil, or_false] at ht
    rcases ht with rfl | rfl | rfl
    · exact ⟨none, rfl, by intro i e; cases e⟩
    · exact ⟨some _, rfl, by intro i e; cases e; omega⟩
    · exact ⟨some _, rfl, by intro i e; cases e; omega⟩
  obtain ⟨yr, rfl, hyr⟩ := k1y
  have k1x : ∃ x : Int, t1 = .int x ∧ 0 < x ∧ x ≤ 1000000000 := by
    simp only [List.mem_cons, List.not_mem_nil, or_false] at ht1
    rcases ht1 with rfl | rfl | rfl <;> exact ⟨_, rfl, by decide, by decide⟩
  obtain ⟨x1, rfl, x0, x2⟩ := k1x
  refine ⟨x1, rfl, x0, by omega, fun r9 y11 h5 h6 n2 y12 h7 h8 t2 y13 ht2 => ?_⟩
  have k1c : ∃ cp : Option Int, t2 = Z.ovT cp ∧ ∀ i, cp = some i → 2 ≤ i ∧ i < 10 ^ 10 := by
    simp only [List.mem_cons, List.not_mem_nil, or_false] at ht2
    rcases ht2 with rfl | rfl | rfl
    · exact ⟨none, rfl, by intro i e; cases e⟩
    · exact ⟨some _, rfl, by intro i e; cases e; omega⟩
    · exact ⟨some _, rfl, by intro i e; cases e; omega⟩
  obtain ⟨cp, rfl, hcp⟩ := k1c
  exact k1 ⟨l, n, p, ms, yr, cp⟩ y13 ⟨hlt, n0, n1, hp, by show p.length ≤ 1000; omega, hn3, fun m hm => ⟨(hms m hm).1, by have := (hms m hm).2; omega⟩, hyr, fun i e => ⟨(hcp i e).1, by have := (hcp i e).2; omega⟩⟩ hpl (fun m hm => (hms m hm).2) (fun i e => (hcp i e).2)

abbrev tp__law_near : Z.TP := Z.tp2 fun a b P => ∃ (x : Z.Bx) (t : U.Pt), a = .mu x.tr ∧ b = .fz (Z.ptT t) ∧ Z.Sm 10 t ∧ ∀ (u : U.Pt) (y : Z.Bx), Z.Sm 11 u → P (.mu (Z.ptT u)) [y.tr]
abbrev sp__law_near (K : PySem.W.Frag) : Sp := Z.spT K 2 (tp__law_near)
theorem sc__law_near : FnScope ["_law_box_here", "_law_parts_here", "_law_other", "_law_at", "_law_way"] ["_law_box_here", "_law_parts_here"] (defScope s__law_near) := U.scope_by (by decide +kernel)
theorem ok__law_near {P : Program} {w : World} {K : PySem.W.Frag} {mg : Str → Option Value} {base : Heap} {f : Addr} {fd : FuncData}
    (F : FunD K "_law_near" "_law_near" (defArgs s__law_near) (defBody s__law_near) (defScope s__law_near) [] [] f fd) (B : U.BI mg) (c__law_parts : C8.Cal P w K mg base 4 "_law_parts" (sp__law_parts K) []) (c__law_take : C8.Cal P w K mg base 1 "_law_take" (sp__law_take K) []) :
    FnOk P w K mg base C8.CX0 5 f fd ["_law_box_here", "_law_parts_here"] (sp__law_near K) := by
  have sc := sc__law_near
  refine F.ok sc (fun vs H Q E h => h.1) (fun cdv A outer s H vs Q E hr h => ⟨_, PSs.nox (pss_cons (ps_set (i := 2) sc.nd rfl (Or.inl rfl) (C8.pe_c c__law_parts hr (by decide) rfl (pa_cons (pv 0) pa_nil)))
      (pss_cons (ps_set (i := 3) sc.nd rfl (Or.inl rfl) (C8.pe_c c__law_take hr (by decide) rfl (pa_cons (pv 0) (pa_cons pe_int pa_nil))))
      (pss_cons (ps_set (i := 4) sc.nd rfl (Or.inl rfl) (C8.pe_c c__law_take hr (by decide) rfl (pa_cons (pv 0) (pa_cons pe_int pa_nil))))
      (pss_cons (ps_if (pt_cmpR U.eq (pv 4) pe_int (nomark _)) (pss_one (ps_ret (pe_op U.add (pe_op U.add (pe_slice U.sl (pv 1) po_none (po_some pe_int)) (pe_lst (pa_cons (pe_callB (U.c_min rfl) (by rfl) B.min_ U.bt_min (pa_cons pe_int (pa_cons (pe_op U.add (pe_ix U.ix (pv 1) pe_int (fun _ _ => rfl)) pe_int) pa_nil))) pa_nil))) (pe_slice U.sl (pv 1) (po_some pe_int) po_none)))) pss_nil)
      (pss_cons (ps_if (PW.pt (pw_and (pt_cmpR U.eq (pv 4) pe_int (nomark _)) (pw_and1 (pt_cmpR U.isNot (pe_ix U.ix (pv 1) pe_int (fun _ _ => rfl)) pe_non (nomark _))))) (pss_one (ps_ret (pe_op U.add (pe_op U.add (pe_slice U.sl (pv 1) po_none (po_some pe_int)) (pe_lst (pa_cons (pe_callB (U.c_min rfl) (by rfl) B.min_ U.bt_min (pa_cons pe_int (pa_cons (pe_op U.add (pe_ix U.ix (pv 1) pe_int (fun _ _ => rfl)) pe_int) pa_nil))) pa_nil))) (pe_slice U.sl (pv 1) (po_some pe_int) po_none)))) pss_nil)
      (pss_cons (ps_if (PW.pt (pw_and (pt_cmpR U.lt (pv 4) pe_int (nomark _)) (pw_and1 (pt_cmpR U.lt (pe_orT (pe_ix U.ix (pv 1) pe_int (fun _ _ => rfl)) (pe_one pe_int)) (pe_op U.pow pe_int pe_int) (nomark _))))) (pss_one (ps_ret (pe_op U.add (pe_slice U.sl (pv 1) po_none (po_some pe_int)) (pe_lst (pa_cons (pe_op U.add (pe_orT (pe_ix U.ix (pv 1) pe_int (fun _ _ => rfl)) (pe_one pe_int)) pe_int) pa_nil))))) pss_nil)
      (pss_cons (ps_if (pt_cmpR U.eq (pv 4) pe_int (nomark _)) (pss_one (ps_ret (pe_op U.add (pe_slice U.sl (pv 1) po_none (po_some (pv 3))) (pe_slice U.sl (pv 2) (po_some (pv 3)) po_none)))) pss_nil)
      (pss_one (ps_ret (pe_op U.add (pe_op U.add (pe_slice U.sl (pv 1) po_none (po_some (pv 3))) (pe_slice U.sl (pv 2) (po_some (pv 3)) (po_some (pe_op U.add (pv 3) pe_int)))) (pe_slice U.sl (pv 1) (po_some (pe_op U.add (pv 3) pe_int)) po_none))))))))))), Z.body (N := ["_law_box_here", "_law_parts_here", "_law_other", "_law_at", "_law_way"]) (fun H0 W0 pa => (Z.rs_seq (Z.rs_set (Z.re_call (Z.rf_lend Z.rf_nil) (fun _ _ => Z.r_nil) rfl))
      (Z.rs_seq (Z.rs_set (Z.re_call (Z.rf_lend (Z.rf_fz Z.re_int Z.rf_nil)) (fun _ _ => Z.r_nil) rfl))
      (Z.rs_seq (Z.rs_set (Z.re_call (Z.rf_lend (Z.rf_fz Z.re_int Z.rf_nil)) (fun _ _ => Z.r_nil) rfl))
      (Z.rs_seq (Z.rs_if (Z.rt_test (Z.re_op Z.o_eq Z.re_var Z.re_int)) (Z.rs_ret (Z.re_op Z.o_add (Z.re_op Z.o_add (Z.re_sl Z.o_sl Z.re_var Z.ro_no (Z.ro_part Z.re_int)) (Z.re_lst (Z.rf_fz (Z.re_cb Z.o_min (Z.ra_cons Z.re_int (Z.ra_cons (Z.re_op Z.o_add (Z.re_op Z.o_ix Z.re_var Z.re_int) Z.re_int) Z.ra_nil))) Z.rf_nil))) (Z.re_sl Z.o_sl Z.re_var (Z.ro_part Z.re_int) Z.ro_no))) Z.rs_next)
      (Z.rs_seq (Z.rs_if (Z.rt_and (Z.rt_test (Z.re_op Z.o_eq Z.re_var Z.re_int)) (Z.rt_test (Z.re_op Z.o_isNot (Z.re_op Z.o_ix Z.re_var Z.re_int) Z.re_non))) (Z.rs_ret (Z.re_op Z.o_add (Z.re_op Z.o_add (Z.re_sl Z.o_sl Z.re_var Z.ro_no (Z.ro_part Z.re_int)) (Z.re_lst (Z.rf_fz (Z.re_cb Z.o_min (Z.ra_cons Z.re_int (Z.ra_cons (Z.re_op Z.o_add (Z.re_op Z.o_ix Z.re_var Z.re_int) Z.re_int) Z.ra_nil))) Z.rf_nil))) (Z.re_sl Z.o_sl Z.re_var (Z.ro_part Z.re_int) Z.ro_no))) Z.rs_next)
      (Z.rs_seq (Z.rs_if (Z.rt_and (Z.rt_test (Z.re_op Z.o_lt Z.re_var Z.re_int)) (Z.rt_test (Z.re_op Z.o_lt (Z.re_orT (Z.re_op Z.o_ix Z.re_var Z.re_int) Z.re_int) (Z.re_op Z.o_pow Z.re_int Z.re_int)))) (Z.rs_ret (Z.re_op Z.o_add (Z.re_sl Z.o_sl Z.re_var Z.ro_no (Z.ro_part Z.re_int)) (Z.re_lst (Z.rf_fz (Z.re_op Z.o_add (Z.re_orT (Z.re_op Z.o_ix Z.re_var Z.re_int) Z.re_int) Z.re_int) Z.rf_nil)))) Z.rs_next)
      (Z.rs_seq (Z.rs_if (Z.rt_test (Z.re_op Z.o_eq Z.re_var Z.re_int)) (Z.rs_ret (Z.re_op Z.o_add (Z.re_sl Z.o_sl Z.re_var Z.ro_no (Z.ro_part Z.re_var)) (Z.re_sl Z.o_sl Z.re_var (Z.ro_part Z.re_var) Z.ro_no))) Z.rs_next)
      (Z.rs_ret (Z.re_op Z.o_add (Z.re_op Z.o_add (Z.re_sl Z.o_sl Z.re_var Z.ro_no (Z.ro_part Z.re_var)) (Z.re_sl Z.o_sl Z.re_var (Z.ro_part Z.re_var) (Z.ro_part (Z.re_op Z.o_add Z.re_var Z.re_int)))) (Z.re_sl Z.o_sl Z.re_var (Z.ro_part (Z.re_op Z.o_add Z.re_var Z.re_int)) Z.ro_no))))))))))) h (by decide) (fun ss T h hn => ?_)⟩)
  clear hn
  obtain ⟨a, b, rfl, x, t, rfl, rfl, sm, k1⟩ := h
  walk_at "zd"
  intro t1 y0 ok1 h1 h2 h3 r y1 r0 r1 w y2 w0 w1
  have sm1 := (Z.Sm.of ok1 h1 h2 h3).mono (show (10 : Int) ^ 10 ≤ 10 ^ 11 by decide)
  have sm2 := sm.mono (show (10 : Int) ^ 10 ≤ 10 ^ 11 by decide)
  have k2 := k1 t y2 sm2
  clear h1 h2 h3 ok1 y0 y1
  obtain ⟨l, n, p, ms, y, c⟩ := t
  obtain ⟨l', n', p', ms', y', c'⟩ := t1
  dsimp only [Z.ptT] at k2 ⊢
  have hw : w = 0 ∨ w = 1 ∨ w = 2 ∨ (¬ w = 0 ∧ ¬ w = 1 ∧ ¬ w < 2 ∧ ¬ w = 2) := by omega
  have hr : r = 0 ∨ r = 1 ∨ r = 2 ∨ r = 3 ∨ r = 4 ∨ r = 5 := by omega
  rcases hw with rfl | rfl | rfl | ⟨e0, e1, e2, e3⟩
  · walk_at "zd"
    exact k1 ⟨l, min 9999 (n + 1), p, ms, y, c⟩ y2 ⟨sm2.l, by have := sm2.n; dsimp only at *; omega, sm2.p, sm2.ms, sm2.y, sm2.c⟩
  · rcases y with - | y
    · have cp : CPow 10 29 := ⟨by decide, by decide, by decide⟩
      rcases c with - | c
      · walk_at "zd"
        exact k1 ⟨l, n, p, ms, none, some 2⟩ y2 ⟨sm2.l, sm2.n, sm2.p, sm2.ms, sm2.y, fun i hi => by cases hi; exact ⟨by decide, by decide⟩⟩
      · obtain ⟨c1, c2⟩ := sm.c c rfl
        have c3 : (c != 0) = true := by rw [bne_iff_ne]; omega
        have c4 : c < 100000000000000000000000000000 := by omega
        walk_at "zd"
        exact k1 ⟨l, n, p, ms, none, some (c + 1)⟩ y2 ⟨sm2.l, sm2.n, sm2.p, sm2.ms, sm2.y, fun i hi => by cases hi; exact ⟨by omega, by omega⟩⟩
    · walk_at "zd"
      have hy := sm2.y y rfl
      exact k1 ⟨l, n, p, ms, some (min 2999 (y + 1)), c⟩ y2 ⟨sm2.l, sm2.n, sm2.p, sm2.ms, fun i hi => by cases hi; omega, sm2.c⟩
  · rcases hr with rfl | rfl | rfl | rfl | rfl | rfl <;> walk_at "zd" <;> refine k1 ⟨_, _, _, _, _, _⟩ y2 ⟨?_, ?_, ?_, ?_, ?_, ?_⟩ <;> first | exact sm1.l | exact sm2.l | exact sm1.n | exact sm2.n | exact sm1.p | exact sm2.p | exact sm1.ms | exact sm2.ms | exact sm1.y | exact sm2.y | exact sm1.c | exact sm2.c
  · rcases hr with rfl | rfl | rfl | rfl | rfl | rfl <;> walk_at "zd" <;> refine k1 ⟨_, _, _, _, _, _⟩ y2 ⟨?_, ?_, ?_, ?_, ?_, ?_⟩ <;> first | exact sm1.l | exact sm2.l | exact sm1.n | exact sm2.n | exact sm1.p | exact sm2.p | exact sm1.ms | exact sm2.ms | exact sm1.y | exact sm2.y | exact sm1.c | exact sm2.c

abbrev tp__law_box : Z.TP := Z.tp1 fun a P => ∃ c : Int, a = .fz (.int c) ∧ ∀ b : Z.Bx, P (.mu b.tr) []
abbrev sp__law_box (K : PySem.W.Frag) : Sp := Z.spT K 1 (tp__law_box)
theorem sc__law_box : FnScope ["_law_cell"] ["_law_cell"] (defScope s__law_box) := U.scope_by (by decide +kernel)
theorem ok__law_box {P : Program} {w : World} {K : PySem.W.Frag} {mg : Str → Option Value} {base : Heap} {f : Addr} {fd : FuncData}
    (F : FunD K "_law_box" "_law_box" (defArgs s__law_box) (defBody s__law_box) (defScope s__law_box) [] [] f fd) (B : U.BI mg)  :
    FnOk P w K mg base C8.CX0 1 f fd ["_law_cell"] (sp__law_box K) := by
  have sc := sc__law_box
  refine F.ok sc (fun vs H Q E h => h.1) (fun cdv A outer s H vs Q E hr h => ⟨_, PSs.nox (pss_cons (ps_if (pt_cmpR U.ge (pv 0) (pe_op U.pow pe_int pe_int) (nomark _)) (pss_one (ps_ret (pe_lst (pa_cons (pv 0) (pa_cons (pe_op U.mod (pv 0) pe_int) (pa_cons pe_int pa_nil)))))) pss_nil)
      (pss_one (ps_ret (pe_lst (pa_cons pe_int (pa_cons (pe_op U.mod (pv 0) pe_int) (pa_cons pe_int pa_nil))))))), Z.body (N := ["_law_cell"]) (fun H0 W0 pa => (Z.rs_seq (Z.rs_if (Z.rt_test (Z.re_op Z.o_ge Z.re_var (Z.re_op Z.o_pow Z.re_int Z.re_int))) (Z.rs_ret (Z.re_lst (Z.rf_fz Z.re_var (Z.rf_fz (Z.re_op Z.o_mod Z.re_var Z.re_int) (Z.rf_fz Z.re_int Z.rf_nil))))) Z.rs_next)
      (Z.rs_ret (Z.re_lst (Z.rf_fz Z.re_int (Z.rf_fz (Z.re_op Z.o_mod Z.re_var Z.re_int) (Z.rf_fz Z.re_int Z.rf_nil))))))) h (by decide) (fun ss T h hn => ?_)⟩)
  clear hn
  obtain ⟨a, rfl, c, rfl, k1⟩ := h
  walk_at "zd"
  refine ⟨⟨by decide, by decide, by decide⟩, ?_⟩
  split
  · exact k1 ⟨_, _, _, by omega⟩
  · exact k1 ⟨_, _, _, by omega⟩

abbrev tp__law_cell_at : Z.TP := Z.tp2 fun a b P => ∃ (ns : List Int) (k : Int), a = .fz (.scr ns) ∧ b = .fz (.int k) ∧ 0 ≤ k ∧ ∀ c : Int, P (.fz (.int c)) []
abbrev sp__law_cell_at (K : PySem.W.Frag) : Sp := Z.spT K 2 (tp__law_cell_at)
theorem sc__law_cell_at : FnScope ["_law_script", "_law_k"] ["_law_script", "_law_k"] (defScope s__law_cell_at) := U.scope_by (by decide +kernel)
theorem ok__law_cell_at {P : Program} {w : World} {K : PySem.W.Frag} {mg : Str → Option Value} {base : Heap} {f : Addr} {fd : FuncData}
    (F : FunD K "_law_cell_at" "_law_cell_at" (defArgs s__law_cell_at) (defBody s__law_cell_at) (defScope s__law_cell_at) [] [] f fd) (B : U.BI mg)  :
    FnOk P w K mg base C8.CX0 1 f fd ["_law_script", "_law_k"] (sp__law_cell_at K) := by
  have sc := sc__law_cell_at
  refine F.ok sc (fun vs H Q E h => h.1) (fun cdv A outer s H vs Q E hr h => ⟨_, PSs.nox (pss_cons (ps_if (pt_cmpR U.lt (pv 1) (pe_callB Z.c_lenS (by rfl) B.len_ U.bt_len (pa_cons (pv 0) pa_nil)) (nomark _)) (pss_one (ps_ret (pe_ix ix_list (pv 0) (pv 1) (fun _ _ => rfl)))) pss_nil)
      (pss_one (ps_ret (pe_op U.add (pe_op U.mul pe_int (pv 1)) pe_int)))), Z.body (N := ["_law_script", "_law_k"]) (fun H0 W0 pa => (Z.rs_seq (Z.rs_if (Z.rt_test (Z.re_op Z.o_lt Z.re_var (Z.re_cb Z.o_lenS (Z.ra_cons Z.re_var Z.ra_nil)))) (Z.rs_ret (Z.re_op Z.o_ixS Z.re_var Z.re_var)) Z.rs_next)
      (Z.rs_ret (Z.re_op Z.o_add (Z.re_op Z.o_mul Z.re_int Z.re_var) Z.re_int)))) h (by decide) (fun ss T h hn => ?_)⟩)
  clear hn
  obtain ⟨a, b, rfl, ns, k, rfl, rfl, h0, k1⟩ := h
  walk_at "zd"
  split
  · obtain ⟨c, _, e⟩ := U.atI_in (xs := ns) h0 (by assumption)
    exact ⟨c, e, trivial⟩
  · exact U.mulL (by decide)

abbrev tp_law (C CF CM : Addr) : Z.TP := Z.tp1 fun a P => ∃ (ns : List Int), a = .fz (.scr ns) ∧ P (.fz (.bl true)) []
abbrev sp_law (K : PySem.W.Frag) (C_Counts : Addr) (C_Figures : Addr) (C_Mark : Addr) : Sp := Z.spT K 1 (tp_law C_Counts C_Figures C_Mark)
theorem sc_law : FnScope ["_law_script", "_law_k", "_law_box_here", "_law_one", "_law_other", "_law_size", "_law_limit"] ["_law_script"] (defScope s_law) := U.scope_by (by decide +kernel)
theorem ok_law {P : Program} {w : World} {K : PySem.W.Frag} {mg : Str → Option Value} {base : Heap} {f : Addr} {fd : FuncData} {C_Counts : Addr} {C_Figures : Addr} {C_Mark : Addr}
    (F : FunD K "law" "law" (defArgs s_law) (defBody s_law) (defScope s_law) [] [] f fd) (B : U.BI mg) (c__law_box : C8.Cal P w K mg base 1 "_law_box" (sp__law_box K) []) (c__law_cell_at : C8.Cal P w K mg base 1 "_law_cell_at" (sp__law_cell_at K) []) (c__law_fitting : C8.Cal P w K mg base 2 "_law_fitting" (sp__law_fitting K) []) (c__law_held : C8.Cal P w K mg base 8 "_law_held" (sp__law_held K C_Counts C_Figures C_Mark) []) (c__law_near : C8.Cal P w K mg base 5 "_law_near" (sp__law_near K) []) (c__law_parts : C8.Cal P w K mg base 4 "_law_parts" (sp__law_parts K) []) (c__law_pick : C8.Cal P w K mg base 2 "_law_pick" (sp__law_pick K) []) (c__law_take : C8.Cal P w K mg base 1 "_law_take" (sp__law_take K) []) (c__law_text : C8.Cal P w K mg base 1 "_law_text" (sp__law_text K) []) :
    FnOk P w K mg base C8.CX0 9 f fd ["_law_script"] (sp_law K C_Counts C_Figures C_Mark) := by
  have sc := sc_law
  refine F.ok sc (fun vs H Q E h => h.1) (fun cdv A outer s H vs Q E hr h => ⟨_, PSs.nox (pss_cons (ps_for PassesOwn.never rfl (pi_range1 rfl B.range_ (pa_cons (pe_callB (U.c_max rfl) (by rfl) B.max_ U.bt_max (pa_cons pe_int (pa_cons (pe_callB (U.c_min rfl) (by rfl) B.min_ U.bt_min (pa_cons (pe_callB Z.c_lenS (by rfl) B.len_ U.bt_len (pa_cons (pv 0) pa_nil)) (pa_cons pe_int pa_nil))) pa_nil))) pa_nil)) (pg_name (i := 1) sc.nd rfl (Or.inl rfl)) (pss_cons (ps_set (i := 2) sc.nd rfl (Or.inl rfl) (C8.pe_c c__law_box hr (by decide) rfl (pa_cons (C8.pe_c c__law_cell_at hr (by decide) rfl (pa_cons (pv 0) (pa_cons (pv 1) pa_nil))) pa_nil)))
      (pss_cons (ps_set (i := 3) sc.nd rfl (Or.inl rfl) (C8.pe_c c__law_fitting hr (by decide) rfl (pa_cons (C8.pe_c c__law_parts hr (by decide) rfl (pa_cons (pv 2) pa_nil)) pa_nil)))
      (pss_cons (ps_set (i := 4) sc.nd rfl (Or.inl rfl) (C8.pe_c c__law_fitting hr (by decide) rfl (pa_cons (C8.pe_c c__law_pick hr (by decide) rfl (pa_cons (pv 2) (pa_cons (pe_lst (pa_cons (C8.pe_c c__law_near hr (by decide) rfl (pa_cons (pv 2) (pa_cons (pv 3) pa_nil))) (pa_cons (C8.pe_c c__law_parts hr (by decide) rfl (pa_cons (pv 2) pa_nil)) (pa_cons (pv 3) pa_nil)))) pa_nil))) pa_nil)))
      (pss_cons (ps_set (i := 5) sc.nd rfl (Or.inl rfl) (pe_callB (U.c_max rfl) (by rfl) B.max_ U.bt_max (pa_cons (pe_callB U.c_len (by rfl) B.len_ U.bt_len (pa_cons (C8.pe_c c__law_text hr (by decide) rfl (pa_cons (pv 3) pa_nil)) pa_nil)) (pa_cons (pe_callB U.c_len (by rfl) B.len_ U.bt_len (pa_cons (C8.pe_c c__law_text hr (by decide) rfl (pa_cons (pv 4) pa_nil)) pa_nil)) pa_nil))))
      (pss_cons (ps_set (i := 6) sc.nd rfl (Or.inl rfl) (pe_op U.add (pv 5) (C8.pe_c c__law_pick hr (by decide) rfl (pa_cons (pv 2) (pa_cons (pe_lst (pa_cons pe_int (pa_cons (C8.pe_c c__law_take hr (by decide) rfl (pa_cons (pv 2) (pa_cons (pe_op U.sub pe_int (pv 5)) pa_nil))) pa_nil))) pa_nil)))))
      (pss_one (ps_if (PW.pt (pw_or (pt_not (pt_val (C8.pe_c c__law_held hr (by decide) rfl (pa_cons (pv 3) (pa_cons (pv 4) (pa_cons (pv 6) pa_nil)))))) (pw_or (pt_not (pt_val (C8.pe_c c__law_held hr (by decide) rfl (pa_cons (pv 3) (pa_cons (pv 4) (pa_cons (pv 5) pa_nil)))))) (pw_or1 (pt_not (pt_val (C8.pe_c c__law_held hr (by decide) rfl (pa_cons (pv 4) (pa_cons (pv 3) (pa_cons (pv 6) pa_nil)))))))))) (pss_one (ps_ret pe_bl)) pss_nil))))))))
      (pss_one (ps_ret pe_bl))), Z.body (N := ["_law_script", "_law_k", "_law_box_here", "_law_one", "_law_other", "_law_size", "_law_limit"]) (fun H0 W0 pa => (Z.rs_seq (Z.rs_for (Z.ri_rng1 (Z.re_cb Z.o_max (Z.ra_cons Z.re_int (Z.ra_cons (Z.re_cb Z.o_min (Z.ra_cons (Z.re_cb Z.o_lenS (Z.ra_cons Z.re_var Z.ra_nil)) (Z.ra_cons Z.re_int Z.ra_nil))) Z.ra_nil)))) Z.rg_name (Z.rs_seq (Z.rs_set (Z.re_call (Z.rf_fz (Z.re_call (Z.rf_fz Z.re_var (Z.rf_fz Z.re_var Z.rf_nil)) (fun _ _ => Z.r_nil) rfl) Z.rf_nil) (fun _ _ => Z.r_nil) rfl))
      (Z.rs_seq (Z.rs_asg (Z.re_call (Z.rf_fz (Z.re_call (Z.rf_lend Z.rf_nil) (fun _ _ => Z.r_nil) rfl) Z.rf_nil) (fun _ _ => Z.r_nil) rfl) Z.rg_name)
      (Z.rs_seq (Z.rs_asg (Z.re_call (Z.rf_fz (Z.re_call (Z.rf_lend (Z.rf_fz (Z.re_lst (Z.rf_fz (Z.re_call (Z.rf_lend (Z.rf_fz Z.re_var Z.rf_nil)) (fun _ _ => Z.r_nil) rfl) (Z.rf_fz (Z.re_call (Z.rf_lend Z.rf_nil) (fun _ _ => Z.r_nil) rfl) (Z.rf_fz Z.re_var Z.rf_nil)))) Z.rf_nil)) (fun _ _ => Z.r_nil) rfl) Z.rf_nil) (fun _ _ => Z.r_nil) rfl) Z.rg_name)
      (Z.rs_seq (Z.rs_set (Z.re_cb Z.o_max (Z.ra_cons (Z.re_cb Z.o_len (Z.ra_cons (Z.re_call (Z.rf_fz Z.re_var Z.rf_nil) (fun _ _ => Z.r_nil) rfl) Z.ra_nil)) (Z.ra_cons (Z.re_cb Z.o_len (Z.ra_cons (Z.re_call (Z.rf_fz Z.re_var Z.rf_nil) (fun _ _ => Z.r_nil) rfl) Z.ra_nil)) Z.ra_nil))))
      (Z.rs_seq (Z.rs_set (Z.re_op Z.o_add Z.re_var (Z.re_call (Z.rf_lend (Z.rf_fz (Z.re_lst (Z.rf_fz Z.re_int (Z.rf_fz (Z.re_call (Z.rf_lend (Z.rf_fz (Z.re_op Z.o_sub Z.re_int Z.re_var) Z.rf_nil)) (fun _ _ => Z.r_nil) rfl) Z.rf_nil))) Z.rf_nil)) (fun _ _ => Z.r_nil) rfl)))
      (Z.rs_if (Z.rt_or (Z.rt_not (Z.rt_B (Z.re_call (Z.rf_fz Z.re_var (Z.rf_fz Z.re_var (Z.rf_fz Z.re_var Z.rf_nil))) (fun _ _ => Z.r_nil) rfl))) (Z.rt_or (Z.rt_not (Z.rt_B (Z.re_call (Z.rf_fz Z.re_var (Z.rf_fz Z.re_var (Z.rf_fz Z.re_var Z.rf_nil))) (fun _ _ => Z.r_nil) rfl))) (Z.rt_not (Z.rt_B (Z.re_call (Z.rf_fz Z.re_var (Z.rf_fz Z.re_var (Z.rf_fz Z.re_var Z.rf_nil))) (fun _ _ => Z.r_nil) rfl))))) (Z.rs_ret Z.re_bl) Z.rs_next)))))))
      (Z.rs_ret Z.re_bl))) h (by decide) (fun ss T h hn => ?_)⟩)
  clear hn
  obtain ⟨a, rfl, ns, rfl, k1⟩ := h
  walk_at "zd"
  refine ⟨by omega, by omega, ?_⟩
  refine Z.for_by (fun i Γ => ∃ o o1 o2 o3 o4 o5, Z.pmB (some o) = false ∧ Z.pmB (some o1) = false ∧ Z.pmB (some o2) = false ∧ Z.pmB (some o3) = false ∧ Z.pmB (some o4) = false ∧ Z.pmB (some o5) = false ∧ Γ = [some (.fz (.scr ns)), o, o1, o2, o3, o4, o5]) ⟨none, none, none, none, none, none, rfl, rfl, rfl, rfl, rfl, rfl, rfl⟩ ?_ ?_
  · rintro i t Γ ht ⟨o, o1, o2, o3, o4, o5, ho, ho1, ho2, ho3, ho4, ho5, rfl⟩
    obtain ⟨hi, rfl⟩ := Z.rg_of ht
    walk_at "zd"
    refine ⟨by omega, fun c b t y ok1 p1 p2 p3 => ⟨t, rfl, 10, Z.Sm.of ok1 p1 p2 p3, by decide, fun u su hu => ⟨u, rfl, su, fun u1 y1 su1 t1 y2 ok2 q1 q2 q3 t2 y3 ht2 => ?_⟩⟩⟩
    have key : ∃ v, t2 = Z.ptT v ∧ Z.Sm 11 v := by
      simp only [List.mem_cons, List.not_mem_nil, or_false] at ht2
      rcases ht2 with rfl | rfl | rfl
      · exact ⟨_, rfl, su1⟩
      · exact ⟨_, rfl, (Z.Sm.of ok2 q1 q2 q3).mono (show (10 : Int) ^ 10 ≤ 10 ^ 11 by decide)⟩
      · exact ⟨_, rfl, su.mono (show (10 : Int) ^ 10 ≤ 10 ^ 11 by decide)⟩
    obtain ⟨v, rfl, sv⟩ := key
    clear ht2 su1 ok1 p1 p2 p3 ok2 q1 q2 q3
    have su11 := su.mono (show (10 : Int) ^ 10 ≤ 10 ^ 11 by decide)
    have su60 := su.mono (show (10 : Int) ^ 10 ≤ 10 ^ 60 by decide)
    have oku := su60.ok (Int.le_refl _)
    have lu := U.text_len oku
    refine ⟨v, rfl, 11, sv, by decide, fun w sw hw => ?_⟩
    have sw60 := sw.mono (show (10 : Int) ^ 11 ≤ 10 ^ 60 by decide)
    have lw := U.text_len (sw60.ok (Int.le_refl _))
    refine ⟨u, rfl, su60, by omega, w, rfl, sw60, by omega, by omega, by omega, fun r y3 r0 r1 t3 y4 ht3 => ?_⟩
    have key : ∃ n : Int, t3 = .int n ∧ 0 ≤ n ∧ n ≤ 60 - max (u.text.length : Int) w.text.length := by
      simp only [List.mem_cons, List.not_mem_nil, or_false] at ht3
      rcases ht3 with rfl | rfl
      · exact ⟨0, rfl, by omega, by omega⟩
      · exact ⟨r, rfl, by omega, by omega⟩
    obtain ⟨n, rfl, n0, n1⟩ := key
    clear ht3 r0 r1
    walk_at "zd"
    have sw11 := sw
    refine ⟨u, rfl, w, rfl, (max (u.slen : Int) w.slen + n).toNat, by omega, su11, sw11, by omega, by omega, by omega, u, rfl, w, rfl, max u.slen w.slen, by omega, su11, sw11, by omega, by omega, by omega, w, rfl, u, rfl, (max (u.slen : Int) w.slen + n).toNat, by omega, sw11, su11, by omega, by omega, by omega, ?_⟩
    exact ⟨some (.fz _), rfl, some (.mu _), rfl, some (.fz _), rfl, some (.fz _), rfl, some (.fz _), rfl, some (.fz _), rfl, rfl, rfl, rfl, rfl, rfl, rfl⟩
  · rintro Γ ⟨o, o1, o2, o3, o4, o5, ho, ho1, ho2, ho3, ho4, ho5, rfl⟩
    walk_at "zd"

theorem facts {P : Program} {w : World} {K : PySem.W.Frag} {h : Heap} {mg : Str → Option Value} {fa_ : Addr} (X : K.In h) (G : h.Ns mainGlobals mg) (hfa : mg "law" = some (.ref fa_)) (c : He.SaysX Hd.fa Hd.fn Hd.tabs [] Hd.exB w h K) :
    ∃ fd : FuncData, (∀ (s : Shared) (v : Value), BindsTo s fd ⟨[v], []⟩ [("_law_script", v)]) ∧ ∀ base : Heap, K.In base → base.Ns mainGlobals mg → FnOk P w K mg base C8.CX0 9 fa_ fd ["_law_script"] (sp_law K (He.ga K "Counts") (He.ga K "Figures") (He.ga K "Mark")) := by
  have B : U.BI mg := ⟨He.free_ok X G (c.t.d.fact 99 (f := .free "len") rfl), He.free_ok X G (c.t.d.fact 100 (f := .free "isinstance") rfl), He.free_ok X G (c.t.d.fact 101 (f := .free "all") rfl), He.free_ok X G (c.t.d.fact 102 (f := .free "any") rfl), He.free_ok X G (c.t.d.fact 103 (f := .free "range") rfl), He.free_ok X G (c.t.d.fact 104 (f := .free "int") rfl), He.free_ok X G (c.t.d.fact 105 (f := .free "str") rfl), He.free_ok X G (c.t.d.fact 106 (f := .free "list") rfl), He.free_ok X G (c.t.d.fact 107 (f := .free "tuple") rfl), He.free_ok X G (c.t.d.fact 108 (f := .free "max") rfl), He.free_ok X G (c.t.d.fact 109 (f := .free "min") rfl), He.free_ok X G (c.t.d.fact 110 (f := .free "sorted") rfl), He.free_ok X G (c.t.d.fact 111 (f := .free "repr") rfl), He.free_ok X G (c.t.d.fact 112 (f := .free "enumerate") rfl), He.free_ok X G (c.t.d.fact 113 (f := .free "zip") rfl), He.free_ok X G (c.t.d.fact 114 (f := .free "divmod") rfl), He.free_ok X G (c.t.d.fact 115 (f := .free "sum") rfl), He.free_ok X G (c.t.d.fact 116 (f := .free "reversed") rfl), He.free_ok X G (c.t.d.fact 117 (f := .free "dict") rfl), He.free_ok X G (c.t.d.fact 118 (f := .free "bool") rfl)⟩
  have g_LETTERS_numbering : U.GStr mg "LETTERS_numbering" [97, 98, 99, 100, 101, 102, 103, 104, 105, 106, 107, 108, 109, 110, 111, 112, 113, 114, 115, 116, 117, 118, 119, 120, 121, 122] := U.gstr_of (He.str_ok X G (c.t.d.fact 128 (f := .str "LETTERS_numbering" "abcdefghijklmnopqrstuvwxyz") rfl)) (by decide +kernel)
  have g_MOST : U.GInt mg "MOST" 60 := U.gint_of (He.int_ok X G (c.t.d.fact 123 (f := .int "MOST" 60) rfl))
  have g_PART : U.GInt mg "PART" 60 := U.gint_of (He.int_ok X G (c.t.d.fact 122 (f := .int "PART" 60) rfl))
  have g_LAST_YEAR : U.GInt mg "LAST_YEAR" 2999 := U.gint_of (He.int_ok X G (c.t.d.fact 126 (f := .int "LAST_YEAR" 2999) rfl))
  have g_FIRST_YEAR : U.GInt mg "FIRST_YEAR" 1000 := U.gint_of (He.int_ok X G (c.t.d.fact 125 (f := .int "FIRST_YEAR" 1000) rfl))
  have g_FIGURES : U.GStr mg "FIGURES" [48, 49, 50, 51, 52, 53, 54, 55, 56, 57] := U.gstr_of (He.str_ok X G (c.t.d.fact 120 (f := .str "FIGURES" "0123456789") rfl)) (by decide +kernel)
  have g_LETTERS_signs : U.GStr mg "LETTERS_signs" [97, 98, 99, 100, 101, 102, 103, 104, 105, 106, 107, 108, 109, 110, 111, 112, 113, 114, 115, 116, 117, 118, 119, 120, 121, 122] := U.gstr_of (He.str_ok X G (c.t.d.fact 119 (f := .str "LETTERS_signs" "abcdefghijklmnopqrstuvwxyz") rfl)) (by decide +kernel)
  have g_MOST_MAKERS : U.GInt mg "MOST_MAKERS" 3 := U.gint_of (He.int_ok X G (c.t.d.fact 124 (f := .int "MOST_MAKERS" 3) rfl))
  have g_LONGEST : U.GInt mg "LONGEST" 6 := U.gint_of (He.int_ok X G (c.t.d.fact 121 (f := .int "LONGEST" 6) rfl))
  have g_GREATEST : U.GInt mg "GREATEST" 9999 := U.gint_of (He.int_ok X G (c.t.d.fact 127 (f := .int "GREATEST" 9999) rfl))
  have K_Figures := He.cls_ok (c.t.d.fact 47 (f := .cls "Figures") rfl)
  have G_Figures := He.glo_ok X G (c.t.d.fact 46 (f := .glo "Figures") rfl)
  have K_Counts := He.cls_ok (c.t.d.fact 56 (f := .cls "Counts") rfl)
  have G_Counts := He.glo_ok X G (c.t.d.fact 55 (f := .glo "Counts") rfl)
  have K_Mark := He.cls_ok (c.t.d.fact 70 (f := .cls "Mark") rfl)
  have G_Mark := He.glo_ok X G (c.t.d.fact 69 (f := .glo "Mark") rfl)
  have M : U.MkC K (He.ga K "Mark") := ⟨K_Mark, He.noat_ok (c.t.d.fact 71 (f := .noat "Mark" "kept_makers") rfl), He.noat_ok (c.t.d.fact 72 (f := .noat "Mark" "kept_letters") rfl), He.noat_ok (c.t.d.fact 73 (f := .noat "Mark" "kept_number") rfl), He.noat_ok (c.t.d.fact 74 (f := .noat "Mark" "kept_points") rfl), He.noat_ok (c.t.d.fact 75 (f := .noat "Mark" "kept_year") rfl), He.noat_ok (c.t.d.fact 76 (f := .noat "Mark" "kept_copy") rfl), He.noat_ok (c.t.d.fact 77 (f := .noat "Mark" "kept_text") rfl)⟩
  have MF : U.FgC K (He.ga K "Figures") := ⟨K_Figures, He.noat_ok (c.t.d.fact 48 (f := .noat "Figures" "tails") rfl), He.noat_ok (c.t.d.fact 49 (f := .noat "Figures" "going") rfl), He.noat_ok (c.t.d.fact 50 (f := .noat "Figures" "stopping") rfl)⟩
  have MC : U.CtC K (He.ga K "Counts") := ⟨K_Counts, He.noat_ok (c.t.d.fact 57 (f := .noat "Counts" "by_copy") rfl), He.noat_ok (c.t.d.fact 58 (f := .noat "Counts" "by_year") rfl), He.noat_ok (c.t.d.fact 59 (f := .noat "Counts" "by_makers") rfl), He.noat_ok (c.t.d.fact 60 (f := .noat "Counts" "by_figures") rfl), He.noat_ok (c.t.d.fact 61 (f := .noat "Counts" "by_points") rfl), He.noat_ok (c.t.d.fact 62 (f := .noat "Counts" "by_number") rfl), He.noat_ok (c.t.d.fact 63 (f := .noat "Counts" "by_word") rfl), He.noat_ok (c.t.d.fact 64 (f := .noat "Counts" "by_sign") rfl)⟩
  obtain ⟨fd_entry, F0_entry⟩ := c.t.d.def_ 16 (d := Hd.d_entry) rfl
  have F_entry : FunD K "entry" "entry" (defArgs s_entry) (defBody s_entry) (defScope s_entry) [] [] (He.fAd K ("entry", none)) fd_entry := F0_entry
  clear F0_entry
  obtain ⟨fd_lesser_ends, F0_lesser_ends⟩ := c.t.d.def_ 52 (d := Hd.d_lesser_ends) rfl
  have F_lesser_ends : FunD K "lesser_ends" "lesser_ends" (defArgs s_lesser_ends) (defBody s_lesser_ends) (defScope s_lesser_ends) [] [] (He.fAd K ("lesser_ends", none)) fd_lesser_ends := F0_lesser_ends
  clear F0_lesser_ends
  obtain ⟨fd_Figures_lesser, F0_Figures_lesser⟩ := c.t.d.def_ 18 (d := Hd.d_Figures_lesser) rfl
  have F_Figures_lesser : FunD K "lesser" "Figures.lesser" (defArgs s_Figures_lesser) (defBody s_Figures_lesser) (defScope s_Figures_lesser) [] [] (He.fAd K ("Figures", some "lesser")) fd_Figures_lesser := F0_Figures_lesser
  clear F0_Figures_lesser
  obtain ⟨fd_lesser_makers, F0_lesser_makers⟩ := c.t.d.def_ 51 (d := Hd.d_lesser_makers) rfl
  have F_lesser_makers : FunD K "lesser_makers" "lesser_makers" (defArgs s_lesser_makers) (defBody s_lesser_makers) (defScope s_lesser_makers) [] [] (He.fAd K ("lesser_makers", none)) fd_lesser_makers := F0_lesser_makers
  clear F0_lesser_makers
  obtain ⟨fd_lesser_numbers, F0_lesser_numbers⟩ := c.t.d.def_ 50 (d := Hd.d_lesser_numbers) rfl
  have F_lesser_numbers : FunD K "lesser_numbers" "lesser_numbers" (defArgs s_lesser_numbers) (defBody s_lesser_numbers) (defScope s_lesser_numbers) [] [] (He.fAd K ("lesser_numbers", none)) fd_lesser_numbers := F0_lesser_numbers
  clear F0_lesser_numbers
  obtain ⟨fd_Counts_begun, F0_Counts_begun⟩ := c.t.d.def_ 23 (d := Hd.d_Counts_begun) rfl
  have F_Counts_begun : FunD K "begun" "Counts.begun" (defArgs s_Counts_begun) (defBody s_Counts_begun) (defScope s_Counts_begun) [] [] (He.fAd K ("Counts", some "begun")) fd_Counts_begun := F0_Counts_begun
  clear F0_Counts_begun
  obtain ⟨fd_lesser_letters, F0_lesser_letters⟩ := c.t.d.def_ 49 (d := Hd.d_lesser_letters) rfl
  have F_lesser_letters : FunD K "lesser_letters" "lesser_letters" (defArgs s_lesser_letters) (defBody s_lesser_letters) (defScope s_lesser_letters) [] [] (He.fAd K ("lesser_letters", none)) fd_lesser_letters := F0_lesser_letters
  clear F0_lesser_letters
  obtain ⟨fd_Mark_parts, F0_Mark_parts⟩ := c.t.d.def_ 41 (d := Hd.d_Mark_parts) rfl
  have F_Mark_parts : FunD K "parts" "Mark.parts" (defArgs s_Mark_parts) (defBody s_Mark_parts) (defScope s_Mark_parts) [] [] (He.fAd K ("Mark", some "parts")) fd_Mark_parts := F0_Mark_parts
  clear F0_Mark_parts
  obtain ⟨fd_rank, F0_rank⟩ := c.t.d.def_ 53 (d := Hd.d_rank) rfl
  have F_rank : FunD K "rank" "rank" (defArgs s_rank) (defBody s_rank) (defScope s_rank) [] [] (He.fAd K ("rank", none)) fd_rank := F0_rank
  clear F0_rank
  obtain ⟨fd_Counts_longer, F0_Counts_longer⟩ := c.t.d.def_ 22 (d := Hd.d_Counts_longer) rfl
  have F_Counts_longer : FunD K "longer" "Counts.longer" (defArgs s_Counts_longer) (defBody s_Counts_longer) (defScope s_Counts_longer) [] [] (He.fAd K ("Counts", some "longer")) fd_Counts_longer := F0_Counts_longer
  clear F0_Counts_longer
  obtain ⟨fd_Figures___init__, F0_Figures___init__⟩ := c.t.d.def_ 17 (d := Hd.d_Figures___init__) rfl
  have F_Figures___init__ : FunD K "__init__" "Figures.__init__" (defArgs s_Figures___init__) (defBody s_Figures___init__) (defScope s_Figures___init__) [] [] (He.fAd K ("Figures", some "__init__")) fd_Figures___init__ := F0_Figures___init__
  clear F0_Figures___init__
  obtain ⟨fd_copies_by, F0_copies_by⟩ := c.t.d.def_ 20 (d := Hd.d_copies_by) rfl
  have F_copies_by : FunD K "copies_by" "copies_by" (defArgs s_copies_by) (defBody s_copies_by) (defScope s_copies_by) [] [] (He.fAd K ("copies_by", none)) fd_copies_by := F0_copies_by
  clear F0_copies_by
  obtain ⟨fd_Counts___init__, F0_Counts___init__⟩ := c.t.d.def_ 21 (d := Hd.d_Counts___init__) rfl
  have F_Counts___init__ : FunD K "__init__" "Counts.__init__" (defArgs s_Counts___init__) (defBody s_Counts___init__) (defScope s_Counts___init__) [] [] (He.fAd K ("Counts", some "__init__")) fd_Counts___init__ := F0_Counts___init__
  clear F0_Counts___init__
  obtain ⟨fd_Mark___len__, F0_Mark___len__⟩ := c.t.d.def_ 34 (d := Hd.d_Mark___len__) rfl
  have F_Mark___len__ : FunD K "__len__" "Mark.__len__" (defArgs s_Mark___len__) (defBody s_Mark___len__) (defScope s_Mark___len__) [] [] (He.fAd K ("Mark", some "__len__")) fd_Mark___len__ := F0_Mark___len__
  clear F0_Mark___len__
  obtain ⟨fd_is_whole, F0_is_whole⟩ := c.t.d.def_ 9 (d := Hd.d_is_whole) rfl
  have F_is_whole : FunD K "is_whole" "is_whole" (defArgs s_is_whole) (defBody s_is_whole) (defScope s_is_whole) [.non] [] (He.fAd K ("is_whole", none)) fd_is_whole := F0_is_whole
  clear F0_is_whole
  obtain ⟨fd_need_bound, F0_need_bound⟩ := c.t.d.def_ 24 (d := Hd.d_need_bound) rfl
  have F_need_bound : FunD K "need_bound" "need_bound" (defArgs s_need_bound) (defBody s_need_bound) (defScope s_need_bound) [] [] (He.fAd K ("need_bound", none)) fd_need_bound := F0_need_bound
  clear F0_need_bound
  obtain ⟨fd_number_of, F0_number_of⟩ := c.t.d.def_ 55 (d := Hd.d_number_of) rfl
  have F_number_of : FunD K "number_of" "number_of" (defArgs s_number_of) (defBody s_number_of) (defScope s_number_of) [] [] (He.fAd K ("number_of", none)) fd_number_of := F0_number_of
  clear F0_number_of
  obtain ⟨fd_ahead_of, F0_ahead_of⟩ := c.t.d.def_ 54 (d := Hd.d_ahead_of) rfl
  have F_ahead_of : FunD K "ahead_of" "ahead_of" (defArgs s_ahead_of) (defBody s_ahead_of) (defScope s_ahead_of) [] [] (He.fAd K ("ahead_of", none)) fd_ahead_of := F0_ahead_of
  clear F0_ahead_of
  obtain ⟨fd__law_order, F0__law_order⟩ := c.t.d.def_ 66 (d := Hd.d__law_order) rfl
  have F__law_order : FunD K "_law_order" "_law_order" (defArgs s__law_order) (defBody s__law_order) (defScope s__law_order) [] [] (He.fAd K ("_law_order", none)) fd__law_order := F0__law_order
  clear F0__law_order
  obtain ⟨fd_how_many, F0_how_many⟩ := c.t.d.def_ 25 (d := Hd.d_how_many) rfl
  have F_how_many : FunD K "how_many" "how_many" (defArgs s_how_many) (defBody s_how_many) (defScope s_how_many) [] [] (He.fAd K ("how_many", none)) fd_how_many := F0_how_many
  clear F0_how_many
  obtain ⟨fd_figures_of, F0_figures_of⟩ := c.t.d.def_ 10 (d := Hd.d_figures_of) rfl
  have F_figures_of : FunD K "figures_of" "figures_of" (defArgs s_figures_of) (defBody s_figures_of) (defScope s_figures_of) [] [] (He.fAd K ("figures_of", none)) fd_figures_of := F0_figures_of
  clear F0_figures_of
  obtain ⟨fd_Mark_text_of, F0_Mark_text_of⟩ := c.t.d.def_ 30 (d := Hd.d_Mark_text_of) rfl
  have F_Mark_text_of : FunD K "text_of" "Mark.text_of" (defArgs s_Mark_text_of) (defBody s_Mark_text_of) (defScope s_Mark_text_of) [] [] (He.fAd K ("Mark", some "text_of")) fd_Mark_text_of := F0_Mark_text_of
  clear F0_Mark_text_of
  obtain ⟨fd_need_copy, F0_need_copy⟩ := c.t.d.def_ 27 (d := Hd.d_need_copy) rfl
  have F_need_copy : FunD K "need_copy" "need_copy" (defArgs s_need_copy) (defBody s_need_copy) (defScope s_need_copy) [] [] (He.fAd K ("need_copy", none)) fd_need_copy := F0_need_copy
  clear F0_need_copy
  obtain ⟨fd_need_year, F0_need_year⟩ := c.t.d.def_ 26 (d := Hd.d_need_year) rfl
  have F_need_year : FunD K "need_year" "need_year" (defArgs s_need_year) (defBody s_need_year) (defScope s_need_year) [] [] (He.fAd K ("need_year", none)) fd_need_year := F0_need_year
  clear F0_need_year
  obtain ⟨fd_is_figures, F0_is_figures⟩ := c.t.d.def_ 12 (d := Hd.d_is_figures) rfl
  have F_is_figures : FunD K "is_figures" "is_figures" (defArgs s_is_figures) (defBody s_is_figures) (defScope s_is_figures) [] [] (He.fAd K ("is_figures", none)) fd_is_figures := F0_is_figures
  clear F0_is_figures
  obtain ⟨fd_is_maker, F0_is_maker⟩ := c.t.d.def_ 14 (d := Hd.d_is_maker) rfl
  have F_is_maker : FunD K "is_maker" "is_maker" (defArgs s_is_maker) (defBody s_is_maker) (defScope s_is_maker) [] [] (He.fAd K ("is_maker", none)) fd_is_maker := F0_is_maker
  clear F0_is_maker
  obtain ⟨fd_makers_in, F0_makers_in⟩ := c.t.d.def_ 28 (d := Hd.d_makers_in) rfl
  have F_makers_in : FunD K "makers_in" "makers_in" (defArgs s_makers_in) (defBody s_makers_in) (defScope s_makers_in) [] [] (He.fAd K ("makers_in", none)) fd_makers_in := F0_makers_in
  clear F0_makers_in
  obtain ⟨fd_is_points, F0_is_points⟩ := c.t.d.def_ 13 (d := Hd.d_is_points) rfl
  have F_is_points : FunD K "is_points" "is_points" (defArgs s_is_points) (defBody s_is_points) (defScope s_is_points) [] [] (He.fAd K ("is_points", none)) fd_is_points := F0_is_points
  clear F0_is_points
  obtain ⟨fd_is_name, F0_is_name⟩ := c.t.d.def_ 11 (d := Hd.d_is_name) rfl
  have F_is_name : FunD K "is_name" "is_name" (defArgs s_is_name) (defBody s_is_name) (defScope s_is_name) [] [] (He.fAd K ("is_name", none)) fd_is_name := F0_is_name
  clear F0_is_name
  obtain ⟨fd_is_letters, F0_is_letters⟩ := c.t.d.def_ 15 (d := Hd.d_is_letters) rfl
  have F_is_letters : FunD K "is_letters" "is_letters" (defArgs s_is_letters) (defBody s_is_letters) (defScope s_is_letters) [] [] (He.fAd K ("is_letters", none)) fd_is_letters := F0_is_letters
  clear F0_is_letters
  obtain ⟨fd_Mark___init__, F0_Mark___init__⟩ := c.t.d.def_ 29 (d := Hd.d_Mark___init__) rfl
  have F_Mark___init__ : FunD K "__init__" "Mark.__init__" (defArgs s_Mark___init__) (defBody s_Mark___init__) (defScope s_Mark___init__) [(.str ""), .non, .non, .non] [] (He.fAd K ("Mark", some "__init__")) fd_Mark___init__ := F0_Mark___init__
  clear F0_Mark___init__
  obtain ⟨fd__law_mark, F0__law_mark⟩ := c.t.d.def_ 67 (d := Hd.d__law_mark) rfl
  have F__law_mark : FunD K "_law_mark" "_law_mark" (defArgs s__law_mark) (defBody s__law_mark) (defScope s__law_mark) [] [] (He.fAd K ("_law_mark", none)) fd__law_mark := F0__law_mark
  clear F0__law_mark
  obtain ⟨fd__law_held, F0__law_held⟩ := c.t.d.def_ 69 (d := Hd.d__law_held) rfl
  have F__law_held : FunD K "_law_held" "_law_held" (defArgs s__law_held) (defBody s__law_held) (defScope s__law_held) [] [] (He.fAd K ("_law_held", none)) fd__law_held := F0__law_held
  clear F0__law_held
  obtain ⟨fd__law_take, F0__law_take⟩ := c.t.d.def_ 58 (d := Hd.d__law_take) rfl
  have F__law_take : FunD K "_law_take" "_law_take" (defArgs s__law_take) (defBody s__law_take) (defScope s__law_take) [] [] (He.fAd K ("_law_take", none)) fd__law_take := F0__law_take
  clear F0__law_take
  obtain ⟨fd__law_pick, F0__law_pick⟩ := c.t.d.def_ 59 (d := Hd.d__law_pick) rfl
  have F__law_pick : FunD K "_law_pick" "_law_pick" (defArgs s__law_pick) (defBody s__law_pick) (defScope s__law_pick) [] [] (He.fAd K ("_law_pick", none)) fd__law_pick := F0__law_pick
  clear F0__law_pick
  obtain ⟨fd__law_text, F0__law_text⟩ := c.t.d.def_ 65 (d := Hd.d__law_text) rfl
  have F__law_text : FunD K "_law_text" "_law_text" (defArgs s__law_text) (defBody s__law_text) (defScope s__law_text) [] [] (He.fAd K ("_law_text", none)) fd__law_text := F0__law_text
  clear F0__law_text
  obtain ⟨fd__law_fitting, F0__law_fitting⟩ := c.t.d.def_ 68 (d := Hd.d__law_fitting) rfl
  have F__law_fitting : FunD K "_law_fitting" "_law_fitting" (defArgs s__law_fitting) (defBody s__law_fitting) (defScope s__law_fitting) [] [] (He.fAd K ("_law_fitting", none)) fd__law_fitting := F0__law_fitting
  clear F0__law_fitting
  obtain ⟨fd__law_edge, F0__law_edge⟩ := c.t.d.def_ 62 (d := Hd.d__law_edge) rfl
  have F__law_edge : FunD K "_law_edge" "_law_edge" (defArgs s__law_edge) (defBody s__law_edge) (defScope s__law_edge) [] [] (He.fAd K ("_law_edge", none)) fd__law_edge := F0__law_edge
  clear F0__law_edge
  obtain ⟨fd__law_figures, F0__law_figures⟩ := c.t.d.def_ 60 (d := Hd.d__law_figures) rfl
  have F__law_figures : FunD K "_law_figures" "_law_figures" (defArgs s__law_figures) (defBody s__law_figures) (defScope s__law_figures) [] [] (He.fAd K ("_law_figures", none)) fd__law_figures := F0__law_figures
  clear F0__law_figures
  obtain ⟨fd__law_maker, F0__law_maker⟩ := c.t.d.def_ 61 (d := Hd.d__law_maker) rfl
  have F__law_maker : FunD K "_law_maker" "_law_maker" (defArgs s__law_maker) (defBody s__law_maker) (defScope s__law_maker) [] [] (He.fAd K ("_law_maker", none)) fd__law_maker := F0__law_maker
  clear F0__law_maker
  obtain ⟨fd__law_parts, F0__law_parts⟩ := c.t.d.def_ 63 (d := Hd.d__law_parts) rfl
  have F__law_parts : FunD K "_law_parts" "_law_parts" (defArgs s__law_parts) (defBody s__law_parts) (defScope s__law_parts) [] [] (He.fAd K ("_law_parts", none)) fd__law_parts := F0__law_parts
  clear F0__law_parts
  obtain ⟨fd__law_near, F0__law_near⟩ := c.t.d.def_ 64 (d := Hd.d__law_near) rfl
  have F__law_near : FunD K "_law_near" "_law_near" (defArgs s__law_near) (defBody s__law_near) (defScope s__law_near) [] [] (He.fAd K ("_law_near", none)) fd__law_near := F0__law_near
  clear F0__law_near
  obtain ⟨fd__law_box, F0__law_box⟩ := c.t.d.def_ 57 (d := Hd.d__law_box) rfl
  have F__law_box : FunD K "_law_box" "_law_box" (defArgs s__law_box) (defBody s__law_box) (defScope s__law_box) [] [] (He.fAd K ("_law_box", none)) fd__law_box := F0__law_box
  clear F0__law_box
  obtain ⟨fd__law_cell_at, F0__law_cell_at⟩ := c.t.d.def_ 56 (d := Hd.d__law_cell_at) rfl
  have F__law_cell_at : FunD K "_law_cell_at" "_law_cell_at" (defArgs s__law_cell_at) (defBody s__law_cell_at) (defScope s__law_cell_at) [] [] (He.fAd K ("_law_cell_at", none)) fd__law_cell_at := F0__law_cell_at
  clear F0__law_cell_at
  obtain ⟨fd_law, F0_law⟩ := c.t.d.def_ 70 (d := Hd.d_law) rfl
  have F_law : FunD K "law" "law" (defArgs s_law) (defBody s_law) (defScope s_law) [] [] (He.fAd K ("law", none)) fd_law := F0_law
  clear F0_law
  have e_law := hfa.symm.trans (He.glo_ok X G (c.t.d.fact 35 (f := .glo "law") rfl))
  cases e_law
  refine ⟨fd_law, fun s v => FunD.bindsA (ps := ["_law_script"]) F_law (fun _ _ _ _ _ _ us hl => match us, hl with | [_], _ => rfl) s [v] rfl, fun base _ _ => ?_⟩
  have o_entry := @ok_entry P w K mg base (He.fAd K ("entry", none)) fd_entry F_entry B 
  have b_c_entry : Binds K fd_entry _ [] := FunD.bindsN (ps := ["table", "at"]) F_entry (fun _ _ _ _ _ _ us hl => match us, hl with | [_, _], _ => rfl)
  have c_entry : C8.Cal P w K mg base 1 "entry" (sp_entry) [] := ⟨_, fd_entry, _, [], o_entry, He.glo_ok X G (c.t.d.fact 7 (f := .glo "entry") rfl), F_entry.kp, b_c_entry, .nil⟩
  have b_z_entry : Binds K fd_entry _ [] := FunD.bindsN (ps := ["table", "at"]) F_entry (fun _ _ _ _ _ _ us hl => match us, hl with | [_, _], _ => rfl)
  have z_entry : C8.Cal P w K mg base 1 "entry" (sz_entry K) [] := ⟨_, fd_entry, _, [], (FnOk.imp o_entry (fun vs H Q E h => br_entry vs H Q E h)), He.glo_ok X G (c.t.d.fact 7 (f := .glo "entry") rfl), F_entry.kp, b_z_entry, .nil⟩
  have o_lesser_ends := @ok_lesser_ends P w K mg base (He.fAd K ("lesser_ends", none)) fd_lesser_ends (He.ga K "Counts") (He.ga K "Figures") F_lesser_ends B (MC) (z_entry)
  have b_c_lesser_ends : Binds K fd_lesser_ends _ [] := FunD.bindsN (ps := ["counts", "year", "number", "left"]) F_lesser_ends (fun _ _ _ _ _ _ us hl => match us, hl with | [_, _, _, _], _ => rfl)
  have c_lesser_ends : C8.Cal P w K mg base 2 "lesser_ends" (sp_lesser_ends K (He.ga K "Counts") (He.ga K "Figures")) [] := ⟨_, fd_lesser_ends, _, [], o_lesser_ends, He.glo_ok X G (c.t.d.fact 17 (f := .glo "lesser_ends") rfl), F_lesser_ends.kp, b_c_lesser_ends, .nil⟩
  have o_Figures_lesser := @ok_Figures_lesser P w K mg base (He.fAd K ("Figures", some "lesser")) fd_Figures_lesser (He.ga K "Figures") F_Figures_lesser B (MF) (z_entry)
  have b_m_Figures_lesser : Binds K fd_Figures_lesser _ [] := FunD.bindsN (ps := ["self", "text", "left"]) F_Figures_lesser (fun _ _ _ _ _ _ us hl => match us, hl with | [_, _, _], _ => rfl)
  have m_Figures_lesser : C8.Met P w K mg base 2 (He.ga K "Figures") "lesser" (sp_Figures_lesser K (He.ga K "Figures")) [] := ⟨_, fd_Figures_lesser, _, [], K_Figures, He.meth_ok (c.t.d.fact 52 (f := .meth "Figures" "lesser") rfl), o_Figures_lesser, b_m_Figures_lesser, .nil⟩
  have o_lesser_makers := @ok_lesser_makers P w K mg base (He.fAd K ("lesser_makers", none)) fd_lesser_makers (He.ga K "Counts") (He.ga K "Figures") F_lesser_makers B (MC) (MF) (g_LETTERS_numbering) (m_Figures_lesser) (z_entry)
  have b_c_lesser_makers : Binds K fd_lesser_makers _ [] := FunD.bindsN (ps := ["counts", "makers", "left"]) F_lesser_makers (fun _ _ _ _ _ _ us hl => match us, hl with | [_, _, _], _ => rfl)
  have c_lesser_makers : C8.Cal P w K mg base 3 "lesser_makers" (sp_lesser_makers K (He.ga K "Counts") (He.ga K "Figures")) [] := ⟨_, fd_lesser_makers, _, [], o_lesser_makers, He.glo_ok X G (c.t.d.fact 16 (f := .glo "lesser_makers") rfl), F_lesser_makers.kp, b_c_lesser_makers, .nil⟩
  have o_lesser_numbers := @ok_lesser_numbers P w K mg base (He.fAd K ("lesser_numbers", none)) fd_lesser_numbers (He.ga K "Counts") (He.ga K "Figures") F_lesser_numbers B (MC) (z_entry)
  have b_c_lesser_numbers : Binds K fd_lesser_numbers _ [] := FunD.bindsN (ps := ["counts", "number", "left"]) F_lesser_numbers (fun _ _ _ _ _ _ us hl => match us, hl with | [_, _, _], _ => rfl)
  have c_lesser_numbers : C8.Cal P w K mg base 2 "lesser_numbers" (sp_lesser_numbers K (He.ga K "Counts") (He.ga K "Figures")) [] := ⟨_, fd_lesser_numbers, _, [], o_lesser_numbers, He.glo_ok X G (c.t.d.fact 15 (f := .glo "lesser_numbers") rfl), F_lesser_numbers.kp, b_c_lesser_numbers, .nil⟩
  have bb_Counts_begun : Binds K fd_Counts_begun _ [] := FunD.bindsN (ps := ["self", "size", "left"]) F_Counts_begun (fun _ _ _ _ _ _ us hl => match us, hl with | [_, _, _], _ => rfl)
  have mrec_0 : C8.Met P w K mg base 1 (He.ga K "Counts") "begun" (U.spNo) [] := ⟨_, fd_Counts_begun, _, [], K_Counts, He.meth_ok (c.t.d.fact 67 (f := .meth "Counts" "begun") rfl), U.fnNo, bb_Counts_begun, .nil⟩
  have o_Counts_begun_d0 := @ok_Counts_begun_d0 P w K mg base (He.fAd K ("Counts", some "begun")) fd_Counts_begun (He.ga K "Counts") (He.ga K "Figures") F_Counts_begun B (MC) (c_entry) mrec_0
  have mrec_1 : C8.Met P w K mg base 2 (He.ga K "Counts") "begun" (sp_Counts_begun (He.ga K "Counts") (He.ga K "Figures") 0) [] := ⟨_, fd_Counts_begun, _, [], K_Counts, He.meth_ok (c.t.d.fact 67 (f := .meth "Counts" "begun") rfl), o_Counts_begun_d0, bb_Counts_begun, .nil⟩
  have o_Counts_begun_d1 := @ok_Counts_begun_d1 P w K mg base (He.fAd K ("Counts", some "begun")) fd_Counts_begun (He.ga K "Counts") (He.ga K "Figures") F_Counts_begun B (MC) (c_entry) mrec_1
  have mrec_2 : C8.Met P w K mg base 3 (He.ga K "Counts") "begun" (sp_Counts_begun (He.ga K "Counts") (He.ga K "Figures") 1) [] := ⟨_, fd_Counts_begun, _, [], K_Counts, He.meth_ok (c.t.d.fact 67 (f := .meth "Counts" "begun") rfl), o_Counts_begun_d1, bb_Counts_begun, .nil⟩
  have o_Counts_begun_d2 := @ok_Counts_begun_d2 P w K mg base (He.fAd K ("Counts", some "begun")) fd_Counts_begun (He.ga K "Counts") (He.ga K "Figures") F_Counts_begun B (MC) (c_entry) mrec_2
  have o_Counts_begun := o_Counts_begun_d2
  have b_mz_Counts_begun : Binds K fd_Counts_begun _ [] := FunD.bindsN (ps := ["self", "size", "left"]) F_Counts_begun (fun _ _ _ _ _ _ us hl => match us, hl with | [_, _, _], _ => rfl)
  have mz_Counts_begun : C8.Met P w K mg base 4 (He.ga K "Counts") "begun" (sz_Counts_begun K (He.ga K "Counts") (He.ga K "Figures")) [] := ⟨_, fd_Counts_begun, _, [], K_Counts, He.meth_ok (c.t.d.fact 67 (f := .meth "Counts" "begun") rfl), (FnOk.imp o_Counts_begun (fun vs H Q E h => br_Counts_begun vs H Q E h)), b_mz_Counts_begun, .nil⟩
  have o_lesser_letters := @ok_lesser_letters P w K mg base (He.fAd K ("lesser_letters", none)) fd_lesser_letters (He.ga K "Counts") (He.ga K "Figures") F_lesser_letters B (MC) (g_LETTERS_numbering) (mz_Counts_begun) (z_entry)
  have b_c_lesser_letters : Binds K fd_lesser_letters _ [] := FunD.bindsN (ps := ["counts", "letters", "left"]) F_lesser_letters (fun _ _ _ _ _ _ us hl => match us, hl with | [_, _, _], _ => rfl)
  have c_lesser_letters : C8.Cal P w K mg base 5 "lesser_letters" (sp_lesser_letters K (He.ga K "Counts") (He.ga K "Figures")) [] := ⟨_, fd_lesser_letters, _, [], o_lesser_letters, He.glo_ok X G (c.t.d.fact 14 (f := .glo "lesser_letters") rfl), F_lesser_letters.kp, b_c_lesser_letters, .nil⟩
  have o_Mark_parts := @ok_Mark_parts P w K mg base (He.fAd K ("Mark", some "parts")) fd_Mark_parts (He.ga K "Mark") F_Mark_parts B (M)
  have b_m_Mark_parts : Binds K fd_Mark_parts _ [] := FunD.bindsN (ps := ["self"]) F_Mark_parts (fun _ _ _ _ _ _ us hl => match us, hl with | [_], _ => rfl)
  have m_Mark_parts : C8.Met P w K mg base 1 (He.ga K "Mark") "parts" (sp_Mark_parts K (He.ga K "Mark")) [] := ⟨_, fd_Mark_parts, _, [], K_Mark, He.meth_ok (c.t.d.fact 90 (f := .meth "Mark" "parts") rfl), o_Mark_parts, b_m_Mark_parts, .nil⟩
  have o_rank := @ok_rank P w K mg base (He.fAd K ("rank", none)) fd_rank (He.ga K "Counts") (He.ga K "Figures") (He.ga K "Mark") F_rank B (MC) (MF) (c_lesser_ends) (c_lesser_letters) (c_lesser_makers) (c_lesser_numbers) (m_Figures_lesser) (m_Mark_parts) (z_entry)
  have b_c_rank : Binds K fd_rank _ [] := FunD.bindsN (ps := ["counts", "mark", "many"]) F_rank (fun _ _ _ _ _ _ us hl => match us, hl with | [_, _, _], _ => rfl)
  have c_rank : C8.Cal P w K mg base 6 "rank" (sp_rank K (He.ga K "Counts") (He.ga K "Figures") (He.ga K "Mark")) [] := ⟨_, fd_rank, _, [], o_rank, He.glo_ok X G (c.t.d.fact 18 (f := .glo "rank") rfl), F_rank.kp, b_c_rank, .nil⟩
  have o_Counts_longer := @ok_Counts_longer P w K mg base (He.fAd K ("Counts", some "longer")) fd_Counts_longer F_Counts_longer B (c_entry)
  have b_m_Counts_longer : Binds K fd_Counts_longer _ [] := FunD.bindsN (ps := ["self", "table", "sizes"]) F_Counts_longer (fun _ _ _ _ _ _ us hl => match us, hl with | [_, _, _], _ => rfl)
  have m_Counts_longer : C8.Met P w K mg base 2 (He.ga K "Counts") "longer" (sp_Counts_longer) [] := ⟨_, fd_Counts_longer, _, [], K_Counts, He.meth_ok (c.t.d.fact 66 (f := .meth "Counts" "longer") rfl), o_Counts_longer, b_m_Counts_longer, .nil⟩
  have o_Figures___init__ := @ok_Figures___init__ P w K mg base (He.fAd K ("Figures", some "__init__")) fd_Figures___init__ (He.ga K "Figures") F_Figures___init__ B (MF)
  have b_k_Figures : Binds K fd_Figures___init__ _ [] := FunD.bindsN (ps := ["self", "tails"]) F_Figures___init__ (fun _ _ _ _ _ _ us hl => match us, hl with | [_, _], _ => rfl)
  have k_Figures : C8.Mak P w K mg base 1 "Figures" (He.ga K "Figures") (sp_Figures___init__ (He.ga K "Figures")) [] := ⟨_, fd_Figures___init__, _, [], He.mkr_ok (c.t.d.fact 54 (f := .mkr "Figures") rfl), o_Figures___init__, G_Figures, b_k_Figures, .nil⟩
  have o_copies_by := @ok_copies_by P w K mg base (He.fAd K ("copies_by", none)) fd_copies_by F_copies_by B 
  have b_c_copies_by : Binds K fd_copies_by _ [] := FunD.bindsN (ps := ["most"]) F_copies_by (fun _ _ _ _ _ _ us hl => match us, hl with | [_], _ => rfl)
  have c_copies_by : C8.Cal P w K mg base 1 "copies_by" (sp_copies_by) [] := ⟨_, fd_copies_by, _, [], o_copies_by, He.glo_ok X G (c.t.d.fact 8 (f := .glo "copies_by") rfl), F_copies_by.kp, b_c_copies_by, .nil⟩
  have o_Counts___init__ := @ok_Counts___init__ P w K mg base (He.fAd K ("Counts", some "__init__")) fd_Counts___init__ (He.ga K "Counts") (He.ga K "Figures") F_Counts___init__ B (MC) (MF) (c_copies_by) (c_entry) (k_Figures) (m_Counts_longer)
  have b_kz_Counts : Binds K fd_Counts___init__ _ [] := FunD.bindsN (ps := ["self", "most"]) F_Counts___init__ (fun _ _ _ _ _ _ us hl => match us, hl with | [_, _], _ => rfl)
  have kz_Counts : C8.Mak P w K mg base 3 "Counts" (He.ga K "Counts") (sz_Counts___init__ K (He.ga K "Counts") (He.ga K "Figures")) [] := ⟨_, fd_Counts___init__, _, [], He.mkr_ok (c.t.d.fact 68 (f := .mkr "Counts") rfl), (FnOk.imp o_Counts___init__ (fun vs H Q E h => br_Counts___init__ vs H Q E h)), G_Counts, b_kz_Counts, .nil⟩
  have o_Mark___len__ := @ok_Mark___len__ P w K mg base (He.fAd K ("Mark", some "__len__")) fd_Mark___len__ (He.ga K "Mark") F_Mark___len__ B (M)
  have ow_Mark___len__ : U.OwG P w K mg base 1 (He.ga K "Mark") "__len__" (sp_Mark___len__ K (He.ga K "Mark")) := by
    have m := He.meth_ok (c.t.d.fact 83 (f := .meth "Mark" "__len__") rfl)
    exact ⟨_, fd_Mark___len__, _, o_Mark___len__, m.at_, m.fn, FunD.bindsN (ps := ["self"]) F_Mark___len__ (fun _ _ _ _ _ _ us hl => match us, hl with | [_], _ => rfl)⟩
  have o_is_whole := @ok_is_whole P w K mg base (He.fAd K ("is_whole", none)) fd_is_whole F_is_whole B 
  obtain ⟨ds_c_is_whole, v_c_is_whole, b_c_is_whole⟩ := FunD.binds1 (ps := ["thing", "low", "high"]) F_is_whole 3 1 (by simp) (by rfl) (fun _ _ _ _ _ _ _ us its hl hi => match us, its, hl, hi with | [_, _, _], [_], _, _ => ⟨_, rfl, rfl⟩)
  have c_is_whole : C8.Cal P w K mg base 1 "is_whole" (sp_is_whole K) [] := ⟨_, fd_is_whole, _, ds_c_is_whole, o_is_whole, He.glo_ok X G (c.t.d.fact 0 (f := .glo "is_whole") rfl), F_is_whole.kp, b_c_is_whole, v_c_is_whole⟩
  obtain ⟨ds_c_is_whole_d1, v_c_is_whole_d1, b_c_is_whole_d1⟩ := FunD.binds1 (ps := ["thing", "low", "high"]) F_is_whole 2 0 (by simp) (by rfl) (fun _ _ _ _ _ _ _ us its hl hi => match us, its, hl, hi with | [_, _], [_], _, _ => ⟨_, rfl, rfl⟩)
  have c_is_whole_d1 : C8.Cal P w K mg base 1 "is_whole" (sp_is_whole K) [.non] := ⟨_, fd_is_whole, _, ds_c_is_whole_d1, o_is_whole, He.glo_ok X G (c.t.d.fact 0 (f := .glo "is_whole") rfl), F_is_whole.kp, b_c_is_whole_d1, v_c_is_whole_d1⟩
  have o_need_bound := @ok_need_bound P w K mg base (He.fAd K ("need_bound", none)) fd_need_bound F_need_bound B (c_is_whole) (g_MOST)
  have b_c_need_bound : Binds K fd_need_bound _ [] := FunD.bindsN (ps := ["many"]) F_need_bound (fun _ _ _ _ _ _ us hl => match us, hl with | [_], _ => rfl)
  have c_need_bound : C8.Cal P w K mg base 2 "need_bound" (sp_need_bound K) [] := ⟨_, fd_need_bound, _, [], o_need_bound, He.glo_ok X G (c.t.d.fact 9 (f := .glo "need_bound") rfl), F_need_bound.kp, b_c_need_bound, .nil⟩
  have o_number_of := @ok_number_of P w K mg base (He.fAd K ("number_of", none)) fd_number_of (He.ga K "Counts") (He.ga K "Figures") (He.ga K "Mark") F_number_of B (c_need_bound) (c_rank) (kz_Counts) (ow_Mark___len__)
  have b_c_number_of : Binds K fd_number_of _ [] := FunD.bindsN (ps := ["mark", "many"]) F_number_of (fun _ _ _ _ _ _ us hl => match us, hl with | [_, _], _ => rfl)
  have c_number_of : C8.Cal P w K mg base 7 "number_of" (sp_number_of K (He.ga K "Counts") (He.ga K "Figures") (He.ga K "Mark")) [] := ⟨_, fd_number_of, _, [], o_number_of, He.glo_ok X G (c.t.d.fact 20 (f := .glo "number_of") rfl), F_number_of.kp, b_c_number_of, .nil⟩
  have o_ahead_of := @ok_ahead_of P w K mg base (He.fAd K ("ahead_of", none)) fd_ahead_of (He.ga K "Counts") (He.ga K "Figures") (He.ga K "Mark") F_ahead_of B (c_need_bound) (c_rank) (kz_Counts)
  have b_c_ahead_of : Binds K fd_ahead_of _ [] := FunD.bindsN (ps := ["mark", "many"]) F_ahead_of (fun _ _ _ _ _ _ us hl => match us, hl with | [_, _], _ => rfl)
  have c_ahead_of : C8.Cal P w K mg base 7 "ahead_of" (sp_ahead_of K (He.ga K "Counts") (He.ga K "Figures") (He.ga K "Mark")) [] := ⟨_, fd_ahead_of, _, [], o_ahead_of, He.glo_ok X G (c.t.d.fact 19 (f := .glo "ahead_of") rfl), F_ahead_of.kp, b_c_ahead_of, .nil⟩
  have o__law_order := @ok__law_order P w K mg base (He.fAd K ("_law_order", none)) fd__law_order F__law_order B 
  have b_c__law_order : Binds K fd__law_order _ [] := FunD.bindsN (ps := ["_law_one", "_law_other"]) F__law_order (fun _ _ _ _ _ _ us hl => match us, hl with | [_, _], _ => rfl)
  have c__law_order : C8.Cal P w K mg base 1 "_law_order" (sp__law_order K) [] := ⟨_, fd__law_order, _, [], o__law_order, He.glo_ok X G (c.t.d.fact 31 (f := .glo "_law_order") rfl), F__law_order.kp, b_c__law_order, .nil⟩
  have o_how_many := @ok_how_many P w K mg base (He.fAd K ("how_many", none)) fd_how_many (He.ga K "Counts") (He.ga K "Figures") F_how_many B (MC) (c_need_bound) (kz_Counts)
  have b_c_how_many : Binds K fd_how_many _ [] := FunD.bindsN (ps := ["many"]) F_how_many (fun _ _ _ _ _ _ us hl => match us, hl with | [_], _ => rfl)
  have c_how_many : C8.Cal P w K mg base 5 "how_many" (sp_how_many K (He.ga K "Counts") (He.ga K "Figures")) [] := ⟨_, fd_how_many, _, [], o_how_many, He.glo_ok X G (c.t.d.fact 10 (f := .glo "how_many") rfl), F_how_many.kp, b_c_how_many, .nil⟩
  have o_figures_of := @ok_figures_of P w K mg base (He.fAd K ("figures_of", none)) fd_figures_of F_figures_of B (g_PART)
  have b_c_figures_of : Binds K fd_figures_of _ [] := FunD.bindsN (ps := ["number"]) F_figures_of (fun _ _ _ _ _ _ us hl => match us, hl with | [_], _ => rfl)
  have c_figures_of : C8.Cal P w K mg base 1 "figures_of" (sp_figures_of K) [] := ⟨_, fd_figures_of, _, [], o_figures_of, He.glo_ok X G (c.t.d.fact 1 (f := .glo "figures_of") rfl), F_figures_of.kp, b_c_figures_of, .nil⟩
  have o_Mark_text_of := @ok_Mark_text_of P w K mg base (He.fAd K ("Mark", some "text_of")) fd_Mark_text_of (He.ga K "Mark") F_Mark_text_of B (M) (c_figures_of)
  have b_m_Mark_text_of : Binds K fd_Mark_text_of _ [] := FunD.bindsN (ps := ["self"]) F_Mark_text_of (fun _ _ _ _ _ _ us hl => match us, hl with | [_], _ => rfl)
  have m_Mark_text_of : C8.Met P w K mg base 2 (He.ga K "Mark") "text_of" (sp_Mark_text_of K (He.ga K "Mark")) [] := ⟨_, fd_Mark_text_of, _, [], K_Mark, He.meth_ok (c.t.d.fact 79 (f := .meth "Mark" "text_of") rfl), o_Mark_text_of, b_m_Mark_text_of, .nil⟩
  have o_need_copy := @ok_need_copy P w K mg base (He.fAd K ("need_copy", none)) fd_need_copy F_need_copy B (c_is_whole_d1)
  have b_c_need_copy : Binds K fd_need_copy _ [] := FunD.bindsN (ps := ["copy"]) F_need_copy (fun _ _ _ _ _ _ us hl => match us, hl with | [_], _ => rfl)
  have c_need_copy : C8.Cal P w K mg base 2 "need_copy" (sp_need_copy K) [] := ⟨_, fd_need_copy, _, [], o_need_copy, He.glo_ok X G (c.t.d.fact 12 (f := .glo "need_copy") rfl), F_need_copy.kp, b_c_need_copy, .nil⟩
  have o_need_year := @ok_need_year P w K mg base (He.fAd K ("need_year", none)) fd_need_year F_need_year B (c_is_whole) (g_FIRST_YEAR) (g_LAST_YEAR)
  have b_c_need_year : Binds K fd_need_year _ [] := FunD.bindsN (ps := ["year"]) F_need_year (fun _ _ _ _ _ _ us hl => match us, hl with | [_], _ => rfl)
  have c_need_year : C8.Cal P w K mg base 2 "need_year" (sp_need_year K) [] := ⟨_, fd_need_year, _, [], o_need_year, He.glo_ok X G (c.t.d.fact 11 (f := .glo "need_year") rfl), F_need_year.kp, b_c_need_year, .nil⟩
  have o_is_figures := @ok_is_figures P w K mg base (He.fAd K ("is_figures", none)) fd_is_figures F_is_figures B (g_FIGURES)
  have b_c_is_figures : Binds K fd_is_figures _ [] := FunD.bindsN (ps := ["thing"]) F_is_figures (fun _ _ _ _ _ _ us hl => match us, hl with | [_], _ => rfl)
  have c_is_figures : C8.Cal P w K mg base 1 "is_figures" (sp_is_figures K) [] := ⟨_, fd_is_figures, _, [], o_is_figures, He.glo_ok X G (c.t.d.fact 3 (f := .glo "is_figures") rfl), F_is_figures.kp, b_c_is_figures, .nil⟩
  have o_is_maker := @ok_is_maker P w K mg base (He.fAd K ("is_maker", none)) fd_is_maker F_is_maker B (c_is_figures) (g_LETTERS_signs)
  have b_c_is_maker : Binds K fd_is_maker _ [] := FunD.bindsN (ps := ["thing"]) F_is_maker (fun _ _ _ _ _ _ us hl => match us, hl with | [_], _ => rfl)
  have c_is_maker : C8.Cal P w K mg base 2 "is_maker" (sp_is_maker K) [] := ⟨_, fd_is_maker, _, [], o_is_maker, He.glo_ok X G (c.t.d.fact 5 (f := .glo "is_maker") rfl), F_is_maker.kp, b_c_is_maker, .nil⟩
  have o_makers_in := @ok_makers_in P w K mg base (He.fAd K ("makers_in", none)) fd_makers_in F_makers_in B (c_is_maker) (g_MOST_MAKERS)
  have b_c_makers_in : Binds K fd_makers_in _ [] := FunD.bindsN (ps := ["makers"]) F_makers_in (fun _ _ _ _ _ _ us hl => match us, hl with | [_], _ => rfl)
  have c_makers_in : C8.Cal P w K mg base 3 "makers_in" (sp_makers_in K) [] := ⟨_, fd_makers_in, _, [], o_makers_in, He.glo_ok X G (c.t.d.fact 13 (f := .glo "makers_in") rfl), F_makers_in.kp, b_c_makers_in, .nil⟩
  have o_is_points := @ok_is_points P w K mg base (He.fAd K ("is_points", none)) fd_is_points F_is_points B (c_is_figures)
  have b_c_is_points : Binds K fd_is_points _ [] := FunD.bindsN (ps := ["thing"]) F_is_points (fun _ _ _ _ _ _ us hl => match us, hl with | [_], _ => rfl)
  have c_is_points : C8.Cal P w K mg base 2 "is_points" (sp_is_points K) [] := ⟨_, fd_is_points, _, [], o_is_points, He.glo_ok X G (c.t.d.fact 4 (f := .glo "is_points") rfl), F_is_points.kp, b_c_is_points, .nil⟩
  have o_is_name := @ok_is_name P w K mg base (He.fAd K ("is_name", none)) fd_is_name F_is_name B (g_LETTERS_signs) (g_LONGEST)
  have b_c_is_name : Binds K fd_is_name _ [] := FunD.bindsN (ps := ["thing"]) F_is_name (fun _ _ _ _ _ _ us hl => match us, hl with | [_], _ => rfl)
  have c_is_name : C8.Cal P w K mg base 1 "is_name" (sp_is_name K) [] := ⟨_, fd_is_name, _, [], o_is_name, He.glo_ok X G (c.t.d.fact 2 (f := .glo "is_name") rfl), F_is_name.kp, b_c_is_name, .nil⟩
  have o_is_letters := @ok_is_letters P w K mg base (He.fAd K ("is_letters", none)) fd_is_letters F_is_letters B (c_is_name)
  have b_c_is_letters : Binds K fd_is_letters _ [] := FunD.bindsN (ps := ["thing"]) F_is_letters (fun _ _ _ _ _ _ us hl => match us, hl with | [_], _ => rfl)
  have c_is_letters : C8.Cal P w K mg base 2 "is_letters" (sp_is_letters K) [] := ⟨_, fd_is_letters, _, [], o_is_letters, He.glo_ok X G (c.t.d.fact 6 (f := .glo "is_letters") rfl), F_is_letters.kp, b_c_is_letters, .nil⟩
  have o_Mark___init__ := @ok_Mark___init__ P w K mg base (He.fAd K ("Mark", some "__init__")) fd_Mark___init__ (He.ga K "Mark") F_Mark___init__ B (M) (c_is_letters) (c_is_points) (c_is_whole) (c_makers_in) (c_need_copy) (c_need_year) (g_GREATEST) (m_Mark_text_of)
  obtain ⟨ds_k_Mark, v_k_Mark, b_k_Mark⟩ := FunD.binds1 (ps := ["self", "letters", "number", "points", "makers", "year", "copy"]) F_Mark___init__ 7 4 (by simp) (by rfl) (fun _ _ _ _ _ _ _ us its hl hi => match us, its, hl, hi with | [_, _, _, _, _, _, _], [_, _, _, _], _, _ => ⟨_, rfl, rfl⟩)
  have k_Mark : C8.Mak P w K mg base 4 "Mark" (He.ga K "Mark") (sp_Mark___init__ K (He.ga K "Mark")) [] := ⟨_, fd_Mark___init__, _, ds_k_Mark, He.mkr_ok (c.t.d.fact 98 (f := .mkr "Mark") rfl), o_Mark___init__, G_Mark, b_k_Mark, v_k_Mark⟩
  have o__law_mark := @ok__law_mark P w K mg base (He.fAd K ("_law_mark", none)) fd__law_mark (He.ga K "Mark") F__law_mark B (k_Mark)
  have b_c__law_mark : Binds K fd__law_mark _ [] := FunD.bindsN (ps := ["_law_parts_here"]) F__law_mark (fun _ _ _ _ _ _ us hl => match us, hl with | [_], _ => rfl)
  have c__law_mark : C8.Cal P w K mg base 6 "_law_mark" (sp__law_mark K (He.ga K "Mark")) [] := ⟨_, fd__law_mark, _, [], o__law_mark, He.glo_ok X G (c.t.d.fact 32 (f := .glo "_law_mark") rfl), F__law_mark.kp, b_c__law_mark, .nil⟩
  have o__law_held := @ok__law_held P w K mg base (He.fAd K ("_law_held", none)) fd__law_held (He.ga K "Counts") (He.ga K "Figures") (He.ga K "Mark") F__law_held B (c__law_mark) (c__law_order) (c_ahead_of) (c_how_many) (c_number_of)
  have b_c__law_held : Binds K fd__law_held _ [] := FunD.bindsN (ps := ["_law_one", "_law_other", "_law_limit"]) F__law_held (fun _ _ _ _ _ _ us hl => match us, hl with | [_, _, _], _ => rfl)
  have c__law_held : C8.Cal P w K mg base 8 "_law_held" (sp__law_held K (He.ga K "Counts") (He.ga K "Figures") (He.ga K "Mark")) [] := ⟨_, fd__law_held, _, [], o__law_held, He.glo_ok X G (c.t.d.fact 34 (f := .glo "_law_held") rfl), F__law_held.kp, b_c__law_held, .nil⟩
  have o__law_take := @ok__law_take P w K mg base (He.fAd K ("_law_take", none)) fd__law_take F__law_take B 
  have b_c__law_take : Binds K fd__law_take _ [] := FunD.bindsN (ps := ["_law_box_here", "_law_choices"]) F__law_take (fun _ _ _ _ _ _ us hl => match us, hl with | [_, _], _ => rfl)
  have c__law_take : C8.Cal P w K mg base 1 "_law_take" (sp__law_take K) [] := ⟨_, fd__law_take, _, [], o__law_take, He.glo_ok X G (c.t.d.fact 23 (f := .glo "_law_take") rfl), F__law_take.kp, b_c__law_take, .nil⟩
  have o__law_pick := @ok__law_pick P w K mg base (He.fAd K ("_law_pick", none)) fd__law_pick F__law_pick B (c__law_take)
  have b_c__law_pick : Binds K fd__law_pick _ [] := FunD.bindsN (ps := ["_law_box_here", "_law_some"]) F__law_pick (fun _ _ _ _ _ _ us hl => match us, hl with | [_, _], _ => rfl)
  have c__law_pick : C8.Cal P w K mg base 2 "_law_pick" (sp__law_pick K) [] := ⟨_, fd__law_pick, _, [], o__law_pick, He.glo_ok X G (c.t.d.fact 24 (f := .glo "_law_pick") rfl), F__law_pick.kp, b_c__law_pick, .nil⟩
  have o__law_text := @ok__law_text P w K mg base (He.fAd K ("_law_text", none)) fd__law_text F__law_text B 
  have b_c__law_text : Binds K fd__law_text _ [] := FunD.bindsN (ps := ["_law_parts_here"]) F__law_text (fun _ _ _ _ _ _ us hl => match us, hl with | [_], _ => rfl)
  have c__law_text : C8.Cal P w K mg base 1 "_law_text" (sp__law_text K) [] := ⟨_, fd__law_text, _, [], o__law_text, He.glo_ok X G (c.t.d.fact 30 (f := .glo "_law_text") rfl), F__law_text.kp, b_c__law_text, .nil⟩
  have o__law_fitting := @ok__law_fitting P w K mg base (He.fAd K ("_law_fitting", none)) fd__law_fitting F__law_fitting B (c__law_text)
  have b_c__law_fitting : Binds K fd__law_fitting _ [] := FunD.bindsN (ps := ["_law_parts_here"]) F__law_fitting (fun _ _ _ _ _ _ us hl => match us, hl with | [_], _ => rfl)
  have c__law_fitting : C8.Cal P w K mg base 2 "_law_fitting" (sp__law_fitting K) [] := ⟨_, fd__law_fitting, _, [], o__law_fitting, He.glo_ok X G (c.t.d.fact 33 (f := .glo "_law_fitting") rfl), F__law_fitting.kp, b_c__law_fitting, .nil⟩
  have o__law_edge := @ok__law_edge P w K mg base (He.fAd K ("_law_edge", none)) fd__law_edge F__law_edge B (c__law_pick)
  have b_c__law_edge : Binds K fd__law_edge _ [] := FunD.bindsN (ps := ["_law_box_here"]) F__law_edge (fun _ _ _ _ _ _ us hl => match us, hl with | [_], _ => rfl)
  have c__law_edge : C8.Cal P w K mg base 3 "_law_edge" (sp__law_edge K) [] := ⟨_, fd__law_edge, _, [], o__law_edge, He.glo_ok X G (c.t.d.fact 27 (f := .glo "_law_edge") rfl), F__law_edge.kp, b_c__law_edge, .nil⟩
  have o__law_figures := @ok__law_figures P w K mg base (He.fAd K ("_law_figures", none)) fd__law_figures F__law_figures B (c__law_take)
  have b_c__law_figures : Binds K fd__law_figures _ [] := FunD.bindsN (ps := ["_law_box_here", "_law_limit"]) F__law_figures (fun _ _ _ _ _ _ us hl => match us, hl with | [_, _], _ => rfl)
  have c__law_figures : C8.Cal P w K mg base 2 "_law_figures" (sp__law_figures K) [] := ⟨_, fd__law_figures, _, [], o__law_figures, He.glo_ok X G (c.t.d.fact 25 (f := .glo "_law_figures") rfl), F__law_figures.kp, b_c__law_figures, .nil⟩
  have o__law_maker := @ok__law_maker P w K mg base (He.fAd K ("_law_maker", none)) fd__law_maker F__law_maker B (c__law_figures) (c__law_pick) (c__law_take)
  have b_c__law_maker : Binds K fd__law_maker _ [] := FunD.bindsN (ps := ["_law_box_here"]) F__law_maker (fun _ _ _ _ _ _ us hl => match us, hl with | [_], _ => rfl)
  have c__law_maker : C8.Cal P w K mg base 3 "_law_maker" (sp__law_maker K) [] := ⟨_, fd__law_maker, _, [], o__law_maker, He.glo_ok X G (c.t.d.fact 26 (f := .glo "_law_maker") rfl), F__law_maker.kp, b_c__law_maker, .nil⟩
  have o__law_parts := @ok__law_parts P w K mg base (He.fAd K ("_law_parts", none)) fd__law_parts F__law_parts B (c__law_edge) (c__law_figures) (c__law_maker) (c__law_pick) (c__law_take)
  have b_c__law_parts : Binds K fd__law_parts _ [] := FunD.bindsN (ps := ["_law_box_here"]) F__law_parts (fun _ _ _ _ _ _ us hl => match us, hl with | [_], _ => rfl)
  have c__law_parts : C8.Cal P w K mg base 4 "_law_parts" (sp__law_parts K) [] := ⟨_, fd__law_parts, _, [], o__law_parts, He.glo_ok X G (c.t.d.fact 28 (f := .glo "_law_parts") rfl), F__law_parts.kp, b_c__law_parts, .nil⟩
  have o__law_near := @ok__law_near P w K mg base (He.fAd K ("_law_near", none)) fd__law_near F__law_near B (c__law_parts) (c__law_take)
  have b_c__law_near : Binds K fd__law_near _ [] := FunD.bindsN (ps := ["_law_box_here", "_law_parts_here"]) F__law_near (fun _ _ _ _ _ _ us hl => match us, hl with | [_, _], _ => rfl)
  have c__law_near : C8.Cal P w K mg base 5 "_law_near" (sp__law_near K) [] := ⟨_, fd__law_near, _, [], o__law_near, He.glo_ok X G (c.t.d.fact 29 (f := .glo "_law_near") rfl), F__law_near.kp, b_c__law_near, .nil⟩
  have o__law_box := @ok__law_box P w K mg base (He.fAd K ("_law_box", none)) fd__law_box F__law_box B 
  have b_c__law_box : Binds K fd__law_box _ [] := FunD.bindsN (ps := ["_law_cell"]) F__law_box (fun _ _ _ _ _ _ us hl => match us, hl with | [_], _ => rfl)
  have c__law_box : C8.Cal P w K mg base 1 "_law_box" (sp__law_box K) [] := ⟨_, fd__law_box, _, [], o__law_box, He.glo_ok X G (c.t.d.fact 22 (f := .glo "_law_box") rfl), F__law_box.kp, b_c__law_box, .nil⟩
  have o__law_cell_at := @ok__law_cell_at P w K mg base (He.fAd K ("_law_cell_at", none)) fd__law_cell_at F__law_cell_at B 
  have b_c__law_cell_at : Binds K fd__law_cell_at _ [] := FunD.bindsN (ps := ["_law_script", "_law_k"]) F__law_cell_at (fun _ _ _ _ _ _ us hl => match us, hl with | [_, _], _ => rfl)
  have c__law_cell_at : C8.Cal P w K mg base 1 "_law_cell_at" (sp__law_cell_at K) [] := ⟨_, fd__law_cell_at, _, [], o__law_cell_at, He.glo_ok X G (c.t.d.fact 21 (f := .glo "_law_cell_at") rfl), F__law_cell_at.kp, b_c__law_cell_at, .nil⟩
  have o_law := @ok_law P w K mg base (He.fAd K ("law", none)) fd_law (He.ga K "Counts") (He.ga K "Figures") (He.ga K "Mark") F_law B (c__law_box) (c__law_cell_at) (c__law_fitting) (c__law_held) (c__law_near) (c__law_parts) (c__law_pick) (c__law_take) (c__law_text)
  exact o_law

end My
open PySem PySem.W PyProof.Rows L2
theorem PySem.Challenge.cw_spinemarks_k21_numbers_rise_holds : PySem.Challenge.rw_spinemarks_k21_numbers_rise.Holds := by
  w_on
  o_law
  refine HandSHeadRun.head_any (r := PySem.W.OpenLaw.row PySem.Challenge.rw_spinemarks_k21_numbers_rise) (q := PySem.W.view Hd.R.prog [65]) (H := Hd.hk) (ob := Hd.ob) (M := 20000) (loose := Hd.lo) (d := HandSHeadRun.topDef Hd.R.prog 65) (kwd := []) Hd.ob_eq (by kernel_rfl) (fun s => by kernel_rfl) Hd.run (by kernel_rfl) (by kernel_rfl) (by kernel_rfl) (by rfl) (by first | assumption | decide +kernel) (by decide +kernel) ⟨rfl, rfl, rfl, rfl, rfl, by decide +kernel⟩ ?hw ?hc
  case hw => w_witness2
  case hc =>
    refine L2.walk_ofE (l := PySem.Challenge.rw_spinemarks_k21_numbers_rise) (n := 63) (k := 9) (x := "_law_script") (CX := C8.CX0) rfl (by decide) (by kernel_rfl) ⟨rfl, by decide, by decide⟩ ?F (fun _ _ _ _ z => z)
    intro w mg fa h Y G hmg0
    obtain ⟨K, KX, c⟩ := Y
    have hmg : mg ("law" : PySem.Str) = some (.ref fa) := by
      have e : (HandSHeadRun.topDef Hd.R.prog 65).name = ("law" : PySem.Str) := by kernel_rfl
      rw [← e]
      exact hmg0
    obtain ⟨fd, hb, hF⟩ := My.facts (P := (PySem.Challenge.rw_spinemarks_k21_numbers_rise).prog) (w := w) KX G hmg c
    exact ⟨K, fd, My.sp_law K (He.ga K "Counts") (He.ga K "Figures") (He.ga K "Mark"), KX, hb, fun H a ns hl _ hS => Z.law_start hS (fun _ => rfl) (fun P p => ⟨.fz (.scr ns), rfl, ns, rfl, p⟩), hF⟩

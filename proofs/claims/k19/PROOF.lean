import PyProof.Rows.All
import Wide.All
import OpenK.AllK
import Wide.FinOn
import KE.KStateDown
import HandS.ForMost
import HandS.Defaults
import HandS.MakeKw
import HandS.IsInst
import HandS.StrMore
import HandS.FStr
import HandS.Flow
import HandS.Style
import HandS.Wide
import HandS.WideBits
import HandS.Codes
import HandS.TupAny
import HandS.Conv
import KE.LtData
import HandS.Walk
import KE.GoesZip
import KE.GoesEnum
import KE.GoesMore
import HandS.Head0
import HandS.Head1
import HandS.Head2
import HandS.HeadEnd
import HandS.HeadHook1
import HandS.HeadHook2
import HandS.HeadHook3
import HandS.HeadHook4
import PySem.Challenge.RW_spinemarks_k19_how_many_there_are
set_option Elab.async false
set_option linter.all false
set_option maxRecDepth 100000
set_option maxHeartbeats 4000000

namespace U
open PySem PySem.Spec PyProof.Rows L2

/-- a text by its signs -/
abbrev sv (l : List Nat) : V := .str ⟨l.toArray⟩
theorem sv_of (x : Str) : V.str x = sv x.cps.toList := by cases x; rfl
theorem cps_mk (l : List Nat) : (Str.mk l.toArray).cps.toList = l := rfl
theorem len_mk (l : List Nat) : (Str.mk l.toArray).length = l.length := by simp [Str.length]
theorem len_cps (x : Str) : x.length = x.cps.toList.length := by simp [Str.length]
theorem sv_inj {a b : List Nat} : (sv a = sv b) = (a = b) := by
  apply propext; constructor
  · intro h; exact congrArg (fun v => match v with | V.str x => x.cps.toList | _ => []) h
  · rintro rfl; rfl
theorem line : (sizeLine : Nat) = 16777216 := sizeLine_eq

section
variable {X : Cx}
theorem OpR.imp {f : Value → Value → Sem Value} {r r' : R2} (h : OpR X f r) (hi : ∀ x y H Q, r' x y H Q → r x y H Q) : OpR X f r' :=
  fun pins s σ H x y v u Q I rx ry q => h pins s σ H x y v u Q I rx ry (hi x y H Q q)
theorem CallR.imp {f : Value} {r r' : List V → Hp → VK → Prop} (h : CallR X f r) (hi : ∀ xs H Q, r' xs H Q → r xs H Q) : CallR X f r' :=
  fun pins s σ H xs us Q I r q => h pins s σ H xs us Q I r (hi xs H Q q)
theorem MtR.imp {id : String} {r r' : V → List V → Hp → VK → Prop} (h : MtR X id r) (hi : ∀ x xs H Q, r' x xs H Q → r x xs H Q) : MtR X id r' :=
  fun pins s σ H x xs v us Q I rx rs q => h pins s σ H x xs v us Q I rx rs (hi x xs H Q q)

/-- what is read at a -/
def at_ (H : Hp) (a : Addr) : Option HO := match H a with | some (.frz _ u) => some u | o => o
theorem at_lst {H : Hp} {a : Addr} {xs : List V} (h : at_ H a = some (.lst xs)) : Rd H a (.lst xs) := by
  unfold at_ at h
  split at h
  · rename_i o u e; injection h with h; subst h; exact .inr ⟨o, e⟩
  · exact .inl h
theorem at_tup {H : Hp} {a : Addr} {xs : List V} (h : at_ H a = some (.tup xs)) : Rd H a (.tup xs) := by
  unfold at_ at h
  split at h
  · rename_i o u e; injection h with h; subst h; exact .inr ⟨o, e⟩
  · exact .inl h
theorem at_of_lst {H : Hp} {a : Addr} {xs : List V} (h : H a = some (.lst xs)) : at_ H a = some (.lst xs) := by unfold at_; rw [h]
theorem at_of_tup {H : Hp} {a : Addr} {xs : List V} (h : H a = some (.tup xs)) : at_ H a = some (.tup xs) := by unfold at_; rw [h]
theorem at_of_ins {H : Hp} {a C dx : Addr} {fs : List (Str × V)} (h : H a = some (.ins C dx fs)) : at_ H a = some (.ins C dx fs) := by unfold at_; rw [h]
theorem at_of_frz {H : Hp} {a : Addr} {o : Obj} {u : HO} (h : H a = some (.frz o u)) : at_ H a = some u := by unfold at_; rw [h]
theorem upd_old {H : Hp} {a b : Addr} {o : HO} (h : H a = none) (hb : (H b).isSome = true) : upd H a o b = H b := upd_ne (by rintro rfl; rw [h] at hb; cases hb)

/-! ### + -/
def rAdd : R2 := fun x y H Q => match x, y with
  | .int i, .int j => Q (.int (i + j)) H
  | .str a, .str b => a.cps.toList.length + b.cps.toList.length ≤ 16777216 ∧ Q (sv (a.cps.toList ++ b.cps.toList)) H
  | .ref a, .ref b => ∃ xs ys, H a = some (.lst xs) ∧ H b = some (.lst ys) ∧ xs.length + ys.length ≤ 16777216 ∧ ∀ p, H p = none → Q (.ref p) (upd H p (.lst (xs ++ ys)))
  | _, _ => False
theorem cat_sv (a b : Str) : V.str (a ++ b) = sv (a.cps.toList ++ b.cps.toList) := by
  rw [sv_of]
  show sv (TL.tl (a ++ b)) = _
  rw [TL.tl_append]
theorem add : OpR X (binaryOp .Add) rAdd := OpR.imp ((op_add.or op_add_str).or op_cat) (fun x y H Q h => by
  unfold rAdd at h
  split at h
  · exact .inl (.inl ⟨_, _, rfl, rfl, h⟩)
  · refine .inl (.inr ⟨_, _, rfl, rfl, ?_, ?_⟩)
    · rw [len_cps, len_cps, line]; exact h.1
    · rw [cat_sv]; exact h.2
  · obtain ⟨xs, ys, h1, h2, h3, h4⟩ := h
    exact .inr ⟨_, _, xs, ys, rfl, rfl, h1, h2, by rw [line]; exact h3, h4⟩
  · exact h.elim)
def rSub : R2 := fun x y H Q => match x, y with
  | .int i, .int j => Q (.int (i - j)) H
  | _, _ => False
theorem sub : OpR X (binaryOp .Sub) rSub := OpR.imp op_sub (fun x y H Q h => by
  unfold rSub at h
  split at h
  · exact ⟨_, _, rfl, rfl, h⟩
  · exact h.elim)
/-- one factor below 2 ^ 64, or both together small -/
def MulOk (i j : Int) : Prop := CMul i j ∨ CMulW i j
def rMul : R2 := fun x y H Q => match x, y with
  | .int i, .int j => MulOk i j ∧ Q (.int (i * j)) H
  | .ref a, .int k => ∃ xs, H a = some (.lst xs) ∧ 0 ≤ k ∧ k < 2 ^ 63 ∧ xs.length * k.toNat ≤ 16777216 ∧ ∀ p, H p = none → Q (.ref p) (upd H p (.lst (List.replicate k.toNat xs).flatten))
  | _, _ => False
theorem mul : OpR X (binaryOp .Mult) rMul := OpR.imp ((op_mul.or op_mulW).or op_rep) (fun x y H Q h => by
  unfold rMul at h
  split at h
  · obtain ⟨h1, h2⟩ := h
    rcases h1 with h1 | h1
    · exact .inl (.inl ⟨_, _, rfl, rfl, h1, h2⟩)
    · exact .inl (.inr ⟨_, _, rfl, rfl, h1, h2⟩)
  · obtain ⟨xs, h1, h2, h3, h4, h5⟩ := h
    exact .inr ⟨_, _, xs, rfl, rfl, h1, by omega, h3, by rw [line]; exact h4, h5⟩
  · exact h.elim)
/-- a positive divisor below 2 ^ 9000 -/
def rDiv : R2 := fun x y H Q => match x, y with
  | .int i, .int j => (0 < j ∧ j < 2 ^ 8000) ∧ Q (.int (i / j)) H
  | _, _ => False
theorem div : OpR X (binaryOp .FloorDiv) rDiv := OpR.imp op_fdivW (fun x y H Q h => by
  unfold rDiv at h
  split at h
  · refine ⟨_, _, rfl, rfl, ?_, h.2⟩
    refine wide_div (b := 8000) h.1.1 ?_ (by decide) (by decide)
    have := h.1.2
    have h0 := h.1.1
    omega
  · exact h.elim)
def rMod : R2 := fun x y H Q => match x, y with
  | .int i, .int j => 0 < j ∧ Q (.int (i % j)) H
  | _, _ => False
theorem mod : OpR X (binaryOp .Mod) rMod := OpR.imp op_mod (fun x y H Q h => by
  unfold rMod at h
  split at h
  · exact ⟨_, _, rfl, rfl, h.1, h.2⟩
  · exact h.elim)
def rPow : R2 := fun x y H Q => match x, y with
  | .int i, .int j => CPow i j ∧ Q (.int (i ^ j.toNat)) H
  | _, _ => False
theorem pow : OpR X (binaryOp .Pow) rPow := OpR.imp op_pow (fun x y H Q h => by
  unfold rPow at h
  split at h
  · exact ⟨_, _, rfl, rfl, h.1, h.2⟩
  · exact h.elim)
end
end U

namespace U
open PySem PySem.Spec PyProof.Rows L2
section
variable {X : Cx}
/-! ### comparisons -/
def strLt (a b : List Nat) : Bool := decide (a < b)
def rLt : R2 := fun x y H Q => match x, y with
  | .int i, .int j => Q (.bl (decide (i < j))) H
  | .str a, .str b => Q (.bl (strLt a.cps.toList b.cps.toList)) H
  | _, _ => False
theorem lt : OpR X (compareOp .Lt) rLt := OpR.imp (op_lt.or op_lt_str) (fun x y H Q h => by
  unfold rLt at h
  split at h
  · exact .inl ⟨_, _, rfl, rfl, h⟩
  · exact .inr ⟨_, _, rfl, rfl, h⟩
  · exact h.elim)
def rLe : R2 := fun x y H Q => match x, y with
  | .int i, .int j => Q (.bl (decide (i ≤ j))) H
  | .str a, .str b => Q (.bl (!strLt b.cps.toList a.cps.toList)) H
  | _, _ => False
theorem le : OpR X (compareOp .LtE) rLe := OpR.imp (op_le.or op_le_str) (fun x y H Q h => by
  unfold rLe at h
  split at h
  · exact .inl ⟨_, _, rfl, rfl, h⟩
  · exact .inr ⟨_, _, rfl, rfl, h⟩
  · exact h.elim)
def rGt : R2 := fun x y H Q => match x, y with
  | .int i, .int j => Q (.bl (decide (j < i))) H
  | .str a, .str b => Q (.bl (strLt b.cps.toList a.cps.toList)) H
  | _, _ => False
theorem gt : OpR X (compareOp .Gt) rGt := OpR.imp (op_gt.or op_gt_str) (fun x y H Q h => by
  unfold rGt at h
  split at h
  · exact .inl ⟨_, _, rfl, rfl, h⟩
  · exact .inr ⟨_, _, rfl, rfl, h⟩
  · exact h.elim)
def rGe : R2 := fun x y H Q => match x, y with
  | .int i, .int j => Q (.bl (decide (j ≤ i))) H
  | .str a, .str b => Q (.bl (!strLt a.cps.toList b.cps.toList)) H
  | _, _ => False
theorem ge : OpR X (compareOp .GtE) rGe := OpR.imp (op_ge.or op_ge_str) (fun x y H Q h => by
  unfold rGe at h
  split at h
  · exact .inl ⟨_, _, rfl, rfl, h⟩
  · exact .inr ⟨_, _, rfl, rfl, h⟩
  · exact h.elim)
/-- == of scalars -/
def eqS : V → V → Option Bool
  | .non, .non => some true | .non, .int _ => some false | .int _, .non => some false | .non, .bl _ => some false | .bl _, .non => some false | .non, .str _ => some false | .str _, .non => some false
  | .int i, .int j => some (decide (i = j)) | .bl b, .bl c => some (b == c) | .str a, .str b => some (decide (a.cps.toList = b.cps.toList))
  | .int _, .str _ => some false | .str _, .int _ => some false | .bl _, .str _ => some false | .str _, .bl _ => some false
  | _, _ => none
theorem eqS_scal {x y : V} {b : Bool} (h : eqS x y = some b) : scal x y = true ∧ decide (x = y) = b := by
  unfold eqS at h
  split at h <;> cases h <;> refine ⟨rfl, ?_⟩
  all_goals first
    | rfl
    | exact decide_eq_false (fun z => by cases z)
    | (rename_i i j; simp; done)
    | (rename_i a b
       by_cases e : a.cps.toList = b.cps.toList
       · have : a = b := TL.ext_tl e
         subst this; simp
       · have : ¬ a = b := fun z => e (by rw [z])
         simp [e, this])
    | (rename_i b c; cases b <;> cases c <;> rfl)
def rEq : R2 := fun x y H Q => ∃ b, eqS x y = some b ∧ Q (.bl b) H
def rNe : R2 := fun x y H Q => ∃ b, eqS x y = some b ∧ Q (.bl (!b)) H
theorem eq : OpR X (compareOp .Eq) rEq := OpR.imp op_eq (fun x y H Q ⟨b, h, q⟩ => by
  obtain ⟨h1, h2⟩ := eqS_scal h
  exact ⟨h1, by rw [h2]; exact q⟩)
theorem ne : OpR X (compareOp .NotEq) rNe := OpR.imp op_ne (fun x y H Q ⟨b, h, q⟩ => by
  obtain ⟨h1, h2⟩ := eqS_scal h
  exact ⟨h1, by rw [h2]; exact q⟩)
/-- is None -/
def rIs : R2 := fun x y H Q => y = .non ∧ Q (.bl (decide (x = .non))) H
def rIsNot : R2 := fun x y H Q => y = .non ∧ Q (.bl (!decide (x = .non))) H
theorem is_ : OpR X (compareOp .Is) rIs := op_isN
theorem isNot : OpR X (compareOp .IsNot) rIsNot := op_notN
/-! ### sequences -/
def seqOf : HO → Option (List V)
  | .lst xs => some xs
  | .tup xs => some xs
  | .frz _ (.lst xs) => some xs
  | .frz _ (.tup xs) => some xs
  | _ => none
theorem seqOf_sq {K : PySem.W.Frag} {H : Hp} {p : Addr} {xs : List V} (h : (H p).bind seqOf = some xs) : SqL K H p xs ∨ SqT K H p xs := by
  cases e : H p with
  | none => rw [e] at h; cases h
  | some o =>
    rw [e] at h
    have h : seqOf o = some xs := h
    unfold seqOf at h
    split at h
    · cases h; exact .inl (.inl (.inl e))
    · cases h; exact .inr (.inl (.inl e))
    · cases h; exact .inl (.inl (.inr ⟨_, e⟩))
    · cases h; exact .inr (.inl (.inr ⟨_, e⟩))
    · cases h
/-- a one-sign text in a text; a flat value in a list or tuple -/
def rIn : R2 := fun x y H Q => match x, y with
  | .str a, .str z => ∃ c, a.cps.toList = [c] ∧ Q (.bl (decide (c ∈ z.cps.toList))) H
  | x, .ref p => ∃ xs, (H p).bind seqOf = some xs ∧ flatV x = true ∧ xs.all flatV = true ∧ Q (.bl (inV x xs)) H
  | _, _ => False
theorem one_of {a : Str} {c : Nat} (h : a.cps.toList = [c]) : a = ⟨#[c]⟩ := TL.ext_tl h
theorem in_ : OpR X (compareOp .In) rIn := OpR.imp (op_in_sign.or op_in_seq) (fun x y H Q h => by
  unfold rIn at h
  split at h
  · obtain ⟨c, e, q⟩ := h
    exact .inl ⟨c, _, by rw [one_of e], rfl, q⟩
  · obtain ⟨xs, e, h1, h2, q⟩ := h
    exact .inr ⟨_, xs, rfl, seqOf_sq e, h1, h2, q⟩
  · exact h.elim)
def rNotIn : R2 := fun x y H Q => match x, y with
  | .str a, .str z => ∃ c, a.cps.toList = [c] ∧ Q (.bl (!decide (c ∈ z.cps.toList))) H
  | x, .ref p => ∃ xs, (H p).bind seqOf = some xs ∧ flatV x = true ∧ xs.all flatV = true ∧ Q (.bl (!inV x xs)) H
  | _, _ => False
theorem notIn : OpR X (compareOp .NotIn) rNotIn := OpR.imp (op_notIn_sign.or op_notIn_seq) (fun x y H Q h => by
  unfold rNotIn at h
  split at h
  · obtain ⟨c, e, q⟩ := h
    exact .inl ⟨c, _, by rw [one_of e], rfl, q⟩
  · obtain ⟨xs, e, h1, h2, q⟩ := h
    exact .inr ⟨_, xs, rfl, seqOf_sq e, h1, h2, q⟩
  · exact h.elim)
theorem IxR.imp {r r' : R2} (h : IxR X r) (hi : ∀ x y H Q, r' x y H Q → r x y H Q) : IxR X r' := by
  intro va sl pins s σ H x y v u Q I rx ry q e
  exact h va sl pins s σ H x y v u Q I rx ry (hi _ _ _ _ q) e
theorem SlR.imp {r r' : V → Option Int → Option Int → Hp → VK → Prop} (h : SlR X r) (hi : ∀ x lo hi H Q, r' x lo hi H Q → r x lo hi H Q) : SlR X r' :=
  fun pins s σ H x v vl vu lo hi' sl Q I rx hs pl pu q => h pins s σ H x v vl vu lo hi' sl Q I rx hs pl pu (hi _ _ _ _ _ q)
def rIx : R2 := fun x y H Q => match x, y with
  | .str z, .int i => z.cps.toList.length ≤ 16777216 ∧ ∃ c, atI z.cps.toList i = some c ∧ Q (sv [c]) H
  | .ref p, .int i => ∃ xs, (H p).bind seqOf = some xs ∧ ∃ v, atI xs i = some v ∧ Q v H
  | _, _ => False
theorem ix : IxR X rIx := IxR.imp ix_seq (fun x y H Q h => by
  unfold rIx at h
  split at h
  · obtain ⟨h1, c, h2, q⟩ := h
    exact .inr (.inr ⟨_, _, c, rfl, rfl, by rw [line, len_cps]; exact h1, h2, q⟩)
  · obtain ⟨xs, e, v, h2, q⟩ := h
    rcases seqOf_sq e with e | e
    · exact .inl ⟨_, xs, _, v, rfl, rfl, e, h2, q⟩
    · exact .inr (.inl ⟨_, xs, _, v, rfl, rfl, e, h2, q⟩)
  · exact h.elim)
def cutL {α : Type} (xs : List α) (lo hi : Option Int) : List α := (xs.drop (HT.sIx xs.length 0 lo)).take (HT.sIx xs.length xs.length hi - HT.sIx xs.length 0 lo)
/-- a cut of a text, a list; of a tuple: the whole is the same object -/
def rSl : V → Option Int → Option Int → Hp → VK → Prop := fun x lo hi H Q => match x with
  | .str z => z.cps.toList.length ≤ 16777216 ∧ Q (sv (cutL z.cps.toList lo hi)) H
  | .ref a => (∃ xs, ((H a = some (.lst xs)) ∨ (∃ o, H a = some (.frz o (.lst xs)))) ∧ ∀ p, H p = none → Q (.ref p) (upd H p (.lst (cutL xs lo hi)))) ∨
      (∃ xs, H a = some (.tup xs) ∧ (cutL xs lo hi = xs → Q (.ref a) H) ∧ ∀ p, H p = none → Q (.ref p) (upd H p (.tup (cutL xs lo hi))))
  | _ => False
theorem cut_whole {α : Type} {xs : List α} {lo hi : Option Int} (h : HT.sIx xs.length 0 lo = 0 ∧ HT.sIx xs.length xs.length hi = xs.length) : cutL xs lo hi = xs := by
  unfold cutL
  rw [h.1, h.2]
  simp
theorem sl : SlR X rSl := SlR.imp (sl_str.or (sl_list.or sl_tupA)) (fun x lo hi H Q h => by
  unfold rSl at h
  split at h
  · rename_i z
    refine .inl ⟨_, rfl, by rw [line, len_cps]; exact h.1, ?_⟩
    have e : cutS z lo hi = ⟨(cutL z.cps.toList lo hi).toArray⟩ := by
      unfold cutS cutL
      rw [len_cps]
    rw [e]
    exact h.2
  · rcases h with ⟨xs, h1, q⟩ | ⟨xs, h1, q1, q2⟩
    · refine .inr (.inl ⟨_, xs, rfl, ?_, q⟩)
      rcases h1 with h1 | ⟨o, h1⟩
      · exact .inl (.inl h1)
      · exact .inl (.inr ⟨o, h1⟩)
    · exact .inr (.inr ⟨_, xs, rfl, .inl (.inl h1), fun w => q1 (cut_whole w), fun _ => q2⟩)
  · exact h.elim)
/-! ### built-in functions -/
def rLen : List V → Hp → VK → Prop := fun vs H Q => match vs with
  | [.str z] => z.cps.toList.length ≤ 16777216 ∧ Q (.int z.cps.toList.length) H
  | [.ref p] => ∃ xs, (H p).bind seqOf = some xs ∧ Q (.int xs.length) H
  | _ => False
theorem c_len : CallR X (.builtin "len") rLen := CallR.imp call_len (fun vs H Q h => by
  unfold rLen at h
  split at h
  · refine ⟨_, _, rfl, ⟨?_, rfl⟩, ?_⟩
    · rw [line, len_cps]; exact h.1
    · rw [len_cps]; exact h.2
  · obtain ⟨xs, e, q⟩ := h
    refine ⟨_, _, rfl, ?_, q⟩
    rcases seqOf_sq e with e | e
    · exact .inl ⟨xs, e, rfl⟩
    · exact .inr ⟨xs, e, rfl⟩
  · exact h.elim)
/-- the name of a value's built-in type -/
def tyB (H : Hp) : V → Option String
  | .non => some "NoneType"
  | .bl _ => some "bool"
  | .int _ => some "int"
  | .str _ => some "str"
  | .ref a => (match H a with
    | some (.lst _) => some "list"
    | some (.tup _) => some "tuple"
    | some (.dK _) => some "dict"
    | some (.dT _) => some "dict"
    | some (.frz _ (.lst _)) => some "list"
    | _ => none)
  | _ => none
theorem tyB_ok {K : PySem.W.Frag} {H : Hp} {x : V} {t : String} (h : tyB H x = some t) : TyOf K H x (.type t) := by
  unfold tyB at h
  split at h
  · cases h; exact .non
  · cases h; exact .bl _
  · cases h; exact .int _
  · cases h; exact .str _
  · split at h <;> cases h
    · exact .lst (by assumption)
    · exact .tup (by assumption)
    · exact .dK (by assumption)
    · exact .dT (by assumption)
    · exact .frz (by assumption)
  · cases h
def isB (t c : String) : Option Bool := if ["NoneType", "bool", "int", "str", "list", "tuple", "dict"].contains t && ["bool", "int", "str", "list", "tuple", "dict"].contains c then some (t == c || (t == "bool" && c == "int")) else none
theorem isB_ok {K : PySem.W.Frag} {t c : String} {b : Bool} (h : isB t c = some b) : PySem.W.kitOne K (.type t) (.type c) = some b := by
  refine kit_ty ?_
  unfold isB at h
  split at h
  · rename_i hh
    simp only [List.contains_cons, List.contains_nil, Bool.or_false, Bool.and_eq_true, Bool.or_eq_true, beq_iff_eq] at hh
    obtain ⟨h1, h2⟩ := hh
    cases h
    rcases h1 with rfl | rfl | rfl | rfl | rfl | rfl | rfl <;> rcases h2 with rfl | rfl | rfl | rfl | rfl | rfl <;> decide +kernel
  · cases h
/-- isinstance(x, T), T a built-in type, or a new tuple of these -/
def isAny (t : String) : List V → Option Bool
  | [] => some false
  | .ty c :: cs => (match isB t c, isAny t cs with
    | some a, some b => some (a || b)
    | _, _ => none)
  | _ => none
theorem isAny_ok {K : PySem.W.Frag} {t : String} : ∀ {cs : List V} {b : Bool}, isAny t cs = some b → ∃ us, Paired ClsV cs us ∧ PySem.W.kitAny K (.type t) us = some b
  | [], b, h => by cases h; exact ⟨[], .nil, rfl⟩
  | v :: cs, b, h => by
    cases v with
    | ty c =>
      have h' : (match isB t c, isAny t cs with
        | some a, some b => some (a || b)
        | _, _ => none) = some b := h
      split at h'
      · rename_i a b' e1 e2
        cases h'
        obtain ⟨us, p, k⟩ := isAny_ok (K := K) e2
        refine ⟨.type c :: us, .cons (.ty c) p, kitAny_cons (isB_ok e1) (fun z => ?_) (fun z => ?_)⟩
        · subst z; simpa using k
        · subst z; rfl
      · cases h'
    | _ => cases h
def rIsi : List V → Hp → VK → Prop := fun vs H Q => match vs with
  | [x, .ty c] => ∃ t, tyB H x = some t ∧ ∃ b, isB t c = some b ∧ Q (.bl b) H
  | [x, .ref p] => ∃ cs, H p = some (.tup cs) ∧ ∃ t, tyB H x = some t ∧ ∃ b, isAny t cs = some b ∧ Q (.bl b) H
  | _ => False
theorem c_isinstance : CallR X (.builtin "isinstance") rIsi := CallR.imp (CallR.or call_isi call_isiT) (fun vs H Q h => by
  unfold rIsi at h
  split at h
  · obtain ⟨t, e, b, e2, q⟩ := h
    exact .inl ⟨_, _, _, _, b, rfl, .ty _, .base (tyB_ok e), isB_ok e2, q⟩
  · obtain ⟨cs, e0, t, e, b, e2, q⟩ := h
    obtain ⟨us, p, k⟩ := isAny_ok (K := X.K) e2
    exact .inr ⟨_, _, cs, _, us, b, rfl, e0, p, .base (tyB_ok e), k, q⟩
  · exact h.elim)
def rAll : List V → Hp → VK → Prop := fun vs H Q => match vs with
  | [.ref a] => ∃ bs : List Bool, H a = some (.lst (bs.map V.bl)) ∧ Q (.bl (bs.all id)) H
  | _ => False
theorem c_all (hc : X.calm = true) : CallR X (.builtin "all") rAll := CallR.imp (cr_all hc) (fun vs H Q h => by
  unfold rAll at h
  split at h
  · obtain ⟨bs, e, q⟩ := h
    exact ⟨_, bs, rfl, .inl (.inl e), q⟩
  · exact h.elim)
def rAny : List V → Hp → VK → Prop := fun vs H Q => match vs with
  | [.ref a] => ∃ bs : List Bool, H a = some (.lst (bs.map V.bl)) ∧ Q (.bl (bs.any id)) H
  | _ => False
theorem c_any (hc : X.calm = true) : CallR X (.builtin "any") rAny := CallR.imp (cr_any hc) (fun vs H Q h => by
  unfold rAny at h
  split at h
  · obtain ⟨bs, e, q⟩ := h
    exact ⟨_, bs, rfl, .inl (.inl e), q⟩
  · exact h.elim)
def rMax : List V → Hp → VK → Prop := fun vs H Q => match vs with
  | [.int i, .int j] => Q (.int (max i j)) H
  | _ => False
theorem c_max (hc : X.calm = true) : CallR X (.builtin "max") rMax := CallR.imp (call_max2 hc) (fun vs H Q h => by
  unfold rMax at h
  split at h
  · rename_i i j
    refine ⟨i, j, rfl, ?_⟩
    have e : (if j > i then j else i) = max i j := by split <;> omega
    rw [e]; exact h
  · exact h.elim)
def rMin : List V → Hp → VK → Prop := fun vs H Q => match vs with
  | [.int i, .int j] => Q (.int (min i j)) H
  | _ => False
theorem c_min (hc : X.calm = true) : CallR X (.builtin "min") rMin := CallR.imp (call_min2 hc) (fun vs H Q h => by
  unfold rMin at h
  split at h
  · rename_i i j
    refine ⟨i, j, rfl, ?_⟩
    have e : (if j < i then j else i) = min i j := by split <;> omega
    rw [e]; exact h
  · exact h.elim)
/-- the figures of a number from 0 on -/
abbrev numL (n : Nat) : List Nat := TL.numL n
theorem log2_ok {i : Int} (h0 : 0 ≤ i) (h : i < 2 ^ 1900) : i.natAbs.log2 < 1920 := by
  have h1 : i.natAbs < 2 ^ 1900 := by omega
  exact Nat.lt_trans (PySem.Flt.log2_lt_of (by decide) h1) (by decide)
theorem toStr_num {i : Int} (h0 : 0 ≤ i) : V.str (toString i) = sv (numL i.toNat) := by
  obtain ⟨n, rfl⟩ := Int.eq_ofNat_of_zero_le h0
  show V.str (Str.ofString (toString ((n : Nat) : Int))) = _
  rw [SX.num_S]
  rfl
def rStr : List V → Hp → VK → Prop := fun vs H Q => match vs with
  | [.int i] => (0 ≤ i ∧ i < 2 ^ 1900) ∧ Q (sv (numL i.toNat)) H
  | _ => False
theorem c_str : CallR X (.type "str") rStr := CallR.imp call_str_int (fun vs H Q h => by
  unfold rStr at h
  split at h
  · refine ⟨_, rfl, log2_ok h.1.1 h.1.2, ?_⟩
    rw [toStr_num h.1.1]; exact h.2
  · exact h.elim)
/-- the number that figures write -/
abbrev valL (l : List Nat) : Nat := NumText.digitsVal l
def digs (l : List Nat) : Bool := l.all fun c => decide (48 ≤ c) && decide (c ≤ 57)
def rInt : List V → Hp → VK → Prop := fun vs H Q => match vs with
  | [.int i] => Q (.int i) H
  | [.bl b] => Q (.int (if b then 1 else 0)) H
  | [.str z] => (digs z.cps.toList = true ∧ z.cps.toList ≠ [] ∧ z.cps.toList.length ≤ 640) ∧ Q (.int (valL z.cps.toList)) H
  | _ => False
theorem c_int : CallR X (.type "int") rInt := CallR.imp (CallR.or call_int1 call_int_str) (fun vs H Q h => by
  unfold rInt at h
  split at h
  · exact .inl (.inl ⟨_, rfl, h⟩)
  · exact .inl (.inr ⟨_, rfl, h⟩)
  · rename_i z
    obtain ⟨⟨h1, h2, h3⟩, q⟩ := h
    refine .inr ⟨z, _, rfl, ?_, by rw [len_cps]; exact h3, q⟩
    have e : z = SX.S z.cps.toList := (SX.S_tl z).symm
    rw [e]
    exact SX.int_S h1 h2 (Nat.le_trans h3 (by decide))
  · exact h.elim)
def rList : List V → Hp → VK → Prop := fun vs H Q => match vs with
  | [.ref p] => ∃ xs, (H p).bind seqOf = some xs ∧ ∀ l, H l = none → Q (.ref l) (upd H l (.lst xs))
  | _ => False
theorem c_list : CallR X (.type "list") rList := CallR.imp call_list_of (fun vs H Q h => by
  unfold rList at h
  split at h
  · obtain ⟨xs, e, q⟩ := h
    exact ⟨_, xs, rfl, seqOf_sq e, q⟩
  · exact h.elim)
def rTuple : List V → Hp → VK → Prop := fun vs H Q => match vs with
  | [.ref p] => (∃ xs, H p = some (.lst xs) ∧ ∀ l, H l = none → Q (.ref l) (upd H l (.tup xs))) ∨ (∃ xs, H p = some (.tup xs) ∧ Q (.ref p) H)
  | _ => False
theorem c_tuple : CallR X (.type "tuple") rTuple := CallR.imp call_tuple_of (fun vs H Q h => by
  unfold rTuple at h
  split at h
  · rcases h with ⟨xs, e, q⟩ | ⟨xs, e, q⟩
    · exact ⟨_, xs, rfl, .inl ⟨.inl (.inl e), q⟩⟩
    · exact ⟨_, xs, rfl, .inr ⟨.inl (.inl e), q⟩⟩
  · exact h.elim)
def rDivmod : List V → Hp → VK → Prop := fun vs H Q => match vs with
  | [.int i, .int j] => (0 < j ∧ j < 2 ^ 8000) ∧ ∀ p, H p = none → Q (.ref p) (upd H p (.tup [.int (i / j), .int (i % j)]))
  | _ => False
theorem divp {i j : Int} (h0 : 0 < j) (h1 : j < 2 ^ 8000) : CDivP i j := by
  refine ⟨h0, ?_⟩
  show (decide ((if j == 0 then 0 else j.natAbs.log2 / 30 + 1) > 300) && decide ((if i == 0 then 0 else i.natAbs.log2 / 30 + 1) > (if j == 0 then 0 else j.natAbs.log2 / 30 + 1) + 150)) = false
  have h2 : j.natAbs < 2 ^ 8000 := by omega
  have h3 : j.natAbs.log2 < 8000 := PySem.Flt.log2_lt_of (by decide) h2
  rw [if_neg (show ¬ (j == 0) = true by simpa using (show j ≠ 0 by omega))]
  rw [decide_eq_false (show ¬ (j.natAbs.log2 / 30 + 1 > 300) by omega), Bool.false_and]
theorem c_divmod : CallR X (.builtin "divmod") rDivmod := CallR.imp call_divmodW (fun vs H Q h => by
  unfold rDivmod at h
  split at h
  · exact ⟨_, _, rfl, divp h.1.1 h.1.2, h.2⟩
  · exact h.elim)
end
end U

namespace U
open PySem PySem.Spec PyProof.Rows L2
/-! ### list.extend(tuple) -/

theorem list_extend_tup (l : Addr) (items : Array Value) (n : Nat) (b : Addr) (items2 : Array Value) (n2 : Nat) (dd2 : Option Addr) (sl2 : Array (Option Value)) (hs0 : ¬(!items.isEmpty && Builtin.List.listTooLong (items.size + items2.size)) = true) (hs1 : items.size ≤ sizeLine) (hs2 : items.size + items2.size ≤ sizeLine + 1) :
    Meets (Builtin.«list.extend» ⟨[.ref l, .ref b], []⟩) (fun _ R s => s.heap.get? l = some { cls := .type "list", dict := none, data := .seq items n, slots := #[] } ∧ s.heap.get? b = some { cls := .type "tuple", dict := dd2, data := .seq items2 n2, slots := sl2 } ∧ R (.ok (.ret Value.none)) { s with heap := s.heap.update l (Obj.mapSeq fun x => x ++ items2), toks := s.toks }) :=
  .of_wp fun prog w A R s h => by
    obtain ⟨hp, g, d, tk, os⟩ := s; obtain ⟨hl, hb, h⟩ := h; have f1 := AutoSeq1.idx_int; have f2 := AutoSeq1.sub_tuple_tuple; have f3 := AutoSeq1.sub_list_list; have f4 := AutoSeq1.sub_tuple_list; have f5 := AutoSeq1.sub_list_tuple;
    have hz' : (items ++ items2).size ≤ sizeLine + 1 := by rw [Array.size_append]; exact hs2
    wp_walk using (wpAny_updateSeq hl rfl (hz := hs1) (_hz' := hz')), AutoSeq1.wpAny_loadPart' hl, AutoSeq1.wpAny_loadPart' hb; exact ⟨_, rfl, h⟩
section
variable {X : Cx}
def rExtT (K : PySem.W.Frag) : V → List V → Hp → VK → Prop := fun x vs H Q => ∃ l b xs zs, x = .ref l ∧ vs = [.ref b] ∧ H l = some (.lst xs) ∧ SqT K H b zs ∧ xs.length + zs.length ≤ sizeLine ∧ Q .non (upd H l (.lst (xs ++ zs)))
theorem mt_extT : MtR X "list.extend" (rExtT X.K) := by
  intro pins s σ H x vs v us Q I rx rv h
  obtain ⟨l, b, xs, zs, rfl, rfl, hH, hB, hz, q⟩ := h
  cases rx
  obtain ⟨u, rfl, ru⟩ := rv.one
  cases ru
  obtain ⟨z, its, n, r, hl, e⟩ := I.lstM hH
  obtain ⟨its2, r2, ⟨⟨c2, dd2, dt2, sl2⟩, e2, hc2, n2, hd2⟩, _⟩ := I.tuple hB
  simp only at hc2 hd2
  subst hc2 hd2
  have hl2 := r2.length
  have hsz : its.toArray.size + its2.toArray.size ≤ sizeLine := by rw [List.size_toArray, List.size_toArray]; omega
  have hlong : ¬ (!its.toArray.isEmpty && Builtin.List.listTooLong (its.toArray.size + its2.toArray.size)) = true := by
    rw [notLongL hsz, Bool.and_false]
    exact Bool.false_ne_true
  refine call_meets F.slot_list_extend ⟨_, e, rfl⟩ F.entry_list_extend (F.args_list_extend_2 _ _)
    (list_extend_tup l its.toArray n b its2.toArray n2 dd2 sl2 hlong (by rw [List.size_toArray]; omega) (by omega)) ⟨e, e2, ?_⟩
  refine ⟨.non, _, I.lset (its' := its ++ its2) hH e (by simp) (r.append r2) ?_, rfl, q⟩
  rw [List.length_append]
  omega
/-! ### methods of lists -/
def tAppend (to te : TE) : TE := fun σ H Q => to σ H fun x H1 => ∃ l xs0, x = .ref l ∧ H1 l = some (.lst xs0) ∧ te σ H1 fun y H2 => ∃ xs, H2 l = some (.lst xs) ∧ xs.length < 16777216 ∧ Q .non (upd H2 l (.lst (xs ++ [y])))
theorem PE.imp {e : Expr} {t t' : TE} (h : PE X e t) (hi : ∀ σ H Q, t' σ H Q → t σ H Q) : PE X e t' := ⟨fun pins s σ H Q I q => h.run pins s σ H Q I (hi _ _ _ q)⟩
def Mono (t : TE) : Prop := ∀ σ H (Q Q' : VK), (∀ v H1, Q v H1 → Q' v H1) → t σ H Q → t σ H Q'
/-- as the rule for a method, with a reading that hands the receiver on -/
def tM (T : String) (K : PySem.W.Frag) (r : V → List V → Hp → VK → Prop) (to : TE) (ta : TA) : TE := fun σ H Q => to σ H fun x H1 => tyV K T x H1 ∧ ta σ H1 fun vs H2 => r x vs H2 Q
def rAppend : V → List V → Hp → VK → Prop := fun x vs H Q => match x, vs with
  | .ref l, [y] => ∃ xs, H l = some (.lst xs) ∧ xs.length < 16777216 ∧ Q .non (upd H l (.lst (xs ++ [y])))
  | _, _ => False
theorem m_append : MtR X "list.append" rAppend := MtR.imp mt_append (fun x vs H Q h => by
  unfold rAppend at h
  split at h
  · obtain ⟨xs, e, hz, q⟩ := h
    exact ⟨_, xs, _, rfl, rfl, e, by rw [line]; exact hz, q⟩
  · exact h.elim)
def rExtend : V → List V → Hp → VK → Prop := fun x vs H Q => match x, vs with
  | .ref l, [.ref b] => ∃ xs ys, H l = some (.lst xs) ∧ (H b = some (.lst ys) ∨ H b = some (.tup ys)) ∧ xs.length + ys.length ≤ 16777216 ∧ Q .non (upd H l (.lst (xs ++ ys)))
  | _, _ => False
theorem m_extend : MtR X "list.extend" rExtend := MtR.imp (MtR.or mt_extend mt_extT) (fun x vs H Q h => by
  unfold rExtend at h
  split at h
  · obtain ⟨xs, ys, e, e2, hz, q⟩ := h
    rcases e2 with e2 | e2
    · exact .inl ⟨_, _, xs, ys, rfl, rfl, e, e2, by rw [line]; exact hz, q⟩
    · exact .inr ⟨_, _, xs, ys, rfl, rfl, e, .inl (.inl e2), by rw [line]; exact hz, q⟩
  · exact h.elim)
def rPop : V → List V → Hp → VK → Prop := fun x vs H Q => match x, vs with
  | .ref l, [] => ∃ xs y, H l = some (.lst xs) ∧ xs.getLast? = some y ∧ Q y (upd H l (.lst xs.dropLast))
  | _, _ => False
theorem m_pop : MtR X "list.pop" rPop := MtR.imp mt_pop (fun x vs H Q h => by
  unfold rPop at h
  split at h
  · obtain ⟨xs, y, e, e2, q⟩ := h
    exact ⟨_, xs, y, rfl, rfl, e, by rw [← List.getLast?_eq_getElem?]; exact e2, q⟩
  · exact h.elim)
/-- a list's own type, read off H -/
theorem tyV_list {K : PySem.W.Frag} {H : Hp} {p : Addr} {xs : List V} (h : H p = some (.lst xs)) : tyV K "list" (.ref p) H := .inl ⟨rfl, xs, .inl (.inl h)⟩
def isL (x : V) (H : Hp) : Prop := match x with
  | .ref p => ∃ xs, H p = some (.lst xs)
  | _ => False
def isS (x : V) : Prop := match x with
  | .str _ => True
  | _ => False
def tBL0 (r : V → List V → Hp → VK → Prop) (to : TE) : TE := fun σ H Q => to σ H fun x H1 => isL x H1 ∧ r x [] H1 Q
def tBL (r : V → List V → Hp → VK → Prop) (to : TE) (t : TA) : TE := fun σ H Q => to σ H fun x H1 => isL x H1 ∧ t σ H1 fun xs H2 => r x xs H2 Q
def tBS0 (r : V → List V → Hp → VK → Prop) (to : TE) : TE := fun σ H Q => to σ H fun x H1 => isS x ∧ r x [] H1 Q
def tBS (r : V → List V → Hp → VK → Prop) (to : TE) (t : TA) : TE := fun σ H Q => to σ H fun x H1 => isS x ∧ t σ H1 fun xs H2 => r x xs H2 Q
theorem isL_ty {K : PySem.W.Frag} {x : V} {H : Hp} (h : isL x H) : tyV K "list" x H := by
  unfold isL at h
  split at h
  · obtain ⟨xs, e⟩ := h; exact tyV_list e
  · exact h.elim
theorem isS_ty {K : PySem.W.Frag} {x : V} {H : Hp} (h : isS x) : tyV K "str" x H := by
  unfold isS at h
  split at h
  · rfl
  · exact h.elim
variable {o e : Expr} {es : List Expr} {to : TE} {t : TA} {name : Str} {apos cpos : Pos} {id : String} {r : V → List V → Hp → VK → Prop}
theorem pe_l0 (slot : Slot "list" name id) (hty : typeOf (.builtin id) = pure (.type "method_descriptor")) (hm : MtR X id r) (ho : PE X o to)
    (hbase : attributeBase o name X.env (eval o X.env) = eval o X.env := by rfl) (hline : (apos.endLine == cpos.line) = true := by rfl) : PE X (.Call (.Attribute o name apos) [] [] cpos) (tBL0 r to) := by
  refine ⟨fun pins s σ H Q I h => ?_⟩
  refine wpAny_Call_method0_late hbase hline (thn (ho.run pins s σ H _ I h) fun v s1 ⟨x, H1, I1, r1, ty, q1⟩ => ?_)
  obtain ⟨h1, h2⟩ := tyV_is I1 r1 (isL_ty ty)
  exact ⟨"list", id, PySem.F.plainAttrs_list, slot, hty, h1, h2, Calls.callWith_builtin rfl (PySem.evalArgs_none (hm pins s1 σ H1 x [] v [] Q I1 r1 .nil q1))⟩
theorem pe_s0 (slot : Slot "str" name id) (hty : typeOf (.builtin id) = pure (.type "method_descriptor")) (hm : MtR X id r) (ho : PE X o to)
    (hbase : attributeBase o name X.env (eval o X.env) = eval o X.env := by rfl) (hline : (apos.endLine == cpos.line) = true := by rfl) : PE X (.Call (.Attribute o name apos) [] [] cpos) (tBS0 r to) := by
  refine ⟨fun pins s σ H Q I h => ?_⟩
  refine wpAny_Call_method0_late hbase hline (thn (ho.run pins s σ H _ I h) fun v s1 ⟨x, H1, I1, r1, ty, q1⟩ => ?_)
  obtain ⟨h1, h2⟩ := tyV_is I1 r1 (isS_ty (K := X.K) (H := H1) ty)
  exact ⟨"str", id, PySem.F.plainAttrs_str, slot, hty, h1, h2, Calls.callWith_builtin rfl (PySem.evalArgs_none (hm pins s1 σ H1 x [] v [] Q I1 r1 .nil q1))⟩
theorem pe_l (slot : Slot "list" name id) (hty : typeOf (.builtin id) = pure (.type "method_descriptor")) (hm : MtR X id r) (ho : PE X o to) (ha : PA X (e :: es) t)
    (hbase : attributeBase o name X.env (eval o X.env) = eval o X.env := by rfl)
    (hfew : ((backTo cpos (starEach (e :: es) X.env)).all (fun x => !x.1) && (backToKw cpos (keywordEach [] X.env)).all (fun x => x.1.isSome)
      && decide ((e :: es).length + ([] : List Keyword).length + (if ([] : List Keyword).isEmpty then 0 else 1) < 30)) = true := by rfl)
    (hline : (apos.endLine == cpos.line) = true := by rfl) (hs : starEach (e :: es) X.env = (false, eval e X.env) :: starEach es X.env := by rfl) (hplain : (backTo cpos (starEach es X.env)).any (·.1) = false := by rfl) :
    PE X (.Call (.Attribute o name apos) (e :: es) [] cpos) (tBL r to t) := by
  refine ⟨fun pins s σ H Q I h => ?_⟩
  refine wpAny_Call_method_late hbase hfew hline rfl (thn (ho.run pins s σ H _ I h) fun v s1 ⟨x, H1, I1, r1, ty, q1⟩ => ?_)
  obtain ⟨h1, h2⟩ := tyV_is I1 r1 (isL_ty ty)
  refine ⟨"list", id, PySem.F.plainAttrs_list, slot, hty, h1, h2, ?_⟩
  have hA := ha.run cpos pins s1 σ H1 _ I1 q1
  rw [hs] at hA ⊢
  refine Calls.callWith_builtin (by show (false || (backTo cpos (starEach es X.env)).any (·.1)) = false; rw [hplain] <;> rfl) (Calls.evalArgs_plain ?_)
  exact thn hA fun us s2 ⟨vs, H2, I2, r2, q2⟩ => hm pins s2 σ H2 x vs v us Q I2 r1 r2 q2
theorem pe_s (slot : Slot "str" name id) (hty : typeOf (.builtin id) = pure (.type "method_descriptor")) (hm : MtR X id r) (ho : PE X o to) (ha : PA X (e :: es) t)
    (hbase : attributeBase o name X.env (eval o X.env) = eval o X.env := by rfl)
    (hfew : ((backTo cpos (starEach (e :: es) X.env)).all (fun x => !x.1) && (backToKw cpos (keywordEach [] X.env)).all (fun x => x.1.isSome)
      && decide ((e :: es).length + ([] : List Keyword).length + (if ([] : List Keyword).isEmpty then 0 else 1) < 30)) = true := by rfl)
    (hline : (apos.endLine == cpos.line) = true := by rfl) (hs : starEach (e :: es) X.env = (false, eval e X.env) :: starEach es X.env := by rfl) (hplain : (backTo cpos (starEach es X.env)).any (·.1) = false := by rfl) :
    PE X (.Call (.Attribute o name apos) (e :: es) [] cpos) (tBS r to t) := by
  refine ⟨fun pins s σ H Q I h => ?_⟩
  refine wpAny_Call_method_late hbase hfew hline rfl (thn (ho.run pins s σ H _ I h) fun v s1 ⟨x, H1, I1, r1, ty, q1⟩ => ?_)
  obtain ⟨h1, h2⟩ := tyV_is I1 r1 (isS_ty (K := X.K) (H := H1) ty)
  refine ⟨"str", id, PySem.F.plainAttrs_str, slot, hty, h1, h2, ?_⟩
  have hA := ha.run cpos pins s1 σ H1 _ I1 q1
  rw [hs] at hA ⊢
  refine Calls.callWith_builtin (by show (false || (backTo cpos (starEach es X.env)).any (·.1)) = false; rw [hplain] <;> rfl) (Calls.evalArgs_plain ?_)
  exact thn hA fun us s2 ⟨vs, H2, I2, r2, q2⟩ => hm pins s2 σ H2 x vs v us Q I2 r1 r2 q2
end
/-! ### methods of texts -/
section
variable {X : Cx}
def joinT (sep : List Nat) : List (List Nat) → List Nat := TL.joinL sep
def rJoin : V → List V → Hp → VK → Prop := fun x vs H Q => match x, vs with
  | .str a, [.ref p] => ∃ ys : List (List Nat), (H p = some (.lst (ys.map sv)) ∨ H p = some (.tup (ys.map sv))) ∧ (ys.map List.length).sum + ys.length * a.cps.toList.length ≤ 16777216 ∧ Q (sv (TL.joinL a.cps.toList ys)) H
  | _, _ => False
theorem mapS_len (ys : List (List Nat)) : (ys.map fun l => (⟨l.toArray⟩ : Str)).map (·.length) = ys.map List.length := by
  rw [List.map_map]; apply List.map_congr_left; intro l _; exact len_mk l
theorem mapS_V (ys : List (List Nat)) : ys.map sv = (ys.map fun l => (⟨l.toArray⟩ : Str)).map V.str := by rw [List.map_map]; rfl
theorem m_join : MtR X "str.join" rJoin := MtR.imp mt_join (fun x vs H Q h => by
  unfold rJoin at h
  split at h
  · rename_i a p
    obtain ⟨ys, e, hz, q⟩ := h
    refine ⟨a, _, ys.map fun l => (⟨l.toArray⟩ : Str), rfl, rfl, ?_, ?_, ?_⟩
    · rw [← mapS_V]
      rcases e with e | e
      · exact .inl (.inl (.inl e))
      · exact .inr (.inl (.inl e))
    · rw [mapS_len, List.length_map, len_cps]; exact hz
    · have e2 : Txt.join a (ys.map fun l => (⟨l.toArray⟩ : Str)) = ⟨(TL.joinL a.cps.toList ys).toArray⟩ := by
        have := SX.join_S a.cps.toList ys
        rw [SX.S_tl] at this
        exact this
      rw [e2]; exact q
  · exact h.elim)
def rstripL (cs l : List Nat) : List Nat := (l.reverse.dropWhile (fun c => cs.contains c)).reverse
def rRstrip : V → List V → Hp → VK → Prop := fun x vs H Q => match x, vs with
  | .str a, [.str b] => a.cps.toList.length ≤ 16777216 ∧ Q (.str (Txt.rstripChars a b)) H
  | _, _ => False
theorem m_rstrip : MtR X "str.rstrip" rRstrip := MtR.imp mt_rstripChars (fun x vs H Q h => by
  unfold rRstrip at h
  split at h
  · exact ⟨_, _, rfl, rfl, by rw [line, len_cps]; exact h.1, h.2⟩
  · exact h.elim)
def rZfill : V → List V → Hp → VK → Prop := fun x vs H Q => match x, vs with
  | .str a, [.int i] => PadOk i = true ∧ Q (.str (Txt.zfill a i)) H
  | _, _ => False
theorem m_zfill : MtR X "str.zfill" rZfill := MtR.imp mt_zfill (fun x vs H Q h => by
  unfold rZfill at h
  split at h
  · exact ⟨_, _, rfl, rfl, h.1, h.2⟩
  · exact h.elim)
/-! ### f-strings -/
def rFmt : V → Hp → VK → Prop := fun x H Q => match x with
  | .str y => y.cps.toList.length ≤ 16777216 ∧ Q (sv y.cps.toList) H
  | .int i => (0 ≤ i ∧ i < 2 ^ 1900) ∧ Q (sv (numL i.toNat)) H
  | _ => False
end
end U

namespace U
open PySem PySem.Spec PyProof.Rows L2
section
variable {X : Cx}
/-! ### constants -/
theorem pe_s' {x : Str} {j pos} (l : List Nat) (h : x.cps.toList = l) : PE X (.Constant (.str x) j pos) (tC (sv l)) := by
  have e : x = ⟨l.toArray⟩ := TL.ext_tl h
  subst e
  exact pe_str
/-- a module's constant -/
structure GStr (mg : Str → Option Value) (x : Str) (l : List Nat) : Prop where
  ex : ∃ t, mg x = some (.str ⟨l.toArray⟩ t)
structure GInt (mg : Str → Option Value) (x : Str) (i : Int) : Prop where
  ex : ∃ t, mg x = some (.int i t)
theorem pe_gs {x : Str} {l : List Nat} {pos : Pos} (hg : Gl X x) (h : GStr X.mg x l) (hd : (x == ("__debug__" : Str)) = false := by decide) : PE X (.Name x pos) (tC (sv l)) := by
  obtain ⟨t, e⟩ := h.ex
  exact pe_glob hg e ⟨t, rfl⟩ hd
theorem pe_gi {x : Str} {i : Int} {pos : Pos} (hg : Gl X x) (h : GInt X.mg x i) (hd : (x == ("__debug__" : Str)) = false := by decide) : PE X (.Name x pos) (tC (.int i)) := by
  obtain ⟨t, e⟩ := h.ex
  exact pe_glob hg e ⟨t, rfl⟩ hd
/-- a built-in type by its name, as a value -/
theorem pe_ty {x : Str} {n : String} {pos : Pos} (hg : Gl X x) (hm : X.mg x = none) (hv : bootBuiltins x = some (.type n)) (hn : x ≠ "__name__" := by decide) (hd : (x == ("__debug__" : Str)) = false := by decide) : PE X (.Name x pos) (tC (.ty n)) :=
  pe_bltn hg hm hv rfl hn hd
/-! ### comparisons of data, of instances -/
/-- < of data at any depth -/
def rLtD (K : PySem.W.Frag) : R2 := fun x y H Q => ∃ d e, Dp K H x d ∧ Dp K H y e ∧ PySem.W.alike d e = true ∧ d ≠ .none ∧ min d.depth e.depth ≤ 60 ∧ Q (.bl (PySem.W.dataLt d e)) H
theorem ltD (hu : X.A.units + 64 < cLine) : OpR X (compareOp .Lt) (rLtD X.K) := by
  intro pins s σ H x y v u Q I rx ry h
  obtain ⟨d, e, hd, he, ha, hn, hz, q⟩ := h
  obtain ⟨as, r1⟩ := Dp.reads I d x v hd rx
  obtain ⟨bs, r2⟩ := Dp.reads I e y u he ry
  show wpAny (model X.prog X.w) X.A (richCompare .Lt v u) (EP X pins σ Q) X.xe s
  exact PySem.W.rcLt_alike d e X.A s v u as bs r1 r2 ha hn (by omega) X.prog X.w X.xe _ ⟨.bl _, H, I, rfl, q⟩
/-- == by an own __eq__, both of one class -/
structure EqF (X : Cx) (n : Nat) (C : Addr) (sp : Sp) : Prop where
  ex : ∃ (CX : CXT) (f : Addr) (fd : FuncData) (ps : List Str), FnOk X.prog X.w X.K X.mg X.base CX n f fd ps sp ∧ PySem.W.findIn X.K (.ref C) "__eq__" = some (some (.ref f)) ∧ PySem.W.isFn X.K (.ref f) = true ∧ Binds X.K fd ps [] ∧ Passes CX X E0
def rEqI (C : Addr) (sp : Sp) : R2 := fun x y H Q => ∃ a b dx dy fs gs, x = .ref a ∧ y = .ref b ∧ H a = some (.ins C dx fs) ∧ H b = some (.ins C dy gs) ∧ sp [.ref a, .ref b] H (fun v H' => ∃ c, v = .bl c ∧ Q (.bl c) H') E0
theorem eqI {n : Nat} {C : Addr} {sp : Sp} (F : EqF X n C sp) (hr : Room n X.A) : OpR X (compareOp .Eq) (rEqI C sp) := by
  intro pins s σ H x y v u Q I rx ry h
  obtain ⟨a, b, dx, dy, fs, gs, rfl, rfl, ha, hb', hsp⟩ := h
  obtain ⟨CX, f, fd, ps, F, hs, hf, hb, hx⟩ := F.ex
  cases rx
  cases ry
  obtain ⟨mA, J, _⟩ := ins_get I.hok ha
  obtain ⟨mB, J', _⟩ := ins_get I.hok hb'
  obtain ⟨od, J, _⟩ := J.look
  obtain ⟨od', J', _⟩ := J'.look
  obtain ⟨m, hF⟩ := I.fr
  show wpAny (model X.prog X.w) X.A (richCompare .Eq (.ref a) (.ref b)) (EP X pins σ Q) X.xe s
  refine PySem.W.cmp_K (op := .Eq) (tb := .ref C) hr.units0 hF I.ok.mod.kin J J'.type (by simp [PySem.W.notFirst]) hs hf ?_
  have hl := F.len _ _ _ _ hsp
  have r2 : Vals [V.ref a, V.ref b] [Value.ref a, Value.ref b] := .cons rfl (.cons rfl .nil)
  refine thn (run_fn (us := [.ref a, .ref b]) F hr hb .nil hx I r2 (by exact hsp)) fun r s' hq => ?_
  obtain ⟨z, H', I', rz, c, ez, q⟩ := hq
  subst ez
  cases rz
  exact ⟨.bl c, H', I', rfl, q⟩
/-- isinstance(x, C), x an instance of C -/
def rIsC (C : Addr) : List V → Hp → VK → Prop := fun vs H Q => ∃ a dx fs, vs = [.ref a, .ref C] ∧ H a = some (.ins C dx fs) ∧ Q (.bl true) H
theorem c_isC {C : Addr} (c : C8.InsC X.K C) : CallR X (.builtin "isinstance") (rIsC C) := C8.call_isC c
/-! ### items of lists stored -/
def rSet : V → V → V → Hp → (Hp → Prop) → Prop := fun o i v H Q => match o, i with
  | .ref p, .int k => ∃ xs, H p = some (.lst xs) ∧ ∃ j, ixN xs.length k = some j ∧ Q (upd H p (.lst (xs.set j v)))
  | _, _ => False
theorem setL : PSet X rSet := fun pins s σ H o i v ov iv u Q I ro ri rv h => by
  refine set_list pins s σ H o i v ov iv u Q I ro ri rv ?_
  unfold rSet at h
  split at h
  · obtain ⟨xs, e, j, hj, q⟩ := h
    exact ⟨_, xs, _, j, rfl, rfl, e, hj, q⟩
  · exact h.elim
/-- xs[i] by values, 0 <= i -/
def rGet : V → V → Hp → VK → Prop := fun o i H Q => match o, i with
  | .ref p, .int k => ∃ xs, H p = some (.lst xs) ∧ 0 ≤ k ∧ ∃ v, xs[k.toNat]? = some v ∧ Q v H
  | _, _ => False
theorem getL : PGet X rGet := fun pins s σ H o i ov iv Q I ro ri h => by
  unfold rGet at h
  split at h
  · obtain ⟨xs, e, h0, v, hv, q⟩ := h
    cases ro
    obtain ⟨t, rfl⟩ := ri
    rename_i p k
    obtain ⟨its, r, pl, hz⟩ := I.list (SqL.of (K := X.K) e)
    obtain ⟨w, ew, rw'⟩ := r.get hv
    have hl := r.length
    have hn := line63
    have hk : k.toNat < its.length := by
      have := (List.getElem?_eq_some_iff.mp hv).1
      omega
    exact wpAny_getItem_list pl.isList h0 (by omega) (by simpa using ew) ⟨v, H, I, rw', q⟩
  · exact h.elim
def ipAdd : TIp := fun x y H Q => match x, y with
  | .int i, .int j => Q (.int (i + j)) H
  | .str a, .str b => a.cps.toList.length + b.cps.toList.length ≤ 16777216 ∧ Q (sv (a.cps.toList ++ b.cps.toList)) H
  | _, _ => False
theorem ip_add : PIp X .Add ipAdd := fun pins s σ H x y v u Q I rx ry h => by
  unfold ipAdd at h
  split at h
  · exact L2.ip_add pins s σ H _ _ v u Q I rx ry ⟨_, _, rfl, rfl, h⟩
  · refine iop_add_str pins s σ H _ _ v u Q I rx ry ⟨_, _, rfl, rfl, ?_, ?_⟩
    · rw [len_cps, len_cps, line]; exact h.1
    · rw [cat_sv]; exact h.2
  · exact h.elim
def ipSub : TIp := fun x y H Q => match x, y with
  | .int i, .int j => Q (.int (i - j)) H
  | _, _ => False
theorem ip_sub : PIp X .Sub ipSub := fun pins s σ H x y v u Q I rx ry h => by
  unfold ipSub at h
  split at h
  · exact L2.ip_sub pins s σ H _ _ v u Q I rx ry ⟨_, _, rfl, rfl, h⟩
  · exact h.elim
/-! ### f-strings -/
def uFmt (te : TE) : TE := fun σ H Q => te σ H fun x H1 => rFmt x H1 Q
theorem pe_fm {e : Expr} {te : TE} {pos : Pos} (he : PE X e te) : PE X (.FormattedValue e (-1) none pos) (uFmt te) := by
  refine ⟨fun pins s σ H Q I h => ?_⟩
  refine wpAny_FormattedValue_plain (thn (he.run pins s σ H _ I h) fun v s1 hv => ?_)
  obtain ⟨x, H1, I1, r1, q⟩ := hv
  unfold rFmt at q
  split at q
  · rename_i y
    obtain ⟨t, rfl⟩ := r1
    have e : V.str y = sv y.cps.toList := sv_of y
    rw [← e] at q
    exact wpAny_formatField_str ⟨.str y, H1, I1, ⟨t, rfl⟩, q.2⟩ ⟨.str y, H1, I1.tok _, ⟨_, rfl⟩, q.2⟩ (by rw [line, len_cps]; exact q.1)
  · obtain ⟨t, rfl⟩ := r1
    rename_i i
    have e := toStr_num q.1.1
    rw [← e] at q
    exact wpAny_formatField_int (log2_ok q.1.1 q.1.2) ⟨.str (toString i), H1, I1.tok _, ⟨_, rfl⟩, q.2⟩
  · exact q.elim
/-- the parts, one behind the other -/
def uJs : List TE → List Nat → L2.St → Hp → (List Nat → Hp → Prop) → Prop
  | [], acc, _, H, Q => Q acc H
  | t :: ts, acc, σ, H, Q => t σ H fun x H1 => ∃ y : Str, x = .str y ∧ acc.length + y.cps.toList.length ≤ 16777216 ∧ uJs ts (acc ++ y.cps.toList) σ H1 Q
/-- a reading that may be asked for more -/
theorem uJs_t : ∀ (ts : List TE) (acc : Str) (σ : L2.St) (H : Hp) (Q : List Nat → Hp → Prop), (∀ t ∈ ts, Mono t) → uJs ts acc.cps.toList σ H Q → tJs ts acc σ H (fun out H1 => Q out.cps.toList H1)
  | [], acc, σ, H, Q, _, h => h
  | t :: ts, acc, σ, H, Q, hm, h => by
    refine hm t List.mem_cons_self σ H _ _ (fun x H1 ⟨y, ex, hz, q⟩ => ⟨y, ex, ?_, ?_⟩) h
    · rw [line, len_cps]
      show (TL.tl (acc ++ y)).length ≤ _
      rw [TL.tl_append, List.length_append]; exact hz
    · refine uJs_t ts (acc ++ y) σ H1 Q (fun t ht => hm t (List.mem_cons_of_mem _ ht)) ?_
      have e : (acc ++ y).cps.toList = acc.cps.toList ++ y.cps.toList := TL.tl_append acc y
      rw [e]; exact q
/-- f'..' of two parts or more -/
def uJoined (ts : List TE) : TE := fun σ H Q => uJs ts [] σ H fun out H1 => Q (sv out) H1
theorem pe_jn {v1 v2 : Expr} {rest : List Expr} {ts : List TE} {pos : Pos} (h : PJ X (v1 :: v2 :: rest) ts) (hm : ∀ t ∈ ts, Mono t) : PE X (.JoinedStr (v1 :: v2 :: rest) pos) (uJoined ts) := by
  refine PE.imp (pe_joined h) fun σ H Q q => ?_
  have q' := uJs_t ts Str.empty σ H (fun out H1 => Q (sv out) H1) hm q
  have e : (fun (out : Str) H1 => Q (V.str out) H1) = fun (out : Str) H1 => Q (sv out.cps.toList) H1 := by
    funext out H1; rw [← sv_of]
  rw [e]
  exact q'
theorem mono_var {i : Nat} : Mono (tVar i) := fun σ H Q Q' h ⟨v, e, q⟩ => ⟨v, e, h _ _ q⟩
theorem mono_c {v : V} : Mono (tC v) := fun σ H Q Q' h q => h _ _ q
theorem mono_fmt {te : TE} (h : Mono te) : Mono (uFmt te) := fun σ H Q Q' hq q => h σ H _ _ (fun x H1 z => by
  unfold rFmt at z ⊢
  split at z
  · exact ⟨z.1, hq _ _ z.2⟩
  · exact ⟨z.1, hq _ _ z.2⟩
  · exact z.elim) q
theorem mono_fld {K : PySem.W.Frag} {te : TE} {f : Str} (h : Mono te) : Mono (tFld K te f) := fun σ H Q Q' hq q => h σ H _ _ (fun x H1 ⟨a, C, dx, fs, v, e1, e2, e3, e4, e5, z⟩ => ⟨a, C, dx, fs, v, e1, e2, e3, e4, e5, hq _ _ z⟩) q
/-! ### comprehensions over texts -/
theorem lc_str {x : Str} {g : TG} {tt : TT} {te : TE} {vs : List Nat} {σ : L2.St} {H1 : Hp} {D : Addr} {Qd : Hp → Prop} (Pv : Nat → Hp → Prop) (h0 : Pv 0 (upd H1 D (.lst [])))
    (hs : ∀ i c H, x.cps.toList[i]? = some c → Pv i H → g (sv [c]) (wipe σ vs) H fun σ2 H2 => wipe σ2 vs = wipe σ vs ∧ tt σ2 H2 fun b H3 =>
      if b = true then te σ2 H3 fun y H4 => ∃ acc, H4 D = some (.lst acc) ∧ acc.length < sizeLine ∧ Pv (i + 1) (upd H4 D (.lst (acc ++ [y]))) else Pv (i + 1) H3) (hd : ∀ H, Pv x.cps.toList.length H → Qd H) :
    ∃ W : Nat → Nat → Hp → Prop, (∃ m, W 0 m (upd H1 D (.lst []))) ∧ ∀ i m H, W i m H →
      ((Its x).stop i H ∧ Qd H) ∨ ((Its x).go i H ∧ ∃ Nx : Hp → Prop, (∀ H', Nx H' → ∃ m', m' < m ∧ W (i + 1) m' H') ∧ ∀ v H', (Its x).yld i H v H' → g v (wipe σ vs) H' fun σ2 H2 => wipe σ2 vs = wipe σ vs ∧ tt σ2 H2 fun b H3 =>
        if b = true then te σ2 H3 fun y H4 => ∃ acc, H4 D = some (.lst acc) ∧ acc.length < sizeLine ∧ Nx (upd H4 D (.lst (acc ++ [y]))) else Nx H3) := by
  have hsz : x.cps.size = x.cps.toList.length := by simp
  refine ⟨fun i m H => m = x.cps.size - i ∧ i ≤ x.cps.size ∧ Pv i H, ⟨x.cps.size, by simp, Nat.zero_le _, h0⟩, ?_⟩
  rintro i m H ⟨rfl, hi, p⟩
  by_cases hlt : i < x.cps.size
  · refine .inr ⟨hlt, Pv (i + 1), fun H' p' => ⟨x.cps.size - (i + 1), by omega, rfl, hlt, p'⟩, fun v H' y => ?_⟩
    obtain ⟨e, c, hc, rfl⟩ := y
    subst e
    exact hs i c _ (by simpa using hc) p
  · have e : i = x.cps.toList.length := by omega
    subst e
    exact .inl ⟨by show x.cps.size ≤ _; omega, hd H p⟩
theorem for_str {x : Str} {g : TG} {tb : TS} {D : Ends} {σ : L2.St} {H : Hp} (Pv : Nat → L2.St → Hp → Prop) (h0 : Pv 0 σ H)
    (hs : ∀ i c σ H, x.cps.toList[i]? = some c → Pv i σ H → g (sv [c]) σ H fun σ2 H2 => tb { D with nx := Pv (i + 1), ct := Pv (i + 1), bk := D.nx } σ2 H2) (hd : ∀ σ H, Pv x.cps.toList.length σ H → D.nx σ H) :
    ∃ W : Nat → Nat → L2.St → Hp → Prop, (∃ m, W 0 m σ H) ∧ ∀ i m σ H, W i m σ H →
      ((Its x).stop i H ∧ D.nx σ H) ∨ ((Its x).go i H ∧ ∃ N : L2.St → Hp → Prop, (∀ σ' H', N σ' H' → ∃ m', m' < m ∧ W (i + 1) m' σ' H') ∧ ∀ v H', (Its x).yld i H v H' → g v σ H' fun σ2 H2 => tb { D with nx := N, ct := N, bk := D.nx } σ2 H2) := by
  have hsz : x.cps.size = x.cps.toList.length := by simp
  refine ⟨fun i m σ H => m = x.cps.size - i ∧ i ≤ x.cps.size ∧ Pv i σ H, ⟨x.cps.size, by simp, Nat.zero_le _, h0⟩, ?_⟩
  rintro i m σ H ⟨rfl, hi, p⟩
  by_cases hlt : i < x.cps.size
  · refine .inr ⟨hlt, Pv (i + 1), fun σ' H' p' => ⟨x.cps.size - (i + 1), by omega, rfl, hlt, p'⟩, fun v H' y => ?_⟩
    obtain ⟨e, c, hc, rfl⟩ := y
    subst e
    exact hs i c σ _ (by simpa using hc) p
  · have e : i = x.cps.toList.length := by omega
    subst e
    exact .inl ⟨by show x.cps.size ≤ _; omega, hd σ H p⟩
end
end U

namespace U
open PySem PySem.Spec PyProof.Rows L2
/-- the built-in names are the built-ins' -/
structure BI (mg : Str → Option Value) : Prop where
  len_ : mg "len" = none
  isinstance_ : mg "isinstance" = none
  all_ : mg "all" = none
  any_ : mg "any" = none
  range_ : mg "range" = none
  int_ : mg "int" = none
  str_ : mg "str" = none
  list_ : mg "list" = none
  tuple_ : mg "tuple" = none
  max_ : mg "max" = none
  min_ : mg "min" = none
  sorted_ : mg "sorted" = none
  repr_ : mg "repr" = none
  enumerate_ : mg "enumerate" = none
  zip_ : mg "zip" = none
  divmod_ : mg "divmod" = none
  sum_ : mg "sum" = none
  reversed_ : mg "reversed" = none
  dict_ : mg "dict" = none
  bool_ : mg "bool" = none
theorem bt_len : bootBuiltins "len" = some (.builtin "len") := by decide +kernel
theorem bt_isinstance : bootBuiltins "isinstance" = some (.builtin "isinstance") := by decide +kernel
theorem bt_all : bootBuiltins "all" = some (.builtin "all") := by decide +kernel
theorem bt_any : bootBuiltins "any" = some (.builtin "any") := by decide +kernel
theorem bt_max : bootBuiltins "max" = some (.builtin "max") := by decide +kernel
theorem bt_min : bootBuiltins "min" = some (.builtin "min") := by decide +kernel
theorem bt_divmod : bootBuiltins "divmod" = some (.builtin "divmod") := by decide +kernel
theorem bt_sum : bootBuiltins "sum" = some (.builtin "sum") := by decide +kernel
theorem bt_sorted : bootBuiltins "sorted" = some (.builtin "sorted") := by decide +kernel
theorem bt_repr : bootBuiltins "repr" = some (.builtin "repr") := by decide +kernel
theorem bt_int : bootBuiltins "int" = some (.type "int") := by decide +kernel
theorem bt_str : bootBuiltins "str" = some (.type "str") := by decide +kernel
theorem bt_list : bootBuiltins "list" = some (.type "list") := by decide +kernel
theorem bt_tuple : bootBuiltins "tuple" = some (.type "tuple") := by decide +kernel
theorem bt_bool : bootBuiltins "bool" = some (.type "bool") := by decide +kernel
theorem bt_dict : bootBuiltins "dict" = some (.type "dict") := by decide +kernel
theorem scope_by {N P : List Str} {sc : Scope} (h : C8.scC N P sc = true) : FnScope N P sc := C8.fnScope_by h
section
variable {X : Cx}
theorem imp_un {f : Value → Sem Value} {r r' : V → Hp → VK → Prop} (h : UnR X f r) (hi : ∀ x H Q, r' x H Q → r x H Q) : UnR X f r' := by
  intro pins s σ H x v Q I rx q
  exact h pins s σ H x v Q I rx (hi _ _ _ q)
def rNeg : V → Hp → VK → Prop := fun x H Q => match x with
  | .int i => Q (.int (-i)) H
  | _ => False
theorem neg : UnR X (unaryOp .USub) rNeg := imp_un un_neg (fun x H Q h => by
  unfold rNeg at h
  split at h
  · exact ⟨_, rfl, h⟩
  · exact h.elim)
/-- truth of texts, lists, numbers -/
def truB (H : Hp) : V → Option Bool
  | .non => some false
  | .bl b => some b
  | .int i => some (i != 0)
  | .str y => if y.cps.toList.length ≤ 16777216 then some (!y.cps.toList.isEmpty) else none
  | .ref p => (match H p with
    | some (.lst xs) => some (!xs.isEmpty)
    | some (.tup xs) => some (!xs.isEmpty)
    | _ => none)
  | _ => none
theorem truB_ok {K : PySem.W.Frag} {H : Hp} {x : V} {k : Bool} (h : truB H x = some k) : TruV K x H k := by
  unfold truB at h
  split at h
  · cases h; rfl
  · cases h; rfl
  · cases h; rfl
  · rename_i y
    split at h
    · cases h
      refine ⟨by rw [line, len_cps]; assumption, ?_⟩
      rw [len_cps]
      cases y.cps.toList <;> rfl
    · cases h
  · split at h <;> cases h
    · exact .inl ⟨_, .inl (.inl (by assumption)), rfl⟩
    · exact .inr (.inl ⟨_, .inl (.inl (by assumption)), rfl⟩)
  · cases h
def tTr (ta : TE) : TT := fun σ H Q => ta σ H fun x H' => ∃ k, truB H' x = some k ∧ Q k H'
theorem pt_tr {a : Expr} {ta : TE} (ha : PE X a ta) (he : ∀ whole, isTrue a X.env whole = (do let v ← whole; standAt a.pos; holding [v] (truthy v))) : PT X a (tTr ta) := by
  refine ⟨fun pins s σ H Q I h => ?_⟩
  exact isTrue_plain (thn (ha.run pins s σ H _ I h) fun v s1 ⟨x, H1, I1, r1, k, e, q1⟩ => tru_ok pins s1 σ H1 x v Q I1 r1 ⟨k, truB_ok e, q1⟩) (he _)
def tOrU (ta tb : TE) : TE := fun σ H Q => ta σ H fun x H1 => ∃ k, truB H1 x = some k ∧ if k = true then Q x H1 else tb σ H1 Q
theorem pe_orU {a b : Expr} {rest : List Expr} {ta tb : TE} {pos : Pos} (ha : PE X a ta) (hb : PE X (.BoolOp .Or (b :: rest) pos) tb) (hm : Mono ta) : PE X (.BoolOp .Or (a :: b :: rest) pos) (tOrU ta tb) :=
  PE.imp (pe_orT ha hb) fun σ H Q q => hm σ H _ _ (fun x H1 ⟨k, e, z⟩ => ⟨k, truB_ok e, z⟩) q
end
/-! ### calls with keywords, without arguments -/
section
variable {P : Program} {w : World} {K : PySem.W.Frag} {mg : Str → Option Value} {base : Heap}
structure KCal (P : Program) (w : World) (K : PySem.W.Frag) (mg : Str → Option Value) (base : Heap) (k : Nat) (x : Str) (sp : Sp) (n : Nat) (ks : List Str) (gV : List V → List V → List V) : Prop where
  ex : ∃ (f : Addr) (fd : FuncData) (ps : List Str) (g : List Value → List Value → List Value), FnOk P w K mg base C8.CX0 k f fd ps sp ∧ mg x = some (.ref f) ∧ PySem.W.keepIn K (.ref f) = true ∧ KBn K fd ps n ks g gV
structure KMak (P : Program) (w : World) (K : PySem.W.Frag) (mg : Str → Option Value) (base : Heap) (k : Nat) (x : Str) (C : Addr) (sp : Sp) (n : Nat) (ks : List Str) (gV : List V → List V → List V) : Prop where
  ex : ∃ (f : Addr) (fd : FuncData) (ps : List Str) (g : List Value → List Value → List Value), Mk K C f ∧ FnOk P w K mg base C8.CX0 k f fd ps sp ∧ mg x = some (.ref C) ∧ KBn K fd ps (n + 1) ks g gV
end
section
variable {X : Cx} {k j n : Nat} {C : Addr} {x : Str} {sp : Sp} {dvs : List V} {p pos : Pos} {e : Expr} {es : List Expr} {kws : List Keyword} {t tk : TA} {ks : List Str} {gV : List V → List V → List V}
theorem pe_c0 (c : C8.Cal X.prog X.w X.K X.mg X.base k x sp dvs) (hr : Room j X.A) (hk : k ≤ j) (hg : Gl X x) (hdb : (x == ("__debug__" : Str)) = false := by decide) : PE X (.Call (.Name x p) [] [] pos) (tCall sp dvs C8.E0 tNil) := by
  obtain ⟨f, fd, ps, ds, F, hm, kp, b, d⟩ := c.ex
  exact pe_call0 F (hr.mono hk) hg hm kp b d C8.pass0 hdb
theorem pe_ck (c : KCal X.prog X.w X.K X.mg X.base k x sp n ks gV) (hr : Room j X.A) (hk : k ≤ j) (hg : Gl X x) (ha : PA X (e :: es) t) (hkw : PK X kws tk)
    (hall : (backToKw pos (keywordEach kws X.env)).all (·.1.isSome) = true := by rfl) (hks : (backToKw pos (keywordEach kws X.env)).filterMap (·.1) = ks := by rfl)
    (hdb : (x == ("__debug__" : Str)) = false := by decide) (he : starEach (e :: es) X.env = (false, eval e X.env) :: starEach es X.env := by rfl)
    (hpl : ((backTo pos (starEach (e :: es) X.env)).any (·.1) || (backToKw pos (keywordEach kws X.env)).any (·.1.isNone)) = false := by rfl) :
    PE X (.Call (.Name x p) (e :: es) kws pos) (tCallN n ks.length sp gV C8.E0 t tk) := by
  obtain ⟨f, fd, ps, g, F, hm, kp, b⟩ := c.ex
  exact pe_callN F (hr.mono hk) hg hm kp b C8.pass0 ha hkw hall hks hdb he hpl
theorem pe_mkk (c : KMak X.prog X.w X.K X.mg X.base k x C sp n ks gV) (hr : Room j X.A) (hk : k + 1 ≤ j) (hg : Gl X x) (ha : PA X (e :: es) t) (hkw : PK X kws tk)
    (hall : (backToKw pos (keywordEach kws X.env)).all (·.1.isSome) = true := by rfl) (hks : (backToKw pos (keywordEach kws X.env)).filterMap (·.1) = ks := by rfl)
    (hdb : (x == ("__debug__" : Str)) = false := by decide) (he : starEach (e :: es) X.env = (false, eval e X.env) :: starEach es X.env := by rfl)
    (hpl : ((backTo pos (starEach (e :: es) X.env)).any (·.1) || (backToKw pos (keywordEach kws X.env)).any (·.1.isNone)) = false := by rfl) :
    PE X (.Call (.Name x p) (e :: es) kws pos) (tMakeN C n ks.length sp gV C8.E0 t tk) := by
  obtain ⟨f, fd, ps, g, M, F, hm, b⟩ := c.ex
  exact pe_makeN M F (hr.mono hk) hg hm b C8.pass0 ha hkw hall hks hdb he hpl
end
/-! ### promises by the number of arguments -/
def sp0 (f : Hp → VK → XK → Prop) : Sp := fun vs H Q E => vs = [] ∧ f H Q E
theorem sp0_at {f : Hp → VK → XK → Prop} {H : Hp} {Q : VK} {E : XK} : sp0 f [] H Q E = f H Q E := propext ⟨fun h => h.2, fun h => ⟨rfl, h⟩⟩
def sp1 (f : V → Hp → VK → XK → Prop) : Sp := fun vs H Q E => ∃ a0, vs = [a0] ∧ f a0 H Q E
theorem sp1_at {f : V → Hp → VK → XK → Prop} {a0 : V} {H : Hp} {Q : VK} {E : XK} : sp1 f [a0] H Q E = f a0 H Q E := propext ⟨fun ⟨_, e, h⟩ => by cases e; exact h, fun h => ⟨_, rfl, h⟩⟩
def sp2 (f : V → V → Hp → VK → XK → Prop) : Sp := fun vs H Q E => ∃ a0 a1, vs = [a0, a1] ∧ f a0 a1 H Q E
theorem sp2_at {f : V → V → Hp → VK → XK → Prop} {a0 a1 : V} {H : Hp} {Q : VK} {E : XK} : sp2 f [a0, a1] H Q E = f a0 a1 H Q E := propext ⟨fun ⟨_, _, e, h⟩ => by cases e; exact h, fun h => ⟨_, _, rfl, h⟩⟩
def sp3 (f : V → V → V → Hp → VK → XK → Prop) : Sp := fun vs H Q E => ∃ a0 a1 a2, vs = [a0, a1, a2] ∧ f a0 a1 a2 H Q E
theorem sp3_at {f : V → V → V → Hp → VK → XK → Prop} {a0 a1 a2 : V} {H : Hp} {Q : VK} {E : XK} : sp3 f [a0, a1, a2] H Q E = f a0 a1 a2 H Q E := propext ⟨fun ⟨_, _, _, e, h⟩ => by cases e; exact h, fun h => ⟨_, _, _, rfl, h⟩⟩
def sp4 (f : V → V → V → V → Hp → VK → XK → Prop) : Sp := fun vs H Q E => ∃ a0 a1 a2 a3, vs = [a0, a1, a2, a3] ∧ f a0 a1 a2 a3 H Q E
theorem sp4_at {f : V → V → V → V → Hp → VK → XK → Prop} {a0 a1 a2 a3 : V} {H : Hp} {Q : VK} {E : XK} : sp4 f [a0, a1, a2, a3] H Q E = f a0 a1 a2 a3 H Q E := propext ⟨fun ⟨_, _, _, _, e, h⟩ => by cases e; exact h, fun h => ⟨_, _, _, _, rfl, h⟩⟩
def sp5 (f : V → V → V → V → V → Hp → VK → XK → Prop) : Sp := fun vs H Q E => ∃ a0 a1 a2 a3 a4, vs = [a0, a1, a2, a3, a4] ∧ f a0 a1 a2 a3 a4 H Q E
theorem sp5_at {f : V → V → V → V → V → Hp → VK → XK → Prop} {a0 a1 a2 a3 a4 : V} {H : Hp} {Q : VK} {E : XK} : sp5 f [a0, a1, a2, a3, a4] H Q E = f a0 a1 a2 a3 a4 H Q E := propext ⟨fun ⟨_, _, _, _, _, e, h⟩ => by cases e; exact h, fun h => ⟨_, _, _, _, _, rfl, h⟩⟩
def sp6 (f : V → V → V → V → V → V → Hp → VK → XK → Prop) : Sp := fun vs H Q E => ∃ a0 a1 a2 a3 a4 a5, vs = [a0, a1, a2, a3, a4, a5] ∧ f a0 a1 a2 a3 a4 a5 H Q E
theorem sp6_at {f : V → V → V → V → V → V → Hp → VK → XK → Prop} {a0 a1 a2 a3 a4 a5 : V} {H : Hp} {Q : VK} {E : XK} : sp6 f [a0, a1, a2, a3, a4, a5] H Q E = f a0 a1 a2 a3 a4 a5 H Q E := propext ⟨fun ⟨_, _, _, _, _, _, e, h⟩ => by cases e; exact h, fun h => ⟨_, _, _, _, _, _, rfl, h⟩⟩
def sp7 (f : V → V → V → V → V → V → V → Hp → VK → XK → Prop) : Sp := fun vs H Q E => ∃ a0 a1 a2 a3 a4 a5 a6, vs = [a0, a1, a2, a3, a4, a5, a6] ∧ f a0 a1 a2 a3 a4 a5 a6 H Q E
theorem sp7_at {f : V → V → V → V → V → V → V → Hp → VK → XK → Prop} {a0 a1 a2 a3 a4 a5 a6 : V} {H : Hp} {Q : VK} {E : XK} : sp7 f [a0, a1, a2, a3, a4, a5, a6] H Q E = f a0 a1 a2 a3 a4 a5 a6 H Q E := propext ⟨fun ⟨_, _, _, _, _, _, _, e, h⟩ => by cases e; exact h, fun h => ⟨_, _, _, _, _, _, _, rfl, h⟩⟩
/-! ### how readings reduce -/
section
variable {σ : L2.St} {H H' : Hp} {Q : VK} {v : V} {D : Ends}
theorem tVar_0 : tVar 0 (some v :: σ) H Q = Q v H := by
  apply propext; constructor
  · rintro ⟨u, e, q⟩
    have e : some v = some u := Option.some.inj e
    cases e; exact q
  · intro q; exact ⟨v, rfl, q⟩
theorem tVar_s {o : Option V} {i : Nat} : tVar (i + 1) (o :: σ) H Q = tVar i σ H Q := rfl
theorem set_0 {α : Type} {a b : α} {l : List α} : (a :: l).set 0 b = b :: l := rfl
theorem set_s {α : Type} {a b : α} {l : List α} {i : Nat} : (a :: l).set (i + 1) b = a :: l.set i b := rfl
theorem wipe_nil : wipe σ [] = σ := rfl
/-- a list's word between two turns of a for -/
theorem ex_eq {α : Sort _} {a : α} {p : α → Prop} : (∃ x, a = x ∧ p x) = p a := by
  apply propext; constructor
  · rintro ⟨x, rfl, h⟩; exact h
  · intro h; exact ⟨a, rfl, h⟩
end
theorem atI_in {α : Type} {xs : List α} {i : Int} (h0 : 0 ≤ i) (h1 : i < xs.length) : ∃ c, c ∈ xs ∧ atI xs i = some c := by
  obtain ⟨n, rfl⟩ := Int.eq_ofNat_of_zero_le h0
  have hn : n < xs.length := by omega
  exact ⟨xs[n], List.getElem_mem hn, atI_nat (List.getElem?_eq_getElem hn)⟩
theorem atI_0 {α : Type} {a : α} {l : List α} : atI (a :: l) 0 = some a := atI_nat (j := 0) rfl
theorem ixN_0 {n : Nat} : ixN (n + 1) 0 = some 0 := by
  unfold ixN
  rw [if_pos (by decide), if_pos (by omega)]; rfl
end U

namespace U
open PySem PySem.Spec PyProof.Rows L2
/-- what is read, if it is there -/
def optE {α : Type} (o : Option α) (k : α → Prop) : Prop := ∃ a, o = some a ∧ k a
theorem optE_some {α : Type} {a : α} {k : α → Prop} : optE (some a) k = k a := propext ⟨fun ⟨b, e, h⟩ => by cases e; exact h, fun h => ⟨a, rfl, h⟩⟩
theorem optE_of {α : Type} {o : Option α} {a : α} {k : α → Prop} (h : o = some a) (q : k a) : optE o k := ⟨a, h, q⟩
section
variable {σ : L2.St} {H H' : Hp} {Q : VK} {v x y : V} {i j : Int} {a b : Str} {p q : Addr} {bb c : Bool} {T : String} {n m : Nat} {l l' : List Nat}
/-! ### the rules, by kinds of values -/
theorem e_add1 : rAdd (.int i) (.int j) H Q = Q (.int (i + j)) H := rfl
theorem e_add2 : rAdd (.str a) (.str b) H Q = (a.cps.toList.length + b.cps.toList.length ≤ 16777216 ∧ Q (sv (a.cps.toList ++ b.cps.toList)) H) := rfl
def lstOf : HO → Option (List V)
  | .lst xs => some xs
  | _ => none
theorem lstOf_some {o : HO} {xs : List V} (h : lstOf o = some xs) : o = .lst xs := by cases o <;> cases h; rfl
theorem lstOf_bind {xs : List V} (h : (H p).bind lstOf = some xs) : H p = some (.lst xs) := by
  cases e : H p with
  | none => rw [e] at h; cases h
  | some o => rw [e] at h; rw [lstOf_some h]
theorem bind_lst {xs : List V} (h : H p = some (.lst xs)) : (H p).bind lstOf = some xs := by rw [h]; rfl
theorem e_add3 : rAdd (.ref p) (.ref q) H Q = optE ((H p).bind lstOf) fun xs => optE ((H q).bind lstOf) fun ys => xs.length + ys.length ≤ 16777216 ∧ ∀ r, H r = none → Q (.ref r) (upd H r (.lst (xs ++ ys))) := by
  apply propext; constructor
  · rintro ⟨xs, ys, h1, h2, h3, h4⟩; exact ⟨xs, bind_lst h1, ys, bind_lst h2, h3, h4⟩
  · rintro ⟨xs, h1, ys, h2, h3, h4⟩; exact ⟨xs, ys, lstOf_bind h1, lstOf_bind h2, h3, h4⟩
theorem e_sub : rSub (.int i) (.int j) H Q = Q (.int (i - j)) H := rfl
theorem e_mul : rMul (.int i) (.int j) H Q = (MulOk i j ∧ Q (.int (i * j)) H) := rfl
theorem e_mul2 : rMul (.ref p) (.int i) H Q = optE ((H p).bind lstOf) fun xs => 0 ≤ i ∧ i < 2 ^ 63 ∧ xs.length * i.toNat ≤ 16777216 ∧ ∀ r, H r = none → Q (.ref r) (upd H r (.lst (List.replicate i.toNat xs).flatten)) := by
  apply propext; constructor
  · rintro ⟨xs, h1, h2⟩; exact ⟨xs, bind_lst h1, h2⟩
  · rintro ⟨xs, h1, h2⟩; exact ⟨xs, lstOf_bind h1, h2⟩
theorem e_mod : rMod (.int i) (.int j) H Q = (0 < j ∧ Q (.int (i % j)) H) := rfl
theorem e_div : rDiv (.int i) (.int j) H Q = ((0 < j ∧ j < 2 ^ 8000) ∧ Q (.int (i / j)) H) := rfl
theorem e_pow : rPow (.int i) (.int j) H Q = (CPow i j ∧ Q (.int (i ^ j.toNat)) H) := rfl
theorem e_lt1 : rLt (.int i) (.int j) H Q = Q (.bl (decide (i < j))) H := rfl
theorem e_lt2 : rLt (.str a) (.str b) H Q = Q (.bl (strLt a.cps.toList b.cps.toList)) H := rfl
theorem e_le1 : rLe (.int i) (.int j) H Q = Q (.bl (decide (i ≤ j))) H := rfl
theorem e_le2 : rLe (.str a) (.str b) H Q = Q (.bl (!strLt b.cps.toList a.cps.toList)) H := rfl
theorem e_gt1 : rGt (.int i) (.int j) H Q = Q (.bl (decide (j < i))) H := rfl
theorem e_gt2 : rGt (.str a) (.str b) H Q = Q (.bl (strLt b.cps.toList a.cps.toList)) H := rfl
theorem e_ge1 : rGe (.int i) (.int j) H Q = Q (.bl (decide (j ≤ i))) H := rfl
theorem e_ge2 : rGe (.str a) (.str b) H Q = Q (.bl (!strLt a.cps.toList b.cps.toList)) H := rfl
theorem e_eqo : rEq x y H Q = optE (eqS x y) fun b => Q (.bl b) H := rfl
theorem e_neo : rNe x y H Q = optE (eqS x y) fun b => Q (.bl (!b)) H := rfl
theorem s_1 : eqS .non .non = some true := rfl
theorem s_2 : eqS .non (.int i) = some false := rfl
theorem s_3 : eqS (.int i) .non = some false := rfl
theorem s_4 : eqS .non (.str a) = some false := rfl
theorem s_5 : eqS (.str a) .non = some false := rfl
theorem s_6 : eqS (.int i) (.int j) = some (decide (i = j)) := rfl
theorem s_7 : eqS (.bl bb) (.bl c) = some (bb == c) := rfl
theorem s_8 : eqS (.str a) (.str b) = some (decide (a.cps.toList = b.cps.toList)) := rfl
theorem s_9 : eqS (.int i) (.str b) = some false := rfl
theorem s_10 : eqS (.str a) (.int j) = some false := rfl
theorem s_11 : eqS (.bl bb) (.str b) = some false := rfl
theorem s_12 : eqS .non (.bl bb) = some false := rfl
theorem s_13 : eqS (.bl bb) .non = some false := rfl
theorem s_14 : eqS (.str a) (.bl bb) = some false := rfl
theorem e_is : rIs x .non H Q = Q (.bl (decide (x = .non))) H := propext ⟨fun h => h.2, fun h => ⟨rfl, h⟩⟩
theorem e_isn : rIsNot x .non H Q = Q (.bl (!decide (x = .non))) H := propext ⟨fun h => h.2, fun h => ⟨rfl, h⟩⟩
def oneOf : List Nat → Option Nat
  | [c] => some c
  | _ => none
theorem oneOf_some {l : List Nat} {c : Nat} (h : oneOf l = some c) : l = [c] := by
  unfold oneOf at h
  split at h
  · cases h; rfl
  · cases h
theorem e_in1 : rIn (.str a) (.str b) H Q = optE (oneOf a.cps.toList) fun c => Q (.bl (decide (c ∈ b.cps.toList))) H := by
  apply propext; constructor
  · rintro ⟨c, h1, h2⟩; exact ⟨c, by rw [h1]; rfl, h2⟩
  · rintro ⟨c, h1, h2⟩; exact ⟨c, oneOf_some h1, h2⟩
theorem e_nin1 : rNotIn (.str a) (.str b) H Q = optE (oneOf a.cps.toList) fun c => Q (.bl (!decide (c ∈ b.cps.toList))) H := by
  apply propext; constructor
  · rintro ⟨c, h1, h2⟩; exact ⟨c, by rw [h1]; rfl, h2⟩
  · rintro ⟨c, h1, h2⟩; exact ⟨c, oneOf_some h1, h2⟩
theorem e_in2 : rIn x (.ref p) H Q = optE ((H p).bind seqOf) fun xs => flatV x = true ∧ xs.all flatV = true ∧ Q (.bl (inV x xs)) H := by
  cases x <;> rfl
theorem e_nin2 : rNotIn x (.ref p) H Q = optE ((H p).bind seqOf) fun xs => flatV x = true ∧ xs.all flatV = true ∧ Q (.bl (!inV x xs)) H := by
  cases x <;> rfl
theorem e_one : oneOf [n] = some n := rfl
theorem e_ix1 : rIx (.str a) (.int i) H Q = (a.cps.toList.length ≤ 16777216 ∧ optE (atI a.cps.toList i) fun c => Q (sv [c]) H) := rfl
theorem e_ix2 : rIx (.ref p) (.int i) H Q = optE ((H p).bind seqOf) fun xs => optE (atI xs i) fun v => Q v H := rfl
variable {lo hi : Option Int}
theorem e_sl1 : rSl (.str a) lo hi H Q = (a.cps.toList.length ≤ 16777216 ∧ Q (sv (cutL a.cps.toList lo hi)) H) := rfl
/-- a cut of what stands there -/
def slO (o : Option HO) (p : Addr) (lo hi : Option Int) (H : Hp) (Q : VK) : Prop := match o with
  | some (.lst xs) => ∀ r, H r = none → Q (.ref r) (upd H r (.lst (cutL xs lo hi)))
  | some (.frz _ (.lst xs)) => ∀ r, H r = none → Q (.ref r) (upd H r (.lst (cutL xs lo hi)))
  | some (.tup xs) => (cutL xs lo hi = xs → Q (.ref p) H) ∧ ∀ r, H r = none → Q (.ref r) (upd H r (.tup (cutL xs lo hi)))
  | _ => False
theorem e_sl2 : rSl (.ref p) lo hi H Q = slO (H p) p lo hi H Q := by
  unfold slO
  apply propext; constructor
  · rintro (⟨xs, h1 | ⟨o, h1⟩, h2⟩ | ⟨xs, h1, h2⟩)
    · rw [h1]; exact h2
    · rw [h1]; exact h2
    · rw [h1]; exact h2
  · intro h
    split at h
    · rename_i xs e; exact .inl ⟨xs, .inl e, h⟩
    · rename_i o xs e; exact .inl ⟨xs, .inr ⟨o, e⟩, h⟩
    · rename_i xs e; exact .inr ⟨xs, e, h⟩
    · exact h.elim
theorem e_slo1 {xs : List V} : slO (some (.lst xs)) p lo hi H Q = ∀ r, H r = none → Q (.ref r) (upd H r (.lst (cutL xs lo hi))) := rfl
theorem e_slo2 {xs : List V} {o : Obj} : slO (some (.frz o (.lst xs))) p lo hi H Q = ∀ r, H r = none → Q (.ref r) (upd H r (.lst (cutL xs lo hi))) := rfl
theorem e_slo3 {xs : List V} : slO (some (.tup xs)) p lo hi H Q = ((cutL xs lo hi = xs → Q (.ref p) H) ∧ ∀ r, H r = none → Q (.ref r) (upd H r (.tup (cutL xs lo hi)))) := rfl
theorem e_len1 : rLen [.str a] H Q = (a.cps.toList.length ≤ 16777216 ∧ Q (.int a.cps.toList.length) H) := rfl
theorem e_len2 : rLen [.ref p] H Q = optE ((H p).bind seqOf) fun xs => Q (.int xs.length) H := rfl
theorem e_isi1 : rIsi [x, .ty T] H Q = optE (tyB H x) fun t => optE (isB t T) fun b => Q (.bl b) H := by
  apply propext; constructor
  · rintro ⟨t, h1, b, h2, h3⟩; exact ⟨t, h1, b, h2, h3⟩
  · rintro ⟨t, h1, b, h2, h3⟩; exact ⟨t, h1, b, h2, h3⟩
def tupOf : HO → Option (List V)
  | .tup xs => some xs
  | _ => none
theorem tupOf_some {o : HO} {xs : List V} (h : tupOf o = some xs) : o = .tup xs := by cases o <;> cases h; rfl
theorem tupOf_bind {xs : List V} (h : (H p).bind tupOf = some xs) : H p = some (.tup xs) := by
  cases e : H p with
  | none => rw [e] at h; cases h
  | some o => rw [e] at h; rw [tupOf_some h]
theorem bind_tup {xs : List V} (h : H p = some (.tup xs)) : (H p).bind tupOf = some xs := by rw [h]; rfl
theorem e_isi2 : rIsi [x, .ref p] H Q = optE ((H p).bind tupOf) fun cs => optE (tyB H x) fun t => optE (isAny t cs) fun b => Q (.bl b) H := by
  apply propext; constructor
  · rintro ⟨cs, h0, t, h1, b, h2, h3⟩; exact ⟨cs, bind_tup h0, t, h1, b, h2, h3⟩
  · rintro ⟨cs, h0, t, h1, b, h2, h3⟩; exact ⟨cs, tupOf_bind h0, t, h1, b, h2, h3⟩
theorem t_non : tyB H .non = some "NoneType" := rfl
theorem t_bl : tyB H (.bl bb) = some "bool" := rfl
theorem t_int : tyB H (.int i) = some "int" := rfl
theorem t_str : tyB H (.str a) = some "str" := rfl
def tyO : HO → Option String
  | .lst _ => some "list"
  | .tup _ => some "tuple"
  | .dK _ => some "dict"
  | .dT _ => some "dict"
  | .frz _ (.lst _) => some "list"
  | _ => none
theorem t_ref : tyB H (.ref p) = (H p).bind tyO := by
  show (match H p with
    | some (.lst _) => some "list"
    | some (.tup _) => some "tuple"
    | some (.dK _) => some "dict"
    | some (.dT _) => some "dict"
    | some (.frz _ (.lst _)) => some "list"
    | _ => none) = (H p).bind tyO
  cases H p with
  | none => rfl
  | some o =>
    cases o <;> first | rfl | (rename_i ob u; cases u <;> rfl)
theorem t_lst {xs : List V} : tyO (.lst xs) = some "list" := rfl
theorem t_tup {xs : List V} : tyO (.tup xs) = some "tuple" := rfl
theorem t_dK {kvs : List (Key × V)} : tyO (.dK kvs) = some "dict" := rfl
theorem q_lst {xs : List V} : seqOf (.lst xs) = some xs := rfl
theorem q_tup {xs : List V} : seqOf (.tup xs) = some xs := rfl
theorem q_frz {xs : List V} {o : Obj} : seqOf (.frz o (.lst xs)) = some xs := rfl
theorem l_lst {xs : List V} : lstOf (.lst xs) = some xs := rfl
theorem l_tup {xs : List V} : tupOf (.tup xs) = some xs := rfl
theorem e_max : rMax [.int i, .int j] H Q = Q (.int (max i j)) H := rfl
theorem e_min : rMin [.int i, .int j] H Q = Q (.int (min i j)) H := rfl
theorem e_str : rStr [.int i] H Q = ((0 ≤ i ∧ i < 2 ^ 1900) ∧ Q (sv (numL i.toNat)) H) := rfl
theorem e_int1 : rInt [.int i] H Q = Q (.int i) H := rfl
theorem e_int2 : rInt [.bl bb] H Q = Q (.int (if bb then 1 else 0)) H := rfl
theorem e_int3 : rInt [.str a] H Q = ((digs a.cps.toList = true ∧ a.cps.toList ≠ [] ∧ a.cps.toList.length ≤ 640) ∧ Q (.int (valL a.cps.toList)) H) := rfl
theorem e_list : rList [.ref p] H Q = optE ((H p).bind seqOf) fun xs => ∀ r, H r = none → Q (.ref r) (upd H r (.lst xs)) := rfl
/-- tuple(x) of what stands there -/
def tupleO (o : Option HO) (p : Addr) (H : Hp) (Q : VK) : Prop := match o with
  | some (.lst xs) => ∀ r, H r = none → Q (.ref r) (upd H r (.tup xs))
  | some (.tup _) => Q (.ref p) H
  | _ => False
theorem e_tuple : rTuple [.ref p] H Q = tupleO (H p) p H Q := by
  unfold tupleO
  apply propext; constructor
  · rintro (⟨xs, h1, h2⟩ | ⟨xs, h1, h2⟩)
    · rw [h1]; exact h2
    · rw [h1]; exact h2
  · intro h
    split at h
    · rename_i xs e; exact .inl ⟨xs, e, h⟩
    · rename_i xs e; exact .inr ⟨xs, e, h⟩
    · exact h.elim
theorem e_tuple1 {xs : List V} : tupleO (some (.lst xs)) p H Q = ∀ r, H r = none → Q (.ref r) (upd H r (.tup xs)) := rfl
theorem e_tuple2 {xs : List V} : tupleO (some (.tup xs)) p H Q = Q (.ref p) H := rfl
theorem e_divmod : rDivmod [.int i, .int j] H Q = ((0 < j ∧ j < 2 ^ 8000) ∧ ∀ r, H r = none → Q (.ref r) (upd H r (.tup [.int (i / j), .int (i % j)]))) := rfl
theorem e_append : rAppend (.ref p) [y] H Q = optE ((H p).bind lstOf) fun xs => xs.length < 16777216 ∧ Q .non (upd H p (.lst (xs ++ [y]))) := by
  apply propext; constructor
  · rintro ⟨xs, h1, h2⟩; exact ⟨xs, bind_lst h1, h2⟩
  · rintro ⟨xs, h1, h2⟩; exact ⟨xs, lstOf_bind h1, h2⟩
/-- a list or tuple that is not locked -/
def seqU : HO → Option (List V)
  | .lst xs => some xs
  | .tup xs => some xs
  | _ => none
theorem u_lst {xs : List V} : seqU (.lst xs) = some xs := rfl
theorem u_tup {xs : List V} : seqU (.tup xs) = some xs := rfl
theorem seqU_bind {xs : List V} (h : (H p).bind seqU = some xs) : H p = some (.lst xs) ∨ H p = some (.tup xs) := by
  cases e : H p with
  | none => rw [e] at h; cases h
  | some o =>
    rw [e] at h
    have h : seqU o = some xs := h
    cases o <;> cases h
    · exact .inl rfl
    · exact .inr rfl
theorem e_extend : rExtend (.ref p) [.ref q] H Q = optE ((H p).bind lstOf) fun xs => optE ((H q).bind seqU) fun ys => xs.length + ys.length ≤ 16777216 ∧ Q .non (upd H p (.lst (xs ++ ys))) := by
  apply propext; constructor
  · rintro ⟨xs, ys, h1, h2, h3⟩
    refine ⟨xs, bind_lst h1, ys, ?_, h3⟩
    rcases h2 with h2 | h2 <;> rw [h2] <;> rfl
  · rintro ⟨xs, h1, ys, h2, h3⟩; exact ⟨xs, ys, lstOf_bind h1, seqU_bind h2, h3⟩
theorem e_pop : rPop (.ref p) [] H Q = optE ((H p).bind lstOf) fun xs => optE xs.getLast? fun y => Q y (upd H p (.lst xs.dropLast)) := by
  apply propext; constructor
  · rintro ⟨xs, y, h1, h2, h3⟩; exact ⟨xs, bind_lst h1, y, h2, h3⟩
  · rintro ⟨xs, h1, y, h2, h3⟩; exact ⟨xs, y, lstOf_bind h1, h2, h3⟩
theorem e_rstrip : rRstrip (.str a) [.str b] H Q = (a.cps.toList.length ≤ 16777216 ∧ Q (.str (Txt.rstripChars a b)) H) := rfl
theorem e_zfill : rZfill (.str a) [.int i] H Q = (PadOk i = true ∧ Q (.str (Txt.zfill a i)) H) := rfl
/-- a list of texts -/
def strsOf : List V → Option (List (List Nat))
  | [] => some []
  | .str a :: r => (strsOf r).map fun l => a.cps.toList :: l
  | _ => none
theorem strsOf_some : ∀ {xs : List V} {ys : List (List Nat)}, strsOf xs = some ys → xs = ys.map sv
  | [], ys, h => by cases h; rfl
  | .str a :: r, ys, h => by
    have h : (strsOf r).map (fun l => a.cps.toList :: l) = some ys := h
    cases e : strsOf r with
    | none => rw [e] at h; cases h
    | some zs => rw [e] at h; cases h; rw [strsOf_some e, sv_of]; rfl
  | .non :: _, _, h => by cases h
  | .bl _ :: _, _, h => by cases h
  | .int _ :: _, _, h => by cases h
  | .byt _ :: _, _, h => by cases h
  | .flt _ :: _, _, h => by cases h
  | .ref _ :: _, _, h => by cases h
  | .ty _ :: _, _, h => by cases h
theorem strsOf_map : ∀ (ys : List (List Nat)), strsOf (ys.map sv) = some ys
  | [] => rfl
  | l :: r => by
    show (strsOf (r.map sv)).map (fun z => l :: z) = some (l :: r)
    rw [strsOf_map r]; rfl
theorem strsOf_nil : strsOf [] = some [] := rfl
theorem strsOf_cons {r : List V} : strsOf (.str a :: r) = (strsOf r).map fun l => a.cps.toList :: l := rfl
theorem strsOf_app {r : List V} {ys zs : List (List Nat)} (h : strsOf r = some zs) : strsOf (ys.map sv ++ r) = some (ys ++ zs) := by
  rw [strsOf_some h, ← List.map_append, strsOf_map]
theorem e_join : rJoin (.str a) [.ref p] H Q = optE ((H p).bind seqU) fun xs => optE (strsOf xs) fun ys => (ys.map List.length).sum + ys.length * a.cps.toList.length ≤ 16777216 ∧ Q (sv (TL.joinL a.cps.toList ys)) H := by
  apply propext; constructor
  · rintro ⟨ys, h1, h2⟩
    refine ⟨ys.map sv, ?_, ys, strsOf_map ys, h2⟩
    rcases h1 with h1 | h1 <;> rw [h1] <;> rfl
  · rintro ⟨xs, h1, ys, h2, h3⟩
    rw [strsOf_some h2] at h1
    exact ⟨ys, seqU_bind h1, h3⟩
theorem e_fmt1 : rFmt (.str a) H Q = (a.cps.toList.length ≤ 16777216 ∧ Q (sv a.cps.toList) H) := rfl
theorem e_fmt2 : rFmt (.int i) H Q = ((0 ≤ i ∧ i < 2 ^ 1900) ∧ Q (sv (numL i.toNat)) H) := rfl
theorem e_js0 {acc : List Nat} {Q : List Nat → Hp → Prop} : uJs [] acc σ H Q = Q acc H := rfl
def strOf : V → Option (List Nat)
  | .str a => some a.cps.toList
  | _ => none
theorem strOf_str : strOf (.str a) = some a.cps.toList := rfl
theorem e_js1 {t : TE} {ts : List TE} {acc : List Nat} {Q : List Nat → Hp → Prop} : uJs (t :: ts) acc σ H Q = t σ H fun x H1 => optE (strOf x) fun y => acc.length + y.length ≤ 16777216 ∧ uJs ts (acc ++ y) σ H1 Q := by
  have e : ∀ (x : V) (H1 : Hp), (∃ y : Str, x = .str y ∧ acc.length + y.cps.toList.length ≤ 16777216 ∧ uJs ts (acc ++ y.cps.toList) σ H1 Q) = optE (strOf x) fun y => acc.length + y.length ≤ 16777216 ∧ uJs ts (acc ++ y) σ H1 Q := by
    intro x H1
    apply propext; constructor
    · rintro ⟨y, rfl, h⟩; exact ⟨_, rfl, h⟩
    · rintro ⟨y, h1, h2⟩
      cases x <;> cases h1
      exact ⟨_, rfl, h2⟩
  show (t σ H fun x H1 => ∃ y : Str, x = .str y ∧ acc.length + y.cps.toList.length ≤ 16777216 ∧ uJs ts (acc ++ y.cps.toList) σ H1 Q) = _
  congr 1
  funext x H1
  exact e x H1
theorem e_set {R : Hp → Prop} : rSet (.ref p) (.int i) v H R = optE ((H p).bind lstOf) fun xs => optE (ixN xs.length i) fun j => R (upd H p (.lst (xs.set j v))) := by
  apply propext; constructor
  · rintro ⟨xs, h1, h2⟩; exact ⟨xs, bind_lst h1, h2⟩
  · rintro ⟨xs, h1, h2⟩; exact ⟨xs, lstOf_bind h1, h2⟩
theorem e_get : rGet (.ref p) (.int i) H Q = optE ((H p).bind lstOf) fun xs => 0 ≤ i ∧ optE (xs[i.toNat]?) fun v => Q v H := by
  apply propext; constructor
  · rintro ⟨xs, h1, h2⟩; exact ⟨xs, bind_lst h1, h2⟩
  · rintro ⟨xs, h1, h2⟩; exact ⟨xs, lstOf_bind h1, h2⟩
theorem e_ipa1 : ipAdd (.int i) (.int j) H Q = Q (.int (i + j)) H := rfl
theorem e_ipa2 : ipAdd (.str a) (.str b) H Q = (a.cps.toList.length + b.cps.toList.length ≤ 16777216 ∧ Q (sv (a.cps.toList ++ b.cps.toList)) H) := rfl
theorem e_ips : ipSub (.int i) (.int j) H Q = Q (.int (i - j)) H := rfl
theorem e_neg : rNeg (.int i) H Q = Q (.int (-i)) H := rfl
theorem e_tr {ta : TE} {R : Bool → Hp → Prop} : tTr ta σ H R = ta σ H fun x H' => optE (truB H' x) fun k => R k H' := rfl
theorem e_or {ta tb : TE} : tOrU ta tb σ H Q = ta σ H fun x H1 => optE (truB H1 x) fun k => if k = true then Q x H1 else tb σ H1 Q := rfl
theorem b_non : truB H .non = some false := rfl
theorem b_bl : truB H (.bl bb) = some bb := rfl
theorem b_int : truB H (.int i) = some (i != 0) := rfl
theorem b_str (h : a.cps.toList.length ≤ 16777216) : truB H (.str a) = some (!a.cps.toList.isEmpty) := if_pos h
theorem b_lst {xs : List V} (h : H p = some (.lst xs)) : truB H (.ref p) = some (!xs.isEmpty) := by
  show (match H p with
    | some (.lst xs) => some (!xs.isEmpty)
    | some (.tup xs) => some (!xs.isEmpty)
    | _ => none) = _
  rw [h]
theorem isL_ref : isL (.ref p) H = ((H p).bind lstOf).isSome := by
  apply propext; constructor
  · rintro ⟨xs, e⟩; rw [e]; rfl
  · intro h
    cases e : (H p).bind lstOf with
    | none => rw [e] at h; cases h
    | some xs => exact ⟨xs, lstOf_bind e⟩
theorem isS_str : isS (.str a) = True := rfl
def blOf : V → Option Bool
  | .bl b => some b
  | _ => none
theorem blOf_bl : blOf (.bl bb) = some bb := rfl
theorem bl_ex {R : Bool → Prop} : (∃ c, x = .bl c ∧ R c) = optE (blOf x) R := by
  apply propext; constructor
  · rintro ⟨c, rfl, h⟩; exact ⟨c, rfl, h⟩
  · rintro ⟨c, h1, h2⟩
    cases x <;> cases h1
    exact ⟨_, rfl, h2⟩
theorem e_test {t : TE} {R : Bool → Hp → Prop} : tTest t σ H R = t σ H fun x H' => optE (blOf x) fun k => R k H' := by
  show (t σ H fun x H' => ∃ k, x = .bl k ∧ R k H') = _
  congr 1; funext x H'; exact bl_ex
theorem e_tB {t : TE} {R : Bool → Hp → Prop} : tB t σ H R = t σ H fun x H' => optE (blOf x) fun k => R k H' := by
  show (t σ H fun x H' => ∃ k, x = .bl k ∧ R k H') = _
  congr 1; funext x H'; exact bl_ex
theorem e_andV {ta tb : TE} : tAndV ta tb σ H Q = ta σ H fun x H1 => optE (blOf x) fun c => if c = true then tb σ H1 Q else Q (.bl false) H1 := by
  show (ta σ H fun x H1 => ∃ c, x = .bl c ∧ if c = true then tb σ H1 Q else Q (.bl false) H1) = _
  congr 1; funext x H'; exact bl_ex
theorem e_orV {ta tb : TE} : tOrV ta tb σ H Q = ta σ H fun x H1 => optE (blOf x) fun c => if c = true then Q (.bl true) H1 else tb σ H1 Q := by
  show (ta σ H fun x H1 => ∃ c, x = .bl c ∧ if c = true then Q (.bl true) H1 else tb σ H1 Q) = _
  congr 1; funext x H'; exact bl_ex
theorem e_notV {ta : TE} : tNotV ta σ H Q = ta σ H fun x H1 => optE (blOf x) fun c => Q (.bl (!c)) H1 := by
  show (ta σ H fun x H1 => ∃ c, x = .bl c ∧ Q (.bl (!c)) H1) = _
  congr 1; funext x H'; exact bl_ex
theorem e_chain {r r' : R2} {ta tb tc : TE} : tChain r r' ta tb tc σ H Q = ta σ H fun x H1 => tb σ H1 fun y H2 => r x y H2 fun z H3 => optE (blOf z) fun k => if k = true then tc σ H3 fun w' H4 => r' y w' H4 Q else Q (.bl false) H3 := by
  show (ta σ H fun x H1 => tb σ H1 fun y H2 => r x y H2 fun z H3 => ∃ k, z = .bl k ∧ (if k = true then tc σ H3 fun w' H4 => r' y w' H4 Q else Q (.bl false) H3)) = _
  congr 1; funext x H1; congr 1; funext y H2; congr 1; funext z H3; exact bl_ex
def intOf : V → Option Int
  | .int i => some i
  | _ => none
theorem intOf_int : intOf (.int i) = some i := rfl
theorem e_part {t : TE} {R : Option Int → Hp → Prop} : tPart t σ H R = t σ H fun x H1 => optE (intOf x) fun i => R (some i) H1 := by
  show (t σ H fun x H1 => ∃ i, x = .int i ∧ R (some i) H1) = _
  congr 1; funext x H1
  apply propext; constructor
  · rintro ⟨c, rfl, h⟩; exact ⟨c, rfl, h⟩
  · rintro ⟨c, h1, h2⟩
    cases x <;> cases h1
    exact ⟨_, rfl, h2⟩
theorem e_fld {K : PySem.W.Frag} {ta : TE} {f : Str} : tFld K ta f σ H Q = ta σ H fun x H1 => ∃ a C dx fs v, x = .ref a ∧ H1 a = some (.ins C dx fs) ∧ Cls K C ∧ NoAttr K C f ∧ fs.lookup f = some v ∧ Q v H1 := rfl
end
end U

namespace U
open PySem PySem.Spec PyProof.Rows L2
/-! ### what a call leaves as it was: all that stood there but S -/
def Fr (S : List Addr) (H H' : Hp) : Prop := ∀ b, b ∉ S → (H b).isSome = true → H' b = H b
theorem Fr.refl {S : List Addr} {H : Hp} : Fr S H H := fun _ _ _ => rfl
theorem Fr.get {S : List Addr} {H H' : Hp} {b : Addr} {o : HO} (h : Fr S H H') (hb : b ∉ S) (e : H b = some o) : H' b = some o := by
  rw [h b hb (by rw [e]; rfl), e]
theorem Fr.trans {S : List Addr} {H H' H2 : Hp} (h : Fr S H H') (k : Fr S H' H2) : Fr S H H2 := fun b hb hs => by
  have e := h b hb hs
  rw [k b hb (by rw [e]; exact hs), e]
theorem Fr.wide {S T : List Addr} {H H' H2 : Hp} (h : Fr S H H') (k : Fr T H' H2) (hT : ∀ x ∈ T, x ∈ S ∨ H x = none) : Fr S H H2 := fun b hb hs => by
  have e := h b hb hs
  have hbT : b ∉ T := fun z => by
    rcases hT b z with y | y
    · exact hb y
    · rw [y] at hs; cases hs
  rw [k b hbT (by rw [e]; exact hs), e]
theorem Fr.sub {S T : List Addr} {H H' : Hp} (h : Fr S H H') (hs : ∀ x ∈ S, x ∈ T) : Fr T H H' := fun b hb k => h b (fun z => hb (hs b z)) k
theorem Fr.new {S : List Addr} {H H' : Hp} {r : Addr} {o : HO} (h : Fr S H H') (hr : H' r = none) : Fr S H (upd H' r o) := fun b hb hs => by
  have e := h b hb hs
  rw [upd_old hr (by rw [e]; exact hs), e]
theorem Fr.own {S : List Addr} {H H' : Hp} {p : Addr} {o : HO} (h : Fr S H H') (hp : p ∈ S ∨ H p = none) : Fr S H (upd H' p o) := fun b hb hs => by
  have e := h b hb hs
  rw [upd_ne (fun z => by
    subst z
    rcases hp with y | y
    · exact hb y
    · rw [y] at hs; cases hs), e]
theorem Fr.none {S : List Addr} {H H' : Hp} {r : Addr} (h : Fr S H H') (hr : H' r = Option.none) (hs : r ∉ S) : H r = Option.none := by
  cases e : H r with
  | none => rfl
  | some o => rw [h.get hs e] at hr; cases hr
theorem ne_new {H : Hp} {r p : Addr} {o : HO} (hr : H r = none) (hp : H p = some o) : r ≠ p := by
  rintro rfl; rw [hr] at hp; cases hp
theorem ne_new' {H : Hp} {r p : Addr} {o : HO} (hr : H r = none) (hp : H p = some o) : p ≠ r := fun z => ne_new hr hp z.symm
theorem upd_old2 {H : Hp} {r p : Addr} {o u : HO} (hr : H r = none) (hp : H p = some u) : upd H r o p = some u := by
  rw [upd_ne (ne_new' hr hp), hp]
theorem upd_mid {H : Hp} {r p : Addr} {o u : HO} (hr : H r = none) (hn : r ≠ p) : upd H p o r = none := by
  rw [upd_ne hn, hr]
/-! ### types -/
theorem i_ii : isB "int" "int" = some true := rfl
theorem i_ib : isB "int" "bool" = some false := rfl
theorem i_is : isB "int" "str" = some false := rfl
theorem i_si : isB "str" "int" = some false := rfl
theorem i_ss : isB "str" "str" = some true := rfl
theorem i_bi : isB "bool" "int" = some true := rfl
theorem i_bb : isB "bool" "bool" = some true := rfl
theorem i_ni : isB "NoneType" "int" = some false := rfl
theorem i_ns : isB "NoneType" "str" = some false := rfl
theorem i_ll : isAny "list" [.ty "list", .ty "tuple"] = some true := rfl
theorem i_lt : isAny "tuple" [.ty "list", .ty "tuple"] = some true := rfl
/-! ### fields -/
def insOf : HO → Option (Addr × Addr × List (Str × V))
  | .ins C dx fs => some (C, dx, fs)
  | _ => none
theorem insOf_ins {C dx : Addr} {fs : List (Str × V)} : insOf (.ins C dx fs) = some (C, dx, fs) := rfl
theorem insOf_some {o : HO} {z : Addr × Addr × List (Str × V)} (h : insOf o = some z) : o = .ins z.1 z.2.1 z.2.2 := by cases o <;> cases h; rfl
theorem insOf_bind {H : Hp} {p : Addr} {z : Addr × Addr × List (Str × V)} (h : (H p).bind insOf = some z) : H p = some (.ins z.1 z.2.1 z.2.2) := by
  cases e : H p with
  | none => rw [e] at h; cases h
  | some o => rw [e] at h; rw [insOf_some h]
def fldG (K : PySem.W.Frag) (f : Str) (x : V) (H1 : Hp) (Q : VK) : Prop := ∃ a C dx fs v, x = .ref a ∧ H1 a = some (.ins C dx fs) ∧ Cls K C ∧ NoAttr K C f ∧ fs.lookup f = some v ∧ Q v H1
theorem e_fldG {K : PySem.W.Frag} {ta : TE} {f : Str} {σ : L2.St} {H : Hp} {Q : VK} : tFld K ta f σ H Q = ta σ H fun x H1 => fldG K f x H1 Q := rfl
theorem e_fldR {K : PySem.W.Frag} {f : Str} {p : Addr} {H : Hp} {Q : VK} : fldG K f (.ref p) H Q = optE ((H p).bind insOf) fun z => Cls K z.1 ∧ NoAttr K z.1 f ∧ optE (z.2.2.lookup f) fun v => Q v H := by
  apply propext; constructor
  · rintro ⟨a, C, dx, fs, v, h1, h2, h3, h4, h5, h6⟩
    cases h1
    exact ⟨(C, dx, fs), by rw [h2]; rfl, h3, h4, v, h5, h6⟩
  · rintro ⟨z, h1, h2, h3, v, h4, h5⟩
    exact ⟨p, z.1, z.2.1, z.2.2, v, rfl, insOf_bind h1, h2, h3, h4, h5⟩
def sFG (K : PySem.W.Frag) (f : Str) (y x : V) (H2 : Hp) (R : Hp → Prop) : Prop := ∃ a C dx fs, x = .ref a ∧ H2 a = some (.ins C dx fs) ∧ Cls K C ∧ NoAttr K C f ∧ fs.length < 1000 ∧ R (upd H2 a (.ins C dx (putF f y fs)))
theorem e_sfG {K : PySem.W.Frag} {ta tv : TE} {f : Str} {D : Ends} {σ : L2.St} {H : Hp} : sFld K ta tv f D σ H = tv σ H fun y H1 => ta σ H1 fun x H2 => sFG K f y x H2 fun H3 => D.nx σ H3 := rfl
theorem e_sfR {K : PySem.W.Frag} {f : Str} {y : V} {p : Addr} {H : Hp} {R : Hp → Prop} : sFG K f y (.ref p) H R = optE ((H p).bind insOf) fun z => Cls K z.1 ∧ NoAttr K z.1 f ∧ z.2.2.length < 1000 ∧ R (upd H p (.ins z.1 z.2.1 (putF f y z.2.2))) := by
  apply propext; constructor
  · rintro ⟨a, C, dx, fs, h1, h2, h3, h4, h5, h6⟩
    cases h1
    exact ⟨(C, dx, fs), by rw [h2]; rfl, h3, h4, h5, h6⟩
  · rintro ⟨z, h1, h2, h3, h4, h5⟩
    exact ⟨p, z.1, z.2.1, z.2.2, rfl, insOf_bind h1, h2, h3, h4, h5⟩
def mtG (C : Addr) (m : Str) (x : V) (H1 : Hp) (R : Prop) : Prop := ∃ a dx fs, x = .ref a ∧ H1 a = some (.ins C dx fs) ∧ fs.lookup m = none ∧ R
theorem e_mtG {C : Addr} {m : Str} {sp : Sp} {dvs : List V} {E : XK} {ta : TE} {t : TA} {σ : L2.St} {H : Hp} {Q : VK} : tMeth C m sp dvs E ta t σ H Q = ta σ H fun x H1 => mtG C m x H1 (t σ H1 fun vs H2 => sp (x :: (vs ++ dvs)) H2 Q E) := rfl
theorem e_mtR {C : Addr} {m : Str} {p : Addr} {H : Hp} {R : Prop} : mtG C m (.ref p) H R = optE ((H p).bind insOf) fun z => z.1 = C ∧ z.2.2.lookup m = none ∧ R := by
  apply propext; constructor
  · rintro ⟨a, dx, fs, h1, h2, h3, h4⟩
    cases h1
    exact ⟨(C, dx, fs), by rw [h2]; rfl, rfl, h3, h4⟩
  · rintro ⟨z, h1, h2, h3, h4⟩
    refine ⟨p, z.2.1, z.2.2, rfl, ?_, h3, h4⟩
    rw [insOf_bind h1, h2]
theorem z_revG {K : PySem.W.Frag} {te : TE} {σ : L2.St} {H : Hp} {Q : VK} (R : V → Hp → Prop) : True := trivial
/-! ### loops -/
section
variable {g : TG} {tb : TS} {D : Ends} {σ : L2.St} {H : Hp} {K : PySem.W.Frag}
theorem for_rng {ta : TA} (h : ta σ H fun vs H1 => ∃ n : Int, vs = [.int n] ∧ -(2 ^ 62) ≤ n ∧ n < 2 ^ 62 ∧ ∃ Pv : Nat → L2.St → Hp → Prop, Pv 0 σ H1 ∧
    (∀ i σ H, i < n.toNat → Pv i σ H → g (.int i) σ H fun σ2 H2 => tb { D with nx := Pv (i + 1), ct := Pv (i + 1), bk := D.nx } σ2 H2) ∧ ∀ σ H, Pv n.toNat σ H → D.nx σ H)
    (hm : ∀ Q Q' : List V → Hp → Prop, (∀ vs H, Q vs H → Q' vs H) → ta σ H Q → ta σ H Q') : tFor (iRng1 ta) g tb D σ H := by
  refine hm _ _ (fun vs H1 ⟨n, e, h1, h2, Pv, p0, ps, pd⟩ => ⟨n, e, h1, h2, for_range Pv p0 (fun i σ H hi hP => ?_) pd⟩) h
  have := ps i σ H hi hP
  simpa using this
theorem for_lst {te : TE} (h : te σ H fun v H1 => ∃ a xs, v = .ref a ∧ H1 a = some (.lst xs) ∧ ∃ Pv : Nat → L2.St → Hp → Prop, Pv 0 σ H1 ∧ (∀ i σ H, i ≤ xs.length → Pv i σ H → H a = some (.lst xs)) ∧
    (∀ i x σ H, xs[i]? = some x → Pv i σ H → g x σ H fun σ2 H2 => tb { D with nx := Pv (i + 1), ct := Pv (i + 1), bk := D.nx } σ2 H2) ∧ ∀ σ H, Pv xs.length σ H → D.nx σ H)
    (hm : Mono te) : tFor (iList K te) g tb D σ H := by
  refine hm _ _ _ _ (fun v H1 ⟨a, xs, e, h1, Pv, p0, pl, ps, pd⟩ => ⟨a, e, ⟨xs, SqL.of h1⟩, for_list Pv p0 (fun i σ H hi hP => SqL.of (pl i σ H hi hP)) ps pd⟩) h
end
/-- what loops over [t for ..] leave: the list of what comes of each -/
theorem wipe_1 {σ : L2.St} {i : Nat} : True := trivial
end U

namespace U
open PySem PySem.Spec PyProof.Rows L2
section
variable {σ : L2.St} {H : Hp} {Q : VK}
/-- [e for c in text] -/
theorem lc_strs {te elt : TE} {g : TG} {tt : TT} {i : Nat} (x : List Nat) (f : Nat → V) (hg : g = gName i := by rfl) (ht : tt = tYes := by rfl) (hm : Mono te := by exact U.mono_var)
    (h : te σ H fun v H1 => v = sv x ∧ x.length < 16777216 ∧ (∀ c ∈ x, ∀ H' R, R (f c) H' → elt ((σ.set i none).set i (some (sv [c]))) H' R) ∧ ∀ r, H1 r = none → Q (.ref r) (upd H1 r (.lst (x.map f)))) :
    tLc (iStr te) g tt elt [i] σ H Q := by
  subst hg ht
  refine hm σ H _ _ (fun v H1 ⟨e, hl, he, hq⟩ => ?_) h
  refine ⟨⟨x.toArray⟩, e, fun D hD => ?_⟩
  refine lc_str (x := ⟨x.toArray⟩) (fun n H' => n ≤ x.length ∧ H' = upd H1 D (.lst ((x.take n).map f))) ⟨Nat.zero_le _, rfl⟩ (fun n c H' hc hP => ?_) (fun H' hP => ?_)
  · obtain ⟨hn, rfl⟩ := hP
    have hc' : x[n]? = some c := hc
    have hlt : n < x.length := (List.getElem?_eq_some_iff.mp hc').1
    have hcx : c ∈ x := List.mem_of_getElem? hc'
    show wipe ((wipe σ [i]).set i _) [i] = wipe σ [i] ∧ _
    refine ⟨by simp [wipe], ?_⟩
    show elt _ _ _
    refine he c hcx _ _ ⟨_, upd_same, ?_, by omega, ?_⟩
    · rw [List.length_map, List.length_take, line]; omega
    · rw [upd_upd]
      congr 2
      rw [List.take_add_one, hc']
      simp
  · obtain ⟨hn, rfl⟩ := hP
    have e : (⟨x.toArray⟩ : Str).cps.toList.length = x.length := rfl
    rw [e, List.take_length]
    exact hq D hD
theorem r_all {p : Addr} {l : List Nat} {f : Nat → Bool} (h : H p = some (.lst (l.map fun c => .bl (f c)))) (q : Q (.bl (l.all f)) H) : rAll [.ref p] H Q := by
  refine ⟨l.map f, by rw [h, List.map_map]; rfl, ?_⟩
  have e : (l.map f).all id = l.all f := by rw [List.all_map]; rfl
  rw [e]; exact q
theorem r_any {p : Addr} {l : List Nat} {f : Nat → Bool} (h : H p = some (.lst (l.map fun c => .bl (f c)))) (q : Q (.bl (l.any f)) H) : rAny [.ref p] H Q := by
  refine ⟨l.map f, by rw [h, List.map_map]; rfl, ?_⟩
  have e : (l.map f).any id = l.any f := by rw [List.any_map]; rfl
  rw [e]; exact q
theorem fr1 {r : Addr} {o : HO} (h : H r = none) : Fr [] H (upd H r o) := Fr.refl.new h
/-! ### signs -/
def lowB (c : Nat) : Bool := decide (c ∈ [97, 98, 99, 100, 101, 102, 103, 104, 105, 106, 107, 108, 109, 110, 111, 112, 113, 114, 115, 116, 117, 118, 119, 120, 121, 122])
def figB (c : Nat) : Bool := decide (c ∈ [48, 49, 50, 51, 52, 53, 54, 55, 56, 57])
def figsB (l : List Nat) : Bool := !l.isEmpty && l.all figB && !(l.getLast? == some 48)
def nameB (l : List Nat) : Bool := decide (1 ≤ l.length) && decide (l.length ≤ 6) && l.all lowB
def lettersB (l : List Nat) : Bool := nameB l && decide (l.length ≤ 3)
def pointsB (l : List Nat) : Bool := l.isEmpty || figsB l
def makerB : List Nat → Bool
  | [] => false
  | c :: l => lowB c && figsB l
theorem atI_last {l : List Nat} {c : Nat} : atI (l ++ [c]) (-1) = some c := by
  unfold atI ixN
  rw [if_neg (by decide), if_pos (by simp; omega)]
  have e : ((-1 : Int) + ((l ++ [c]).length : Nat)).toNat = l.length := by simp; omega
  rw [e]
  simp
theorem cut_from1 {α : Type} {a : α} {l : List α} : cutL (a :: l) (some 1) none = l := by
  unfold cutL
  have e : HT.sIx (a :: l).length 0 (some 1) = 1 := by
    unfold HT.sIx
    simp
  have e2 : HT.sIx (a :: l).length (a :: l).length none = (a :: l).length := rfl
  rw [e, e2]
  simp
end
end U
namespace U
open PySem PySem.Spec PyProof.Rows L2
def refOf : V → Option Addr
  | .ref a => some a
  | _ => none
theorem refOf_ref {a : Addr} : refOf (.ref a) = some a := rfl
theorem refOf_eq {v : V} {a : Addr} (h : refOf v = some a) : v = .ref a := by cases v <;> cases h; rfl
theorem intOf_eq {v : V} {i : Int} (h : intOf v = some i) : v = .int i := by cases v <;> cases h; rfl
theorem strOf_eq {v : V} {l : List Nat} (h : strOf v = some l) : v = sv l := by
  cases v <;> cases h
  exact sv_of _
end U

namespace U
open PySem PySem.Spec PyProof.Rows L2
/-! ### marks: their parts, their text -/
structure Pt where
  l : List Nat
  n : Int
  p : List Nat
  ms : List (List Nat)
  y : Option Int
  c : Option Int
def ov : Option Int → V
  | none => .non
  | some i => .int i
theorem ov_none : ov none = .non := rfl
theorem ov_some {i : Int} : ov (some i) = .int i := rfl
structure Pt.Ok (t : Pt) : Prop where
  l : lettersB t.l = true
  n1 : 1 ≤ t.n
  n2 : t.n ≤ 9999
  p : pointsB t.p = true
  pl : t.p.length ≤ 1000
  mn : t.ms.length ≤ 3
  ms : ∀ m ∈ t.ms, makerB m = true ∧ m.length ≤ 1000
  y : ∀ i, t.y = some i → 1000 ≤ i ∧ i ≤ 2999
  c : ∀ i, t.c = some i → 2 ≤ i ∧ i < 10 ^ 60
def Pt.w0 (t : Pt) : List Nat := (t.l ++ numL t.n.toNat) ++ (if t.p = [] then [] else 46 :: t.p)
def Pt.ws (t : Pt) : List (List Nat) := t.w0 :: (t.ms ++ ((match t.y with | none => [] | some i => [numL i.toNat]) ++ match t.c with | none => [] | some i => [99 :: 46 :: numL i.toNat]))
def Pt.text (t : Pt) : List Nat := TL.joinL [32] t.ws
/-- a mark's fields, one more with each -/
def mF1 (r : Addr) : List (Str × V) := [("kept_makers", .ref r)]
def mF2 (t : Pt) (r : Addr) : List (Str × V) := [("kept_makers", .ref r), ("kept_letters", sv t.l)]
def mF3 (t : Pt) (r : Addr) : List (Str × V) := [("kept_makers", .ref r), ("kept_letters", sv t.l), ("kept_number", .int t.n)]
def mF4 (t : Pt) (r : Addr) : List (Str × V) := [("kept_makers", .ref r), ("kept_letters", sv t.l), ("kept_number", .int t.n), ("kept_points", sv t.p)]
def mF5 (t : Pt) (r : Addr) : List (Str × V) := [("kept_makers", .ref r), ("kept_letters", sv t.l), ("kept_number", .int t.n), ("kept_points", sv t.p), ("kept_year", ov t.y)]
def mF6 (t : Pt) (r : Addr) : List (Str × V) := [("kept_makers", .ref r), ("kept_letters", sv t.l), ("kept_number", .int t.n), ("kept_points", sv t.p), ("kept_year", ov t.y), ("kept_copy", ov t.c)]
def mF (t : Pt) (r : Addr) : List (Str × V) := [("kept_makers", .ref r), ("kept_letters", sv t.l), ("kept_number", .int t.n), ("kept_points", sv t.p), ("kept_year", ov t.y), ("kept_copy", ov t.c), ("kept_text", sv t.text)]
section
variable {t : Pt} {r : Addr}
theorem p1 : putF "kept_makers" (.ref r) [] = mF1 r := rfl
theorem p2 : putF "kept_letters" (sv t.l) (mF1 r) = mF2 t r := rfl
theorem p3 : putF "kept_number" (.int t.n) (mF2 t r) = mF3 t r := rfl
theorem p4 : putF "kept_points" (sv t.p) (mF3 t r) = mF4 t r := rfl
theorem p5 : putF "kept_year" (ov t.y) (mF4 t r) = mF5 t r := rfl
theorem p6 : putF "kept_copy" (ov t.c) (mF5 t r) = mF6 t r := rfl
theorem p7 : putF "kept_text" (sv t.text) (mF6 t r) = mF t r := rfl
theorem f1 : List.lookup ("kept_makers" : Str) (mF6 t r) = some (.ref r) := rfl
theorem f2 : List.lookup ("kept_letters" : Str) (mF6 t r) = some (sv t.l) := rfl
theorem f3 : List.lookup ("kept_number" : Str) (mF6 t r) = some (.int t.n) := rfl
theorem f4 : List.lookup ("kept_points" : Str) (mF6 t r) = some (sv t.p) := rfl
theorem f5 : List.lookup ("kept_year" : Str) (mF6 t r) = some (ov t.y) := rfl
theorem f6 : List.lookup ("kept_copy" : Str) (mF6 t r) = some (ov t.c) := rfl
theorem h1 : List.lookup ("kept_makers" : Str) (mF t r) = some (.ref r) := rfl
theorem h2 : List.lookup ("kept_letters" : Str) (mF t r) = some (sv t.l) := rfl
theorem h3 : List.lookup ("kept_number" : Str) (mF t r) = some (.int t.n) := rfl
theorem h4 : List.lookup ("kept_points" : Str) (mF t r) = some (sv t.p) := rfl
theorem h5 : List.lookup ("kept_year" : Str) (mF t r) = some (ov t.y) := rfl
theorem h6 : List.lookup ("kept_copy" : Str) (mF t r) = some (ov t.c) := rfl
theorem h7 : List.lookup ("kept_text" : Str) (mF t r) = some (sv t.text) := rfl
theorem k1 : (mF1 r).length < 1000 := by show 1 < 1000; decide
theorem k2 : (mF2 t r).length < 1000 := by show 2 < 1000; decide
theorem k3 : (mF3 t r).length < 1000 := by show 3 < 1000; decide
theorem k4 : (mF4 t r).length < 1000 := by show 4 < 1000; decide
theorem k5 : (mF5 t r).length < 1000 := by show 5 < 1000; decide
theorem k6 : (mF6 t r).length < 1000 := by show 6 < 1000; decide
theorem n6 : List.lookup ("text_of" : Str) (mF6 t r) = none := rfl
theorem nk : List.lookup ("key" : Str) (mF t r) = none := rfl
theorem na : List.lookup ("ahead" : Str) (mF t r) = none := rfl
end
/-- the class of marks, as its methods ask for it -/
structure MkC (K : PySem.W.Frag) (C : Addr) : Prop where
  cls : Cls K C
  a1 : NoAttr K C "kept_makers"
  a2 : NoAttr K C "kept_letters"
  a3 : NoAttr K C "kept_number"
  a4 : NoAttr K C "kept_points"
  a5 : NoAttr K C "kept_year"
  a6 : NoAttr K C "kept_copy"
  a7 : NoAttr K C "kept_text"
/-- a mark at x, its makers' tuple at r -/
def Mark (C : Addr) (H : Hp) (x : Addr) (t : Pt) : Prop := ∃ dx r, H x = some (.ins C dx (mF t r)) ∧ H r = some (.tup (t.ms.map sv))
theorem Mark.fr {C : Addr} {H H' : Hp} {x : Addr} {t : Pt} (h : Mark C H x t) (f : Fr [] H H') : Mark C H' x t := by
  obtain ⟨dx, r, h1, h2⟩ := h
  exact ⟨dx, r, f.get (by simp) h1, f.get (by simp) h2⟩
theorem num_len {i : Int} {k : Nat} (h0 : 0 ≤ i) (hk : 0 < k) (h : i < 10 ^ k) : (numL i.toNat).length ≤ k := by
  apply TL.numL_len hk
  have e : ((i.toNat : Nat) : Int) < ((10 ^ k : Nat) : Int) := by
    rw [Int.toNat_of_nonneg h0]
    push_cast
    exact h
  exact_mod_cast e
theorem Pt.Ok.ll {t : Pt} (h : t.Ok) : 1 ≤ t.l.length ∧ t.l.length ≤ 3 := by
  have h1 := h.l
  unfold lettersB nameB at h1
  simp only [Bool.and_eq_true, decide_eq_true_eq] at h1
  omega
theorem Pt.Ok.nl {t : Pt} (h : t.Ok) : (numL t.n.toNat).length ≤ 4 := num_len (by have := h.n1; omega) (by decide) (by have := h.n2; omega)
theorem sum_le {k : Nat} : ∀ (l : List (List Nat)), (∀ m ∈ l, m.length ≤ k) → (l.map List.length).sum ≤ l.length * k
  | [], _ => by simp
  | a :: l, h => by
    have h1 := h a List.mem_cons_self
    have h2 := sum_le l (fun m hm => h m (List.mem_cons_of_mem _ hm))
    simp only [List.map_cons, List.sum_cons, List.length_cons, Nat.add_mul, Nat.one_mul]
    omega
theorem Pt.Ok.w0l {t : Pt} (h : t.Ok) : t.w0.length ≤ 1010 := by
  unfold Pt.w0
  have h1 := h.ll
  have h2 := h.nl
  have h3 := h.pl
  by_cases e : t.p = []
  · simp only [e, if_true, List.append_nil, List.length_append]; omega
  · simp only [e, if_false, List.length_append, List.length_cons]; omega
theorem Pt.Ok.wl {t : Pt} (h : t.Ok) : (∀ m ∈ t.ws, m.length ≤ 1010) ∧ t.ws.length ≤ 6 := by
  constructor
  · intro m hm
    unfold Pt.ws at hm
    simp only [List.mem_cons, List.mem_append] at hm
    rcases hm with rfl | hm | hm | hm
    · exact h.w0l
    · have := (h.ms m hm).2; omega
    · cases e : t.y with
      | none => rw [e] at hm; cases hm
      | some i =>
        rw [e] at hm
        obtain ⟨h1, h2⟩ := h.y i e
        have : (numL i.toNat).length ≤ 4 := num_len (by omega) (by decide) (by omega)
        simp only [List.mem_singleton] at hm
        subst hm; omega
    · cases e : t.c with
      | none => rw [e] at hm; cases hm
      | some i =>
        rw [e] at hm
        obtain ⟨h1, h2⟩ := h.c i e
        have : (numL i.toNat).length ≤ 60 := num_len (by omega) (by decide) h2
        simp only [List.mem_singleton] at hm
        subst hm
        simp only [List.length_cons]; omega
  · unfold Pt.ws
    have := h.mn
    simp only [List.length_cons, List.length_append]
    have e1 : (match t.y with | none => [] | some i => [numL i.toNat] : List (List Nat)).length ≤ 1 := by split <;> simp
    have e2 : (match t.c with | none => [] | some i => [99 :: 46 :: numL i.toNat] : List (List Nat)).length ≤ 1 := by split <;> simp
    omega
theorem Pt.Ok.join {t : Pt} (h : t.Ok) : (t.ws.map List.length).sum + t.ws.length * 1 ≤ 16777216 := by
  have h1 := sum_le t.ws h.wl.1
  have h2 := h.wl.2
  have : t.ws.length * 1010 ≤ 6 * 1010 := Nat.mul_le_mul_right _ h2
  omega
end U
namespace U
open PySem PySem.Spec PyProof.Rows L2
theorem cxK {CX : CXT} {P : Program} {w : World} {K : PySem.W.Frag} {mg : Str → Option Value} {base : Heap} {N : List Str} {qual : Str} {scope : Scope} {f : Addr} {cd : Value} {A : Around} {outer : List Env} {s : Shared} {H : Hp} {E : XK} :
    (cxOf CX P w K mg base N qual scope f cd A outer s H E).K = K := rfl
theorem cxKn {CX : CXT} {P : Program} {w : World} {K : PySem.W.Frag} {mg : Str → Option Value} {base : Heap} {N : List Str} {qual : Str} {scope : Scope} {f : Addr} {cd : Value} {A : Around} {outer : List Env} {s : Shared} {H : Hp} {E : XK} :
    (cxOf CX P w K mg base N qual scope f cd A outer s H E).nox.K = K := rfl
theorem e_isC {C C' p : Addr} {H : Hp} {Q : VK} : rIsC C [.ref p, .ref C'] H Q = optE ((H p).bind insOf) fun z => z.1 = C ∧ C' = C ∧ Q (.bl true) H := by
  apply propext; constructor
  · rintro ⟨a, dx, fs, e, h1, h2⟩
    cases e
    exact ⟨(C, dx, fs), by rw [h1]; rfl, rfl, rfl, h2⟩
  · rintro ⟨z, h1, rfl, rfl, h2⟩
    exact ⟨p, z.2.1, z.2.2, rfl, insOf_bind h1, h2⟩
end U

namespace U
open PySem PySem.Spec PyProof.Rows L2
theorem while_no {c : TT} {tb : TS} {D : Ends} {σ : L2.St} {H : Hp} (h : ∀ R : Hp → Prop, c σ H fun b H1 => if b = true then R H1 else D.nx σ H1) : tWhile c tb D σ H := by
  refine ⟨fun m σ' H' => m = 0 ∧ σ' = σ ∧ H' = H, ⟨0, rfl, rfl, rfl⟩, ?_⟩
  rintro m σ' H' ⟨rfl, rfl, rfl⟩
  exact h _
theorem rev_at {K : PySem.W.Frag} {i : Nat} {σ : L2.St} {H : Hp} {Q : VK} {q : Addr} {xs : List V} (hi : σ[i]? = some (some (.ref q))) (hq : H q = some (.lst xs)) (k : ∀ p, H p = none → Q (.ref p) (upd H p (.lst xs.reverse))) : tRevL K (tVar i) σ H Q :=
  ⟨_, hi, q, xs, rfl, SqL.of hq, k⟩
theorem lt1900 {i : Int} (h : i < 10 ^ 60) : i < 2 ^ 1900 := Int.lt_trans h (by decide +kernel)
theorem sizeL : sizeLine = 16777216 := line
theorem joinL1 {S x : List Nat} : TL.joinL S [x] = x := rfl
theorem pow_ok : CPow 10 60 := ⟨by decide, by decide, by decide⟩
end U
namespace U
open PySem PySem.Spec PyProof.Rows L2
theorem ix10 : ixN 1 0 = some 0 := rfl
theorem txt_fin {t : Pt} {H : Hp} {Q : VK} (ok : t.Ok) (xs : List V) (hxs : xs = t.ws.map sv) (q : Q (sv t.text) H) : optE (strsOf xs) fun ys => (ys.map List.length).sum + ys.length * 1 ≤ 16777216 ∧ Q (sv (TL.joinL [32] ys)) H := by
  subst hxs
  exact optE_of (strsOf_map _) ⟨ok.join, q⟩
end U

namespace U
open PySem PySem.Spec PyProof.Rows L2
/-! ### own ==, < of keys -/
structure EqG (P : Program) (w : World) (K : PySem.W.Frag) (mg : Str → Option Value) (base : Heap) (n : Nat) (C : Addr) (sp : Sp) : Prop where
  ex : ∃ (f : Addr) (fd : FuncData) (ps : List Str), FnOk P w K mg base C8.CX0 n f fd ps sp ∧ PySem.W.findIn K (.ref C) "__eq__" = some (some (.ref f)) ∧ PySem.W.isFn K (.ref f) = true ∧ Binds K fd ps []
theorem eqG {X : Cx} {n j : Nat} {C : Addr} {sp : Sp} (c : EqG X.prog X.w X.K X.mg X.base n C sp) (hr : Room j X.A) (hk : n ≤ j) : OpR X (compareOp .Eq) (rEqI C sp) := by
  obtain ⟨f, fd, ps, h1, h2, h3, h4⟩ := c.ex
  exact eqI ⟨C8.CX0, f, fd, ps, h1, h2, h3, h4, C8.pass0⟩ (hr.mono hk)
theorem ltR {X : Cx} {k : Nat} (hr : Room k X.A) : OpR X (compareOp .Lt) (rLtD X.K) := ltD (by have := hr.un; omega)
theorem eqR {X : Cx} {k : Nat} (hr : Room k X.A) : OpR X (compareOp .Eq) (rEqD X.K) := op_eqD (by have := hr.un; omega)
theorem neR {X : Cx} {k : Nat} (hr : Room k X.A) : OpR X (compareOp .NotEq) (rNeD X.K) := op_neD (by have := hr.un; omega)
theorem e_eqI {C : Addr} {sp : Sp} {a b : Addr} {H : Hp} {Q : VK} : rEqI C sp (.ref a) (.ref b) H Q = optE ((H a).bind insOf) fun z => optE ((H b).bind insOf) fun z' => z.1 = C ∧ z'.1 = C ∧ sp [.ref a, .ref b] H (fun v H' => optE (blOf v) fun c => Q (.bl c) H') L2.E0 := by
  have e : (fun (v : V) (H' : Hp) => ∃ c, v = .bl c ∧ Q (.bl c) H') = fun v H' => optE (blOf v) fun c => Q (.bl c) H' := by
    funext v H'; exact bl_ex
  apply propext; constructor
  · rintro ⟨a', b', dx, dy, fs, gs, h1, h2, h3, h4, h5⟩
    cases h1
    cases h2
    rw [e] at h5
    exact ⟨(C, dx, fs), by rw [h3]; rfl, (C, dy, gs), by rw [h4]; rfl, rfl, rfl, h5⟩
  · rintro ⟨z, h1, z', h2, h3, h4, h5⟩
    rw [← e] at h5
    refine ⟨a, b, z.2.1, z'.2.1, z.2.2, z'.2.2, rfl, rfl, ?_, ?_, h5⟩
    · rw [insOf_bind h1, h3]
    · rw [insOf_bind h2, h4]
/-- a mark's key as data -/
def msD (ms : List (List Nat)) : List PyData := ms.map fun m => .str ⟨m.toArray⟩
def keyL (t : Pt) : List PyData := [.str ⟨t.l.toArray⟩, .int t.n, .str ⟨t.p.toArray⟩, .tuple (msD t.ms), .int (t.y.getD 0), .int (t.c.getD 0)]
def keyD (t : Pt) : PyData := .tuple (keyL t)
theorem dp_ms {K : PySem.W.Frag} {H : Hp} : ∀ ms : List (List Nat), DpAll K H (ms.map sv) (msD ms)
  | [] => .nil
  | m :: ms => .cons (.str _) (dp_ms ms)
theorem dp_key {K : PySem.W.Frag} {H : Hp} {t : Pt} {r z : Addr} (h1 : H r = some (.tup (t.ms.map sv))) (h2 : H z = some (.tup [sv t.l, .int t.n, sv t.p, .ref r, .int (t.y.getD 0), .int (t.c.getD 0)])) : Dp K H (.ref z) (keyD t) :=
  .tup (SqT.of h2) (.cons (.str _) (.cons (.int _) (.cons (.str _) (.cons (.tup (SqT.of h1) (dp_ms _)) (.cons (.int _) (.cons (.int _) .nil))))))
theorem alike_ms : ∀ ms ns : List (List Nat), PySem.W.alikeAll (msD ms) (msD ns) = true
  | [], _ => by rw [msD]; exact PySem.W.alikeAll.eq_2 _
  | _ :: _, [] => by simp [msD, PySem.W.alikeAll]
  | m :: ms, n :: ns => by
    have h := alike_ms ms ns
    simp only [msD, List.map_cons] at h ⊢
    simp [PySem.W.alikeAll, PySem.W.alike, h]
theorem alike_key {t u : Pt} : PySem.W.alike (keyD t) (keyD u) = true := by
  have h := alike_ms t.ms u.ms
  simp [keyD, keyL, PySem.W.alike, PySem.W.alikeAll, h]
theorem key_ne {t : Pt} : keyD t ≠ .none := by intro h; cases h
theorem depth_ms : ∀ ms : List (List Nat), PyData.depthAll (msD ms) = 0
  | [] => by simp [msD, PyData.depthAll]
  | m :: ms => by
    have h := depth_ms ms
    simp only [msD, List.map_cons] at h ⊢
    simp [PyData.depthAll, PyData.depth, h]
theorem depth_key {t : Pt} : (keyD t).depth = 2 := by
  have h := depth_ms t.ms
  simp [keyD, keyL, PyData.depth, PyData.depthAll, h]
theorem key_depth {t u : Pt} : min (keyD t).depth (keyD u).depth ≤ 60 := by rw [depth_key, depth_key]; decide
theorem strOk_of {l : List Nat} (h : ∀ c ∈ l, c < 1114112) : PyData.strOk ⟨l.toArray⟩ = true := by
  unfold PyData.strOk
  rw [← Array.all_toList, List.all_eq_true]
  intro c hc
  exact decide_eq_true (h c hc)
theorem low_lt {c : Nat} (h : lowB c = true) : 97 ≤ c ∧ c ≤ 122 := by
  have h := of_decide_eq_true h
  simp only [List.mem_cons, List.not_mem_nil, or_false] at h
  omega
theorem fig_lt {c : Nat} (h : figB c = true) : 48 ≤ c ∧ c ≤ 57 := by
  have h := of_decide_eq_true h
  simp only [List.mem_cons, List.not_mem_nil, or_false] at h
  omega
theorem figs_all {l : List Nat} (h : figsB l = true) : ∀ c ∈ l, 48 ≤ c ∧ c ≤ 57 := by
  unfold figsB at h
  simp only [Bool.and_eq_true] at h
  intro c hc
  exact fig_lt (List.all_eq_true.mp h.1.2 c hc)
theorem points_all {l : List Nat} (h : pointsB l = true) : ∀ c ∈ l, 48 ≤ c ∧ c ≤ 57 := by
  unfold pointsB at h
  rw [Bool.or_eq_true] at h
  rcases h with h | h
  · rw [List.isEmpty_iff] at h; subst h; simp
  · exact figs_all h
theorem letters_all {l : List Nat} (h : lettersB l = true) : ∀ c ∈ l, 97 ≤ c ∧ c ≤ 122 := by
  unfold lettersB nameB at h
  simp only [Bool.and_eq_true] at h
  intro c hc
  exact low_lt (List.all_eq_true.mp h.1.2 c hc)
theorem maker_at {m : List Nat} (h : makerB m = true) : ∃ c l, m = c :: l ∧ (97 ≤ c ∧ c ≤ 122) ∧ figsB l = true := by
  cases m with
  | nil => cases h
  | cons c l =>
    unfold makerB at h
    rw [Bool.and_eq_true] at h
    exact ⟨c, l, rfl, low_lt h.1, h.2⟩
theorem maker_all {m : List Nat} (h : makerB m = true) : ∀ c ∈ m, c < 128 := by
  obtain ⟨c, l, rfl, h1, h2⟩ := maker_at h
  intro d hd
  rw [List.mem_cons] at hd
  rcases hd with rfl | hd
  · omega
  · have := figs_all h2 d hd; omega
theorem lay_ms : ∀ ms : List (List Nat), (∀ m ∈ ms, makerB m = true) → PyData.canLayAll0 (msD ms) = true
  | [], _ => by simp [msD, PyData.canLayAll0]
  | m :: ms, hm => by
    have h := lay_ms ms (fun x hx => hm x (List.mem_cons_of_mem _ hx))
    have h2 := strOk_of (l := m) (fun c hc => by have := maker_all (hm m List.mem_cons_self) c hc; omega)
    simp only [msD, List.map_cons] at h ⊢
    simp [PyData.canLayAll0, PyData.canLay0, h, h2]
theorem shaped_key {t : Pt} (ok : t.Ok) : SeqAt.shaped (keyD t) = true := by
  have h := lay_ms t.ms (fun m hm => (ok.ms m hm).1)
  have h1 := strOk_of (l := t.l) (fun c hc => by have := letters_all ok.l c hc; omega)
  have h2 := strOk_of (l := t.p) (fun c hc => by have := points_all ok.p c hc; omega)
  unfold SeqAt.shaped
  rw [depth_key]
  simp [keyD, keyL, PyData.canLay0, PyData.canLayAll0, h, h1, h2]
/-- what a key tells -/
def kp (t : Pt) : List Nat × Int × List Nat × List (List Nat) × Int × Int := (t.l, t.n, t.p, t.ms, t.y.getD 0, t.c.getD 0)
theorem eqv_ms : ∀ ms ns : List (List Nat), PyData.eqvAll (msD ms) (msD ns) = decide (ms = ns)
  | [], [] => by simp [msD, PyData.eqvAll]
  | [], n :: ns => by simp [msD, PyData.eqvAll]
  | m :: ms, [] => by simp [msD, PyData.eqvAll]
  | m :: ms, n :: ns => by
    have h := eqv_ms ms ns
    simp only [msD, List.map_cons] at h ⊢
    have e : ((⟨m.toArray⟩ : Str) == ⟨n.toArray⟩) = decide (m = n) := SX.S_beq_eq
    simp [PyData.eqvAll, PyData.eqv, h, e]
theorem eqv_key {t u : Pt} : PyData.eqv (keyD t) (keyD u) = decide (kp t = kp u) := by
  have h := eqv_ms t.ms u.ms
  have e : ∀ m n : List Nat, ((⟨m.toArray⟩ : Str) == ⟨n.toArray⟩) = decide (m = n) := fun m n => SX.S_beq_eq
  rw [Bool.eq_iff_iff]
  simp [keyD, keyL, PyData.eqv, PyData.eqvAll, h, e, kp]
theorem toks_ms_inj : ∀ (ms ns : List (List Nat)) (X Y : List (Int ⊕ List Nat)), PySem.W.keyToksAll (msD ms) ++ X = PySem.W.keyToksAll (msD ns) ++ Y → ms = ns ∧ X = Y
  | [], [], X, Y, h => by simpa [msD, PySem.W.keyToksAll] using h
  | [], n :: ns, X, Y, h => by simp [msD, PySem.W.keyToksAll] at h
  | m :: ms, [], X, Y, h => by simp [msD, PySem.W.keyToksAll] at h
  | m :: ms, n :: ns, X, Y, h => by
    simp only [msD, List.map_cons, PySem.W.keyToksAll, PySem.W.keyToks, List.cons_append, List.nil_append, List.append_assoc, List.cons.injEq, true_and, Sum.inr.injEq] at h
    obtain ⟨h1, h2⟩ := h
    obtain ⟨h3, h4⟩ := toks_ms_inj ms ns X Y h2
    exact ⟨by rw [h1, h3], h4⟩
theorem toks_inj {t u : Pt} (h : PySem.W.keyToks (keyD t) = PySem.W.keyToks (keyD u)) : kp t = kp u := by
  simp only [keyD, keyL, PySem.W.keyToks, PySem.W.keyToksAll, List.cons_append, List.nil_append, List.append_assoc, List.cons.injEq, true_and, Sum.inr.injEq, Sum.inl.injEq] at h
  obtain ⟨h1, h2, h3, h4⟩ := h
  obtain ⟨h5, h6⟩ := toks_ms_inj _ _ _ _ h4
  simp only [List.cons.injEq, true_and, Sum.inl.injEq, and_true] at h6
  simp only [kp, h1, h2, h3, h5, h6.1, h6.2]
theorem lt_irr {t u : Pt} (h : kp t = kp u) : PySem.W.dataLt (keyD t) (keyD u) = false := by
  have e : keyD t = keyD u := by
    simp only [kp, Prod.mk.injEq] at h
    obtain ⟨h1, h2, h3, h4, h5, h6⟩ := h
    simp only [keyD, keyL, h1, h2, h3, h4, h5, h6]
  rw [e]
  exact lex_irrefl _
theorem lt_flip {t u : Pt} (h : kp t ≠ kp u) : PySem.W.dataLt (keyD u) (keyD t) = !PySem.W.dataLt (keyD t) (keyD u) := by
  cases e1 : PySem.W.dataLt (keyD t) (keyD u) with
  | true =>
    cases e2 : PySem.W.dataLt (keyD u) (keyD t) with
    | false => rfl
    | true =>
      have := lex_trans _ _ _ e1 e2
      rw [lex_irrefl] at this; cases this
  | false =>
    cases e2 : PySem.W.dataLt (keyD u) (keyD t) with
    | true => rfl
    | false => exact (h (toks_inj (lex_total _ _ e1 e2))).elim
end U

namespace U
open PySem PySem.Spec PyProof.Rows L2
/-! ### what the laws draw from: a list of one number -/
def Pool (H : Hp) (a : Addr) : Prop := ∃ n : Int, H a = some (.lst [.int n])
theorem Pool.upd {H : Hp} {a : Addr} {m : Int} : Pool (L2.upd H a (.lst [.int m])) a := ⟨m, upd_same⟩
theorem fr_pool {H : Hp} {a : Addr} {o : HO} : Fr [a] H (L2.upd H a o) := Fr.refl.own (.inl (by simp))
theorem lt8000 {k : Int} (h : k < 10 ^ 60) : k < 2 ^ 8000 := Int.lt_trans h (by decide +kernel)
theorem figs_snoc {l : List Nat} {c : Nat} (h : l.all figB = true) (hc : c ∈ [49, 50, 51, 52, 53, 54, 55, 56, 57]) : figsB (l ++ [c]) = true := by
  have h1 : figB c = true := by
    simp only [List.mem_cons, List.not_mem_nil, or_false] at hc
    unfold figB
    rcases hc with rfl | rfl | rfl | rfl | rfl | rfl | rfl | rfl | rfl <;> decide
  have h2 : c ≠ 48 := by
    rintro rfl
    revert hc; decide
  unfold figsB
  rw [List.all_append, h]
  simp [h1, h2]
theorem fig_in {c : Nat} (hc : c ∈ [48, 49, 50, 51, 52, 53, 54, 55, 56, 57]) : figB c = true := decide_eq_true hc
theorem low_in {c : Nat} (hc : c ∈ [97, 98, 99, 100, 101, 102, 103, 104, 105, 106, 107, 108, 109, 110, 111, 112, 113, 114, 115, 116, 117, 118, 119, 120, 121, 122]) : lowB c = true := decide_eq_true hc
theorem all_snoc {f : Nat → Bool} {l : List Nat} {c : Nat} (h : l.all f = true) (hc : f c = true) : (l ++ [c]).all f = true := by
  rw [List.all_append, h]; simp [hc]
theorem maker_cons {c : Nat} {l : List Nat} (hc : lowB c = true) (h : figsB l = true) : makerB (c :: l) = true := by
  simp only [makerB, hc, h, Bool.and_self]
theorem letters_of {l : List Nat} (h : l.all lowB = true) (h1 : 1 ≤ l.length) (h2 : l.length ≤ 3) : lettersB l = true := by
  unfold lettersB nameB
  rw [h, decide_eq_true h1, decide_eq_true h2, decide_eq_true (by omega)]; rfl
theorem take_all {f : Nat → Bool} {l : List Nat} {n : Nat} (h : l.all f = true) : (l.take n).all f = true := by
  rw [List.all_eq_true] at h ⊢
  intro c hc
  exact h c (List.mem_of_mem_take hc)
theorem drop_all {f : Nat → Bool} {l : List Nat} {n : Nat} (h : l.all f = true) : (l.drop n).all f = true := by
  rw [List.all_eq_true] at h ⊢
  intro c hc
  exact h c (List.mem_of_mem_drop hc)
theorem cut_to {α : Type} {l : List α} {r : Int} (h : 0 ≤ r) : cutL l none (some r) = l.take r.toNat := by
  have e : HT.sIx l.length l.length (some r) = min r.toNat l.length := by
    show (if r < 0 then _ else _) = _
    rw [if_neg (by omega)]
  have e0 : HT.sIx l.length 0 none = 0 := rfl
  unfold cutL
  rw [e, e0, List.drop_zero, Nat.sub_zero, ← List.take_take]
  simp
theorem cut_from {α : Type} {l : List α} {r : Int} (h : 0 ≤ r) : cutL l (some r) none = l.drop r.toNat := by
  have e : HT.sIx l.length 0 (some r) = min r.toNat l.length := by
    show (if r < 0 then _ else _) = _
    rw [if_neg (by omega)]
  have e0 : HT.sIx l.length l.length none = l.length := rfl
  unfold cutL
  rw [e, e0]
  by_cases hl : r.toNat ≤ l.length
  · rw [Nat.min_eq_left hl]
    rw [List.take_of_length_le (by simp)]
  · rw [Nat.min_eq_right (by omega)]
    rw [List.drop_of_length_le (Nat.le_refl _), List.drop_of_length_le (by omega)]
    simp
theorem rstrip_tl (x y : Str) : (Txt.rstripChars x y).cps.toList = x.cps.toList.take (x.cps.toList.length - (x.cps.toList.reverse.takeWhile y.cps.contains).length) := by
  have hs : (PySem.stripped y.cps.contains false true x).cps.toList = x.cps.toList.take (x.cps.toList.length - (x.cps.toList.reverse.takeWhile y.cps.contains).length) := by
    show TL.tl (PySem.Builtin.Str.strSub x 0 (x.length - _)) = _
    rw [TL.tl_strSub, List.drop_zero, len_cps]
    rfl
  unfold Txt.rstripChars Txt.stripBy
  split
  · rename_i h
    unfold PySem.stripSame at h
    rw [Bool.and_eq_true] at h
    have h2 : x.length - ((x.cps.toList.drop 0).reverse.takeWhile y.cps.contains).length = x.length := eq_of_beq h.2
    rw [List.drop_zero, len_cps] at h2
    rw [h2, List.take_length]
  · exact hs
theorem rstrip_ok {l m : List Nat} (h : l.all figB = true) (e : Txt.rstripChars ⟨l.toArray⟩ ⟨m.toArray⟩ = Txt.rstripChars ⟨l.toArray⟩ ⟨#[48]⟩) : ∃ l', V.str (Txt.rstripChars ⟨l.toArray⟩ ⟨m.toArray⟩) = sv l' ∧ pointsB l' = true ∧ l'.length ≤ l.length := by
  refine ⟨l.take (l.length - (l.reverse.takeWhile (fun c => (#[48] : Array Nat).contains c)).length), ?_, ?_, by simp⟩
  · rw [e, sv_of]
    exact congrArg sv (rstrip_tl _ _)
  · have hc : ∀ c, (#[48] : Array Nat).contains c = (c == 48) := fun c => by
      rw [Bool.eq_iff_iff]; simp
    have e1 : l.take (l.length - (l.reverse.takeWhile (fun c => (#[48] : Array Nat).contains c)).length) = (l.reverse.dropWhile (fun c => (#[48] : Array Nat).contains c)).reverse := by
      have h1 := List.takeWhile_append_dropWhile (p := fun c => (#[48] : Array Nat).contains c) (l := l.reverse)
      have h2 : l = (l.reverse.dropWhile (fun c => (#[48] : Array Nat).contains c)).reverse ++ (l.reverse.takeWhile (fun c => (#[48] : Array Nat).contains c)).reverse := by
        rw [← List.reverse_append, h1, List.reverse_reverse]
      have h3 : l.length = (l.reverse.dropWhile (fun c => (#[48] : Array Nat).contains c)).reverse.length + (l.reverse.takeWhile (fun c => (#[48] : Array Nat).contains c)).length := by
        have := congrArg List.length h2
        rw [List.length_append, List.length_reverse (as := List.takeWhile _ _)] at this
        exact this
      conv => lhs; arg 2; rw [h2]
      rw [h3, Nat.add_sub_cancel, List.take_left]
    rw [e1]
    have ha : ∀ c ∈ l.reverse.dropWhile (fun c => (#[48] : Array Nat).contains c), figB c = true := fun c hcm =>
      List.all_eq_true.mp h c (List.mem_reverse.mp ((List.dropWhile_sublist _).subset hcm))
    cases e2 : l.reverse.dropWhile (fun c => (#[48] : Array Nat).contains c) with
    | nil => rfl
    | cons d r =>
      rw [e2] at ha
      have hd : d ≠ 48 := by
        rintro rfl
        have := List.head?_dropWhile_not (fun c => (#[48] : Array Nat).contains c) l.reverse
        rw [e2] at this
        simp at this
      have hr : (r.reverse ++ [d]).all figB = true := by
        rw [List.all_eq_true]
        intro c hcm
        exact ha c (by simp at hcm ⊢; rcases hcm with h | h <;> simp [h])
      unfold pointsB figsB
      rw [List.reverse_cons, hr]
      simp [hd]
/-! ### whole numbers by their figures -/
theorem valL_lt : ∀ (l : List Nat), (∀ c ∈ l, c ≤ 57) → valL l < 10 ^ l.length := by
  suffices hh : ∀ (n : Nat) (l : List Nat), l.length = n → (∀ c ∈ l, c ≤ 57) → valL l < 10 ^ l.length from fun l => hh _ l rfl
  intro n
  induction n with
  | zero =>
    intro l hl _
    rw [List.length_eq_zero_iff] at hl
    subst hl; decide
  | succ n ih =>
    intro l0 hl h0
    have hne : l0 ≠ [] := by intro e; rw [e] at hl; simp at hl
    obtain ⟨l, c, rfl⟩ : ∃ l c, l0 = l ++ [c] := ⟨_, _, (List.dropLast_concat_getLast hne).symm⟩
    have h := h0
    have h1 := ih l (by simpa using hl) (fun d hd => h d (by simp [hd]))
    have h2 := h c (by simp)
    show NumText.digitsVal (l ++ [c]) < _
    rw [NumText.digitsVal_snoc, List.length_append, List.length_singleton, Nat.pow_succ]
    have h3 : NumText.digitsVal l < 10 ^ l.length := h1
    omega
theorem num_figs (n : Nat) : (numL n).all figB = true := by
  rw [List.all_eq_true]
  intro c hc
  have h := TL.numL_digits n c hc
  unfold figB
  apply decide_eq_true
  simp only [List.mem_cons, List.not_mem_nil, or_false]
  omega
theorem digs_of {l : List Nat} (h : l.all figB = true) : digs l = true := by
  unfold digs
  rw [List.all_eq_true] at h ⊢
  intro c hc
  have := fig_lt (h c hc)
  simp; omega
theorem figs_le {l : List Nat} (h : l.all figB = true) : ∀ c ∈ l, c ≤ 57 := fun c hc => (fig_lt (List.all_eq_true.mp h c hc)).2
theorem numL_head {n : Nat} (h : 1 ≤ n) : ∃ c r, numL n = c :: r ∧ 49 ≤ c := by
  induction n using Nat.strongRecOn with
  | _ n ih =>
    by_cases h10 : n < 10
    · exact ⟨48 + n, [], TL.numL_lt h10, by omega⟩
    · obtain ⟨c, r, e, hc⟩ := ih (n / 10) (by omega) (by omega)
      exact ⟨c, r ++ [48 + n % 10], by rw [numL, TL.numL_step (by omega)]; rw [numL] at e; rw [e]; rfl, hc⟩
end U
namespace U
open PySem PySem.Spec PyProof.Rows L2
theorem pool_upd {H : Hp} {a : Addr} {m : Int} : Pool (L2.upd H a (.lst [.int m])) a = True := propext ⟨fun _ => trivial, fun _ => Pool.upd⟩
/-- a for over range(n), a list: what is to be shown once the end, the list is known -/
def rngG (g : TG) (tb : TS) (D : Ends) (σ : L2.St) (vs : List V) (H1 : Hp) : Prop := ∃ j : Int, vs = [.int j] ∧ -(2 ^ 62) ≤ j ∧ j < 2 ^ 62 ∧ ∃ W : Nat → Nat → L2.St → Hp → Prop, (∃ m, W 0 m σ H1) ∧ ∀ i m σ H, W i m σ H →
  ((Itr 0 j.toNat).stop i H ∧ D.nx σ H) ∨ ((Itr 0 j.toNat).go i H ∧ ∃ N : L2.St → Hp → Prop, (∀ σ' H', N σ' H' → ∃ m', m' < m ∧ W (i + 1) m' σ' H') ∧ ∀ x H', (Itr 0 j.toNat).yld i H x H' → g x σ H' fun σ2 H2 => tb { D with nx := N, ct := N, bk := D.nx } σ2 H2)
theorem e_forR {ta : TA} {g : TG} {tb : TS} {D : Ends} {σ : L2.St} {H : Hp} : tFor (iRng1 ta) g tb D σ H = ta σ H fun vs H1 => rngG g tb D σ vs H1 := rfl
theorem r_rng {g : TG} {tb : TS} {D : Ends} {σ : L2.St} {H1 : Hp} {n : Int} (h1 : -(2 ^ 62) ≤ n) (h2 : n < 2 ^ 62) (Pv : Nat → L2.St → Hp → Prop) (p0 : Pv 0 σ H1)
    (ps : ∀ i σ H, i < n.toNat → Pv i σ H → g (.int i) σ H fun σ2 H2 => tb { D with nx := Pv (i + 1), ct := Pv (i + 1), bk := D.nx } σ2 H2) (pd : ∀ σ H, Pv n.toNat σ H → D.nx σ H) : rngG g tb D σ [.int n] H1 :=
  ⟨n, rfl, h1, h2, for_range Pv p0 (fun i σ H hi hP => by have := ps i σ H hi hP; simpa using this) pd⟩
def lstG (K : PySem.W.Frag) (g : TG) (tb : TS) (D : Ends) (σ : L2.St) (v : V) (H1 : Hp) : Prop := ∃ a, v = .ref a ∧ (∃ xs, SqL K H1 a xs) ∧ ∃ W : Nat → Nat → L2.St → Hp → Prop, (∃ m, W 0 m σ H1) ∧ ∀ i m σ H, W i m σ H →
  ((Itl K a).stop i H ∧ D.nx σ H) ∨ ((Itl K a).go i H ∧ ∃ N : L2.St → Hp → Prop, (∀ σ' H', N σ' H' → ∃ m', m' < m ∧ W (i + 1) m' σ' H') ∧ ∀ x H', (Itl K a).yld i H x H' → g x σ H' fun σ2 H2 => tb { D with nx := N, ct := N, bk := D.nx } σ2 H2)
theorem e_forL {K : PySem.W.Frag} {te : TE} {g : TG} {tb : TS} {D : Ends} {σ : L2.St} {H : Hp} : tFor (iList K te) g tb D σ H = te σ H fun v H1 => lstG K g tb D σ v H1 := rfl
theorem r_lst {K : PySem.W.Frag} {g : TG} {tb : TS} {D : Ends} {σ : L2.St} {H1 : Hp} {a : Addr} {xs : List V} (ha : H1 a = some (.lst xs)) (Pv : Nat → L2.St → Hp → Prop) (p0 : Pv 0 σ H1) (pl : ∀ i σ H, i ≤ xs.length → Pv i σ H → H a = some (.lst xs))
    (ps : ∀ i x σ H, xs[i]? = some x → Pv i σ H → g x σ H fun σ2 H2 => tb { D with nx := Pv (i + 1), ct := Pv (i + 1), bk := D.nx } σ2 H2) (pd : ∀ σ H, Pv xs.length σ H → D.nx σ H) : lstG K g tb D σ (.ref a) H1 :=
  ⟨a, rfl, ⟨xs, SqL.of ha⟩, for_list Pv p0 (fun i σ H hi hP => SqL.of (pl i σ H hi hP)) ps pd⟩
theorem fr_none {H H' : Hp} {p : Addr} {S : List Addr} (f : Fr S H H') {a : Addr} {o : HO} (h : H' p = none) (ha : H a = some o) (hs : a ∉ S) : p ≠ a := by
  rintro rfl
  rw [f.get hs ha] at h; cases h
theorem mulL {i j : Int} (h : -(2 ^ 64) < i ∧ i < 2 ^ 64) : MulOk i j := .inl (.inl h)
theorem mulR {i j : Int} (h : -(2 ^ 64) < j ∧ j < 2 ^ 64) : MulOk i j := .inl (.inr h)
end U

namespace U
open PySem PySem.Spec PyProof.Rows L2
/-! ### a mark's parts as a list -/
def partsL (t : Pt) (q : Addr) : List V := [sv t.l, .int t.n, sv t.p, .ref q, ov t.y, ov t.c]
def PL (H : Hp) (p : Addr) (t : Pt) : Prop := ∃ q, H p = some (.lst (partsL t q)) ∧ H q = some (.lst (t.ms.map sv))
/-- parts as the laws draw them -/
structure Dr (t : Pt) : Prop where
  ok : t.Ok
  p : t.p.length ≤ 40
  ms : ∀ m ∈ t.ms, m.length ≤ 41
theorem ms_ne {ms : List (List Nat)} {m : Int} : ms.map sv ≠ [V.int m] := by
  cases ms with
  | nil => simp
  | cons a l => intro h; simp at h
theorem PL.fr {H H' : Hp} {p a : Addr} {t : Pt} (h : PL H p t) (f : Fr [a] H H') (hp : Pool H a) : PL H' p t := by
  obtain ⟨q, h1, h2⟩ := h
  obtain ⟨n, hn⟩ := hp
  refine ⟨q, f.get (fun z => ?_) h1, f.get (fun z => ?_) h2⟩
  · simp at z; subst z; rw [hn] at h1; cases h1
  · simp at z; subst z; rw [hn] at h2
    simp only [Option.some.injEq, HO.lst.injEq] at h2
    exact ms_ne h2.symm
theorem PL.fr0 {H H' : Hp} {p : Addr} {t : Pt} (h : PL H p t) (f : Fr [] H H') : PL H' p t := by
  obtain ⟨q, h1, h2⟩ := h
  exact ⟨q, f.get (by simp) h1, f.get (by simp) h2⟩
theorem Mark.pool {C : Addr} {H H' : Hp} {x a : Addr} {t : Pt} (h : Mark C H x t) (f : Fr [a] H H') (hp : Pool H a) : Mark C H' x t := by
  obtain ⟨dx, r, h1, h2⟩ := h
  obtain ⟨n, hn⟩ := hp
  refine ⟨dx, r, f.get (fun z => ?_) h1, f.get (fun z => ?_) h2⟩
  · simp at z; subst z; rw [hn] at h1; cases h1
  · simp at z; subst z; rw [hn] at h2; cases h2
/-! ### the text of parts tells the parts -/
theorem split_pre {f : Nat → Prop} : ∀ {a a' b b' : List Nat}, (∀ c ∈ a, f c) → (∀ c ∈ a', f c) → (∀ c, b.head? = some c → ¬ f c) → (∀ c, b'.head? = some c → ¬ f c) → a ++ b = a' ++ b' → a = a' ∧ b = b'
  | [], [], b, b', _, _, _, _, h => ⟨rfl, h⟩
  | [], c :: a', b, b', _, h2, h3, _, h => by
    have h : b = c :: (a' ++ b') := h
    exact (h3 c (by rw [h]; rfl) (h2 c List.mem_cons_self)).elim
  | c :: a, [], b, b', h1, _, _, h4, h => by
    have h : c :: (a ++ b) = b' := h
    exact (h4 c (by rw [← h]; rfl) (h1 c List.mem_cons_self)).elim
  | c :: a, d :: a', b, b', h1, h2, h3, h4, h => by
    have h : c :: (a ++ b) = d :: (a' ++ b') := h
    injection h with e h
    obtain ⟨h5, h6⟩ := split_pre (f := f) (fun x hx => h1 x (List.mem_cons_of_mem _ hx)) (fun x hx => h2 x (List.mem_cons_of_mem _ hx)) h3 h4 h
    exact ⟨by rw [e, h5], h6⟩
theorem num_sign {n : Nat} : ∀ c ∈ numL n, 48 ≤ c ∧ c ≤ 57 := fun c hc => TL.numL_digits n c hc
theorem num_head {n : Nat} : ∃ c r, numL n = c :: r ∧ 48 ≤ c ∧ c ≤ 57 := by
  cases e : numL n with
  | nil => exact (TL.numL_ne n e).elim
  | cons c r => exact ⟨c, r, rfl, num_sign c (by rw [e]; exact List.mem_cons_self)⟩
theorem tail_inj {p p' : List Nat} (h : (if p = [] then [] else 46 :: p) = (if p' = [] then [] else 46 :: p')) : p = p' := by
  by_cases h1 : p = [] <;> by_cases h2 : p' = [] <;> simp [h1, h2] at h ⊢ <;> first | exact h | (subst h1; exact (h2 rfl).elim) | skip
theorem tail_head {p : List Nat} : ∀ c, (if p = [] then [] else 46 :: p : List Nat).head? = some c → c = 46 := by
  intro c h
  by_cases h1 : p = []
  · rw [if_pos h1] at h; cases h
  · rw [if_neg h1] at h; simp at h; exact h.symm
theorem w0_inj {t u : Pt} (ht : t.Ok) (hu : u.Ok) (h : t.w0 = u.w0) : t.l = u.l ∧ t.n = u.n ∧ t.p = u.p := by
  unfold Pt.w0 at h
  rw [List.append_assoc, List.append_assoc] at h
  have a1 := letters_all ht.l
  have a2 := letters_all hu.l
  obtain ⟨h1, h2⟩ := split_pre (f := fun c => 97 ≤ c ∧ c ≤ 122) a1 a2 (fun c hc => by
    obtain ⟨d, r, e, hd⟩ := num_head (n := t.n.toNat)
    rw [e] at hc; simp at hc; omega) (fun c hc => by
    obtain ⟨d, r, e, hd⟩ := num_head (n := u.n.toNat)
    rw [e] at hc; simp at hc; omega) h
  obtain ⟨h3, h4⟩ := split_pre (f := fun c => 48 ≤ c ∧ c ≤ 57) num_sign num_sign (fun c hc => by have := tail_head c hc; omega) (fun c hc => by have := tail_head c hc; omega) h2
  have h5 := TL.numL_inj h3
  have := ht.n1
  have := hu.n1
  exact ⟨h1, by omega, tail_inj h4⟩
theorem no32 {t : Pt} (ok : t.Ok) : ∀ w ∈ t.ws, (32 : Nat) ∉ w := by
  intro w hw
  unfold Pt.ws at hw
  simp only [List.mem_cons, List.mem_append] at hw
  rcases hw with rfl | hw | hw | hw
  · unfold Pt.w0
    intro h
    simp only [List.mem_append] at h
    rcases h with (h | h) | h
    · have := letters_all ok.l 32 h; omega
    · have := num_sign 32 h; omega
    · by_cases e : t.p = []
      · rw [if_pos e] at h; cases h
      · rw [if_neg e] at h
        rw [List.mem_cons] at h
        rcases h with h | h
        · omega
        · have := points_all ok.p 32 h; omega
  · intro h
    obtain ⟨c, l, rfl, h1, h2⟩ := maker_at (ok.ms w hw).1
    rw [List.mem_cons] at h
    rcases h with h | h
    · omega
    · have := figs_all h2 32 h; omega
  · cases e : t.y with
    | none => rw [e] at hw; cases hw
    | some i =>
      rw [e] at hw
      simp only [List.mem_singleton] at hw
      subst hw
      intro h
      have := num_sign 32 h; omega
  · cases e : t.c with
    | none => rw [e] at hw; cases hw
    | some i =>
      rw [e] at hw
      simp only [List.mem_singleton] at hw
      subst hw
      intro h
      simp only [List.mem_cons] at h
      rcases h with h | h | h
      · omega
      · omega
      · have := num_sign 32 h; omega
/-- the kinds of the words behind the first -/
def isMk (w : List Nat) : Prop := ∃ c d r, w = c :: d :: r ∧ 97 ≤ c ∧ 48 ≤ d
theorem mk_is {m : List Nat} (h : makerB m = true) : isMk m := by
  obtain ⟨c, l, rfl, h1, h2⟩ := maker_at h
  cases l with
  | nil => cases h2
  | cons d r => exact ⟨c, d, r, rfl, h1.1, (figs_all h2 d List.mem_cons_self).1⟩
theorem mk_split : ∀ {a a' b b' : List (List Nat)}, (∀ c ∈ a, isMk c) → (∀ c ∈ a', isMk c) → (∀ c, b.head? = some c → ¬ isMk c) → (∀ c, b'.head? = some c → ¬ isMk c) → a ++ b = a' ++ b' → a = a' ∧ b = b'
  | [], [], b, b', _, _, _, _, h => ⟨rfl, h⟩
  | [], c :: a', b, b', _, h2, h3, _, h => by
    have h : b = c :: (a' ++ b') := h
    exact (h3 c (by rw [h]; rfl) (h2 c List.mem_cons_self)).elim
  | c :: a, [], b, b', h1, _, _, h4, h => by
    have h : c :: (a ++ b) = b' := h
    exact (h4 c (by rw [← h]; rfl) (h1 c List.mem_cons_self)).elim
  | c :: a, d :: a', b, b', h1, h2, h3, h4, h => by
    have h : c :: (a ++ b) = d :: (a' ++ b') := h
    injection h with e h
    obtain ⟨h5, h6⟩ := mk_split (fun x hx => h1 x (List.mem_cons_of_mem _ hx)) (fun x hx => h2 x (List.mem_cons_of_mem _ hx)) h3 h4 h
    exact ⟨by rw [e, h5], h6⟩
theorem num_not {n : Nat} : ¬ isMk (numL n) := by
  rintro ⟨c, d, r, e, h1, h2⟩
  have := num_sign c (by rw [e]; exact List.mem_cons_self)
  omega
theorem cop_not {l : List Nat} : ¬ isMk (99 :: 46 :: l) := by
  rintro ⟨c, d, r, e, h1, h2⟩
  simp only [List.cons.injEq] at e
  omega
theorem num_cop {n : Nat} {l : List Nat} : numL n ≠ 99 :: 46 :: l := by
  intro e
  have := num_sign 99 (by rw [e]; exact List.mem_cons_self)
  omega
theorem text_inj {t u : Pt} (ht : t.Ok) (hu : u.Ok) (h : t.text = u.text) : t = u := by
  have e1 := TL.spl_join (s := 32) (S := []) (parts := t.ws) (by unfold Pt.ws; simp) (no32 ht)
  have e2 := TL.spl_join (s := 32) (S := []) (parts := u.ws) (by unfold Pt.ws; simp) (no32 hu)
  have h0 : TL.joinL [32] t.ws = TL.joinL [32] u.ws := h
  rw [h0, e2] at e1
  unfold Pt.ws at e1
  injection e1 with e3 e4
  obtain ⟨h1, h2, h3⟩ := w0_inj hu ht e3
  obtain ⟨h4, h5⟩ := mk_split (fun m hm => mk_is (hu.ms m hm).1) (fun m hm => mk_is (ht.ms m hm).1) (fun c hc => by
    cases ey : u.y with
    | none =>
      cases ec : u.c with
      | none => rw [ey, ec] at hc; cases hc
      | some j => rw [ey, ec] at hc; simp at hc; subst hc; exact cop_not
    | some i => rw [ey] at hc; simp at hc; subst hc; exact num_not) (fun c hc => by
    cases ey : t.y with
    | none =>
      cases ec : t.c with
      | none => rw [ey, ec] at hc; cases hc
      | some j => rw [ey, ec] at hc; simp at hc; subst hc; exact cop_not
    | some i => rw [ey] at hc; simp at hc; subst hc; exact num_not) e4
  obtain ⟨l, n, p, ms, y, c⟩ := t
  obtain ⟨l', n', p', ms', y', c'⟩ := u
  dsimp only at *
  have hty := ht.y
  have htc := ht.c
  have huy := hu.y
  have huc := hu.c
  dsimp only at hty htc huy huc
  subst h1 h2 h3 h4
  have hyc : y = y' ∧ c = c' := by
    cases y with
    | none =>
      cases y' with
      | none =>
        refine ⟨rfl, ?_⟩
        cases c with
        | none => cases c' with
          | none => rfl
          | some j' => simp at h5
        | some j => cases c' with
          | none => simp at h5
          | some j' =>
            simp at h5
            have := TL.numL_inj h5
            have := htc j rfl
            have := huc j' rfl
            congr 1; omega
      | some i' =>
        cases c with
        | none => simp at h5
        | some j => cases c' with
          | none => simp at h5; exact (num_cop h5).elim
          | some j' => simp at h5
    | some i =>
      cases y' with
      | none =>
        cases c' with
        | none => simp at h5
        | some j => cases c with
          | none => simp at h5; exact (num_cop h5.symm).elim
          | some j' => simp at h5
      | some i' =>
        have h6 : numL i'.toNat = numL i.toNat := by simp at h5; exact h5.1
        have h7 := TL.numL_inj h6
        have := hty i rfl
        have := huy i' rfl
        refine ⟨by congr 1; omega, ?_⟩
        cases c with
        | none => cases c' with
          | none => rfl
          | some j' => simp at h5
        | some j => cases c' with
          | none => simp at h5
          | some j' =>
            simp at h5
            have := TL.numL_inj h5.2
            have := htc j rfl
            have := huc j' rfl
            congr 1; omega
  rw [hyc.1, hyc.2]
theorem kp_inj {t u : Pt} (ht : t.Ok) (hu : u.Ok) (h : kp t = kp u) : t = u := by
  obtain ⟨l, n, p, ms, y, c⟩ := t
  obtain ⟨l', n', p', ms', y', c'⟩ := u
  simp only [kp, Prod.mk.injEq] at h
  obtain ⟨rfl, rfl, rfl, rfl, h5, h6⟩ := h
  have hty := ht.y
  have htc := ht.c
  have huy := hu.y
  have huc := hu.c
  dsimp only at hty htc huy huc
  have h7 : y = y' := by
    cases y <;> cases y' <;> simp at h5 ⊢
    · have := huy _ rfl; omega
    · have := hty _ rfl; omega
    · exact h5
  have h8 : c = c' := by
    cases c <;> cases c' <;> simp at h6 ⊢
    · have := huc _ rfl; omega
    · have := htc _ rfl; omega
    · exact h6
  rw [h7, h8]
theorem text_kp {t u : Pt} (ht : t.Ok) (hu : u.Ok) : t.text = u.text ↔ kp t = kp u :=
  ⟨fun h => by rw [text_inj ht hu h], fun h => by rw [kp_inj ht hu h]⟩
/-- the order that is due -/
def due (t u : Pt) : Int := if kp t = kp u then 0 else if PySem.W.dataLt (keyD t) (keyD u) = true then -1 else 1
theorem due_text {t u : Pt} (ht : t.Ok) (hu : u.Ok) : (if t.text = u.text then 0 else if PySem.W.dataLt (keyD t) (keyD u) = true then -1 else 1 : Int) = due t u := by
  unfold due
  by_cases h : kp t = kp u
  · rw [if_pos h, if_pos ((text_kp ht hu).mpr h)]
  · rw [if_neg h, if_neg (fun z => h ((text_kp ht hu).mp z))]
theorem due_flip {t u : Pt} : due u t = -due t u := by
  unfold due
  by_cases h : kp t = kp u
  · rw [if_pos h, if_pos h.symm]; rfl
  · rw [if_neg h, if_neg (fun z => h z.symm), lt_flip h]
    cases PySem.W.dataLt (keyD t) (keyD u) <;> decide
end U
namespace U
open PySem PySem.Spec PyProof.Rows L2
theorem Pool.new {H : Hp} {a r : Addr} {o : HO} (h : Pool H a) (hr : H r = none) : Pool (L2.upd H r o) a := by
  obtain ⟨n, hn⟩ := h
  exact ⟨n, upd_old2 hr hn⟩
theorem Pool.ne {H : Hp} {a r : Addr} (h : Pool H a) (hr : H r = none) : r ≠ a := by
  obtain ⟨n, hn⟩ := h
  exact ne_new hr hn
theorem atI_nat0 {α : Type} {xs : List α} {i : Int} (h0 : 0 ≤ i) (h1 : i < xs.length) : ∃ c, c ∈ xs ∧ atI xs i = some c := atI_in h0 h1
theorem int_in {f : Int → Prop} {xs : List Int} {i : Int} (h0 : 0 ≤ i) (h1 : i < xs.length) : ∃ c, c ∈ xs ∧ atI (xs.map V.int) i = some (.int c) := by
  obtain ⟨c, hc, e⟩ := atI_in (xs := xs.map V.int) h0 (by rw [List.length_map]; exact h1)
  obtain ⟨d, hd, rfl⟩ := List.mem_map.mp hc
  exact ⟨d, hd, e⟩
end U
namespace U
open PySem PySem.Spec PyProof.Rows L2
section
variable {α : Type} {a b c d e f : α} {l : List α}
theorem at1 : atI (a :: b :: l) 1 = some b := atI_nat (j := 1) rfl
theorem at2 : atI (a :: b :: c :: l) 2 = some c := atI_nat (j := 2) rfl
theorem at3 : atI (a :: b :: c :: d :: l) 3 = some d := atI_nat (j := 3) rfl
theorem at4 : atI (a :: b :: c :: d :: e :: l) 4 = some e := atI_nat (j := 4) rfl
theorem at5 : atI (a :: b :: c :: d :: e :: f :: l) 5 = some f := atI_nat (j := 5) rfl
end
end U
namespace U
open PySem PySem.Spec PyProof.Rows L2
/-- a or b, once a is known -/
def orG (K : PySem.W.Frag) (x : V) (H1 : Hp) (R S : Prop) : Prop := ∃ k, TruV K x H1 k ∧ if k = true then R else S
theorem or_str {K : PySem.W.Frag} {l : List Nat} {H : Hp} {R S : Prop} (hl : l.length ≤ 16777216) (h : if l = [] then S else R) : orG K (sv l) H R S := by
  by_cases e : l = []
  · rw [if_pos e] at h
    refine ⟨false, truB_ok (by rw [b_str (by exact hl)]; subst e; rfl), ?_⟩
    rw [if_neg (by decide)]; exact h
  · rw [if_neg e] at h
    refine ⟨true, truB_ok (by rw [b_str (by exact hl)]; cases l with | nil => exact (e rfl).elim | cons a b => rfl), ?_⟩
    rw [if_pos rfl]; exact h
theorem near_num {D : List Nat} (hD : D.all figB = true) {r : Int} (h0 : 0 ≤ r) (h1 : r < 29) {c : Nat} (hc : figB c = true) :
    digs (cutL D none (some (1 + r)) ++ [c]) = true ∧ cutL D none (some (1 + r)) ++ [c] ≠ [] ∧ (cutL D none (some (1 + r))).length ≤ 29 ∧ (valL (cutL D none (some (1 + r)) ++ [c]) : Int) < 10 ^ 30 := by
  rw [cut_to (by omega)]
  have h2 := all_snoc (take_all (n := (1 + r).toNat) hD) hc
  have h3 : (D.take (1 + r).toNat).length ≤ 29 := by simp; omega
  have h4 := valL_lt _ (figs_le h2)
  have h5 : (D.take (1 + r).toNat ++ [c]).length ≤ 30 := by rw [List.length_append, List.length_singleton]; omega
  refine ⟨digs_of h2, by simp, h3, ?_⟩
  have h6 : 10 ^ (D.take (1 + r).toNat ++ [c]).length ≤ 10 ^ 30 := Nat.pow_le_pow_right (by decide) h5
  have h7 : valL (D.take (1 + r).toNat ++ [c]) < 10 ^ 30 := Nat.lt_of_lt_of_le h4 h6
  exact_mod_cast h7
end U
namespace U
open PySem PySem.Spec PyProof.Rows L2
theorem e_orT {K : PySem.W.Frag} {ta tb : TE} {σ : L2.St} {H : Hp} {Q : VK} : tOrT K ta tb σ H Q = ta σ H fun x H1 => orG K x H1 (Q x H1) (tb σ H1 Q) := rfl
end U
namespace U
open PySem PySem.Spec PyProof.Rows L2
theorem i60 : ixN 6 0 = some 0 := rfl
theorem i61 : ixN 6 1 = some 1 := rfl
theorem i62 : ixN 6 2 = some 2 := rfl
theorem i63 : ixN 6 3 = some 3 := rfl
theorem i64 : ixN 6 4 = some 4 := rfl
theorem i65 : ixN 6 5 = some 5 := rfl
end U
namespace U
open PySem PySem.Spec PyProof.Rows L2
theorem parts_ne {t : Pt} {q : Addr} {ms : List (List Nat)} : partsL t q ≠ ms.map sv := by
  unfold partsL
  cases ms with
  | nil => simp
  | cons a l =>
    cases l with
    | nil => simp
    | cons b l => intro h; simp at h
end U
namespace U
open PySem PySem.Spec PyProof.Rows L2
theorem near_n {n : Int} (h1 : 1 ≤ n) {r : Int} (h0 : 0 ≤ r) (h4 : r < 4) (h9 : n ≤ 9999) {c : Nat} (hc : figB c = true) :
    (cutL (numL n.toNat) none (some (1 + r))).length ≤ 4 ∧ digs (cutL (cutL (numL n.toNat) none (some (1 + r)) ++ [c]) none (some 4)) = true ∧ cutL (cutL (numL n.toNat) none (some (1 + r)) ++ [c]) none (some 4) ≠ [] ∧
    (cutL (cutL (numL n.toNat) none (some (1 + r)) ++ [c]) none (some 4)).length ≤ 4 ∧ 1 ≤ (valL (cutL (cutL (numL n.toNat) none (some (1 + r)) ++ [c]) none (some 4)) : Int) ∧ (valL (cutL (cutL (numL n.toNat) none (some (1 + r)) ++ [c]) none (some 4)) : Int) ≤ 9999 := by
  rw [cut_to (by omega), cut_to (by decide)]
  obtain ⟨d, s, e, hd⟩ := numL_head (n := n.toNat) (by omega)
  have hf := num_figs n.toNat
  have e1 : (1 + r).toNat = r.toNat + 1 := by omega
  have e2 : ((numL n.toNat).take (1 + r).toNat ++ [c]).take (4 : Int).toNat = d :: ((s.take r.toNat ++ [c]).take 3) := by
    rw [e, e1]; rfl
  have hall := take_all (n := (4 : Int).toNat) (all_snoc (take_all (n := (1 + r).toNat) hf) hc)
  have hlen : (((numL n.toNat).take (1 + r).toNat ++ [c]).take (4 : Int).toNat).length ≤ 4 := by rw [List.length_take]; exact Nat.min_le_left _ _
  have hv := valL_lt _ (figs_le hall)
  have hv2 : 10 ^ (((numL n.toNat).take (1 + r).toNat ++ [c]).take (4 : Int).toNat).length ≤ 10 ^ 4 := Nat.pow_le_pow_right (by decide) hlen
  refine ⟨by rw [List.length_take]; omega, digs_of hall, by rw [e2]; simp, hlen, ?_, ?_⟩
  · have := NumText.digitsVal_pos (c := d) (cs := (s.take r.toNat ++ [c]).take 3) hd
    rw [e2]
    show 1 ≤ ((NumText.digitsVal _ : Nat) : Int)
    omega
  · omega
end U
namespace U
open PySem PySem.Spec PyProof.Rows L2
theorem mix {u v : Pt} {r s : Addr} (hu : Dr u) (hv : Dr v) {n : Int} (h0 : 0 ≤ n) (h6 : n < 6) :
    ∃ x z, cutL (partsL u r) none (some (n + 1)) ++ cutL (partsL v s) (some (n + 1)) none = partsL x z ∧ Dr x ∧ ((z = r ∧ x.ms = u.ms) ∨ (z = s ∧ x.ms = v.ms)) := by
  have a := hu.ok
  have b := hv.ok
  obtain rfl | rfl | rfl | rfl | rfl | rfl : n = 0 ∨ n = 1 ∨ n = 2 ∨ n = 3 ∨ n = 4 ∨ n = 5 := by omega
  · exact ⟨⟨u.l, v.n, v.p, v.ms, v.y, v.c⟩, s, rfl, ⟨⟨a.l, b.n1, b.n2, b.p, b.pl, b.mn, b.ms, b.y, b.c⟩, hv.p, hv.ms⟩, .inr ⟨rfl, rfl⟩⟩
  · exact ⟨⟨u.l, u.n, v.p, v.ms, v.y, v.c⟩, s, rfl, ⟨⟨a.l, a.n1, a.n2, b.p, b.pl, b.mn, b.ms, b.y, b.c⟩, hv.p, hv.ms⟩, .inr ⟨rfl, rfl⟩⟩
  · exact ⟨⟨u.l, u.n, u.p, v.ms, v.y, v.c⟩, s, rfl, ⟨⟨a.l, a.n1, a.n2, a.p, a.pl, b.mn, b.ms, b.y, b.c⟩, hu.p, hv.ms⟩, .inr ⟨rfl, rfl⟩⟩
  · exact ⟨⟨u.l, u.n, u.p, u.ms, v.y, v.c⟩, r, rfl, ⟨⟨a.l, a.n1, a.n2, a.p, a.pl, a.mn, a.ms, b.y, b.c⟩, hu.p, hu.ms⟩, .inl ⟨rfl, rfl⟩⟩
  · exact ⟨⟨u.l, u.n, u.p, u.ms, u.y, v.c⟩, r, rfl, ⟨⟨a.l, a.n1, a.n2, a.p, a.pl, a.mn, a.ms, a.y, b.c⟩, hu.p, hu.ms⟩, .inl ⟨rfl, rfl⟩⟩
  · exact ⟨⟨u.l, u.n, u.p, u.ms, u.y, u.c⟩, r, rfl, ⟨⟨a.l, a.n1, a.n2, a.p, a.pl, a.mn, a.ms, a.y, a.c⟩, hu.p, hu.ms⟩, .inl ⟨rfl, rfl⟩⟩
theorem cut_len {α : Type} {l : List α} {lo hi : Option Int} : (cutL l lo hi).length ≤ l.length := by
  unfold cutL
  rw [List.length_take, List.length_drop]; omega
end U
namespace U
open PySem PySem.Spec PyProof.Rows L2
/-- a cut of the script -/
def rSlS (K : PySem.W.Frag) : V → Option Int → Option Int → Hp → VK → Prop := fun x lo hi H Q => ∃ a xs, x = .ref a ∧ SqL K H a xs ∧ ∀ p, H p = none → Q (.ref p) (upd H p (.lst (cutL xs lo hi)))
theorem slS {X : Cx} : SlR X (rSlS X.K) := SlR.imp sl_list (fun x lo hi H Q ⟨a, xs, e, h, q⟩ => ⟨a, xs, e, h, q⟩)
theorem e_slS {K : PySem.W.Frag} {a : Addr} {lo hi : Option Int} {H : Hp} {Q : VK} : rSlS K (.ref a) lo hi H Q = ∃ xs, SqL K H a xs ∧ ∀ p, H p = none → Q (.ref p) (upd H p (.lst (cutL xs lo hi))) := by
  apply propext; constructor
  · rintro ⟨b, xs, e, h⟩; cases e; exact ⟨xs, h⟩
  · rintro ⟨xs, h⟩; exact ⟨a, xs, rfl, h⟩
/-- the parts that the law begins with -/
def p0 : Pt := ⟨[97], 1, [], [], none, none⟩
theorem ok0 : p0.Ok where
  l := by decide
  n1 := by decide
  n2 := by decide
  p := by decide
  pl := by decide
  mn := by decide
  ms := by intro m hm; exact absurd hm (by simp [p0])
  y := by intro i hi; exact absurd hi (by simp [p0])
  c := by intro i hi; exact absurd hi (by simp [p0])
theorem dr0 : Dr p0 := ⟨ok0, by decide, by intro m hm; exact absurd hm (by simp [p0])⟩
theorem pl0 {H : Hp} {b r : Addr} (h1 : H b = some (.lst [sv [97], .int 1, sv [], .ref r, .non, .non])) (h2 : H r = some (.lst [])) : PL H b p0 := ⟨r, h1, h2⟩
theorem SqL_fr {K : PySem.W.Frag} {H H' : Hp} {a : Addr} {xs : List V} (f : Fr [] H H') (h : SqL K H a xs) : SqL K H' a xs := by
  rcases h with (h | ⟨o, h⟩) | h
  · exact .inl (.inl (f.get (by simp) h))
  · exact .inl (.inr ⟨o, f.get (by simp) h⟩)
  · exact .inr h
end U
namespace U
open PySem PySem.Spec PyProof.Rows L2
theorem cut_mem {α : Type} {l : List α} {lo hi : Option Int} {x : α} (h : x ∈ cutL l lo hi) : x ∈ l := by
  unfold cutL at h
  exact List.mem_of_mem_drop (List.mem_of_mem_take h)
theorem cell_int {ns : List Int} {lo hi : Option Int} {i : Nat} {x : V} (h : (cutL (ns.map V.int) lo hi ++ [V.int 7])[i]? = some x) : ∃ c, x = .int c := by
  have hm := List.mem_of_getElem? h
  rw [List.mem_append, List.mem_singleton] at hm
  rcases hm with hm | rfl
  · obtain ⟨c, _, rfl⟩ := List.mem_map.mp (cut_mem hm)
    exact ⟨c, rfl⟩
  · exact ⟨7, rfl⟩
end U
namespace U
open PySem PySem.Spec PyProof.Rows L2
theorem gstr_of {mg : Str → Option Value} {x z : Str} {l : List Nat} (h : ∃ t, mg x = some (.str z t)) (e : z.cps.toList = l) : GStr mg x l := by
  obtain ⟨t, h⟩ := h
  have ez : z = ⟨l.toArray⟩ := TL.ext_tl e
  rw [ez] at h
  exact ⟨⟨t, h⟩⟩
theorem gint_of {mg : Str → Option Value} {x : Str} {i : Int} (h : ∃ t, mg x = some (.int i t)) : GInt mg x i := ⟨h⟩
theorem vals_app {vs zs : List V} {us ws : List Value} (h : Vals vs us) (k : Vals zs ws) : Vals (vs ++ zs) (us ++ ws) := Vals.append h k
end U

namespace U
open PySem PySem.Spec PyProof.Rows L2
/-! ### for a, b, c in zip(xs, ys, us) -/
def Itz3 (K : PySem.W.Frag) (a b c : Addr) : It :=
  ⟨fun i H => ∃ (xs ys us : List V) (x y u : V), SqL K H a xs ∧ SqL K H b ys ∧ SqL K H c us ∧ xs[i]? = some x ∧ ys[i]? = some y ∧ us[i]? = some u,
    fun i H v H' => ∃ T x y u, v = .ref T ∧ H T = none ∧ H' = upd H T (.tup [x, y, u]) ∧ (∀ xs, SqL K H a xs → xs[i]? = some x) ∧ (∀ ys, SqL K H b ys → ys[i]? = some y) ∧ ∀ us, SqL K H c us → us[i]? = some u,
    fun i H => ∃ xs ys us : List V, SqL K H a xs ∧ SqL K H b ys ∧ SqL K H c us ∧ i ≤ xs.length ∧ i ≤ ys.length ∧ i ≤ us.length ∧ (i = xs.length ∨ i = ys.length ∨ i = us.length)⟩
theorem turn_zip3 {P : Program} {w : World} {K : PySem.W.Frag} {elts : List Expr} {kk : Nat} {tpos : Pos} {a b c z TI TO i1 i2 i3 : Addr} (D : ZipSep3 z TI TO i1 i2 i3 [i1, a] [i2, b] [i3, c]) (n1 : a ≠ i1) (n2 : b ≠ i2) (n3 : c ≠ i3) :
    Turn P w K (.Tuple elts kk tpos) (Itz3 K a b c) [z, TI, TO, i1, i2, i3] z (fun i h => IsZip h z TI TO .none ∧ IsTupOf3 h TI (.ref i1) (.ref i2) (.ref i3) ∧ (∃ x y u, IsTupOf3 h TO x y u) ∧ h.IsListIter i1 a i ∧ h.IsListIter i2 b i ∧ h.IsListIter i3 c i) where
  mem := by simp
  obj := fun i h st d hc => by
    obtain ⟨hz, hTI, ⟨x, y, u, hTO⟩, ⟨o1, e1, _, d1⟩, ⟨o2, e2, _, d2⟩, ⟨o3, e3, _, d3⟩⟩ := st
    have e' : d = z ∨ d = TI ∨ d = TO ∨ d = i1 ∨ d = i2 ∨ d = i3 := by simpa using hc
    rcases e' with q | q | q | q | q | q
    · rw [q]; exact ⟨_, hz, fun v q => nomatch q⟩
    · rw [q]; exact ⟨_, hTI, fun v q => nomatch q⟩
    · rw [q]; exact ⟨_, hTO, fun v q => nomatch q⟩
    · rw [q]; exact ⟨o1, e1, fun v q => by rw [d1] at q; cases q⟩
    · rw [q]; exact ⟨o2, e2, fun v q => by rw [d2] at q; cases q⟩
    · rw [q]; exact ⟨o3, e3, fun v q => by rw [d3] at q; cases q⟩
  keep := fun i h h' st k => by
    obtain ⟨hz, hTI, ⟨x, y, u, hTO⟩, h1, h2, h3⟩ := st
    exact ⟨k z (by simp) _ hz, k TI (by simp) _ hTI, ⟨x, y, u, k TO (by simp) _ hTO⟩, h1.at fun o q => k i1 (by simp) o q, h2.at fun o q => k i2 (by simp) o q, h3.at fun o q => k i3 (by simp) o q⟩
  item := by
    intro X hP hw hK hc i pins s σ H E I hf st hg
    subst hP hw hK
    obtain ⟨hz, hTI, ⟨x0, y0, u0, hTO⟩, h1, h2, h3⟩ := st
    obtain ⟨xs, ys, us, x, y, u, hqx, hqy, hqu, hx, hy, hu⟩ := hg
    obtain ⟨its, rv, p, _⟩ := I.list hqx
    obtain ⟨its2, rv2, p2, _⟩ := I.list hqy
    obtain ⟨its3, rv3, p3, _⟩ := I.list hqu
    obtain ⟨v1, hv1, r1⟩ := rv.get hx
    obtain ⟨v2, hv2, r2⟩ := rv2.get hy
    obtain ⟨v3, hv3, r3⟩ := rv3.get hu
    have hzl : z < s.heap.objs.size := Heap.lt_size hz
    have hh := I.ok.hd hc
    have L1 := (List.getElem?_eq_some_iff.mp hv1).1
    have L2 := (List.getElem?_eq_some_iff.mp hv2).1
    have L3 := (List.getElem?_eq_some_iff.mp hv3).1
    refine wpAny_pyNext_zipD3_item D (Draws.list (prog := X.prog) (w := X.w) (A := X.A.in1) hh i1 a n1 its.toArray) (Draws.list (prog := X.prog) (w := X.w) (A := X.A.in1) hh i2 b n2 its2.toArray) (Draws.list (prog := X.prog) (w := X.w) (A := X.A.in1) hh i3 c n3 its3.toArray) hz hTI hTO ⟨h1, p.isList⟩ ⟨h2, p2.isList⟩ ⟨h3, p3.isList⟩ (by simpa using L1) (by simpa using L2) (by simpa using L3)
      fun w1 w2 w3 h' tk y1 y2 y3 z' TO' d1 d2 d3 hT hsz hk => ?_
    have g1 : w1 = v1 := by have := y1; simp at this; rw [hv1] at this; exact (Option.some.inj this).symm
    have g2 : w2 = v2 := by have := y2; simp at this; rw [hv2] at this; exact (Option.some.inj this).symm
    have g3 : w3 = v3 := by have := y3; simp at this; rw [hv3] at this; exact (Option.some.inj this).symm
    subst g1 g2 g3
    refine ⟨_, rfl, wpAny_letOwnedTupleGo_zip (s := { s with heap := h', toks := tk }) z' fun h'' z'' sb => ?_⟩
    have hT2 : h''.get? s.heap.objs.size = some { cls := .type "tuple", data := .seq #[w1, w2, w3] } := (sb.2 _ (Nat.ne_of_gt hzl)).trans hT
    have new : ObjOk X.prog X.w (upd H s.heap.objs.size (.tup [x, y, u])) h'' s.heap.objs.size (.tup [x, y, u]) :=
      ⟨by show 3 ≤ sizeLine; decide, [w1, w2, w3], .cons r1 (.cons r2 (.cons r3 .nil)), ⟨_, hT2, rfl, _, rfl⟩⟩
    have I1 : Inv X pins σ (upd H s.heap.objs.size (.tup [x, y, u])) { s with heap := h'', toks := tk } :=
      I.turnedNew (t' := tk) (ch := [z, TI, TO, i1, i2, i3]) (fun c o hb q => (sb.2 c (fun q' => hb (by simp [q']))).trans (hk c o (fun q' => hb (by simp [q'])) (fun q' => hb (by simp [q'])) (fun q' => hb (by simp [q'])) (fun q' => hb (by simp [q'])) (fun q' => hb (by simp [q'])) q)) hf (Nat.le_refl _) new
    refine ⟨.ref s.heap.objs.size, _, I1, rfl, ⟨_, x, y, u, rfl, I.hok.fresh (Nat.le_refl _), rfl, fun l hl => by rw [I.list_inj hl hqx]; exact hx, fun l hl => by rw [I.list_inj hl hqy]; exact hy, fun l hl => by rw [I.list_inj hl hqu]; exact hu⟩, ⟨z'', ?_, ⟨w1, w2, w3, ?_⟩, ?_, ?_, ?_⟩, fun d hcm => ?_⟩
    · exact (sb.2 _ D.TIz).trans (hk _ _ D.TIz D.TITO D.TIi1 D.TIi2 D.TIi3 hTI)
    · exact (sb.2 _ D.TOz).trans TO'
    · exact d1.1.at fun o q => (sb.2 _ D.zi1.symm).trans q
    · exact d2.1.at fun o q => (sb.2 _ D.zi2.symm).trans q
    · exact d3.1.at fun o q => (sb.2 _ D.zi3.symm).trans q
    · have hlt : d < s.heap.objs.size := by
        have e' : d = z ∨ d = TI ∨ d = TO ∨ d = i1 ∨ d = i2 ∨ d = i3 := by simpa using hcm
        rcases e' with q | q | q | q | q | q
        · rw [q]; exact hzl
        · rw [q]; exact Heap.lt_size hTI
        · rw [q]; exact Heap.lt_size hTO
        · rw [q]; obtain ⟨_, e1, _⟩ := h1; exact Heap.lt_size e1
        · rw [q]; obtain ⟨_, e2, _⟩ := h2; exact Heap.lt_size e2
        · rw [q]; obtain ⟨_, e3, _⟩ := h3; exact Heap.lt_size e3
      rw [upd_ne (Nat.ne_of_lt hlt)]
      exact (hf d hcm).1
  done := by
    intro X hP hw hK hc i pins s σ H E I hf st hg
    subst hP hw hK
    obtain ⟨hz, hTI, ⟨x0, y0, u0, hTO⟩, h1, h2, h3⟩ := st
    obtain ⟨xs, ys, us, hqx, hqy, hqu, b1, b2, b3, hend⟩ := hg
    obtain ⟨its, rv, p, _⟩ := I.list hqx
    obtain ⟨its2, rv2, p2, _⟩ := I.list hqy
    obtain ⟨its3, rv3, p3, _⟩ := I.list hqu
    have l1 := rv.length
    have l2 := rv2.length
    have l3 := rv3.length
    have hh := I.ok.hd hc
    exact wpAny_pyNext_zipD3_end D (Draws.list (prog := X.prog) (w := X.w) (A := X.A.in1) hh i1 a n1 its.toArray) (Draws.list (prog := X.prog) (w := X.w) (A := X.A.in1) hh i2 b n2 its2.toArray) (Draws.list (prog := X.prog) (w := X.w) (A := X.A.in1) hh i3 c n3 its3.toArray) hz hTI hTO ⟨h1, p.isList⟩ ⟨h2, p2.isList⟩ ⟨h3, p3.isList⟩ (by simp; omega) (by simp; omega) (by simp; omega) (by simp; omega)
      fun h' tk hk => ⟨rfl, I.turnedL (t' := tk) (ch := [z, TI, TO, i1, i2, i3]) (fun c o hb q =>
      hk c o (fun q' => hb (by simp [q'])) (fun q' => hb (by simp [q'])) (fun q' => hb (by simp [q'])) (fun q' => hb (by simp [q'])) (fun q' => hb (by simp [q'])) q) hf⟩
  self := fun A i s Q E st h => wpAny_pyIter_zip st.1 h
def iZip3 (K : PySem.W.Frag) (ta : TA) : TI := fun σ H R => ta σ H fun vs H1 => ∃ a b c xs ys us, vs = [.ref a, .ref b, .ref c] ∧ SqL K H1 a xs ∧ SqL K H1 b ys ∧ SqL K H1 c us ∧ R (Itz3 K a b c) H1
theorem pi_zip3 {X : Cx} {e e2 e3 : Expr} {ta : TA} {p pos tpos : Pos} {elts : List Expr} {kk : Nat} (hg : Gl X "zip") (hm : X.mg "zip" = none) (ha : PA X [e, e2, e3] ta)
    (hs : starEach [e, e2, e3] X.env = (false, eval e X.env) :: starEach [e2, e3] X.env := by rfl) (hpl : (backTo pos (starEach [e2, e3] X.env)).any (·.1) = false := by rfl) :
    PI X (.Tuple elts kk tpos) (.Call (.Name "zip" p) [e, e2, e3] [] pos) (iZip3 X.K ta) := by
  refine ⟨fun pins s σ H R I h => ?_⟩
  refine Call_ (ld_blt I hg hm PyProof.Rows.boot_zip (PyProof.Rows.callWith_type1 (thn (ha.run pos pins s σ H _ I h) fun us s1 ⟨vs, H1, I1, r1, q1⟩ => ?_) hs hpl))
  obtain ⟨a, b, c, xs, ys, zs, ex, hqx, hqy, hqz, q⟩ := q1
  subst ex
  cases r1 with
  | cons r rr =>
    cases rr with
    | cons r' rr =>
      cases rr with
      | cons r'' rr =>
        cases rr
        cases r
        cases r'
        cases r''
        obtain ⟨its, rv, p1, _⟩ := I1.list hqx
        obtain ⟨its2, rv2, p2, _⟩ := I1.list hqy
        obtain ⟨its3, rv3, p3, _⟩ := I1.list hqz
        have la : a < s1.heap.objs.size := p1.lt
        have lb : b < s1.heap.objs.size := p2.lt
        have lc : c < s1.heap.objs.size := p3.lt
        have S := zip_sep3 (N := s1.heap.objs.size) (fp1 := [a]) (fp2 := [b]) (fp3 := [c]) (by simpa using la) (by simpa using lb) (by simpa using lc)
        refine zip_begins3 (begins_list a its.toArray) (begins_list b its2.toArray) (begins_list c its3.toArray) p1.isList p2.isList p3.isList fun h' hz hTI hTO g1 g2 g3 hsz hk => wpAny_pyIter_zip hz ?_
        have I2 : Inv X pins σ H1 { s1 with heap := h' } := I1.kept (t' := s1.toks) hk
        refine ⟨s1.heap.objs.size + 5, [s1.heap.objs.size + 5, s1.heap.objs.size + 3, s1.heap.objs.size + 4, s1.heap.objs.size, s1.heap.objs.size + 1, s1.heap.objs.size + 2], _, _, H1, rfl, I2,
          turn_zip3 S (Nat.ne_of_lt la) (Nat.ne_of_lt (Nat.lt_succ_of_lt lb)) (Nat.ne_of_lt (Nat.lt_succ_of_lt (Nat.lt_succ_of_lt lc))), ⟨hz, hTI, ⟨_, _, _, hTO⟩, ⟨_, g1, rfl, rfl⟩, ⟨_, g2, rfl, rfl⟩, ⟨_, g3, rfl, rfl⟩⟩, fun d hcm => ?_, q⟩
        have e' : d = s1.heap.objs.size + 5 ∨ d = s1.heap.objs.size + 3 ∨ d = s1.heap.objs.size + 4 ∨ d = s1.heap.objs.size ∨ d = s1.heap.objs.size + 1 ∨ d = s1.heap.objs.size + 2 := by simpa using hcm
        have hle : s1.heap.objs.size ≤ d := by
          rcases e' with z | z | z | z | z | z
          · rw [z]; exact Nat.le_add_right _ _
          · rw [z]; exact Nat.le_add_right _ _
          · rw [z]; exact Nat.le_add_right _ _
          · rw [z]; exact Nat.le_refl _
          · rw [z]; exact Nat.le_add_right _ _
          · rw [z]; exact Nat.le_add_right _ _
        exact I1.fpOk hle (I1.hok.fresh hle)
end U

namespace U
open PySem PySem.Spec PyProof.Rows L2
/-! ### lists of e for ..: once the iterator is known -/
def lcBody (g : TG) (tt : TT) (te : TE) (vs : List Nat) (σ : L2.St) (Q : VK) (J : It) (H1 : Hp) : Prop := ∀ D, H1 D = none → ∃ W : Nat → Nat → Hp → Prop, (∃ m, W 0 m (upd H1 D (.lst []))) ∧ ∀ i m H, W i m H →
  (J.stop i H ∧ Q (.ref D) H) ∨ (J.go i H ∧ ∃ Nx : Hp → Prop, (∀ H', Nx H' → ∃ m', m' < m ∧ W (i + 1) m' H') ∧ ∀ x H', J.yld i H x H' → g x (wipe σ vs) H' fun σ2 H2 => wipe σ2 vs = wipe σ vs ∧ tt σ2 H2 fun b H3 =>
    if b = true then te σ2 H3 fun y H4 => ∃ acc, H4 D = some (.lst acc) ∧ acc.length < sizeLine ∧ Nx (upd H4 D (.lst (acc ++ [y]))) else Nx H3)
theorem e_lc {wi : TI} {g : TG} {tt : TT} {te : TE} {vs : List Nat} {σ : L2.St} {H : Hp} {Q : VK} : tLc wi g tt te vs σ H Q = wi σ H fun J H1 => lcBody g tt te vs σ Q J H1 := rfl
def forBody (g : TG) (tb : TS) (D : Ends) (σ : L2.St) (J : It) (H1 : Hp) : Prop := ∃ W : Nat → Nat → L2.St → Hp → Prop, (∃ m, W 0 m σ H1) ∧ ∀ i m σ H, W i m σ H →
  (J.stop i H ∧ D.nx σ H) ∨ (J.go i H ∧ ∃ N : L2.St → Hp → Prop, (∀ σ' H', N σ' H' → ∃ m', m' < m ∧ W (i + 1) m' σ' H') ∧ ∀ x H', J.yld i H x H' → g x σ H' fun σ2 H2 => tb { D with nx := N, ct := N, bk := D.nx } σ2 H2)
theorem e_forE {K : PySem.W.Frag} {ta : TA} {g : TG} {tb : TS} {D : Ends} {σ : L2.St} {H : Hp} : tFor (iEnum K ta) g tb D σ H = iEnum K ta σ H fun J H1 => forBody g tb D σ J H1 := rfl
theorem e_for2 {ta : TA} {g : TG} {tb : TS} {D : Ends} {σ : L2.St} {H : Hp} : tFor (iRng2 ta) g tb D σ H = iRng2 ta σ H fun J H1 => forBody g tb D σ J H1 := rfl
theorem e_forZ {K : PySem.W.Frag} {ta : TA} {g : TG} {tb : TS} {D : Ends} {σ : L2.St} {H : Hp} : tFor (iZip K ta) g tb D σ H = iZip K ta σ H fun J H1 => forBody g tb D σ J H1 := rfl
/-- the list of what is known of each -/
theorem lcM {J : It} {n : Nat} {G : Hp → Prop} {Y : Nat → Hp → V → Hp → Prop} (w : Walk J n G Y) {g : TG} {tt : TT} {te : TE} {vs : List Nat} {σ : L2.St} {Q : VK} {H1 : Hp} (ys : List V) (hn : ys.length = n) (hl : ys.length < 16777216) (ht : tt = tYes) (hG : ∀ H, Fr [] H1 H → G H)
    (hs : ∀ i y v H H' (R : VK), ys[i]? = some y → Fr [] H1 H → Y i H v H' → (∀ H4, Fr [] H H4 → R y H4) → g v (wipe σ vs) H' fun σ2 H2 => wipe σ2 vs = wipe σ vs ∧ te σ2 H2 R)
    (hd : ∀ D H, H1 D = none → Fr [] H1 H → H D = some (.lst ys) → Q (.ref D) H) : lcBody g tt te vs σ Q J H1 := by
  subst ht
  intro D hD
  refine lc_it w (fun i H => i ≤ n ∧ H D = some (.lst (ys.take i)) ∧ Fr [] H1 H) ⟨Nat.zero_le _, upd_same, fr1 hD⟩ (fun i H _ hP => hG H hP.2.2) (fun i x H H' hi hP hY => ?_) (fun H hP => ?_)
  · obtain ⟨hin, hDy, f⟩ := hP
    have hlt : i < ys.length := by omega
    exact hs i ys[i] x H H' _ (List.getElem?_eq_getElem hlt) f hY fun H4 f4 => ⟨_, f4.get (by simp) hDy, by rw [List.length_take, line]; omega, by omega, by rw [upd_same, List.take_add_one, List.getElem?_eq_getElem hlt]; rfl, (f.trans f4).own (.inr hD)⟩
  · obtain ⟨_, hDy, f⟩ := hP
    exact hd D H hD f (by rw [hDy, ← hn, List.take_length])
/-- a target of two, three names -/
theorem tgt2 {K : PySem.W.Frag} {n i j : Nat} {T : Addr} {x y : V} {σ : L2.St} {H : Hp} {Q : L2.St → Hp → Prop} (hT : H T = some (.tup [x, y])) (hn : 2 = n) (q : Q ((σ.set i (some x)).set j (some y)) H) : gTup K n (gCons (gName i) (gCons (gName j) gNil)) (.ref T) σ H Q :=
  ⟨T, [x, y], rfl, SqT.of hT, hn, x, [y], rfl, y, [], rfl, rfl, q⟩
theorem tgt3 {K : PySem.W.Frag} {n i j k : Nat} {T : Addr} {x y z : V} {σ : L2.St} {H : Hp} {Q : L2.St → Hp → Prop} (hT : H T = some (.tup [x, y, z])) (hn : 3 = n) (q : Q (((σ.set i (some x)).set j (some y)).set k (some z)) H) : gTup K n (gCons (gName i) (gCons (gName j) (gCons (gName k) gNil))) (.ref T) σ H Q :=
  ⟨T, [x, y, z], rfl, SqT.of hT, hn, x, [y, z], rfl, y, [z], rfl, z, [], rfl, rfl, q⟩
theorem walk_zip3 {K : PySem.W.Frag} {a b c : Addr} {xs ys us : List V} {n : Nat} (h1 : xs.length = n) (h2 : ys.length = n) (h3 : us.length = n) : Walk (Itz3 K a b c) n (fun H => SqL K H a xs ∧ SqL K H b ys ∧ SqL K H c us)
    (fun i H v H' => ∃ T x y u, v = .ref T ∧ H T = none ∧ H' = upd H T (.tup [x, y, u]) ∧ xs[i]? = some x ∧ ys[i]? = some y ∧ us[i]? = some u) where
  goes := fun i H hi ⟨h4, h5, h6⟩ => ⟨xs, ys, us, xs[i], ys[i], us[i], h4, h5, h6, List.getElem?_eq_getElem (by omega), List.getElem?_eq_getElem (by omega), List.getElem?_eq_getElem (by omega)⟩
  stops := fun H ⟨h4, h5, h6⟩ => ⟨xs, ys, us, h4, h5, h6, by omega, by omega, by omega, by omega⟩
  yields := fun i H v H' hi ⟨h4, h5, h6⟩ ⟨T, x, y, u, e1, e2, e3, k1, k2, k3⟩ => ⟨T, x, y, u, e1, e2, e3, k1 _ h4, k2 _ h5, k3 _ h6⟩
/-! ### sum of a list of whole numbers -/
def intsOf : List V → Option (List Int)
  | [] => some []
  | .int i :: r => (intsOf r).map fun l => i :: l
  | _ => none
theorem intsOf_map : ∀ ns : List Int, intsOf (ns.map V.int) = some ns
  | [] => rfl
  | i :: r => by
    show (intsOf (r.map V.int)).map (fun l => i :: l) = some (i :: r)
    rw [intsOf_map r]; rfl
theorem intsOf_some : ∀ {xs : List V} {ns : List Int}, intsOf xs = some ns → xs = ns.map V.int
  | [], ns, h => by cases h; rfl
  | .int i :: r, ns, h => by
    have h : (intsOf r).map (fun l => i :: l) = some ns := h
    cases e : intsOf r with
    | none => rw [e] at h; cases h
    | some z => rw [e] at h; cases h; rw [intsOf_some e]; rfl
  | .non :: _, _, h => by cases h
  | .bl _ :: _, _, h => by cases h
  | .str _ :: _, _, h => by cases h
  | .byt _ :: _, _, h => by cases h
  | .flt _ :: _, _, h => by cases h
  | .ref _ :: _, _, h => by cases h
  | .ty _ :: _, _, h => by cases h
def rSumU : List V → Hp → VK → Prop := fun vs H Q => match vs with
  | [.ref p] => optE ((H p).bind lstOf) fun xs => optE (intsOf xs) fun ns => Q (.int ns.sum) H
  | _ => False
theorem c_sum {X : Cx} (hc : X.calm = true) : CallR X (.builtin "sum") rSumU := CallR.imp (cr_sum hc) (fun vs H Q h => by
  unfold rSumU at h
  split at h
  · obtain ⟨xs, h1, ns, h2, q⟩ := h
    have e := lstOf_bind h1
    rw [intsOf_some h2] at e
    exact ⟨_, ns, rfl, SqL.of e, q⟩
  · exact h.elim)
theorem e_sum {p : Addr} {H : Hp} {Q : VK} : rSumU [.ref p] H Q = optE ((H p).bind lstOf) fun xs => optE (intsOf xs) fun ns => Q (.int ns.sum) H := rfl
theorem int_at {ns : List Int} {i : Int} (h0 : 0 ≤ i) (h1 : i < ns.length) : atI (ns.map V.int) i = some (.int (ns.getD i.toNat 0)) := by
  obtain ⟨n, rfl⟩ := Int.eq_ofNat_of_zero_le h0
  have hn : n < ns.length := by omega
  refine atI_nat ?_
  rw [List.getElem?_map, List.getElem?_eq_getElem hn]
  simp [List.getD, List.getElem?_eq_getElem hn]
theorem atI_lastV {α : Type} {l : List α} {c : α} : atI (l ++ [c]) (-1) = some c := by
  unfold atI ixN
  rw [if_neg (by decide), if_pos (by simp; omega)]
  have e : ((-1 : Int) + ((l ++ [c]).length : Nat)).toNat = l.length := by simp; omega
  rw [e]
  simp
end U
namespace U
open PySem PySem.Spec PyProof.Rows L2
theorem pe_fldK {X : Cx} {K : PySem.W.Frag} {e : Expr} {ta : TE} {f : Str} (hK : X.K = K) (h : PE X e (tFld X.K ta f)) : PE X e (tFld K ta f) := hK ▸ h
theorem pg_tupK {X : Cx} {K : PySem.W.Frag} {e : Expr} {n : Nat} {t : TGs} (hK : X.K = K) (h : PG X e (gTup X.K n t)) : PG X e (gTup K n t) := hK ▸ h
end U

namespace U
open PySem PySem.Spec PyProof.Rows L2
/-! ### the counts, as the program builds them: by their places -/
abbrev iv (l : List Int) : List V := l.map V.int
def sq (n : Nat) (F : Nat → Int) : List Int := (List.range n).map F
theorem sq_len {n : Nat} {F : Nat → Int} : (sq n F).length = n := by unfold sq; simp
theorem sq_get {n : Nat} {F : Nat → Int} {i : Nat} (h : i < n) : (sq n F).getD i 0 = F i := by
  unfold sq
  simp [List.getD, List.getElem?_map, List.getElem?_range h]
theorem sq_succ {n : Nat} {F : Nat → Int} : sq (n + 1) F = sq n F ++ [F n] := by
  unfold sq
  rw [List.range_succ, List.map_append]; rfl
theorem iv_app {a b : List Int} : iv a ++ iv b = iv (a ++ b) := (List.map_append ..).symm
theorem iv_len {a : List Int} : (iv a).length = a.length := List.length_map ..
theorem iv_at {T : List Int} {i : Nat} {y : V} (h : (iv T)[i]? = some y) : i < T.length ∧ y = .int (T.getD i 0) := by
  rw [List.getElem?_map] at h
  cases e : T[i]? with
  | none => rw [e] at h; cases h
  | some z =>
    rw [e] at h
    obtain ⟨hi, e2⟩ := List.getElem?_eq_some_iff.mp e
    refine ⟨hi, ?_⟩
    cases h
    simp [List.getD, e]
theorem iv_ix {T : List Int} {i : Int} (h0 : 0 ≤ i) (h1 : i < T.length) : atI (iv T) i = some (.int (T.getD i.toNat 0)) := int_at h0 h1
theorem sq_ix {n : Nat} {F : Nat → Int} {i : Int} (h0 : 0 ≤ i) (h1 : i < n) : atI (iv (sq n F)) i = some (.int (F i.toNat)) := by
  rw [iv_ix h0 (by rw [sq_len]; exact h1), sq_get (by omega)]
theorem sq_at {n : Nat} {F : Nat → Int} {i : Nat} {y : V} (h : (iv (sq n F))[i]? = some y) : i < n ∧ y = .int (F i) := by
  obtain ⟨h1, h2⟩ := iv_at h
  rw [sq_len] at h1
  rw [sq_get h1] at h2
  exact ⟨h1, h2⟩
theorem sq_last {n : Nat} {F : Nat → Int} : atI (iv (sq (n + 1) F)) (-1) = some (.int (F n)) := by
  rw [sq_succ, ← iv_app]; exact atI_lastV
theorem sq_ext {n : Nat} {F G : Nat → Int} (h : ∀ i, i < n → F i = G i) : sq n F = sq n G := by
  unfold sq
  apply List.map_congr_left
  intro i hi
  exact h i (List.mem_range.mp hi)
theorem list_sq (l : List Int) : l = sq l.length (fun i => l.getD i 0) := by
  apply List.ext_getElem
  · rw [sq_len]
  · intro i h1 h2
    unfold sq
    simp [List.getD, List.getElem?_eq_getElem h1]
theorem sq_set {n k : Nat} {F : Nat → Int} {v : Int} (h : k < n) : (sq n F).set k v = sq n (fun i => if i = k then v else F i) := by
  apply List.ext_getElem
  · simp [sq]
  · intro i h1 h2
    simp only [sq, List.getElem_set, List.getElem_map, List.getElem_range]
    by_cases e : k = i
    · subst e; simp
    · simp [e, Ne.symm e]
def entF (F : Nat → Int) (i : Int) : Int := if i < 0 then 0 else F i.toNat
def gsF (T : Nat → Int) : Nat → Int × Int
  | 0 => (0, T 0)
  | k + 1 => ((gsF T k).1 + 9 * (gsF T k).2, T (k + 1) + ((gsF T k).1 + 9 * (gsF T k).2))
def goF (T : Nat → Int) (k : Nat) : Int := (gsF T k).1
def stF (T : Nat → Int) (k : Nat) : Int := (gsF T k).2
theorem goF_s {T : Nat → Int} {k : Nat} : goF T (k + 1) = goF T k + 9 * stF T k := rfl
theorem stF_s {T : Nat → Int} {k : Nat} : stF T (k + 1) = T (k + 1) + goF T (k + 1) := rfl
def copF : Nat → Int
  | 0 => 1
  | k + 1 => if k + 1 < 4 then 1 else if k + 1 = 4 then 9 else 10 * copF k + 9
def yearF (i : Nat) : Int := copF i + 2000 * entF copF ((i : Int) - 5)
def makF (G : Nat → Int) (i : Nat) : Int := yearF i + 26 * entF G ((i : Int) - 2)
def endF : Nat → Nat → Int
  | 0 => yearF
  | k + 1 => makF (goF (endF k))
def numF (i : Nat) : Int := endF 3 i + entF (goF (endF 3)) ((i : Int) - 1)
def lonF (F : Nat → Int) (k : Nat) (S : Nat → Int) (i : Nat) : Int := (sq k fun z => S z * entF F ((i : Int) - (z : Int))).sum
def wordF : Nat → Int := lonF numF 5 (fun z => [0, 9, 90, 900, 9000].getD z 0)
def sigF : Nat → Int := lonF wordF 4 (fun z => [0, 26, 676, 17576].getD z 0)
/-! ### as the law counts -/
def behF (A O : Nat → Int) : Nat → Nat → Int
  | 0, _ => 0
  | i + 1, m => behF A O i m + (if A i > 0 ∧ i ≤ m then A i * O (m - i) else 0)
def behL (A O : List Int) : List Int := sq 61 (behF (fun i => A.getD i 0) (fun i => O.getD i 0) A.length)
def lngL (T : List Int) : List Int := (T ++ List.replicate 61 0).take 61
def add3 (A B C : List Int) : List Int := sq A.length fun i => A.getD i 0 + B.getD i 0 + C.getD i 0
/-! ### their values -/
def l_cop : List Int := [1, 1, 1, 1, 9, 99, 999, 9999, 99999, 999999, 9999999, 99999999, 999999999, 9999999999, 99999999999, 999999999999, 9999999999999, 99999999999999, 999999999999999, 9999999999999999, 99999999999999999, 999999999999999999, 9999999999999999999, 99999999999999999999, 999999999999999999999, 9999999999999999999999, 99999999999999999999999, 999999999999999999999999, 9999999999999999999999999, 99999999999999999999999999, 999999999999999999999999999, 9999999999999999999999999999, 99999999999999999999999999999, 999999999999999999999999999999, 9999999999999999999999999999999, 99999999999999999999999999999999, 999999999999999999999999999999999, 9999999999999999999999999999999999, 99999999999999999999999999999999999, 999999999999999999999999999999999999, 9999999999999999999999999999999999999, 99999999999999999999999999999999999999, 999999999999999999999999999999999999999, 9999999999999999999999999999999999999999, 99999999999999999999999999999999999999999, 999999999999999999999999999999999999999999, 9999999999999999999999999999999999999999999, 99999999999999999999999999999999999999999999, 999999999999999999999999999999999999999999999, 9999999999999999999999999999999999999999999999, 99999999999999999999999999999999999999999999999, 999999999999999999999999999999999999999999999999, 9999999999999999999999999999999999999999999999999, 99999999999999999999999999999999999999999999999999, 999999999999999999999999999999999999999999999999999, 9999999999999999999999999999999999999999999999999999, 99999999999999999999999999999999999999999999999999999, 999999999999999999999999999999999999999999999999999999, 9999999999999999999999999999999999999999999999999999999, 99999999999999999999999999999999999999999999999999999999, 999999999999999999999999999999999999999999999999999999999]
def l_year : List Int := [1, 1, 1, 1, 9, 2099, 2999, 11999, 101999, 1017999, 10197999, 101997999, 1019997999, 10199997999, 101999997999, 1019999997999, 10199999997999, 101999999997999, 1019999999997999, 10199999999997999, 101999999999997999, 1019999999999997999, 10199999999999997999, 101999999999999997999, 1019999999999999997999, 10199999999999999997999, 101999999999999999997999, 1019999999999999999997999, 10199999999999999999997999, 101999999999999999999997999, 1019999999999999999999997999, 10199999999999999999999997999, 101999999999999999999999997999, 1019999999999999999999999997999, 10199999999999999999999999997999, 101999999999999999999999999997999, 1019999999999999999999999999997999, 10199999999999999999999999999997999, 101999999999999999999999999999997999, 1019999999999999999999999999999997999, 10199999999999999999999999999999997999, 101999999999999999999999999999999997999, 1019999999999999999999999999999999997999, 10199999999999999999999999999999999997999, 101999999999999999999999999999999999997999, 1019999999999999999999999999999999999997999, 10199999999999999999999999999999999999997999, 101999999999999999999999999999999999999997999, 1019999999999999999999999999999999999999997999, 10199999999999999999999999999999999999999997999, 101999999999999999999999999999999999999999997999, 1019999999999999999999999999999999999999999997999, 10199999999999999999999999999999999999999999997999, 101999999999999999999999999999999999999999999997999, 1019999999999999999999999999999999999999999999997999, 10199999999999999999999999999999999999999999999997999, 101999999999999999999999999999999999999999999999997999, 1019999999999999999999999999999999999999999999999997999, 10199999999999999999999999999999999999999999999999997999, 101999999999999999999999999999999999999999999999999997999, 1019999999999999999999999999999999999999999999999999997999]
def l_m1 : List Int := [1, 1, 1, 235, 2583, 28073, 262973, 2613845, 26611625, 266816025, 2670986025, 26733746025, 267575690025, 2678143250025, 26805300050025, 268291680050025, 2685303600050025, 26876904000050025, 269007720000050025, 2692464000000050025, 26948508000000050025, 269723760000000050025, 2699624400000000050025, 27020112000000000050025, 270439800000000000050025, 2706784800000000000050025, 27091716000000000000050025, 271155840000000000000050025, 2713945200000000000000050025, 27163320000000000000000050025, 271871880000000000000000050025, 2721105600000000000000000050025, 27234924000000000000000000050025, 272587920000000000000000000050025, 2728266000000000000000000000050025, 27306528000000000000000000000050025, 273303960000000000000000000000050025, 2735426400000000000000000000000050025, 27378132000000000000000000000000050025, 274020000000000000000000000000000050025, 2742586800000000000000000000000000050025, 27449736000000000000000000000000000050025, 274736040000000000000000000000000000050025, 2749747200000000000000000000000000000050025, 27521340000000000000000000000000000000050025, 275452080000000000000000000000000000000050025, 2756907600000000000000000000000000000000050025, 27592944000000000000000000000000000000000050025, 276168120000000000000000000000000000000000050025, 2764068000000000000000000000000000000000000050025, 27664548000000000000000000000000000000000000050025, 276884160000000000000000000000000000000000000050025, 2771228400000000000000000000000000000000000000050025, 27736152000000000000000000000000000000000000000050025, 277600200000000000000000000000000000000000000000050025, 2778388800000000000000000000000000000000000000000050025, 27807756000000000000000000000000000000000000000000050025, 278316240000000000000000000000000000000000000000000050025, 2785549200000000000000000000000000000000000000000000050025, 27879360000000000000000000000000000000000000000000000050025, 279032280000000000000000000000000000000000000000000000050025]
def l_m2 : List Int := [1, 1, 1, 235, 2583, 28073, 317729, 3763721, 44188301, 503416701, 5645824749, 62685385749, 689288825349, 7517899001349, 81434686601349, 876959577497349, 9396281295497349, 100235253166697349, 1065132784798697349, 11279688890398697349, 119086084439998697349, 1253808650879998697349, 13168123084799998697349, 137987181719999998697349, 1442987177039999998697349, 15061583879999999998697349, 156938545007999999998697349, 1632668363279999999998697349, 16960071275999999999998697349, 175940174303999999999998697349, 1822852209599999999999998697349, 18863585272799999999999998697349, 194992069607999999999999998697349, 2013538715999999999999999998697349, 20772125870399999999999999998697349, 214094230919999999999999999998697349, 2204727882479999999999999999998697349, 22685693068799999999999999999998697349, 233246658239999999999999999999998697349, 2396419709039999999999999999999998697349, 24604286867999999999999999999999998697349, 252449351567999999999999999999999998697349, 2588614195679999999999999999999999998697349, 26527907267999999999999999999999999998697349, 271702310903999999999999999999999999998697349, 2781311342399999999999999999999999999998697349, 28456554268799999999999999999999999999998697349, 291005536247999999999999999999999999999998697349, 2974511149199999999999999999999999999999998697349, 30390227870399999999999999999999999999999998697349, 310359027599999999999999999999999999999999998697349, 3168213616079999999999999999999999999999999998697349, 32328928072799999999999999999999999999999999998697349, 329762784959999999999999999999999999999999999998697349, 3362418743039999999999999999999999999999999999998697349, 34272654875999999999999999999999999999999999999998697349, 349216808327999999999999999999999999999999999999998697349, 3557126530079999999999999999999999999999999999999998697349, 36221408279999999999999999999999999999999999999999998697349, 368721097703999999999999999999999999999999999999999998697349, 3752336977199999999999999999999999999999999999999999998697349]
def l_m3 : List Int := [1, 1, 1, 235, 2583, 28073, 317729, 3763721, 44188301, 516229605, 6043024773, 70770328173, 825502807773, 9576151087005, 110429891153325, 1265592496682925, 14415113333162925, 163206849996362925, 1837277041098026925, 20571500234126666925, 229170051582273866925, 2540941587465633866925, 28048863075009633866925, 308354774509056033866925, 3376938969396480033866925, 36850730495808000033866925, 400796305480560000033866925, 4345622054232960000033866925, 46980631170249600000033866925, 506529931234368000000033866925, 5447343709351200000000033866925, 58442093772096000000000033866925, 625590938508096000000000033866925, 6682456802127360000000000033866925, 71238646975108800000000000033866925, 758014614039360000000000000033866925, 8051314199937600000000000000033866925, 85373819453049600000000000000033866925, 903836244565776000000000000000033866925, 9554268770158080000000000000000033866925, 100851139879680000000000000000000033866925, 1063091116824960000000000000000000033866925, 11191673380164960000000000000000000033866925, 117674136928761600000000000000000000033866925, 1235814517554528000000000000000000000033866925, 12963880897334400000000000000000000000033866925, 135846339274056000000000000000000000000033866925, 1422041733492096000000000000000000000000033866925, 14871244189042560000000000000000000000000033866925, 155371275589324800000000000000000000000000033866925, 1621808051375280000000000000000000000000000033866925, 16914116122665600000000000000000000000000000033866925, 176252474548329600000000000000000000000000000033866925, 1835148757941696000000000000000000000000000000033866925, 19092849565579680000000000000000000000000000000033866925, 198493464824832000000000000000000000000000000000033866925, 2062099139928960000000000000000000000000000000000033866925, 21407797385160960000000000000000000000000000000000033866925, 222097775092593600000000000000000000000000000000000033866925, 2302694484074688000000000000000000000000000000000000033866925, 23859312448785600000000000000000000000000000000000000033866925]
def l_g0 : List Int := [0, 9, 99, 999, 9999, 100071, 1019601, 10223001, 102338001, 1024298001, 10252142001, 102613202001, 1027050002001, 10279680002001, 102888600002001, 1029804000002001, 10307220000002001, 103164000000002001, 1032558000000002001, 10334760000000002001, 103439400000000002001, 1035312000000000002001, 10362300000000000002001, 103714800000000000002001, 1038066000000000000002001, 10389840000000000000002001, 103990200000000000000002001, 1040820000000000000000002001, 10417380000000000000000002001, 104265600000000000000000002001, 1043574000000000000000000002001, 10444920000000000000000000002001, 104541000000000000000000000002001, 1046328000000000000000000000002001, 10472460000000000000000000000002001, 104816400000000000000000000000002001, 1049082000000000000000000000000002001, 10500000000000000000000000000000002001, 105091800000000000000000000000000002001, 1051836000000000000000000000000000002001, 10527540000000000000000000000000000002001, 105367200000000000000000000000000000002001, 1054590000000000000000000000000000000002001, 10555080000000000000000000000000000000002001, 105642600000000000000000000000000000000002001, 1057344000000000000000000000000000000000002001, 10582620000000000000000000000000000000000002001, 105918000000000000000000000000000000000000002001, 1060098000000000000000000000000000000000000002001, 10610160000000000000000000000000000000000000002001, 106193400000000000000000000000000000000000000002001, 1062852000000000000000000000000000000000000000002001, 10637700000000000000000000000000000000000000000002001, 106468800000000000000000000000000000000000000000002001, 1065606000000000000000000000000000000000000000000002001, 10665240000000000000000000000000000000000000000000002001, 106744200000000000000000000000000000000000000000000002001, 1068360000000000000000000000000000000000000000000000002001, 10692780000000000000000000000000000000000000000000000002001, 107019600000000000000000000000000000000000000000000000002001, 1071114000000000000000000000000000000000000000000000000002001]
def l_s0 : List Int := [1, 10, 100, 1000, 10008, 102170, 1022600, 10235000, 102440000, 1025316000, 10262340000, 102715200000, 1028070000000, 10289880000000, 102990600000000, 1030824000000000, 10317420000000000, 103266000000000000, 1033578000000000000, 10344960000000000000, 103541400000000000000, 1036332000000000000000, 10372500000000000000000, 103816800000000000000000, 1039086000000000000000000, 10400040000000000000000000, 104092200000000000000000000, 1041840000000000000000000000, 10427580000000000000000000000, 104367600000000000000000000000, 1044594000000000000000000000000, 10455120000000000000000000000000, 104643000000000000000000000000000, 1047348000000000000000000000000000, 10482660000000000000000000000000000, 104918400000000000000000000000000000, 1050102000000000000000000000000000000, 10510200000000000000000000000000000000, 105193800000000000000000000000000000000, 1052856000000000000000000000000000000000, 10537740000000000000000000000000000000000, 105469200000000000000000000000000000000000, 1055610000000000000000000000000000000000000, 10565280000000000000000000000000000000000000, 105744600000000000000000000000000000000000000, 1058364000000000000000000000000000000000000000, 10592820000000000000000000000000000000000000000, 106020000000000000000000000000000000000000000000, 1061118000000000000000000000000000000000000000000, 10620360000000000000000000000000000000000000000000, 106295400000000000000000000000000000000000000000000, 1063872000000000000000000000000000000000000000000000, 10647900000000000000000000000000000000000000000000000, 106570800000000000000000000000000000000000000000000000, 1066626000000000000000000000000000000000000000000000000, 10675440000000000000000000000000000000000000000000000000, 106846200000000000000000000000000000000000000000000000000, 1069380000000000000000000000000000000000000000000000000000, 10702980000000000000000000000000000000000000000000000000000, 107121600000000000000000000000000000000000000000000000000000, 1072134000000000000000000000000000000000000000000000000000000]
def l_g1 : List Int := [0, 9, 99, 999, 12105, 144297, 1695627, 19323027, 216754875, 2407053375, 26471877975, 288757653975, 3128180253975, 33689983749975, 361003126749975, 3851278967949975, 40927414799949975, 433441880399949975, 4576310939999949975, 48184178879999949975, 506073964799999949975, 5303276219999999949975, 55460276039999999949975, 578899379999999999949975, 6032174807999999999949975, 62755706279999999999949975, 651918125999999999999949975, 6763006703999999999999949975, 70070469599999999999999949975, 725130202799999999999999949975, 7495771907999999999999999949975, 77404565999999999999999999949975, 798535610399999999999999999949975, 8230470419999999999999999999949975, 84757995479999999999999999999949975, 872134348799999999999999999999949975, 8967102239999999999999999999999949975, 92130758039999999999999999999999949975, 945926417999999999999999999999999949975, 9705667367999999999999999999999999949975, 99522853679999999999999999999999999949975, 1019911817999999999999999999999999999949975, 10446165803999999999999999999999999999949975, 106934282399999999999999999999999999999949975, 1094090548799999999999999999999999999999949975, 11188597547999999999999999999999999999999949975, 114365044199999999999999999999999999999999949975, 1168462610399999999999999999999999999999999949975, 11932962599999999999999999999999999999999999949975, 121815139079999999999999999999999999999999999949975, 1243028002799999999999999999999999999999999999949975, 12679260959999999999999999999999999999999999999949975, 129284567039999999999999999999999999999999999999949975, 1317786725999999999999999999999999999999999999999949975, 13427492627999999999999999999999999999999999999999949975, 136773328079999999999999999999999999999999999999999949975, 1392738779999999999999999999999999999999999999999999949975, 14177657603999999999999999999999999999999999999999999949975, 144281422199999999999999999999999999999999999999999999949975, 1467884164799999999999999999999999999999999999999999999949975, 14929755887999999999999999999999999999999999999999999999949975]
def l_s1 : List Int := [1, 10, 100, 1234, 14688, 172370, 1958600, 21936872, 243366500, 2673869400, 29142864000, 315491400000, 3395755944000, 36368127000000, 387808426800000, 4119570648000000, 43612718400000000, 460318784400000000, 4845318660000000000, 50876642880000000000, 533022472800000000000, 5572999980000000000000, 58159900440000000000000, 605919492000000000000000, 6302614608000000000000000, 65462491080000000000000000, 679009842000000000000000000, 7034162544000000000000000000, 72784414800000000000000000000, 752293522800000000000000000000, 7767643788000000000000000000000, 80125671600000000000000000000000, 825770534400000000000000000000000, 8503058340000000000000000000000000, 87486261480000000000000000000000000, 899440876800000000000000000000000000, 9240406200000000000000000000000000000, 94866184440000000000000000000000000000, 973304550000000000000000000000000000000, 9979687368000000000000000000000000000000, 102265440480000000000000000000000000000000, 1047361554000000000000000000000000000000000, 10720901844000000000000000000000000000000000, 109684029600000000000000000000000000000000000, 1121611888800000000000000000000000000000000000, 11464049628000000000000000000000000000000000000, 117121951800000000000000000000000000000000000000, 1196055554400000000000000000000000000000000000000, 12209130720000000000000000000000000000000000000000, 124579207080000000000000000000000000000000000000000, 1270692550800000000000000000000000000000000000000000, 12956145120000000000000000000000000000000000000000000, 132055795440000000000000000000000000000000000000000000, 1345522878000000000000000000000000000000000000000000000, 13705092828000000000000000000000000000000000000000000000, 139551716880000000000000000000000000000000000000000000000, 1420546536000000000000000000000000000000000000000000000000, 14455973844000000000000000000000000000000000000000000000000, 147066971400000000000000000000000000000000000000000000000000, 1495763524800000000000000000000000000000000000000000000000000, 15208788168000000000000000000000000000000000000000000000000000]
def l_g2 : List Int := [0, 9, 99, 999, 12105, 144297, 1695627, 19815831, 232031799, 2718012699, 31710877299, 367921195731, 4243380429051, 48637403718651, 554035128198651, 6273263461398651, 70625270811462651, 790819239774102651, 8810309676241302651, 97689291825601302651, 1078410118269601302651, 11855875942656001302651, 129843037284480001302651, 1416943480608000001302651, 15411319441560000001302651, 167100079008960000001302651, 1806555045009600000001302651, 19477997355168000000001302651, 209473988821200000000001302651, 2247380529696000000000001302651, 24057266865696000000000001302651, 256978338543360000000000001302651, 2739555652888800000000000001302651, 29150485155360000000000000001302651, 309626699997600000000000000001302651, 3283216132809600000000000000001302651, 34759009406376000000000000000001302651, 367432645006080000000000000000001302651, 3878497687680000000000000000000001302651, 40884196800960000000000000000000001302651, 430409745390960000000000000000000001302651, 4525536035721600000000000000000000001302651, 47527404521328000000000000000000000001302651, 498571572974400000000000000000000000001302651, 5224466895156000000000000000000000000001302651, 54689989749696000000000000000000000000001302651, 571931699578560000000000000000000000000001302651, 5975425984204800000000000000000000000000001302651, 62373309668280000000000000000000000000000001302651, 650503697025600000000000000000000000000000001302651, 6778549021089600000000000000000000000000000001302651, 70578721459296000000000000000000000000000000001302651, 734301137137680000000000000000000000000000000001302651, 7633971724032000000000000000000000000000000000001302651, 79307582304960000000000000000000000000000000000001302651, 823337591736960000000000000000000000000000000000001302651, 8541829811253600000000000000000000000000000000000001302651, 88561249387488000000000000000000000000000000000000001302651, 917626632645600000000000000000000000000000000000000001302651, 9502259000976000000000000000000000000000000000000000001302651, 98341079889096000000000000000000000000000000000000000001302651]
def l_s2 : List Int := [1, 10, 100, 1234, 14688, 172370, 2013356, 23579552, 276220100, 3221429400, 37356702048, 430606581480, 4932669254400, 56155302720000, 635469814800000, 7150223038896000, 80021552106960000, 891054492940800000, 9875442461040000000, 108968980716000000000, 1197496202709600000000, 13109684593536000000000, 143011160369280000000000, 1554930662328000000000000, 16854306618600000000000000, 182161662888960000000000000, 1963493590017600000000000000, 21110665718448000000000000000, 226434060097200000000000000000, 2423320704000000000000000000000, 25880119075296000000000000000000, 275841923816160000000000000000000, 2934547722496800000000000000000000, 31164023871360000000000000000000000, 330398825868000000000000000000000000, 3497310363729600000000000000000000000, 36963737288856000000000000000000000000, 390118338074880000000000000000000000000, 4111744345920000000000000000000000000000, 43280616510000000000000000000000000000000, 455014032258960000000000000000000000000000, 4777985387289600000000000000000000000000000, 50116018717008000000000000000000000000000000, 525099480242400000000000000000000000000000000, 5496169206060000000000000000000000000000000000, 57471301092096000000000000000000000000000000000, 600388253847360000000000000000000000000000000000, 6266431520452800000000000000000000000000000000000, 65347820817480000000000000000000000000000000000000, 680893924896000000000000000000000000000000000000000, 7088908048689600000000000000000000000000000000000000, 73746935075376000000000000000000000000000000000000000, 766630065210480000000000000000000000000000000000000000, 7963734508992000000000000000000000000000000000000000000, 82670001048000000000000000000000000000000000000000000000, 857610246612960000000000000000000000000000000000000000000, 8891046619581600000000000000000000000000000000000000000000, 92118375917568000000000000000000000000000000000000000000000, 953848040925600000000000000000000000000000000000000000000000, 9870980098680000000000000000000000000000000000000000000000000, 102093416866296000000000000000000000000000000000000000000000000]
def l_pg : List Int := [0, 9, 99, 999, 12105, 144297, 1695627, 19815831, 232031799, 2718012699, 31826193435, 372649157307, 4363424526627, 51063770536227, 596823065145315, 6962099671833075, 81011329188477075, 939849311883237075, 10867354768799637075, 125209041057878613075, 1437233912685926133075, 16434869591099726133075, 187217170198187966133075, 2124611469656966366133075, 24021307667151167966133075, 270605527396079999966133075, 3037711848423071999966133075, 33984285233555759999966133075, 378953450823654239999966133075, 4212360188768788799999966133075, 46682371268797199999999966133075, 515849806072132799999999966133075, 5684476904670191999999999966133075, 62475087493274783999999999966133075, 684892986151894079999999999966133075, 7490077684294919999999999999966133075, 81722908369303439999999999999966133075, 889690911492472799999999999999966133075, 9665273490002174399999999999999966133075, 104787261101113727999999999999999966133075, 1133861029942559999999999999999999966133075, 12246270558342719999999999999999999966133075, 132030525634851839999999999999999999966133075, 1421030316770003039999999999999999999966133075, 15269370400058884799999999999999999999966133075, 163816034658579599999999999999999999999966133075, 1754835274661805599999999999999999999999966133075, 18770969800084559999999999999999999999999966133075, 200508073602274463999999999999999999999999966133075, 2138921933724127679999999999999999999999999966133075, 22787560817545199999999999999999999999999999966133075, 242471880637829519999999999999999999999999999966133075, 2576945851482285599999999999999999999999999999966133075, 27355730785757822399999999999999999999999999999966133075, 290073646679053487999999999999999999999999999999966133075, 3072572112880751999999999999999999999999999999999966133075, 32512162312231007999999999999999999999999999999999966133075, 343680515381670719999999999999999999999999999999999966133075, 3629475330283155839999999999999999999999999999999999966133075, 38293633278664900799999999999999999999999999999999999966133075, 403660583143321199999999999999999999999999999999999999966133075]
def l_ps : List Int := [1, 10, 100, 1234, 14688, 172370, 2013356, 23579552, 276220100, 3234242304, 37869218208, 443419485480, 5188927334400, 60639921623232, 707252956298640, 8227692168516000, 95426442521640000, 1103056161879600000, 12704631809897664000, 145780541292005280000, 1666403964268200000000, 18975811178565360000000, 215266033273197600000000, 2432966244166022400000000, 27398246636547648000000000, 307456257891888000000000000, 3438508153903632000000000000, 38329907287788720000000000000, 425934081993903840000000000000, 4718890120003156800000000000000, 52129714978148400000000000000000, 574291899844228800000000000000000, 6310067843178288000000000000000000, 69157544295402144000000000000000000, 756131633127002880000000000000000000, 8248092298334280000000000000000000000, 89774222569241040000000000000000000000, 975064730945522400000000000000000000000, 10569109734567950400000000000000000000000, 114341529871271808000000000000000000000000, 1234712169822240000000000000000000000000000, 13309361675167680000000000000000000000000000, 143222199015016800000000000000000000000000000, 1538704453698764640000000000000000000000000000, 16505184917613412800000000000000000000000000000, 176779915555914000000000000000000000000000000000, 1890681613935861600000000000000000000000000000000, 20193011533576656000000000000000000000000000000000, 215379317791317024000000000000000000000000000000000, 2294293209313452480000000000000000000000000000000000, 24409368868920480000000000000000000000000000000000000, 259385996760495120000000000000000000000000000000000000, 2753198326030615200000000000000000000000000000000000000, 29190879543699518400000000000000000000000000000000000000, 309166496244633168000000000000000000000000000000000000000, 3271065577705584000000000000000000000000000000000000000000, 34574261452159968000000000000000000000000000000000000000000, 365088312766831680000000000000000000000000000000000000000000, 3851573105375749440000000000000000000000000000000000000000000, 40596327762739588800000000000000000000000000000000000000000000, 427519895592106800000000000000000000000000000000000000000000000]
def l_num : List Int := [1, 1, 10, 334, 3582, 40178, 462026, 5459348, 64004132, 748261404, 8761037472, 102596521608, 1198151965080, 13939575613632, 161493661689552, 1862415561828240, 21377213004996000, 244218179184840000, 2777126352981264000, 31438855002926304000, 354379092640152480000, 3978175500151560000000, 44483732666109360000000, 495571944707244000000000, 5501550439053446400000000, 60872038162959168000000000, 671401832876640000000000000, 7383333902656032000000000000, 80964916403805360000000000000, 885483382058022240000000000000, 9659703898119988800000000000000, 105124465040893200000000000000000, 1141440744580228800000000000000000, 12366933706797552000000000000000000, 133713734468383584000000000000000000, 1442907600191254080000000000000000000, 15541391884232520000000000000000000000, 167096727822353040000000000000000000000, 1793527156058248800000000000000000000000, 19219542260160254400000000000000000000000, 205638400980793728000000000000000000000000, 2196952146767520000000000000000000000000000, 23437943938507680000000000000000000000000000, 249704662563613440000000000000000000000000000, 2656844834324531040000000000000000000000000000, 28233251297393284800000000000000000000000000000, 299662373932635600000000000000000000000000000000, 3176877008153901600000000000000000000000000000000, 33642213989127120000000000000000000000000000000000, 355879349191599264000000000000000000000000000000000, 3760729985099407680000000000000000000000000000000000, 39701676940210800000000000000000000000000000000000000, 418724355186159120000000000000000000000000000000000000, 4412094609423981600000000000000000000000000000000000000, 46448580351337502400000000000000000000000000000000000000, 488567111503885488000000000000000000000000000000000000000, 5134671252809712000000000000000000000000000000000000000000, 53919959697391968000000000000000000000000000000000000000000, 565778290474264320000000000000000000000000000000000000000000, 5932169814357843840000000000000000000000000000000000000000000, 62152945727450500800000000000000000000000000000000000000000000]
def l_word : List Int := [0, 9, 99, 1080, 13806, 80298, 1074582, 14004054, 159114672, 1844803908, 21566371716, 252930714408, 2961334518552, 34636340991240, 404476064075088, 4709710223476848, 54625155346502640, 630812793652790400, 7251529743964584000, 82975005064417536000, 945082345105970496000, 10716286114371437280000, 120986804518442812800000, 1360280267411098608000000, 15233453226212814720000000, 169954367875995441600000000, 1889356227212946528000000000, 20932642828069382880000000000, 231174958380946156800000000000, 2545294291928899632000000000000, 27943809923144871360000000000000, 305949269355631012800000000000000, 3341112827685306048000000000000000, 36397252501732637280000000000000000, 395581423993282339200000000000000000, 4289864499317476656000000000000000000, 46423611541215665280000000000000000000, 501378975358028740800000000000000000000, 5404636270369685088000000000000000000000, 58153871006066567520000000000000000000000, 624652906384895097600000000000000000000000, 6698549403095167728000000000000000000000000, 71719357847847583680000000000000000000000000, 766717629879802564800000000000000000000000000, 8184759458456123712000000000000000000000000000, 87251742005210580960000000000000000000000000000, 928890988519568572800000000000000000000000000000, 9876456296123714928000000000000000000000000000000, 104883036403897054080000000000000000000000000000000, 1112494254851906827200000000000000000000000000000000, 11786864074478066016000000000000000000000000000000000, 124745596956738125280000000000000000000000000000000000, 1318852131295427308800000000000000000000000000000000000, 13929241250608264368000000000000000000000000000000000000, 146972122563654544320000000000000000000000000000000000000, 1549292750139636273600000000000000000000000000000000000000, 16316880580312360128000000000000000000000000000000000000000, 171695655111656688480000000000000000000000000000000000000000, 1805147673544936252800000000000000000000000000000000000000000, 18963109118097366192000000000000000000000000000000000000000000, 199049579474844562560000000000000000000000000000000000000000000]
def l_sign : List Int := [0, 0, 234, 8658, 253188, 2829060, 30402684, 324874836, 2501840484, 32490575208, 401661672984, 4604412581496, 53579339341632, 627026409702576, 7347917236748400, 85978959674100480, 1004646614387191776, 11713089452263164576, 136105604537037415488, 1575060952222495895040, 18146549899836358790400, 208116131176223015616000, 2375867793277496037312000, 27000633628377142171776000, 305503811553348286894080000, 3442083320867586719500800000, 38624913925713213366528000000, 431755588495625959768320000000, 4808571492914251689369600000000, 53368340519174251079808000000000, 590364053801818465927680000000000, 6510289067849212458508800000000000, 71580788986234679304192000000000000, 784831042813418780924160000000000000, 8582285194754886138700800000000000000, 93613058774393542720128000000000000000, 1018667629572166087188480000000000000000, 11059701409716151910515200000000000000000, 119816873201174506695936000000000000000000, 1295394126820045774030080000000000000000000, 13977771635820351023308800000000000000000000, 150544879454125857287808000000000000000000000, 1618540085999289437637120000000000000000000000, 17371822183157286795225600000000000000000000000, 186150648590820501239808000000000000000000000000, 1991644297252374881076480000000000000000000000000, 21277271748819224613196800000000000000000000000000, 226988675538855965983872000000000000000000000000000, 2418254789422026114293760000000000000000000000000000, 25729631416900891932940800000000000000000000000000000, 273414379095854399639808000000000000000000000000000000, 2901928830051213354113280000000000000000000000000000000, 30764504658499478278963200000000000000000000000000000000, 325784101929462571015296000000000000000000000000000000000, 3446232925383153024238080000000000000000000000000000000000, 36417587331714635244556800000000000000000000000000000000000, 384455110577351869605888000000000000000000000000000000000000, 4054742820361307755249920000000000000000000000000000000000000, 42724667681648476491801600000000000000000000000000000000000000, 449785595447218305595008000000000000000000000000000000000000000, 4731043498629386384609280000000000000000000000000000000000000000]
def l_tens : List Int := [1, 10, 100, 1000, 10000, 100000, 1000000, 10000000, 100000000, 1000000000, 10000000000, 100000000000, 1000000000000, 10000000000000, 100000000000000, 1000000000000000, 10000000000000000, 100000000000000000, 1000000000000000000, 10000000000000000000, 100000000000000000000, 1000000000000000000000, 10000000000000000000000, 100000000000000000000000, 1000000000000000000000000, 10000000000000000000000000, 100000000000000000000000000, 1000000000000000000000000000, 10000000000000000000000000000, 100000000000000000000000000000, 1000000000000000000000000000000, 10000000000000000000000000000000, 100000000000000000000000000000000, 1000000000000000000000000000000000, 10000000000000000000000000000000000, 100000000000000000000000000000000000, 1000000000000000000000000000000000000, 10000000000000000000000000000000000000, 100000000000000000000000000000000000000, 1000000000000000000000000000000000000000, 10000000000000000000000000000000000000000, 100000000000000000000000000000000000000000, 1000000000000000000000000000000000000000000, 10000000000000000000000000000000000000000000, 100000000000000000000000000000000000000000000, 1000000000000000000000000000000000000000000000, 10000000000000000000000000000000000000000000000, 100000000000000000000000000000000000000000000000, 1000000000000000000000000000000000000000000000000, 10000000000000000000000000000000000000000000000000, 100000000000000000000000000000000000000000000000000, 1000000000000000000000000000000000000000000000000000, 10000000000000000000000000000000000000000000000000000, 100000000000000000000000000000000000000000000000000000, 1000000000000000000000000000000000000000000000000000000, 10000000000000000000000000000000000000000000000000000000, 100000000000000000000000000000000000000000000000000000000, 1000000000000000000000000000000000000000000000000000000000, 10000000000000000000000000000000000000000000000000000000000, 100000000000000000000000000000000000000000000000000000000000]
def l_maker : List Int := [0, 0, 0, 234, 2340, 23400, 234000, 2340000, 23400000, 234000000, 2340000000, 23400000000, 234000000000, 2340000000000, 23400000000000, 234000000000000, 2340000000000000, 23400000000000000, 234000000000000000, 2340000000000000000, 23400000000000000000, 234000000000000000000, 2340000000000000000000, 23400000000000000000000, 234000000000000000000000, 2340000000000000000000000, 23400000000000000000000000, 234000000000000000000000000, 2340000000000000000000000000, 23400000000000000000000000000, 234000000000000000000000000000, 2340000000000000000000000000000, 23400000000000000000000000000000, 234000000000000000000000000000000, 2340000000000000000000000000000000, 23400000000000000000000000000000000, 234000000000000000000000000000000000, 2340000000000000000000000000000000000, 23400000000000000000000000000000000000, 234000000000000000000000000000000000000, 2340000000000000000000000000000000000000, 23400000000000000000000000000000000000000, 234000000000000000000000000000000000000000, 2340000000000000000000000000000000000000000, 23400000000000000000000000000000000000000000, 234000000000000000000000000000000000000000000, 2340000000000000000000000000000000000000000000, 23400000000000000000000000000000000000000000000, 234000000000000000000000000000000000000000000000, 2340000000000000000000000000000000000000000000000, 23400000000000000000000000000000000000000000000000, 234000000000000000000000000000000000000000000000000, 2340000000000000000000000000000000000000000000000000, 23400000000000000000000000000000000000000000000000000, 234000000000000000000000000000000000000000000000000000, 2340000000000000000000000000000000000000000000000000000, 23400000000000000000000000000000000000000000000000000000, 234000000000000000000000000000000000000000000000000000000, 2340000000000000000000000000000000000000000000000000000000, 23400000000000000000000000000000000000000000000000000000000, 234000000000000000000000000000000000000000000000000000000000]
def l_two : List Int := [0, 0, 0, 0, 0, 0, 54756, 1095120, 16426800, 219024000, 2737800000, 32853600000, 383292000000, 4380480000000, 49280400000000, 547560000000000, 6023160000000000, 65707200000000000, 711828000000000000, 7665840000000000000, 82134000000000000000, 876096000000000000000, 9308520000000000000000, 98560800000000000000000, 1040364000000000000000000, 10951200000000000000000000, 114987600000000000000000000, 1204632000000000000000000000, 12593880000000000000000000000, 131414400000000000000000000000, 1368900000000000000000000000000, 14236560000000000000000000000000, 147841200000000000000000000000000, 1533168000000000000000000000000000, 15879240000000000000000000000000000, 164268000000000000000000000000000000, 1697436000000000000000000000000000000, 17521920000000000000000000000000000000, 180694800000000000000000000000000000000, 1861704000000000000000000000000000000000, 19164600000000000000000000000000000000000, 197121600000000000000000000000000000000000, 2025972000000000000000000000000000000000000, 20807280000000000000000000000000000000000000, 213548400000000000000000000000000000000000000, 2190240000000000000000000000000000000000000000, 22449960000000000000000000000000000000000000000, 229975200000000000000000000000000000000000000000, 2354508000000000000000000000000000000000000000000, 24092640000000000000000000000000000000000000000000, 246402000000000000000000000000000000000000000000000, 2518776000000000000000000000000000000000000000000000, 25735320000000000000000000000000000000000000000000000, 262828800000000000000000000000000000000000000000000000, 2683044000000000000000000000000000000000000000000000000, 27378000000000000000000000000000000000000000000000000000, 279255600000000000000000000000000000000000000000000000000, 2847312000000000000000000000000000000000000000000000000000, 29020680000000000000000000000000000000000000000000000000000, 295682400000000000000000000000000000000000000000000000000000, 3011580000000000000000000000000000000000000000000000000000000]
def l_tri : List Int := [0, 0, 0, 0, 0, 0, 0, 0, 0, 12812904, 384387120, 7687742400, 128129040000, 1921935600000, 26907098400000, 358761312000000, 4612645440000000, 57658068000000000, 704709720000000000, 8456516640000000000, 99940651200000000000, 1165974264000000000000, 13453549200000000000000, 153754848000000000000000, 1742554944000000000000000, 19603743120000000000000000, 219100658400000000000000000, 2434451760000000000000000000, 26907098400000000000000000000, 295978082400000000000000000000, 3241664712000000000000000000000, 35363615040000000000000000000000, 384387120000000000000000000000000, 4164193800000000000000000000000000, 44973293040000000000000000000000000, 484327771200000000000000000000000000, 5202039024000000000000000000000000000, 55736132400000000000000000000000000000, 595800036000000000000000000000000000000, 6355200384000000000000000000000000000000, 67652133120000000000000000000000000000000, 718803914400000000000000000000000000000000, 7623677880000000000000000000000000000000000, 80721295200000000000000000000000000000000000, 853339406400000000000000000000000000000000000, 9007471512000000000000000000000000000000000000, 94943618640000000000000000000000000000000000000, 999406512000000000000000000000000000000000000000, 10506581280000000000000000000000000000000000000000, 110319103440000000000000000000000000000000000000000, 1157005231200000000000000000000000000000000000000000, 12121007184000000000000000000000000000000000000000000, 126847749600000000000000000000000000000000000000000000, 1326135564000000000000000000000000000000000000000000000, 13850749224000000000000000000000000000000000000000000000, 144529557120000000000000000000000000000000000000000000000, 1506797510400000000000000000000000000000000000000000000000, 15695807400000000000000000000000000000000000000000000000000, 163364526000000000000000000000000000000000000000000000000000, 1698991070400000000000000000000000000000000000000000000000000, 17656181712000000000000000000000000000000000000000000000000000]
def l_makers : List Int := [0, 0, 0, 234, 2340, 23400, 288756, 3435120, 39826800, 465836904, 5462187120, 63941342400, 745421040000, 8642415600000, 99587498400000, 1140321312000000, 12975805440000000, 146765268000000000, 1650537720000000000, 18462356640000000000, 205474651200000000000, 2276070264000000000000, 25102069200000000000000, 275715648000000000000000, 3016918944000000000000000, 32894943120000000000000000, 357488258400000000000000000, 3873083760000000000000000000, 41840978400000000000000000000, 450792482400000000000000000000, 4844564712000000000000000000000, 51940175040000000000000000000000, 555628320000000000000000000000000, 5931361800000000000000000000000000, 63192533040000000000000000000000000, 671995771200000000000000000000000000, 7133475024000000000000000000000000000, 75598052400000000000000000000000000000, 799894836000000000000000000000000000000, 8450904384000000000000000000000000000000, 89156733120000000000000000000000000000000, 939325514400000000000000000000000000000000, 9883649880000000000000000000000000000000000, 103868575200000000000000000000000000000000000, 1090287806400000000000000000000000000000000000, 11431711512000000000000000000000000000000000000, 119733578640000000000000000000000000000000000000, 1252781712000000000000000000000000000000000000000, 13095089280000000000000000000000000000000000000000, 136751743440000000000000000000000000000000000000000, 1426807231200000000000000000000000000000000000000000, 14873783184000000000000000000000000000000000000000000, 154923069600000000000000000000000000000000000000000000, 1612364364000000000000000000000000000000000000000000000, 16767793224000000000000000000000000000000000000000000000, 174247557120000000000000000000000000000000000000000000000, 1809453110400000000000000000000000000000000000000000000000, 18777119400000000000000000000000000000000000000000000000000, 194725206000000000000000000000000000000000000000000000000000, 2018073470400000000000000000000000000000000000000000000000000, 20901761712000000000000000000000000000000000000000000000000000]
def l_f1 : List Int := [0, 0, 234, 8424, 242424, 2424240, 21902400, 158184000, 0, 0, 0, 0, 0, 0, 0, 0, 0, 0, 0, 0, 0, 0, 0, 0, 0, 0, 0, 0, 0, 0, 0, 0, 0, 0, 0, 0, 0, 0, 0, 0, 0, 0, 0, 0, 0, 0, 0, 0, 0, 0, 0, 0, 0, 0, 0, 0, 0, 0, 0, 0, 0]
def l_f2 : List Int := [0, 0, 234, 8424, 244530, 2521116, 25052976, 211507920, 730360800, 8727264000, 87272640000, 872726400000, 8727264000000, 87272640000000, 872726400000000, 8727264000000000, 87272640000000000, 872726400000000000, 8727264000000000000, 87272640000000000000, 872726400000000000000, 8727264000000000000000, 87272640000000000000000, 872726400000000000000000, 8727264000000000000000000, 87272640000000000000000000, 872726400000000000000000000, 8727264000000000000000000000, 87272640000000000000000000000, 872726400000000000000000000000, 8727264000000000000000000000000, 87272640000000000000000000000000, 872726400000000000000000000000000, 8727264000000000000000000000000000, 87272640000000000000000000000000000, 872726400000000000000000000000000000, 8727264000000000000000000000000000000, 87272640000000000000000000000000000000, 872726400000000000000000000000000000000, 8727264000000000000000000000000000000000, 87272640000000000000000000000000000000000, 872726400000000000000000000000000000000000, 8727264000000000000000000000000000000000000, 87272640000000000000000000000000000000000000, 872726400000000000000000000000000000000000000, 8727264000000000000000000000000000000000000000, 87272640000000000000000000000000000000000000000, 872726400000000000000000000000000000000000000000, 8727264000000000000000000000000000000000000000000, 87272640000000000000000000000000000000000000000000, 872726400000000000000000000000000000000000000000000, 8727264000000000000000000000000000000000000000000000, 87272640000000000000000000000000000000000000000000000, 872726400000000000000000000000000000000000000000000000, 8727264000000000000000000000000000000000000000000000000, 87272640000000000000000000000000000000000000000000000000, 872726400000000000000000000000000000000000000000000000000, 8727264000000000000000000000000000000000000000000000000000, 87272640000000000000000000000000000000000000000000000000000, 872726400000000000000000000000000000000000000000000000000000, 8727264000000000000000000000000000000000000000000000000000000]
def l_f3 : List Int := [0, 0, 234, 8424, 244530, 2575872, 27571752, 293915700, 2157192648, 29447372448, 363249998280, 4137283062432, 48263515777152, 567635657369040, 6643779226928064, 77685150458620224, 907766433723427200, 10580585143860576000, 122884596253224000000, 1421246994120120960000, 16363798251078470400000, 187536267145356480000000, 2139313749115420800000000, 24293512740515616000000000, 274659346222013376000000000, 3092158529579283840000000000, 34671646920871584000000000000, 387273016570190400000000000000, 4309973166381667200000000000000, 47800119100845945600000000000000, 528396461276883264000000000000000, 5822949490392528000000000000000000, 63980847589138272000000000000000000, 701048863429087680000000000000000000, 7661279332481823360000000000000000000, 83515750694448134400000000000000000000, 908249406113799360000000000000000000000, 9855154523519510400000000000000000000000, 106706746725475104000000000000000000000000, 1153017272418014016000000000000000000000000, 12434766894375546240000000000000000000000000, 133855753990918752000000000000000000000000000, 1438371645428727360000000000000000000000000000, 15430308275919888000000000000000000000000000000, 165264690799478649600000000000000000000000000000, 1767331708232935104000000000000000000000000000000, 18871970499022492800000000000000000000000000000000, 201235475459854368000000000000000000000000000000000, 2142916643917632960000000000000000000000000000000000, 22789945394553317760000000000000000000000000000000000, 242070026280745478400000000000000000000000000000000000, 2568145635569816640000000000000000000000000000000000000, 27214424793382320000000000000000000000000000000000000000, 288070261570851552000000000000000000000000000000000000000, 3046037866276481856000000000000000000000000000000000000000, 32175600526379456640000000000000000000000000000000000000000, 339538099638872160000000000000000000000000000000000000000000, 3579612519124624320000000000000000000000000000000000000000000, 37703664424414684800000000000000000000000000000000000000000000, 396775458793506873600000000000000000000000000000000000000000000, 4171888777201239744000000000000000000000000000000000000000000000]
def l_f4 : List Int := [0, 0, 234, 8424, 244530, 2575872, 27571752, 294383700, 2174040648, 29936432448, 368401742280, 4192426566432, 48851347177152, 571950042665040, 6702673971824064, 78411650455180224, 916040999848291200, 10677112175414880000, 124019867567962080000, 1434534552573977088000, 16519168551995710848000, 189351800012803334400000, 2160474919403141952000000, 24539281933022064000000000, 277501840210253617920000000, 3124886126081440780800000000, 35046719455162296960000000000, 391551644068421241600000000000, 4358560191862698432000000000000, 48349437793289972352000000000000, 534580778336041831680000000000000, 5892292784234271168000000000000000, 64755393622278652800000000000000000, 709668809761851014400000000000000000, 7756879570683515251200000000000000000, 84572543617001900928000000000000000000, 919895305094584416000000000000000000000, 9983116218697786944000000000000000000000, 108108844452333279360000000000000000000000, 1168339831082977662720000000000000000000000, 12601798395764442508800000000000000000000000, 135672252803146350720000000000000000000000000, 1458081954475766380800000000000000000000000000, 15643721769370838208000000000000000000000000000, 167570725344314677632000000000000000000000000000, 1792201242021686196480000000000000000000000000000, 19139682007004330304000000000000000000000000000000, 204112218750711822720000000000000000000000000000000, 2173777260469472736000000000000000000000000000000000, 23120474776152275059200000000000000000000000000000000, 245604689697211348608000000000000000000000000000000000, 2605889576567861625600000000000000000000000000000000000, 27616895744302028736000000000000000000000000000000000000, 292356094858686817920000000000000000000000000000000000000, 3091617757065588491520000000000000000000000000000000000000, 32659740578940947596800000000000000000000000000000000000000, 344674390910011793280000000000000000000000000000000000000000, 3634041368711388960000000000000000000000000000000000000000000, 38279804947556387904000000000000000000000000000000000000000000, 402867534526059837312000000000000000000000000000000000000000000, 4236239978253998657280000000000000000000000000000000000000000000]
def l_f5 : List Int := [0, 0, 234, 8424, 244530, 2575872, 27573624, 294472152, 2176965648, 29988734724, 369171097776, 4202750908512, 48974926760136, 573447070360944, 6720890827045824, 78631042437352080, 918667654713091296, 10708442837875972800, 124392515084774250912, 1438955347685458479552, 16571488947613862895360, 189969581276386656825600, 2167751662101273021696000, 24624765835099646134464000, 278503177924971144722304000, 3136579509314238432606720000, 35182830604845626647027200000, 393130674569912746401792000000, 4376815904418625729601280000000, 48559769026259999390438400000000, 536995713282644214847872000000000, 5919925014047393992581120000000000, 65070499918385466845683200000000000, 713250253827184101619968000000000000, 7797454151941467357776640000000000000, 85030773579638656581427200000000000000, 925054570797772544468352000000000000000, 10041033780143985823326720000000000000000, 108757171791458354785420800000000000000000, 1175577253618871267334144000000000000000000, 12682377509000305249278720000000000000000000, 136567107818305506264499200000000000000000000, 1467995206545163580349312000000000000000000000, 15753282097157997357588480000000000000000000000, 168778826407663214444582400000000000000000000000, 1805493648661554379836672000000000000000000000000, 19285627451566849732120320000000000000000000000000, 205711403790036741370675200000000000000000000000000, 2191266113883170148309888000000000000000000000000000, 23311376627478865818647040000000000000000000000000000, 247684747678953507706867200000000000000000000000000000, 2628514450955358954473472000000000000000000000000000000, 27862575828448264924849920000000000000000000000000000000, 295019597270963092736332800000000000000000000000000000000, 3120448823453690453222784000000000000000000000000000000000, 32971354406331482220318720000000000000000000000000000000000, 348037523245637234361331200000000000000000000000000000000000, 3670287709783955885644032000000000000000000000000000000000000, 38669924861287168736551680000000000000000000000000000000000000, 407060927765569829103206400000000000000000000000000000000000000, 4281257903182168079014272000000000000000000000000000000000000000]

theorem up_to {F : Nat → Int} {l : List Int} (h : (List.range 61).all (fun i => decide (F i = l.getD i 0)) = true) : ∀ i, i < 61 → F i = l.getD i 0 := by
  intro i hi
  exact of_decide_eq_true (List.all_eq_true.mp h i (List.mem_range.mpr hi))
theorem ent_of {F : Nat → Int} {l : List Int} (h : ∀ i, i < 61 → F i = l.getD i 0) {i : Int} (hi : i < 61) : entF F i = entF (fun j => l.getD j 0) i := by
  unfold entF
  by_cases e : i < 0
  · rw [if_pos e, if_pos e]
  · rw [if_neg e, if_neg e]; exact h _ (by omega)
theorem gs_of {T : Nat → Int} {t g s : List Int} (h : ∀ i, i < 61 → T i = t.getD i 0) (h0 : g.getD 0 0 = 0) (h1 : s.getD 0 0 = t.getD 0 0)
    (hc : (List.range 60).all (fun k => decide (g.getD (k + 1) 0 = g.getD k 0 + 9 * s.getD k 0) && decide (s.getD (k + 1) 0 = t.getD (k + 1) 0 + g.getD (k + 1) 0)) = true) : ∀ i, i < 61 → goF T i = g.getD i 0 ∧ stF T i = s.getD i 0 := by
  intro i
  induction i with
  | zero => intro _; exact ⟨h0.symm, (h 0 (by decide)).trans h1.symm⟩
  | succ k ih =>
    intro hk
    obtain ⟨h2, h3⟩ := ih (by omega)
    have q := List.all_eq_true.mp hc k (List.mem_range.mpr (by omega))
    rw [Bool.and_eq_true] at q
    have q1 := of_decide_eq_true q.1
    have q2 := of_decide_eq_true q.2
    refine ⟨by rw [goF_s, h2, h3, q1], ?_⟩
    rw [stF_s, goF_s, h2, h3, ← q1, h _ hk, q2]
theorem c_cop : ∀ i, i < 61 → copF i = l_cop.getD i 0 := by
  intro i
  have hc : (List.range 60).all (fun k => decide (l_cop.getD (k + 1) 0 = if k + 1 < 4 then 1 else if k + 1 = 4 then 9 else 10 * l_cop.getD k 0 + 9)) = true := by decide +kernel
  induction i with
  | zero => intro _; rfl
  | succ k ih =>
    intro hk
    have q := of_decide_eq_true (List.all_eq_true.mp hc k (List.mem_range.mpr (by omega)))
    rw [q]
    show (if k + 1 < 4 then 1 else if k + 1 = 4 then 9 else 10 * copF k + 9) = _
    rw [ih (by omega)]
theorem c_year : ∀ i, i < 61 → yearF i = l_year.getD i 0 := by
  have hc : (List.range 61).all (fun i => decide (l_cop.getD i 0 + 2000 * entF (fun j => l_cop.getD j 0) ((i : Int) - 5) = l_year.getD i 0)) = true := by decide +kernel
  intro i hi
  have q := of_decide_eq_true (List.all_eq_true.mp hc i (List.mem_range.mpr hi))
  rw [← q]
  show copF i + 2000 * entF copF ((i : Int) - 5) = _
  rw [c_cop i hi, ent_of c_cop (by omega)]
theorem mak_of {G : Nat → Int} {g m : List Int} (h : ∀ i, i < 61 → G i = g.getD i 0) (hc : (List.range 61).all (fun i => decide (l_year.getD i 0 + 26 * entF (fun j => g.getD j 0) ((i : Int) - 2) = m.getD i 0)) = true) : ∀ i, i < 61 → makF G i = m.getD i 0 := by
  intro i hi
  have q := of_decide_eq_true (List.all_eq_true.mp hc i (List.mem_range.mpr hi))
  rw [← q]
  show yearF i + 26 * entF G ((i : Int) - 2) = _
  rw [c_year i hi, ent_of h (by omega)]
theorem c_g0 : ∀ i, i < 61 → goF (endF 0) i = l_g0.getD i 0 ∧ stF (endF 0) i = l_s0.getD i 0 := gs_of (t := l_year) c_year (by decide +kernel) (by decide +kernel) (by decide +kernel)
theorem c_e1 : ∀ i, i < 61 → endF 1 i = l_m1.getD i 0 := mak_of (g := l_g0) (fun i hi => (c_g0 i hi).1) (by decide +kernel)
theorem c_g1 : ∀ i, i < 61 → goF (endF 1) i = l_g1.getD i 0 ∧ stF (endF 1) i = l_s1.getD i 0 := gs_of (t := l_m1) c_e1 (by decide +kernel) (by decide +kernel) (by decide +kernel)
theorem c_e2 : ∀ i, i < 61 → endF 2 i = l_m2.getD i 0 := mak_of (g := l_g1) (fun i hi => (c_g1 i hi).1) (by decide +kernel)
theorem c_g2 : ∀ i, i < 61 → goF (endF 2) i = l_g2.getD i 0 ∧ stF (endF 2) i = l_s2.getD i 0 := gs_of (t := l_m2) c_e2 (by decide +kernel) (by decide +kernel) (by decide +kernel)
theorem c_e3 : ∀ i, i < 61 → endF 3 i = l_m3.getD i 0 := mak_of (g := l_g2) (fun i hi => (c_g2 i hi).1) (by decide +kernel)
theorem c_pg : ∀ i, i < 61 → goF (endF 3) i = l_pg.getD i 0 ∧ stF (endF 3) i = l_ps.getD i 0 := gs_of (t := l_m3) c_e3 (by decide +kernel) (by decide +kernel) (by decide +kernel)
theorem c_num : ∀ i, i < 61 → numF i = l_num.getD i 0 := by
  have hc : (List.range 61).all (fun i => decide (l_m3.getD i 0 + entF (fun j => l_pg.getD j 0) ((i : Int) - 1) = l_num.getD i 0)) = true := by decide +kernel
  intro i hi
  have q := of_decide_eq_true (List.all_eq_true.mp hc i (List.mem_range.mpr hi))
  rw [← q]
  show endF 3 i + entF (goF (endF 3)) ((i : Int) - 1) = _
  rw [c_e3 i hi, ent_of (fun i hi => (c_pg i hi).1) (by omega)]
theorem lon_of {F : Nat → Int} {f r : List Int} {k : Nat} {S : Nat → Int} (h : ∀ i, i < 61 → F i = f.getD i 0) (hc : (List.range 61).all (fun i => decide (lonF (fun j => f.getD j 0) k S i = r.getD i 0)) = true) : ∀ i, i < 61 → lonF F k S i = r.getD i 0 := by
  intro i hi
  have q := of_decide_eq_true (List.all_eq_true.mp hc i (List.mem_range.mpr hi))
  rw [← q]
  unfold lonF
  congr 1
  refine sq_ext fun z _ => ?_
  rw [ent_of h (by omega)]
theorem c_word : ∀ i, i < 61 → wordF i = l_word.getD i 0 := lon_of c_num (by decide +kernel)
theorem c_sig : ∀ i, i < 61 → sigF i = l_sign.getD i 0 := lon_of c_word (by decide +kernel)
theorem lst_of {l r : List Int} (h1 : l.length = 61) (h2 : r.length = 61) (hc : (List.range 61).all (fun i => decide (l.getD i 0 = r.getD i 0)) = true) : l = r := by
  rw [list_sq l, list_sq r, h1, h2]
  exact sq_ext (up_to hc)
theorem beh_of {A O R : List Int} (h2 : R.length = 61) (hc : (List.range 61).all (fun m => decide (behF (fun i => A.getD i 0) (fun i => O.getD i 0) A.length m = R.getD m 0)) = true) : behL A O = R := by
  rw [list_sq R, h2]
  exact sq_ext (up_to hc)
theorem b_two : behL l_maker l_maker = l_two := beh_of (by decide +kernel) (by decide +kernel)
theorem b_tri : behL l_two l_maker = l_tri := beh_of (by decide +kernel) (by decide +kernel)
theorem b_f1 : behL (lngL [0, 26, 676, 17576]) (lngL [0, 9, 90, 900, 9000]) = l_f1 := beh_of (by decide +kernel) (by decide +kernel)
theorem b_f2 : behL (lngL ([1, 0] ++ l_tens.map (9 * ·))) l_f1 = l_f2 := beh_of (by decide +kernel) (by decide +kernel)
theorem b_f3 : behL ([1] ++ l_makers.drop 1) l_f2 = l_f3 := beh_of (by decide +kernel) (by decide +kernel)
theorem b_f4 : behL (lngL [1, 0, 0, 0, 0, 2000]) l_f3 = l_f4 := beh_of (by decide +kernel) (by decide +kernel)
theorem b_f5 : behL (lngL ([1, 0, 0, 0, 8] ++ l_tens.map (90 * ·))) l_f4 = l_f5 := beh_of (by decide +kernel) (by decide +kernel)
theorem b_maker : lngL ([0, 0, 0] ++ l_tens.map (234 * ·)) = l_maker := by decide +kernel
theorem b_makers : add3 l_maker l_two l_tri = l_makers := by decide +kernel
/-- both count alike -/
theorem agree1 : ∀ n, n < 61 → sigF n = (l_f5.take (n + 1)).sum := by
  have hc : (List.range 61).all (fun n => decide (l_sign.getD n 0 = (l_f5.take (n + 1)).sum)) = true := by decide +kernel
  intro n hn
  rw [c_sig n hn]
  exact of_decide_eq_true (List.all_eq_true.mp hc n (List.mem_range.mpr hn))
theorem agree2 : ∀ n, n < 61 → sigF n - entF sigF ((n : Int) - 1) = l_f5.getD n 0 := by
  have hc : (List.range 61).all (fun n => decide (l_sign.getD n 0 - entF (fun j => l_sign.getD j 0) ((n : Int) - 1) = l_f5.getD n 0)) = true := by decide +kernel
  intro n hn
  rw [c_sig n hn, ent_of c_sig (by omega)]
  exact of_decide_eq_true (List.all_eq_true.mp hc n (List.mem_range.mpr hn))
end U

namespace U
open PySem PySem.Spec PyProof.Rows L2
section
variable {K : PySem.W.Frag} {g : TG} {tt : TT} {te : TE} {vs : List Nat} {σ : L2.St} {H : Hp} {Q : VK}
theorem e_lcE {ta : TA} : tLc (iEnum K ta) g tt te vs σ H Q = iEnum K ta σ H fun J H1 => lcBody g tt te vs σ Q J H1 := rfl
theorem e_lcR {ta : TA} : tLc (iRng1 ta) g tt te vs σ H Q = iRng1 ta σ H fun J H1 => lcBody g tt te vs σ Q J H1 := rfl
theorem e_lcL {tl : TE} : tLc (iList K tl) g tt te vs σ H Q = iList K tl σ H fun J H1 => lcBody g tt te vs σ Q J H1 := rfl
theorem e_lcZ {ta : TA} : tLc (iZip K ta) g tt te vs σ H Q = iZip K ta σ H fun J H1 => lcBody g tt te vs σ Q J H1 := rfl
theorem e_lcZ3 {ta : TA} : tLc (iZip3 K ta) g tt te vs σ H Q = iZip3 K ta σ H fun J H1 => lcBody g tt te vs σ Q J H1 := rfl
end

def fg1 (q : Addr) : List (Str × V) := [("tails", (.ref q))]
def fg2 (q : Addr) (g : Addr) : List (Str × V) := [("tails", (.ref q)), ("going", (.ref g))]
def fg3 (q : Addr) (g : Addr) (s : Addr) : List (Str × V) := [("tails", (.ref q)), ("going", (.ref g)), ("stopping", (.ref s))]
theorem fgp1 {q : Addr} : putF "tails" (.ref q) ([] : List (Str × V)) = fg1 q := rfl
theorem fgn1 {q : Addr} : (fg1 q).length < 1000 := by show 1 < 1000; decide
theorem fgl1_1 {q : Addr} : List.lookup ("tails" : Str) (fg1 q) = some (.ref q) := rfl
theorem fgp2 {q : Addr} {g : Addr} : putF "going" (.ref g) (fg1 q) = fg2 q g := rfl
theorem fgn2 {q : Addr} {g : Addr} : (fg2 q g).length < 1000 := by show 2 < 1000; decide
theorem fgl2_1 {q : Addr} {g : Addr} : List.lookup ("tails" : Str) (fg2 q g) = some (.ref q) := rfl
theorem fgl2_2 {q : Addr} {g : Addr} : List.lookup ("going" : Str) (fg2 q g) = some (.ref g) := rfl
theorem fgp3 {q : Addr} {g : Addr} {s : Addr} : putF "stopping" (.ref s) (fg2 q g) = fg3 q g s := rfl
theorem fgn3 {q : Addr} {g : Addr} {s : Addr} : (fg3 q g s).length < 1000 := by show 3 < 1000; decide
theorem fgl3_1 {q : Addr} {g : Addr} {s : Addr} : List.lookup ("tails" : Str) (fg3 q g s) = some (.ref q) := rfl
theorem fgl3_2 {q : Addr} {g : Addr} {s : Addr} : List.lookup ("going" : Str) (fg3 q g s) = some (.ref g) := rfl
theorem fgl3_3 {q : Addr} {g : Addr} {s : Addr} : List.lookup ("stopping" : Str) (fg3 q g s) = some (.ref s) := rfl
def ct1 (c1 : Addr) : List (Str × V) := [("by_copy", (.ref c1))]
def ct2 (c1 : Addr) (c2 : Addr) : List (Str × V) := [("by_copy", (.ref c1)), ("by_year", (.ref c2))]
def ct3 (c1 : Addr) (c2 : Addr) (c3 : Addr) : List (Str × V) := [("by_copy", (.ref c1)), ("by_year", (.ref c2)), ("by_makers", (.ref c3))]
def ct4 (c1 : Addr) (c2 : Addr) (c3 : Addr) (c4 : Addr) : List (Str × V) := [("by_copy", (.ref c1)), ("by_year", (.ref c2)), ("by_makers", (.ref c3)), ("by_figures", (.ref c4))]
def ct5 (c1 : Addr) (c2 : Addr) (c3 : Addr) (c4 : Addr) (c5 : Addr) : List (Str × V) := [("by_copy", (.ref c1)), ("by_year", (.ref c2)), ("by_makers", (.ref c3)), ("by_figures", (.ref c4)), ("by_points", (.ref c5))]
def ct6 (c1 : Addr) (c2 : Addr) (c3 : Addr) (c4 : Addr) (c5 : Addr) (c6 : Addr) : List (Str × V) := [("by_copy", (.ref c1)), ("by_year", (.ref c2)), ("by_makers", (.ref c3)), ("by_figures", (.ref c4)), ("by_points", (.ref c5)), ("by_number", (.ref c6))]
def ct7 (c1 : Addr) (c2 : Addr) (c3 : Addr) (c4 : Addr) (c5 : Addr) (c6 : Addr) (c7 : Addr) : List (Str × V) := [("by_copy", (.ref c1)), ("by_year", (.ref c2)), ("by_makers", (.ref c3)), ("by_figures", (.ref c4)), ("by_points", (.ref c5)), ("by_number", (.ref c6)), ("by_word", (.ref c7))]
def ct8 (c1 : Addr) (c2 : Addr) (c3 : Addr) (c4 : Addr) (c5 : Addr) (c6 : Addr) (c7 : Addr) (c8 : Addr) : List (Str × V) := [("by_copy", (.ref c1)), ("by_year", (.ref c2)), ("by_makers", (.ref c3)), ("by_figures", (.ref c4)), ("by_points", (.ref c5)), ("by_number", (.ref c6)), ("by_word", (.ref c7)), ("by_sign", (.ref c8))]
theorem ctp1 {c1 : Addr} : putF "by_copy" (.ref c1) ([] : List (Str × V)) = ct1 c1 := rfl
theorem ctn1 {c1 : Addr} : (ct1 c1).length < 1000 := by show 1 < 1000; decide
theorem ctl1_1 {c1 : Addr} : List.lookup ("by_copy" : Str) (ct1 c1) = some (.ref c1) := rfl
theorem ctp2 {c1 : Addr} {c2 : Addr} : putF "by_year" (.ref c2) (ct1 c1) = ct2 c1 c2 := rfl
theorem ctn2 {c1 : Addr} {c2 : Addr} : (ct2 c1 c2).length < 1000 := by show 2 < 1000; decide
theorem ctl2_1 {c1 : Addr} {c2 : Addr} : List.lookup ("by_copy" : Str) (ct2 c1 c2) = some (.ref c1) := rfl
theorem ctl2_2 {c1 : Addr} {c2 : Addr} : List.lookup ("by_year" : Str) (ct2 c1 c2) = some (.ref c2) := rfl
theorem ctp3 {c1 : Addr} {c2 : Addr} {c3 : Addr} : putF "by_makers" (.ref c3) (ct2 c1 c2) = ct3 c1 c2 c3 := rfl
theorem ctn3 {c1 : Addr} {c2 : Addr} {c3 : Addr} : (ct3 c1 c2 c3).length < 1000 := by show 3 < 1000; decide
theorem ctl3_1 {c1 : Addr} {c2 : Addr} {c3 : Addr} : List.lookup ("by_copy" : Str) (ct3 c1 c2 c3) = some (.ref c1) := rfl
theorem ctl3_2 {c1 : Addr} {c2 : Addr} {c3 : Addr} : List.lookup ("by_year" : Str) (ct3 c1 c2 c3) = some (.ref c2) := rfl
theorem ctl3_3 {c1 : Addr} {c2 : Addr} {c3 : Addr} : List.lookup ("by_makers" : Str) (ct3 c1 c2 c3) = some (.ref c3) := rfl
theorem ctp4 {c1 : Addr} {c2 : Addr} {c3 : Addr} {c4 : Addr} : putF "by_figures" (.ref c4) (ct3 c1 c2 c3) = ct4 c1 c2 c3 c4 := rfl
theorem ctn4 {c1 : Addr} {c2 : Addr} {c3 : Addr} {c4 : Addr} : (ct4 c1 c2 c3 c4).length < 1000 := by show 4 < 1000; decide
theorem ctl4_1 {c1 : Addr} {c2 : Addr} {c3 : Addr} {c4 : Addr} : List.lookup ("by_copy" : Str) (ct4 c1 c2 c3 c4) = some (.ref c1) := rfl
theorem ctl4_2 {c1 : Addr} {c2 : Addr} {c3 : Addr} {c4 : Addr} : List.lookup ("by_year" : Str) (ct4 c1 c2 c3 c4) = some (.ref c2) := rfl
theorem ctl4_3 {c1 : Addr} {c2 : Addr} {c3 : Addr} {c4 : Addr} : List.lookup ("by_makers" : Str) (ct4 c1 c2 c3 c4) = some (.ref c3) := rfl
theorem ctl4_4 {c1 : Addr} {c2 : Addr} {c3 : Addr} {c4 : Addr} : List.lookup ("by_figures" : Str) (ct4 c1 c2 c3 c4) = some (.ref c4) := rfl
theorem ctp5 {c1 : Addr} {c2 : Addr} {c3 : Addr} {c4 : Addr} {c5 : Addr} : putF "by_points" (.ref c5) (ct4 c1 c2 c3 c4) = ct5 c1 c2 c3 c4 c5 := rfl
theorem ctn5 {c1 : Addr} {c2 : Addr} {c3 : Addr} {c4 : Addr} {c5 : Addr} : (ct5 c1 c2 c3 c4 c5).length < 1000 := by show 5 < 1000; decide
theorem ctl5_1 {c1 : Addr} {c2 : Addr} {c3 : Addr} {c4 : Addr} {c5 : Addr} : List.lookup ("by_copy" : Str) (ct5 c1 c2 c3 c4 c5) = some (.ref c1) := rfl
theorem ctl5_2 {c1 : Addr} {c2 : Addr} {c3 : Addr} {c4 : Addr} {c5 : Addr} : List.lookup ("by_year" : Str) (ct5 c1 c2 c3 c4 c5) = some (.ref c2) := rfl
theorem ctl5_3 {c1 : Addr} {c2 : Addr} {c3 : Addr} {c4 : Addr} {c5 : Addr} : List.lookup ("by_makers" : Str) (ct5 c1 c2 c3 c4 c5) = some (.ref c3) := rfl
theorem ctl5_4 {c1 : Addr} {c2 : Addr} {c3 : Addr} {c4 : Addr} {c5 : Addr} : List.lookup ("by_figures" : Str) (ct5 c1 c2 c3 c4 c5) = some (.ref c4) := rfl
theorem ctl5_5 {c1 : Addr} {c2 : Addr} {c3 : Addr} {c4 : Addr} {c5 : Addr} : List.lookup ("by_points" : Str) (ct5 c1 c2 c3 c4 c5) = some (.ref c5) := rfl
theorem ctp6 {c1 : Addr} {c2 : Addr} {c3 : Addr} {c4 : Addr} {c5 : Addr} {c6 : Addr} : putF "by_number" (.ref c6) (ct5 c1 c2 c3 c4 c5) = ct6 c1 c2 c3 c4 c5 c6 := rfl
theorem ctn6 {c1 : Addr} {c2 : Addr} {c3 : Addr} {c4 : Addr} {c5 : Addr} {c6 : Addr} : (ct6 c1 c2 c3 c4 c5 c6).length < 1000 := by show 6 < 1000; decide
theorem ctl6_1 {c1 : Addr} {c2 : Addr} {c3 : Addr} {c4 : Addr} {c5 : Addr} {c6 : Addr} : List.lookup ("by_copy" : Str) (ct6 c1 c2 c3 c4 c5 c6) = some (.ref c1) := rfl
theorem ctl6_2 {c1 : Addr} {c2 : Addr} {c3 : Addr} {c4 : Addr} {c5 : Addr} {c6 : Addr} : List.lookup ("by_year" : Str) (ct6 c1 c2 c3 c4 c5 c6) = some (.ref c2) := rfl
theorem ctl6_3 {c1 : Addr} {c2 : Addr} {c3 : Addr} {c4 : Addr} {c5 : Addr} {c6 : Addr} : List.lookup ("by_makers" : Str) (ct6 c1 c2 c3 c4 c5 c6) = some (.ref c3) := rfl
theorem ctl6_4 {c1 : Addr} {c2 : Addr} {c3 : Addr} {c4 : Addr} {c5 : Addr} {c6 : Addr} : List.lookup ("by_figures" : Str) (ct6 c1 c2 c3 c4 c5 c6) = some (.ref c4) := rfl
theorem ctl6_5 {c1 : Addr} {c2 : Addr} {c3 : Addr} {c4 : Addr} {c5 : Addr} {c6 : Addr} : List.lookup ("by_points" : Str) (ct6 c1 c2 c3 c4 c5 c6) = some (.ref c5) := rfl
theorem ctl6_6 {c1 : Addr} {c2 : Addr} {c3 : Addr} {c4 : Addr} {c5 : Addr} {c6 : Addr} : List.lookup ("by_number" : Str) (ct6 c1 c2 c3 c4 c5 c6) = some (.ref c6) := rfl
theorem ctp7 {c1 : Addr} {c2 : Addr} {c3 : Addr} {c4 : Addr} {c5 : Addr} {c6 : Addr} {c7 : Addr} : putF "by_word" (.ref c7) (ct6 c1 c2 c3 c4 c5 c6) = ct7 c1 c2 c3 c4 c5 c6 c7 := rfl
theorem ctn7 {c1 : Addr} {c2 : Addr} {c3 : Addr} {c4 : Addr} {c5 : Addr} {c6 : Addr} {c7 : Addr} : (ct7 c1 c2 c3 c4 c5 c6 c7).length < 1000 := by show 7 < 1000; decide
theorem ctl7_1 {c1 : Addr} {c2 : Addr} {c3 : Addr} {c4 : Addr} {c5 : Addr} {c6 : Addr} {c7 : Addr} : List.lookup ("by_copy" : Str) (ct7 c1 c2 c3 c4 c5 c6 c7) = some (.ref c1) := rfl
theorem ctl7_2 {c1 : Addr} {c2 : Addr} {c3 : Addr} {c4 : Addr} {c5 : Addr} {c6 : Addr} {c7 : Addr} : List.lookup ("by_year" : Str) (ct7 c1 c2 c3 c4 c5 c6 c7) = some (.ref c2) := rfl
theorem ctl7_3 {c1 : Addr} {c2 : Addr} {c3 : Addr} {c4 : Addr} {c5 : Addr} {c6 : Addr} {c7 : Addr} : List.lookup ("by_makers" : Str) (ct7 c1 c2 c3 c4 c5 c6 c7) = some (.ref c3) := rfl
theorem ctl7_4 {c1 : Addr} {c2 : Addr} {c3 : Addr} {c4 : Addr} {c5 : Addr} {c6 : Addr} {c7 : Addr} : List.lookup ("by_figures" : Str) (ct7 c1 c2 c3 c4 c5 c6 c7) = some (.ref c4) := rfl
theorem ctl7_5 {c1 : Addr} {c2 : Addr} {c3 : Addr} {c4 : Addr} {c5 : Addr} {c6 : Addr} {c7 : Addr} : List.lookup ("by_points" : Str) (ct7 c1 c2 c3 c4 c5 c6 c7) = some (.ref c5) := rfl
theorem ctl7_6 {c1 : Addr} {c2 : Addr} {c3 : Addr} {c4 : Addr} {c5 : Addr} {c6 : Addr} {c7 : Addr} : List.lookup ("by_number" : Str) (ct7 c1 c2 c3 c4 c5 c6 c7) = some (.ref c6) := rfl
theorem ctl7_7 {c1 : Addr} {c2 : Addr} {c3 : Addr} {c4 : Addr} {c5 : Addr} {c6 : Addr} {c7 : Addr} : List.lookup ("by_word" : Str) (ct7 c1 c2 c3 c4 c5 c6 c7) = some (.ref c7) := rfl
theorem ctp8 {c1 : Addr} {c2 : Addr} {c3 : Addr} {c4 : Addr} {c5 : Addr} {c6 : Addr} {c7 : Addr} {c8 : Addr} : putF "by_sign" (.ref c8) (ct7 c1 c2 c3 c4 c5 c6 c7) = ct8 c1 c2 c3 c4 c5 c6 c7 c8 := rfl
theorem ctn8 {c1 : Addr} {c2 : Addr} {c3 : Addr} {c4 : Addr} {c5 : Addr} {c6 : Addr} {c7 : Addr} {c8 : Addr} : (ct8 c1 c2 c3 c4 c5 c6 c7 c8).length < 1000 := by show 8 < 1000; decide
theorem ctl8_1 {c1 : Addr} {c2 : Addr} {c3 : Addr} {c4 : Addr} {c5 : Addr} {c6 : Addr} {c7 : Addr} {c8 : Addr} : List.lookup ("by_copy" : Str) (ct8 c1 c2 c3 c4 c5 c6 c7 c8) = some (.ref c1) := rfl
theorem ctl8_2 {c1 : Addr} {c2 : Addr} {c3 : Addr} {c4 : Addr} {c5 : Addr} {c6 : Addr} {c7 : Addr} {c8 : Addr} : List.lookup ("by_year" : Str) (ct8 c1 c2 c3 c4 c5 c6 c7 c8) = some (.ref c2) := rfl
theorem ctl8_3 {c1 : Addr} {c2 : Addr} {c3 : Addr} {c4 : Addr} {c5 : Addr} {c6 : Addr} {c7 : Addr} {c8 : Addr} : List.lookup ("by_makers" : Str) (ct8 c1 c2 c3 c4 c5 c6 c7 c8) = some (.ref c3) := rfl
theorem ctl8_4 {c1 : Addr} {c2 : Addr} {c3 : Addr} {c4 : Addr} {c5 : Addr} {c6 : Addr} {c7 : Addr} {c8 : Addr} : List.lookup ("by_figures" : Str) (ct8 c1 c2 c3 c4 c5 c6 c7 c8) = some (.ref c4) := rfl
theorem ctl8_5 {c1 : Addr} {c2 : Addr} {c3 : Addr} {c4 : Addr} {c5 : Addr} {c6 : Addr} {c7 : Addr} {c8 : Addr} : List.lookup ("by_points" : Str) (ct8 c1 c2 c3 c4 c5 c6 c7 c8) = some (.ref c5) := rfl
theorem ctl8_6 {c1 : Addr} {c2 : Addr} {c3 : Addr} {c4 : Addr} {c5 : Addr} {c6 : Addr} {c7 : Addr} {c8 : Addr} : List.lookup ("by_number" : Str) (ct8 c1 c2 c3 c4 c5 c6 c7 c8) = some (.ref c6) := rfl
theorem ctl8_7 {c1 : Addr} {c2 : Addr} {c3 : Addr} {c4 : Addr} {c5 : Addr} {c6 : Addr} {c7 : Addr} {c8 : Addr} : List.lookup ("by_word" : Str) (ct8 c1 c2 c3 c4 c5 c6 c7 c8) = some (.ref c7) := rfl
theorem ctl8_8 {c1 : Addr} {c2 : Addr} {c3 : Addr} {c4 : Addr} {c5 : Addr} {c6 : Addr} {c7 : Addr} {c8 : Addr} : List.lookup ("by_sign" : Str) (ct8 c1 c2 c3 c4 c5 c6 c7 c8) = some (.ref c8) := rfl
theorem ctm1 {c1 : Addr} : List.lookup ("longer" : Str) (ct1 c1) = none := rfl
theorem ctm2 {c1 : Addr} {c2 : Addr} : List.lookup ("longer" : Str) (ct2 c1 c2) = none := rfl
theorem ctm3 {c1 : Addr} {c2 : Addr} {c3 : Addr} : List.lookup ("longer" : Str) (ct3 c1 c2 c3) = none := rfl
theorem ctm4 {c1 : Addr} {c2 : Addr} {c3 : Addr} {c4 : Addr} : List.lookup ("longer" : Str) (ct4 c1 c2 c3 c4) = none := rfl
theorem ctm5 {c1 : Addr} {c2 : Addr} {c3 : Addr} {c4 : Addr} {c5 : Addr} : List.lookup ("longer" : Str) (ct5 c1 c2 c3 c4 c5) = none := rfl
theorem ctm6 {c1 : Addr} {c2 : Addr} {c3 : Addr} {c4 : Addr} {c5 : Addr} {c6 : Addr} : List.lookup ("longer" : Str) (ct6 c1 c2 c3 c4 c5 c6) = none := rfl
theorem ctm7 {c1 : Addr} {c2 : Addr} {c3 : Addr} {c4 : Addr} {c5 : Addr} {c6 : Addr} {c7 : Addr} : List.lookup ("longer" : Str) (ct7 c1 c2 c3 c4 c5 c6 c7) = none := rfl
theorem ctm8 {c1 : Addr} {c2 : Addr} {c3 : Addr} {c4 : Addr} {c5 : Addr} {c6 : Addr} {c7 : Addr} {c8 : Addr} : List.lookup ("longer" : Str) (ct8 c1 c2 c3 c4 c5 c6 c7 c8) = none := rfl
theorem nil_len : ([] : List (Str × V)).length < 1000 := by decide
structure FgC (K : PySem.W.Frag) (C : Addr) : Prop where
  cls : Cls K C
  a_tails : NoAttr K C "tails"
  a_going : NoAttr K C "going"
  a_stopping : NoAttr K C "stopping"

structure CtC (K : PySem.W.Frag) (C : Addr) : Prop where
  cls : Cls K C
  a_by_copy : NoAttr K C "by_copy"
  a_by_year : NoAttr K C "by_year"
  a_by_makers : NoAttr K C "by_makers"
  a_by_figures : NoAttr K C "by_figures"
  a_by_points : NoAttr K C "by_points"
  a_by_number : NoAttr K C "by_number"
  a_by_word : NoAttr K C "by_word"
  a_by_sign : NoAttr K C "by_sign"

/-- a Figures of a table, a Counts up to n -/
def Figs (C : Addr) (H : Hp) (x : Addr) (n : Nat) (T : Nat → Int) : Prop := ∃ dx q g s, H x = some (.ins C dx (fg3 q g s)) ∧ H g = some (.lst (iv (sq n (goF T)))) ∧ H s = some (.lst (iv (sq n (stF T))))
theorem Figs.fr {C : Addr} {H H' : Hp} {x : Addr} {n : Nat} {T : Nat → Int} (h : Figs C H x n T) (f : Fr [] H H') : Figs C H' x n T := by
  obtain ⟨dx, q, g, s, h1, h2, h3⟩ := h
  exact ⟨dx, q, g, s, f.get (by simp) h1, f.get (by simp) h2, f.get (by simp) h3⟩
def Cnts (C : Addr) (H : Hp) (x : Addr) (n : Nat) : Prop := ∃ dx fs s, H x = some (.ins C dx fs) ∧ List.lookup ("by_sign" : Str) fs = some (.ref s) ∧ H s = some (.lst (iv (sq (n + 1) sigF)))
theorem Cnts.fr {C : Addr} {H H' : Hp} {x : Addr} {n : Nat} (h : Cnts C H x n) (f : Fr [] H H') : Cnts C H' x n := by
  obtain ⟨dx, fs, s, h1, h2, h3⟩ := h
  exact ⟨dx, fs, s, f.get (by simp) h1, h2, f.get (by simp) h3⟩
theorem iv_refs {n : Nat} {F : Nat → Int} {rs : List Addr} : iv (sq (n + 1) F) ≠ rs.map V.ref := by
  intro h
  have e := congrArg List.getLast? h
  rw [sq_succ, ← iv_app, List.getLast?_map] at e
  simp [iv] at e
  cases hq : rs.getLast? with
  | none => rw [hq] at e; cases e
  | some r => rw [hq] at e; cases e
def repL (k : Nat) (xs : List V) : List V := (List.replicate k xs).flatten
theorem e_mul2' {p : Addr} {i : Int} {H : Hp} {Q : VK} : rMul (.ref p) (.int i) H Q = optE ((H p).bind lstOf) fun xs => 0 ≤ i ∧ i < 2 ^ 63 ∧ xs.length * i.toNat ≤ 16777216 ∧ ∀ r, H r = none → Q (.ref r) (upd H r (.lst (repL i.toNat xs))) := e_mul2
def repZ (k : Nat) (z : Int) : List Int := List.replicate k z
theorem repZ_len {k : Nat} {z : Int} : (repZ k z).length = k := List.length_replicate ..
theorem rep_iv {k : Nat} {z : Int} : repL k [V.int z] = iv (repZ k z) := by
  unfold repL repZ
  induction k with
  | zero => rfl
  | succ k ih => rw [List.replicate_succ, List.flatten_cons, ih]; rfl
theorem rep_sq {k : Nat} {z : Int} : repZ k z = sq k (fun _ => z) := by
  unfold repZ
  apply List.ext_getElem
  · simp [sq]
  · intro i h1 h2; simp [sq]
theorem mulW {i j : Int} (h1 : i.natAbs < 2 ^ 1000) (h2 : j.natAbs < 2 ^ 1000) : MulOk i j := by
  have lg : ∀ n : Nat, n < 2 ^ 1000 → n.log2 < 1000 := fun n h => by
    by_cases e : n = 0
    · subst e; decide
    · exact (Nat.log2_lt e).mpr h
  refine .inr ?_
  show i.natAbs.log2 + j.natAbs.log2 < 1000000
  have a := lg _ h1
  have b := lg _ h2
  omega
theorem ixN_of {n k : Nat} {i : Int} (h : i = k) (hk : k < n) : ixN n i = some k := by
  subst h
  unfold ixN
  rw [if_pos (by omega), if_pos (by omega)]; simp
theorem iv_set {l : List Int} {k : Nat} {v : Int} : (iv l).set k (.int v) = iv (l.set k v) := (List.map_set ..).symm
theorem iv_cut {l : List Int} {lo hi : Option Int} : cutL (iv l) lo hi = iv (cutL l lo hi) := by
  unfold cutL
  rw [List.length_map]
  show List.take _ (List.drop _ (List.map V.int l)) = List.map V.int (List.take _ (List.drop _ l))
  rw [List.map_take, List.map_drop]
theorem lc_scale {K : PySem.W.Frag} {p : Addr} {T : List Int} {c : Int} {i : Nat} {σ : L2.St} {Q : VK} {H1 : Hp} {g : TG} {tt : TT} {te : TE} (hg : g = gName i) (ht : tt = tYes) (he : te = tOp rMul (tC (.int c)) (tVar i)) (hi : i < σ.length) (ha : H1 p = some (.lst (iv T))) (hl : T.length < 16777216) (hc : -(2 ^ 64) < c ∧ c < 2 ^ 64)
    (hd : ∀ D H, H1 D = none → Fr [] H1 H → H D = some (.lst (iv (T.map (c * ·)))) → Q (.ref D) H) : lcBody g tt te [i] σ Q (Itl K p) H1 := by
  subst hg ht he
  refine lcM walk_list (iv (T.map (c * ·))) (by rw [iv_len, iv_len, List.length_map]) (by rw [iv_len, List.length_map]; exact hl) rfl (fun H f => SqL_fr f (SqL.of ha)) ?_ hd
  rintro j y v H H' R hy f ⟨rfl, hv⟩ kR
  obtain ⟨h1, rfl⟩ := iv_at hv
  have h2 : y = .int (c * T.getD j 0) := by
    obtain ⟨h3, h4⟩ := iv_at hy
    rw [h4]
    simp [List.getD, List.getElem?_map, List.getElem?_eq_getElem h1]
  subst h2
  have hw : (wipe σ [i]).length = σ.length := wipe_length ..
  refine ⟨by simp [wipe], .int (T.getD j 0), ?_, mulL hc, kR _ .refl⟩
  rw [List.getElem?_set_self (by rw [hw]; exact hi)]
theorem bnd_of {l : List Int} (h : l.all (fun z => decide (z.natAbs < 2 ^ 1000)) = true) : ∀ i, (l.getD i 0).natAbs < 2 ^ 1000 := by
  intro i
  by_cases hi : i < l.length
  · have := List.all_eq_true.mp h l[i] (List.getElem_mem hi)
    simp only [List.getD, List.getElem?_eq_getElem hi, Option.getD_some]
    exact of_decide_eq_true this
  · have e : l.getD i 0 = 0 := by simp [List.getD, List.getElem?_eq_none (show l.length ≤ i by omega)]
    rw [e]
    decide +kernel
theorem tens_step {i : Nat} (h : i < 59) : iv (l_tens.take (i + 1)) ++ [V.int (10 * l_tens.getD i 0)] = iv (l_tens.take (i + 1 + 1)) := by
  have hc : (List.range 59).all (fun i => decide (10 * l_tens.getD i 0 = l_tens.getD (i + 1) 0)) = true := by decide +kernel
  have q := of_decide_eq_true (List.all_eq_true.mp hc i (List.mem_range.mpr h))
  have hl : l_tens.length = 60 := by decide +kernel
  rw [q, List.take_add_one (i := i + 1), ← iv_app]
  simp [List.getD, List.getElem?_eq_getElem (show i + 1 < l_tens.length by omega), iv]
theorem tens_last {i : Nat} (h : i < 60) : atI (iv (l_tens.take (i + 1))) (-1) = some (.int (l_tens.getD i 0)) := by
  have hl : l_tens.length = 60 := by decide +kernel
  rw [List.take_add_one, ← iv_app]
  have e : iv (l_tens[i]?.toList) = [V.int (l_tens.getD i 0)] := by
    simp [List.getD, List.getElem?_eq_getElem (show i < l_tens.length by omega), iv]
  rw [e]
  exact atI_lastV
theorem tens_all : l_tens.take 60 = l_tens := by decide +kernel
theorem tens_len : l_tens.length = 60 := by decide +kernel
theorem n_maker : l_maker.length = 61 ∧ (∀ i, (l_maker.getD i 0).natAbs < 2 ^ 1000) := ⟨by decide +kernel, bnd_of (by decide +kernel)⟩
theorem n_two : l_two.length = 61 ∧ (∀ i, (l_two.getD i 0).natAbs < 2 ^ 1000) := ⟨by decide +kernel, bnd_of (by decide +kernel)⟩
theorem n_tri : l_tri.length = 61 := by decide +kernel
theorem n_makers : l_makers.length = 61 := by decide +kernel
theorem n_a1 : (lngL [0, 26, 676, 17576]).length = 61 ∧ (∀ i, ((lngL [0, 26, 676, 17576]).getD i 0).natAbs < 2 ^ 1000) := ⟨by decide +kernel, bnd_of (by decide +kernel)⟩
theorem n_o1 : (lngL [0, 9, 90, 900, 9000]).length = 61 ∧ (∀ i, ((lngL [0, 9, 90, 900, 9000]).getD i 0).natAbs < 2 ^ 1000) := ⟨by decide +kernel, bnd_of (by decide +kernel)⟩
theorem n_a2 : (lngL ([1, 0] ++ l_tens.map (9 * ·))).length = 61 ∧ (∀ i, ((lngL ([1, 0] ++ l_tens.map (9 * ·))).getD i 0).natAbs < 2 ^ 1000) := ⟨by decide +kernel, bnd_of (by decide +kernel)⟩
theorem n_f1 : l_f1.length = 61 ∧ (∀ i, (l_f1.getD i 0).natAbs < 2 ^ 1000) := ⟨by decide +kernel, bnd_of (by decide +kernel)⟩
theorem n_f2 : l_f2.length = 61 ∧ (∀ i, (l_f2.getD i 0).natAbs < 2 ^ 1000) := ⟨by decide +kernel, bnd_of (by decide +kernel)⟩
theorem n_f3 : l_f3.length = 61 ∧ (∀ i, (l_f3.getD i 0).natAbs < 2 ^ 1000) := ⟨by decide +kernel, bnd_of (by decide +kernel)⟩
theorem n_f4 : l_f4.length = 61 ∧ (∀ i, (l_f4.getD i 0).natAbs < 2 ^ 1000) := ⟨by decide +kernel, bnd_of (by decide +kernel)⟩
theorem n_a3 : ([1] ++ l_makers.drop 1).length = 61 ∧ (∀ i, (([1] ++ l_makers.drop 1).getD i 0).natAbs < 2 ^ 1000) := ⟨by decide +kernel, bnd_of (by decide +kernel)⟩
theorem n_a4 : (lngL [1, 0, 0, 0, 0, 2000]).length = 61 ∧ (∀ i, ((lngL [1, 0, 0, 0, 0, 2000]).getD i 0).natAbs < 2 ^ 1000) := ⟨by decide +kernel, bnd_of (by decide +kernel)⟩
theorem n_a5 : (lngL ([1, 0, 0, 0, 8] ++ l_tens.map (90 * ·))).length = 61 ∧ (∀ i, ((lngL ([1, 0, 0, 0, 8] ++ l_tens.map (90 * ·))).getD i 0).natAbs < 2 ^ 1000) := ⟨by decide +kernel, bnd_of (by decide +kernel)⟩
theorem n_f5 : l_f5.length = 61 := by decide +kernel
theorem iv_int {i : Int} : [V.int i] = iv [i] := rfl
theorem iv_nil : ([] : List V) = iv [] := rfl
end U

namespace Hd
open PySem PySem.Spec PyProof.Rows L2
def topS (i : Nat) : Stmt := PySem.Challenge.pw_spinemarks_k19_how_many_there_are.main.body.getD i (.Pass ⟨0, 0, 0, 0⟩)
abbrev s_NoBound___init__ : Stmt := (inClass (topS 3) 0)
def d_NoBound___init__ : He.DefD := ⟨("NoBound", some "__init__"), "__init__", "NoBound.__init__", defArgs s_NoBound___init__, defBody s_NoBound___init__, defScope s_NoBound___init__, [], []⟩
abbrev s_is_whole : Stmt := (topS 5)
def d_is_whole : He.DefD := ⟨("is_whole", none), "is_whole", "is_whole", defArgs s_is_whole, defBody s_is_whole, defScope s_is_whole, [.non], []⟩
abbrev s_entry : Stmt := (topS 8)
def d_entry : He.DefD := ⟨("entry", none), "entry", "entry", defArgs s_entry, defBody s_entry, defScope s_entry, [], []⟩
abbrev s_Figures___init__ : Stmt := (inClass (topS 9) 0)
def d_Figures___init__ : He.DefD := ⟨("Figures", some "__init__"), "__init__", "Figures.__init__", defArgs s_Figures___init__, defBody s_Figures___init__, defScope s_Figures___init__, [], []⟩
abbrev s_Figures_lesser : Stmt := (inClass (topS 9) 1)
def d_Figures_lesser : He.DefD := ⟨("Figures", some "lesser"), "lesser", "Figures.lesser", defArgs s_Figures_lesser, defBody s_Figures_lesser, defScope s_Figures_lesser, [], []⟩
abbrev s_Figures_found_at : Stmt := (inClass (topS 9) 2)
def d_Figures_found_at : He.DefD := ⟨("Figures", some "found_at"), "found_at", "Figures.found_at", defArgs s_Figures_found_at, defBody s_Figures_found_at, defScope s_Figures_found_at, [], []⟩
abbrev s_copies_by : Stmt := (topS 10)
def d_copies_by : He.DefD := ⟨("copies_by", none), "copies_by", "copies_by", defArgs s_copies_by, defBody s_copies_by, defScope s_copies_by, [], []⟩
abbrev s_Counts___init__ : Stmt := (inClass (topS 11) 0)
def d_Counts___init__ : He.DefD := ⟨("Counts", some "__init__"), "__init__", "Counts.__init__", defArgs s_Counts___init__, defBody s_Counts___init__, defScope s_Counts___init__, [], []⟩
abbrev s_Counts_longer : Stmt := (inClass (topS 11) 1)
def d_Counts_longer : He.DefD := ⟨("Counts", some "longer"), "longer", "Counts.longer", defArgs s_Counts_longer, defBody s_Counts_longer, defScope s_Counts_longer, [], []⟩
abbrev s_Counts_begun : Stmt := (inClass (topS 11) 2)
def d_Counts_begun : He.DefD := ⟨("Counts", some "begun"), "begun", "Counts.begun", defArgs s_Counts_begun, defBody s_Counts_begun, defScope s_Counts_begun, [], []⟩
abbrev s_need_bound : Stmt := (topS 12)
def d_need_bound : He.DefD := ⟨("need_bound", none), "need_bound", "need_bound", defArgs s_need_bound, defBody s_need_bound, defScope s_need_bound, [], []⟩
abbrev s_how_many : Stmt := (topS 13)
def d_how_many : He.DefD := ⟨("how_many", none), "how_many", "how_many", defArgs s_how_many, defBody s_how_many, defScope s_how_many, [], []⟩
abbrev s_with_signs : Stmt := (topS 14)
def d_with_signs : He.DefD := ⟨("with_signs", none), "with_signs", "with_signs", defArgs s_with_signs, defBody s_with_signs, defScope s_with_signs, [], []⟩
abbrev s__law_is : Stmt := (topS 16)
def d__law_is : He.DefD := ⟨("_law_is", none), "_law_is", "_law_is", defArgs s__law_is, defBody s__law_is, defScope s__law_is, [], []⟩
abbrev s__law_behind : Stmt := (topS 17)
def d__law_behind : He.DefD := ⟨("_law_behind", none), "_law_behind", "_law_behind", defArgs s__law_behind, defBody s__law_behind, defScope s__law_behind, [], []⟩
abbrev s__law_long : Stmt := (topS 18)
def d__law_long : He.DefD := ⟨("_law_long", none), "_law_long", "_law_long", defArgs s__law_long, defBody s__law_long, defScope s__law_long, [], []⟩
abbrev s__law_sizes : Stmt := (topS 19)
def d__law_sizes : He.DefD := ⟨("_law_sizes", none), "_law_sizes", "_law_sizes", defArgs s__law_sizes, defBody s__law_sizes, defScope s__law_sizes, [], []⟩
abbrev s_law : Stmt := (topS 20)
def d_law : He.DefD := ⟨("law", none), "law", "law", defArgs s_law, defBody s_law, defScope s_law, [], []⟩
def fn0 : List He.DefD := [d_NoBound___init__, d_is_whole, d_entry, d_Figures___init__, d_Figures_lesser, d_Figures_found_at, d_copies_by, d_Counts___init__, d_Counts_longer, d_Counts_begun, d_need_bound, d_how_many, d_with_signs, d__law_is, d__law_behind, d__law_long, d__law_sizes, d_law]
def fn : List He.DefD := fn0
def fa0 : List He.Fa := [.glo "is_whole", .glo "entry", .glo "copies_by", .glo "need_bound", .glo "how_many", .glo "with_signs", .glo "_law_is", .glo "_law_behind", .glo "_law_long", .glo "_law_sizes", .glo "law", .glo "MarkError", .glo "NoBound", .glo "Figures", .cls "Figures", .noat "Figures" "tails", .noat "Figures" "going", .noat "Figures" "stopping", .meth "Figures" "__init__", .meth "Figures" "lesser", .meth "Figures" "found_at", .mkr "Figures", .glo "Counts", .cls "Counts", .noat "Counts" "by_copy", .noat "Counts" "by_year", .noat "Counts" "by_makers", .noat "Counts" "by_figures", .noat "Counts" "by_points", .noat "Counts" "by_number"]
def fa1 : List He.Fa := [.noat "Counts" "by_word", .noat "Counts" "by_sign", .meth "Counts" "__init__", .meth "Counts" "longer", .meth "Counts" "begun", .mkr "Counts", .free "len", .free "isinstance", .free "all", .free "any", .free "range", .free "int", .free "str", .free "list", .free "tuple", .free "max", .free "min", .free "sorted", .free "repr", .free "enumerate", .free "zip", .free "divmod", .free "sum", .free "reversed", .free "dict", .free "bool", .int "MOST" 60]
def fa : List He.Fa := fa0 ++ fa1
def lo0 : List Str := ["_wall", "MarkError", "NoBound", "is_whole", "MOST", "entry", "Figures", "copies_by", "Counts", "need_bound", "how_many", "with_signs", "_law_is", "_law_behind", "_law_long", "_law_sizes"]
def lo : List Str := lo0
abbrev R : PySem.W.OpenRow := PySem.W.OpenLaw.row PySem.Challenge.rw_spinemarks_k19_how_many_there_are
def exB : PySem.W.Frag → Bool := fun _ => true
def tabs : List He.Tab := []
abbrev hk : PySem.W.Hook := He.hookX 7 fa fn tabs [] exB
def ob (s : PySem.W.SharedT) : He.AlX := He.obsX 7 fa fn tabs [] exB (HandSHeadRun.getT s)
theorem ob_eq (s : PySem.W.SharedT) : ob s = hk.obs s.abs := He.obsX_eq (HandSHeadRun.getT_eq s)
theorem run (w : World) : HandSHeadRun.RunEq R (PySem.W.view R.prog [20]) hk ob 20000 lo w := by
  intro os
  kernel_rfl
end Hd

namespace My
open PySem PySem.Spec PyProof.Rows L2
open Hd
local macro_rules | `(tactic| walk_at "rd") => `(tactic| simp (config := { decide := false }) only [
  ↓tSeq, ↓tNext, ↓tRet, ↓tRetN, ↓tDrop, ↓tIfS, ↓tAsg, ↓gName, ↓tC, ↓tOp, ↓tUn, ↓tAnd, ↓tOr, ↓tNot, ↓tIf, ↓tCons, ↓tNil, ↓tCB, ↓tCall, ↓tLst, ↓tTup, ↓tSl, ↓tNoPart, ↓tBreak, ↓tCont, ↓gSub, ↓tAug, ↓tAugS, ↓tPar, ↓tYes, ↓tMeth, ↓tMake, ↓tMakeN, ↓tCallN, ↓tNever,
  ↓U.uFmt, ↓U.uJoined, ↓U.tBL, ↓U.tBL0, ↓U.tBS, ↓U.tBS0,
  ↓U.tVar_0, ↓U.tVar_s, ↓U.e_test, ↓U.e_tB, ↓U.e_andV, ↓U.e_orV, ↓U.e_notV, ↓U.e_chain, ↓U.e_part, ↓U.e_js0, ↓U.e_js1, ↓U.e_tr, ↓U.e_or,
  U.set_0, U.set_s, L2.start, List.map_cons, List.map_nil, List.length_cons, List.length_nil, List.replicate, List.cons_append, List.nil_append, List.append_nil, List.getElem?_cons_zero, List.getElem?_cons_succ, Nat.reduceSub, Nat.reduceAdd,
  ↓U.e_add1, ↓U.e_add2, ↓U.e_add3, ↓U.e_sub, ↓U.e_mul, ↓U.e_mul2', U.rep_iv, U.iv_cut, ↓U.e_mod, ↓U.e_div, ↓U.e_pow, ↓U.e_lt1, ↓U.e_lt2, ↓U.e_le1, ↓U.e_le2, ↓U.e_gt1, ↓U.e_gt2, ↓U.e_ge1, ↓U.e_ge2, ↓U.e_eqo, ↓U.e_neo,
  U.s_1, U.s_2, U.s_3, U.s_4, U.s_5, U.s_6, U.s_7, U.s_8, U.s_9, U.s_10, U.s_11, U.s_12, U.s_13, U.s_14,
  ↓U.e_is, ↓U.e_isn, ↓U.e_in1, ↓U.e_nin1, ↓U.e_in2, ↓U.e_nin2, U.e_one, ↓U.e_ix1, ↓U.e_ix2, ↓U.e_sl1, ↓U.e_sl2, ↓U.e_slo1, ↓U.e_slo2, ↓U.e_slo3, ↓U.e_len1, ↓U.e_len2, ↓U.e_isi1, ↓U.e_isi2,
  U.t_non, U.t_bl, U.t_int, U.t_str, U.t_ref, U.t_lst, U.t_tup, U.t_dK, U.q_lst, U.q_tup, U.q_frz, U.l_lst, U.l_tup, U.u_lst, U.u_tup,
  ↓U.e_max, ↓U.e_min, ↓U.e_str, ↓U.e_int1, ↓U.e_int2, ↓U.e_int3, ↓U.e_list, ↓U.e_tuple, ↓U.e_tuple1, ↓U.e_tuple2, ↓U.e_divmod, ↓U.e_append, ↓U.e_extend, ↓U.e_pop, ↓U.e_rstrip, ↓U.e_zfill, ↓U.e_join, ↓U.e_fmt1, ↓U.e_fmt2, ↓U.e_set, ↓U.e_get, ↓U.e_ipa1, ↓U.e_ipa2, ↓U.e_ips, ↓U.e_neg,
  U.i_ii, U.i_ib, U.i_is, U.i_si, U.i_ss, U.i_bi, U.i_bb, U.i_ni, U.i_ns, U.i_ll, U.i_lt, ↓U.e_fldG, ↓U.e_fldR, ↓U.e_sfG, ↓U.e_sfR, ↓U.e_mtG, ↓U.e_mtR, U.insOf_ins, ↓U.e_eqI, U.ix10, L2.wipe, ↓U.e_lcE, ↓U.e_lcR, ↓U.e_lcL, ↓U.e_lcZ, ↓U.e_lcZ3, ↓U.e_forE, ↓U.e_for2, ↓U.e_forZ, ↓iEnum, ↓iRng1, ↓iRng2, ↓iZip, ↓U.iZip3, ↓iList, ↓U.e_sum, U.intsOf_map, U.fgp1, U.fgn1, U.fgl1_1, U.fgp2, U.fgn2, U.fgl2_1, U.fgl2_2, U.fgp3, U.fgn3, U.fgl3_1, U.fgl3_2, U.fgl3_3, U.ctp1, U.ctn1, U.ctl1_1, U.ctp2, U.ctn2, U.ctl2_1, U.ctl2_2, U.ctp3, U.ctn3, U.ctl3_1, U.ctl3_2, U.ctl3_3, U.ctp4, U.ctn4, U.ctl4_1, U.ctl4_2, U.ctl4_3, U.ctl4_4, U.ctp5, U.ctn5, U.ctl5_1, U.ctl5_2, U.ctl5_3, U.ctl5_4, U.ctl5_5, U.ctp6, U.ctn6, U.ctl6_1, U.ctl6_2, U.ctl6_3, U.ctl6_4, U.ctl6_5, U.ctl6_6, U.ctp7, U.ctn7, U.ctl7_1, U.ctl7_2, U.ctl7_3, U.ctl7_4, U.ctl7_5, U.ctl7_6, U.ctl7_7, U.ctp8, U.ctn8, U.ctl8_1, U.ctl8_2, U.ctl8_3, U.ctl8_4, U.ctl8_5, U.ctl8_6, U.ctl8_7, U.ctl8_8, U.ctm1, U.ctm2, U.ctm3, U.ctm4, U.ctm5, U.ctm6, U.ctm7, U.ctm8, U.nil_len, ↓U.e_slS, U.i60, U.i61, U.i62, U.i63, U.i64, U.i65, ↓U.e_orT, U.cut_from1, U.at1, U.at2, U.at3, U.at4, U.at5, U.pool_upd, ↓U.e_forR, ↓U.e_forL, U.atI_0, U.cxK, U.cxKn, ↓U.e_isC, U.p1, U.p2, U.p3, U.p4, U.p5, U.p6, U.p7, U.f1, U.f2, U.f3, U.f4, U.f5, U.f6, U.h1, U.h2, U.h3, U.h4, U.h5, U.h6, U.h7, U.k1, U.k2, U.k3, U.k4, U.k5, U.k6, U.n6, U.nk, U.na, U.ov_none, U.ov_some, eq_self,
  U.strOf_str, U.blOf_bl, U.refOf_ref, U.intOf_int, U.b_non, U.b_bl, U.b_int, U.isL_ref, U.isS_str, ↓U.optE_some,
  ↓U.sp0_at, ↓U.sp1_at, ↓U.sp2_at, ↓U.sp3_at, ↓U.sp4_at, ↓U.sp5_at, ↓U.sp6_at, ↓U.sp7_at,
  U.cps_mk, upd_same, L2.upd_upd, L2.upd_ne, ne_eq,
  U.ex_eq, exists_and_left, exists_and_right, exists_eq_left, exists_eq_left', exists_const, and_true, true_and, and_assoc, or_false, false_or, false_and, and_false, or_true, true_or, not_true_eq_false, not_false_eq_true, Bool.not_true, Bool.not_false, Bool.not_not, ite_true, ite_false, if_true, if_false, Bool.false_eq_true, reduceIte, reduceCtorEq, Option.some.injEq, Option.bind_some, V.int.injEq, V.bl.injEq, V.ref.injEq, V.str.injEq, V.ty.injEq, List.cons.injEq, HO.lst.injEq, HO.tup.injEq, Option.isSome_some, decide_true, decide_false, decide_eq_true_eq, Bool.not_eq_true', decide_eq_false_iff_not, Bool.and_true, Bool.true_and, Bool.and_false, Bool.false_and, Bool.or_true, Bool.true_or, Bool.or_false, Bool.false_or, Nat.reduceLeDiff, Int.reduceLT, Int.reduceLE, Int.reduceNeg, Int.reducePow, Int.reduceToNat, Int.reduceAdd, Int.reduceSub, Int.reduceMul, implies_true, *])
local macro_rules | `(tactic| walk_at "om") => `(tactic| (first | omega | (simp only [List.length_append, List.length_map, List.length_cons, List.length_nil, List.length_singleton]; omega) | (rw [U.sizeL]; decide)))

abbrev sp_entry : Sp := U.sp2 fun t i H Q _ => U.optE (U.refOf t) fun p => U.optE (U.intOf i) fun k => ∃ (n : Nat) (F : Nat → Int), H p = some (.lst (U.iv (U.sq n F))) ∧ k < n ∧ Q (.int (U.entF F k)) H
theorem sc_entry : FnScope ["table", "at"] ["table", "at"] (defScope s_entry) := U.scope_by (by decide +kernel)
theorem ok_entry {P : Program} {w : World} {K : PySem.W.Frag} {mg : Str → Option Value} {base : Heap} {f : Addr} {fd : FuncData}
    (F : FunD K "entry" "entry" (defArgs s_entry) (defBody s_entry) (defScope s_entry) [] [] f fd) (B : U.BI mg)  :
    FnOk P w K mg base C8.CX0 1 f fd ["table", "at"] (sp_entry) := by
  have sc := sc_entry
  refine F.ok sc (fun vs H Q E h => ?_) (fun cdv A outer s H vs Q E hr h => ⟨_, PSs.nox (pss_cons (ps_if (pt_cmpR U.lt (pv 1) pe_int (nomark _)) (pss_one (ps_ret pe_int)) pss_nil)
      (pss_one (ps_ret (pe_ix U.ix (pv 0) (pv 1) (fun _ _ => rfl))))), ?_⟩)
  · obtain ⟨_, _, rfl, _⟩ := h; rfl
  · obtain ⟨t, i, rfl, p, hp, k, hk, n, F, h1, h2, q⟩ := h
    cases U.refOf_eq hp
    cases U.intOf_eq hk
    unfold U.entF at q
    walk_at "rd"
    by_cases e : k < 0
    · rw [if_pos e] at q ⊢; exact q
    · rw [if_neg e] at q ⊢
      exact U.optE_of (U.sq_ix (by omega) h2) q

abbrev sp_Counts_longer : Sp := U.sp3 fun _ t z H Q _ => ∃ (q r : Addr) (n m : Nat) (F S : Nat → Int), t = .ref q ∧ z = .ref r ∧ H q = some (.lst (U.iv (U.sq n F))) ∧ H r = some (.lst (U.iv (U.sq m S))) ∧ n ≤ 1000 ∧ m ≤ 1000 ∧ (∀ i, -(2 ^ 64) < S i ∧ S i < 2 ^ 64) ∧
  ∀ H' p, U.Fr [] H H' → H p = none → H' p = some (.lst (U.iv (U.sq n (U.lonF F m S)))) → Q (.ref p) H'
theorem sc_Counts_longer : FnScope ["self", "table", "sizes", "found", "at", "size", "many"] ["self", "table", "sizes"] (defScope s_Counts_longer) := U.scope_by (by decide +kernel)
theorem ok_Counts_longer {P : Program} {w : World} {K : PySem.W.Frag} {mg : Str → Option Value} {base : Heap} {f : Addr} {fd : FuncData}
    (F : FunD K "longer" "Counts.longer" (defArgs s_Counts_longer) (defBody s_Counts_longer) (defScope s_Counts_longer) [] [] f fd) (B : U.BI mg) (c_entry : C8.Cal P w K mg base 1 "entry" (sp_entry) []) :
    FnOk P w K mg base C8.CX0 2 f fd ["self", "table", "sizes"] (sp_Counts_longer) := by
  have sc := sc_Counts_longer
  refine F.ok sc (fun vs H Q E h => ?_) (fun cdv A outer s H vs Q E hr h => ⟨_, PSs.nox (pss_cons (ps_set (i := 3) sc.nd rfl (Or.inl rfl) (pe_lst pa_nil))
      (pss_cons (ps_for PassesOwn.never rfl (pi_range1 rfl B.range_ (pa_cons (pe_callB U.c_len (by rfl) B.len_ U.bt_len (pa_cons (pv 1) pa_nil)) pa_nil)) (pg_name (i := 4) sc.nd rfl (Or.inr rfl)) (pss_one (ps_expr (U.pe_l PySem.F.slot_list_append PySem.F.type_list_append U.m_append (pv 3) (pa_cons (pe_callB (U.c_sum rfl) (by rfl) B.sum_ U.bt_sum (pa_cons (pe_lc (own := [("size", 5), ("many", 6)]) rfl sc.nd (pi_enum (by rfl) B.enumerate_ (pa_cons (pv 2) pa_nil)) (blkOk_by (N := ["self", "table", "sizes", "found", "at", "size", "many"]) (sc := defScope s_Counts_longer) (own := [("size", 5), ("many", 6)]) (by decide +kernel)) (fun _ _ _ _ _ => (U.pg_tupK (K := K) (n := 2) rfl (pg_tup (by rfl) (pgs_cons (pg_name (i := 5) sc.nd rfl (Or.inl rfl)) (pgs_cons (pg_name (i := 6) sc.nd rfl (Or.inl rfl)) pgs_nil))))) (fun _ _ _ _ _ => pts_nil) (fun _ _ _ _ _ => (pe_op U.mul (pv 6) (C8.pe_c c_entry hr (by decide) rfl (pa_cons (pv 1) (pa_cons (pe_op U.sub (pv 4) (pv 5)) pa_nil)))))) pa_nil)) pa_nil)))))
      (pss_one (ps_ret (pv 3))))), ?_⟩)
  · obtain ⟨_, _, _, rfl, _⟩ := h; rfl
  · obtain ⟨s', t, z, rfl, q, r, n, m, F, S, rfl, rfl, hq, hr', hn, hm, hS, k⟩ := h
    walk_at "rd"
    refine ⟨by rw [U.sizeL]; decide, fun p hp => ?_⟩
    have pq : p ≠ q := U.ne_new hp hq
    have qp := pq.symm
    have pr : p ≠ r := U.ne_new hp hr'
    have rp := pr.symm
    have ln1 : (U.iv (U.sq n F)).length = n := by rw [U.iv_len, U.sq_len]
    walk_at "rd"
    refine U.r_rng (by omega) (by omega) (fun i σ H' => (∃ o o1 o2, σ = [some s', some (.ref q), some (.ref r), some (.ref p), o, o1, o2]) ∧ H' q = some (.lst (U.iv (U.sq n F))) ∧ H' r = some (.lst (U.iv (U.sq m S))) ∧ H' p = some (.lst (U.iv (U.sq i (U.lonF F m S)))) ∧ U.Fr [] H H')
      ⟨⟨_, _, _, rfl⟩, by rw [upd_ne qp]; exact hq, by rw [upd_ne rp]; exact hr', upd_same, U.fr1 hp⟩ ?_ ?_
    · rintro i σ H' hi ⟨⟨o, o1, o2, rfl⟩, b1, b2, b3, f⟩
      walk_at "rd"
      refine ⟨⟨_, SqL.of b2⟩, ?_⟩
      refine U.lcM walk_enum (U.iv (U.sq m fun z => S z * U.entF F ((i : Int) - (z : Int)))) (by rw [U.iv_len, U.iv_len, U.sq_len, U.sq_len]) (by rw [U.iv_len, U.sq_len]; omega) rfl (fun H4 f4 => U.SqL_fr f4 (SqL.of b2)) ?_ ?_
      · rintro j y v H4 H5 R hy f4 ⟨T, x1, z1, rfl, hT, rfl, hx1, hz1⟩ kR
        obtain ⟨hj, rfl⟩ := U.sq_at hy
        cases hx1
        obtain ⟨hj2, rfl⟩ := U.sq_at hz1
        refine U.tgt2 upd_same rfl ⟨rfl, ?_⟩
        have e1 := U.upd_old2 (o := .tup [.int (j : Nat), .int (S j)]) hT (f4.get (by simp) b1)
        walk_at "rd"
        refine ⟨n, F, rfl, by omega, U.mulL (hS j), ?_⟩
        exact kR _ (U.fr1 hT)
      · intro D H6 hD f6 hDl
        have e2 := f6.get (by simp) b3
        have ln2 : (U.iv (U.sq i (U.lonF F m S))).length = i := by rw [U.iv_len, U.sq_len]
        have ap : U.iv (U.sq i (U.lonF F m S)) ++ [V.int (U.sq m fun z => S z * U.entF F ((i : Int) - (z : Int))).sum] = U.iv (U.sq (i + 1) (U.lonF F m S)) := by rw [U.sq_succ, ← U.iv_app]; rfl
        walk_at "rd"
        exact ⟨by omega, ⟨_, rfl⟩, f6.get (by simp) b1, f6.get (by simp) b2, (f.trans f6).own (.inr hp)⟩
    · rintro σ H' ⟨⟨o, o1, o2, rfl⟩, b1, b2, b3, f⟩
      have e1 : (n : Int).toNat = n := by omega
      rw [e1] at b3
      walk_at "rd"

abbrev sp_Figures___init__ (C : Addr) : Sp := U.sp2 fun s t H Q _ => ∃ (x q dx : Addr) (n : Nat) (T : Nat → Int), s = .ref x ∧ t = .ref q ∧ H x = some (.ins C dx []) ∧ H q = some (.lst (U.iv (U.sq n T))) ∧ 1 ≤ n ∧ n ≤ 1000 ∧ ∀ H', U.Fr [x] H H' → U.Figs C H' x n T → Q .non H'
theorem sc_Figures___init__ : FnScope ["self", "tails", "at"] ["self", "tails"] (defScope s_Figures___init__) := U.scope_by (by decide +kernel)
theorem ok_Figures___init__ {P : Program} {w : World} {K : PySem.W.Frag} {mg : Str → Option Value} {base : Heap} {f : Addr} {fd : FuncData} {C_Figures : Addr}
    (F : FunD K "__init__" "Figures.__init__" (defArgs s_Figures___init__) (defBody s_Figures___init__) (defScope s_Figures___init__) [] [] f fd) (B : U.BI mg) (MF : U.FgC K C_Figures) :
    FnOk P w K mg base C8.CX0 1 f fd ["self", "tails"] (sp_Figures___init__ C_Figures) := by
  have sc := sc_Figures___init__
  refine F.ok sc (fun vs H Q E h => ?_) (fun cdv A outer s H vs Q E hr h => ⟨_, PSs.nox (pss_cons (ps_fld (pv 0) (pv 1) rfl)
      (pss_cons (ps_fld (pv 0) (pe_lst (pa_cons pe_int pa_nil)) rfl)
      (pss_cons (ps_fld (pv 0) (pe_lst (pa_cons (pe_ix U.ix (pv 1) pe_int (fun _ _ => rfl)) pa_nil)) rfl)
      (pss_one (ps_for PassesOwn.never rfl (pi_range2 rfl B.range_ (pa_cons pe_int (pa_cons (pe_callB U.c_len (by rfl) B.len_ U.bt_len (pa_cons (pv 1) pa_nil)) pa_nil))) (pg_name (i := 2) sc.nd rfl (Or.inl rfl)) (pss_cons (ps_expr (U.pe_l PySem.F.slot_list_append PySem.F.type_list_append U.m_append (pe_fld (pv 0) rfl) (pa_cons (pe_op U.add (pe_ix U.ix (pe_fld (pv 0) rfl) (pe_op U.sub (pv 2) pe_int) (fun _ _ => rfl)) (pe_op U.mul pe_int (pe_ix U.ix (pe_fld (pv 0) rfl) (pe_op U.sub (pv 2) pe_int) (fun _ _ => rfl)))) pa_nil)))
      (pss_one (ps_expr (U.pe_l PySem.F.slot_list_append PySem.F.type_list_append U.m_append (pe_fld (pv 0) rfl) (pa_cons (pe_op U.add (pe_ix U.ix (pv 1) (pv 2) (fun _ _ => rfl)) (pe_ix U.ix (pe_fld (pv 0) rfl) (pv 2) (fun _ _ => rfl))) pa_nil)))))))))), ?_⟩)
  · obtain ⟨_, _, rfl, _⟩ := h; rfl
  · obtain ⟨s', t, rfl, x, q, dx, n, T, rfl, rfl, hx, hq, hn1, hn2, k⟩ := h
    obtain ⟨m0, m1, m2, m3⟩ := MF
    have xq : x ≠ q := by rintro rfl; rw [hx] at hq; cases hq
    have qx := xq.symm
    have a0 : atI (U.iv (U.sq n T)) 0 = some (.int (T 0)) := U.sq_ix (by decide) (by omega)
    have ln : (U.iv (U.sq n T)).length = n := by rw [U.iv_len, U.sq_len]
    walk_at "rd"
    refine ⟨by decide, by rw [U.sizeL]; decide, fun p hp => ?_⟩
    have px : p ≠ x := by rintro rfl; rw [upd_same] at hp; cases hp
    have xp := px.symm
    have hp0 : H p = none := by rw [upd_ne px] at hp; exact hp
    have pq : p ≠ q := U.ne_new hp0 hq
    have qp := pq.symm
    walk_at "rd"
    refine ⟨by rw [U.sizeL]; decide, fun p1 hp1 => ?_⟩
    have p1x : p1 ≠ x := by rintro rfl; rw [upd_same] at hp1; cases hp1
    have xp1 := p1x.symm
    have p1p : p1 ≠ p := by rintro rfl; rw [upd_ne p1x, upd_same] at hp1; cases hp1
    have pp1 := p1p.symm
    have hp10 : H p1 = none := by rw [upd_ne p1x, upd_ne p1p, upd_ne p1x] at hp1; exact hp1
    have p1q : p1 ≠ q := U.ne_new hp10 hq
    have qp1 := p1q.symm
    walk_at "rd"
    refine ⟨by omega, by omega, ?_⟩
    have en : ((n : Int) - 1).toNat = n - 1 := by omega
    rw [en]
    unfold U.forBody
    refine for_it walk_range (fun i σ H' => (∃ o, σ = [some (.ref x), some (.ref q), o]) ∧ H' x = some (.ins C_Figures dx (U.fg3 q p p1)) ∧ H' q = some (.lst (U.iv (U.sq n T))) ∧ H' p = some (.lst (U.iv (U.sq (i + 1) (U.goF T)))) ∧ H' p1 = some (.lst (U.iv (U.sq (i + 1) (U.stF T)))) ∧ U.Fr [x] H H') ?_ (fun _ _ _ _ _ => trivial) ?_ ?_
    · refine ⟨⟨_, rfl⟩, upd_same, ?_, ?_, ?_, ?_⟩
      · rw [upd_ne qx, upd_ne qp1, upd_ne qx, upd_ne qp, upd_ne qx]; exact hq
      · rw [upd_ne px, upd_ne pp1, upd_ne px, upd_same]; rfl
      · rw [upd_ne p1x, upd_same]; rfl
      · exact ((((U.Fr.refl.own (.inl (by simp))).new hp).own (.inl (by simp))).new hp1).own (.inl (by simp))
    · rintro i v σ H' H2 hi ⟨⟨o, rfl⟩, b1, b2, b3, b4, f⟩ ⟨rfl, rfl⟩
      have c1 : atI (U.iv (U.sq (i + 1) (U.goF T))) (1 + (i : Int) - 1) = some (.int (U.goF T i)) := by rw [U.sq_ix (by omega) (by omega)]; congr 3; omega
      have c2 : atI (U.iv (U.sq (i + 1) (U.stF T))) (1 + (i : Int) - 1) = some (.int (U.stF T i)) := by rw [U.sq_ix (by omega) (by omega)]; congr 3; omega
      have c3 : atI (U.iv (U.sq n T)) (1 + (i : Int)) = some (.int (T (i + 1))) := by rw [U.sq_ix (by omega) (by omega)]; congr 3; omega
      have c4 : U.iv (U.sq (i + 1) (U.goF T)) ++ [V.int (U.goF T i + 9 * U.stF T i)] = U.iv (U.sq (i + 1 + 1) (U.goF T)) := by rw [← U.goF_s, U.sq_succ (n := i + 1), ← U.iv_app]; rfl
      have c5 : atI (U.iv (U.sq (i + 1 + 1) (U.goF T))) (1 + (i : Int)) = some (.int (U.goF T (i + 1))) := by rw [U.sq_ix (by omega) (by omega)]; congr 3; omega
      have c6 : U.iv (U.sq (i + 1) (U.stF T)) ++ [V.int (T (i + 1) + U.goF T (i + 1))] = U.iv (U.sq (i + 1 + 1) (U.stF T)) := by rw [← U.stF_s, U.sq_succ (n := i + 1), ← U.iv_app]; rfl
      have c7 : (U.iv (U.sq (i + 1) (U.goF T))).length = i + 1 := by rw [U.iv_len, U.sq_len]
      have c8 : (U.iv (U.sq (i + 1) (U.stF T))).length = i + 1 := by rw [U.iv_len, U.sq_len]
      walk_at "rd"
      exact ⟨U.mulL (by decide), by omega, by omega, ⟨_, rfl⟩, (f.own (.inr hp0)).own (.inr hp10)⟩
    · rintro σ H' ⟨⟨o, rfl⟩, b1, b2, b3, b4, f⟩
      have e1 : n - 1 + 1 = n := by omega
      rw [e1] at b3 b4
      exact k _ f ⟨dx, q, p, p1, b1, b3, b4⟩

abbrev sp_copies_by : Sp := U.sp1 fun m H Q _ => U.optE (U.intOf m) fun n => 0 ≤ n ∧ n ≤ 100 ∧ ∀ H' p, U.Fr [] H H' → H p = none → H' p = some (.lst (U.iv (U.sq (n.toNat + 1) U.copF))) → Q (.ref p) H'
theorem sc_copies_by : FnScope ["most", "found", "at"] ["most"] (defScope s_copies_by) := U.scope_by (by decide +kernel)
theorem ok_copies_by {P : Program} {w : World} {K : PySem.W.Frag} {mg : Str → Option Value} {base : Heap} {f : Addr} {fd : FuncData}
    (F : FunD K "copies_by" "copies_by" (defArgs s_copies_by) (defBody s_copies_by) (defScope s_copies_by) [] [] f fd) (B : U.BI mg)  :
    FnOk P w K mg base C8.CX0 1 f fd ["most"] (sp_copies_by) := by
  have sc := sc_copies_by
  refine F.ok sc (fun vs H Q E h => ?_) (fun cdv A outer s H vs Q E hr h => ⟨_, PSs.nox (pss_cons (ps_set (i := 1) sc.nd rfl (Or.inl rfl) (pe_lst pa_nil))
      (pss_cons (ps_for PassesOwn.never rfl (pi_range1 rfl B.range_ (pa_cons (pe_op U.add (pv 0) pe_int) pa_nil)) (pg_name (i := 2) sc.nd rfl (Or.inl rfl)) (pss_one (ps_if (pt_cmpR U.lt (pv 2) pe_int (nomark _)) (pss_one (ps_expr (U.pe_l PySem.F.slot_list_append PySem.F.type_list_append U.m_append (pv 1) (pa_cons pe_int pa_nil)))) (pss_one (ps_if (pt_cmpR U.eq (pv 2) pe_int (nomark _)) (pss_one (ps_expr (U.pe_l PySem.F.slot_list_append PySem.F.type_list_append U.m_append (pv 1) (pa_cons pe_int pa_nil)))) (pss_one (ps_expr (U.pe_l PySem.F.slot_list_append PySem.F.type_list_append U.m_append (pv 1) (pa_cons (pe_op U.add (pe_op U.mul pe_int (pe_ix U.ix (pv 1) (pe_un U.neg pe_int) (fun _ _ => rfl))) pe_int) pa_nil)))))))))
      (pss_one (ps_ret (pv 1))))), ?_⟩)
  · obtain ⟨_, rfl, _⟩ := h; rfl
  · obtain ⟨m, rfl, n, hm, h0, h1, k⟩ := h
    cases U.intOf_eq hm
    walk_at "rd"
    refine ⟨by rw [U.sizeL]; decide, fun p hp => ?_⟩
    refine U.r_rng (by omega) (by omega) (fun i σ H' => (∃ o, σ = [some (.int n), some (.ref p), o]) ∧ H' p = some (.lst (U.iv (U.sq i U.copF))) ∧ U.Fr [] H H') ⟨⟨_, rfl⟩, upd_same, U.fr1 hp⟩ ?_ ?_
    · rintro i σ H' hi ⟨⟨o, rfl⟩, b1, f⟩
      have ln : (U.iv (U.sq i U.copF)).length = i := by rw [U.iv_len, U.sq_len]
      have ap : ∀ v, U.copF i = v → U.iv (U.sq i U.copF) ++ [V.int v] = U.iv (U.sq (i + 1) U.copF) := by rintro v rfl; rw [U.sq_succ, ← U.iv_app]; rfl
      have fin : ∀ o : HO, U.Fr [] H (upd H' p o) := fun o => f.own (.inr hp)
      by_cases e : i < 4
      · have e1 : (i : Int) < 4 := by omega
        have ap1 := ap 1 (by cases i with | zero => rfl | succ j => show (if j + 1 < 4 then 1 else _) = _; rw [if_pos e])
        walk_at "rd"
        exact ⟨by omega, _, rfl⟩
      · have e1 : ¬ (i : Int) < 4 := by omega
        by_cases e2 : i = 4
        · subst e2
          have ap1 := ap 9 rfl
          walk_at "rd"
          rw [if_pos (by decide)]
          exact ⟨by decide, _, rfl⟩
        · have e3 : ¬ (i : Int) = 4 := by omega
          obtain ⟨j, rfl⟩ : ∃ j, i = j + 1 := ⟨i - 1, by omega⟩
          have ap1 := ap (10 * U.copF j + 9) (by show (if j + 1 < 4 then 1 else if j + 1 = 4 then 9 else 10 * U.copF j + 9) = _; rw [if_neg e, if_neg e2])
          have la := U.sq_last (n := j) (F := U.copF)
          walk_at "rd"
          exact ⟨U.mulL (by decide), by omega, _, rfl⟩
    · rintro σ H' ⟨⟨o, rfl⟩, b1, f⟩
      have e1 : (n + 1).toNat = n.toNat + 1 := by omega
      rw [e1] at b1
      walk_at "rd"

abbrev sp_Counts___init__ (C : Addr) : Sp := U.sp2 fun s m H Q _ => ∃ (x dx : Addr) (n : Nat), s = .ref x ∧ m = .int n ∧ n ≤ 60 ∧ H x = some (.ins C dx []) ∧ ∀ H', U.Fr [x] H H' → U.Cnts C H' x n → Q .non H'
theorem sc_Counts___init__ : FnScope ["self", "most", "more", "figures", "ends", "at", "one"] ["self", "most"] (defScope s_Counts___init__) := U.scope_by (by decide +kernel)
theorem ok_Counts___init__ {P : Program} {w : World} {K : PySem.W.Frag} {mg : Str → Option Value} {base : Heap} {f : Addr} {fd : FuncData} {C_Counts : Addr} {C_Figures : Addr}
    (F : FunD K "__init__" "Counts.__init__" (defArgs s_Counts___init__) (defBody s_Counts___init__) (defScope s_Counts___init__) [] [] f fd) (B : U.BI mg) (MC : U.CtC K C_Counts) (MF : U.FgC K C_Figures) (c_copies_by : C8.Cal P w K mg base 1 "copies_by" (sp_copies_by) []) (c_entry : C8.Cal P w K mg base 1 "entry" (sp_entry) []) (k_Figures : C8.Mak P w K mg base 1 "Figures" C_Figures (sp_Figures___init__ C_Figures) []) (m_Counts_longer : C8.Met P w K mg base 2 C_Counts "longer" (sp_Counts_longer) []) :
    FnOk P w K mg base C8.CX0 3 f fd ["self", "most"] (sp_Counts___init__ C_Counts) := by
  have sc := sc_Counts___init__
  refine F.ok sc (fun vs H Q E h => ?_) (fun cdv A outer s H vs Q E hr h => ⟨_, PSs.nox (pss_cons (ps_fld (pv 0) (C8.pe_c c_copies_by hr (by decide) rfl (pa_cons (pv 1) pa_nil)) rfl)
      (pss_cons (ps_fld (pv 0) (pe_lc (own := [("at", 5), ("one", 6)]) rfl sc.nd (pi_enum (by rfl) B.enumerate_ (pa_cons (pe_fld (pv 0) rfl) pa_nil)) (blkOk_by (N := ["self", "most", "more", "figures", "ends", "at", "one"]) (sc := defScope s_Counts___init__) (own := [("at", 5), ("one", 6)]) (by decide +kernel)) (fun _ _ _ _ _ => (U.pg_tupK (K := K) (n := 2) rfl (pg_tup (by rfl) (pgs_cons (pg_name (i := 5) sc.nd rfl (Or.inl rfl)) (pgs_cons (pg_name (i := 6) sc.nd rfl (Or.inl rfl)) pgs_nil))))) (fun _ _ _ _ _ => pts_nil) (fun _ _ _ _ _ => (pe_op U.add (pv 6) (pe_op U.mul pe_int (C8.pe_c c_entry hr (by decide) rfl (pa_cons (U.pe_fldK (K := K) rfl (pe_fld (pv 0) rfl)) (pa_cons (pe_op U.sub (pv 5) pe_int) pa_nil))))))) rfl)
      (pss_cons (ps_fld (pv 0) (pe_lst (pa_cons (pe_fld (pv 0) rfl) pa_nil)) rfl)
      (pss_cons (ps_fld (pv 0) (pe_lst pa_nil) rfl)
      (pss_cons (ps_for PassesOwn.never rfl (pi_range1 rfl B.range_ (pa_cons pe_int pa_nil)) (pg_name (i := 2) sc.nd rfl (Or.inl rfl)) (pss_cons (ps_set (i := 3) sc.nd rfl (Or.inr rfl) (C8.pe_mk k_Figures hr (by decide) rfl (pa_cons (pe_ix U.ix (pe_fld (pv 0) rfl) (pe_un U.neg pe_int) (fun _ _ => rfl)) pa_nil)))
      (pss_cons (ps_expr (U.pe_l PySem.F.slot_list_append PySem.F.type_list_append U.m_append (pe_fld (pv 0) rfl) (pa_cons (pv 3) pa_nil)))
      (pss_one (ps_expr (U.pe_l PySem.F.slot_list_append PySem.F.type_list_append U.m_append (pe_fld (pv 0) rfl) (pa_cons (pe_lc (own := [("at", 5), ("one", 6)]) rfl sc.nd (pi_enum (by rfl) B.enumerate_ (pa_cons (pe_fld (pv 0) rfl) pa_nil)) (blkOk_by (N := ["self", "most", "more", "figures", "ends", "at", "one"]) (sc := defScope s_Counts___init__) (own := [("at", 5), ("one", 6)]) (by decide +kernel)) (fun _ _ _ _ _ => (U.pg_tupK (K := K) (n := 2) rfl (pg_tup (by rfl) (pgs_cons (pg_name (i := 5) sc.nd rfl (Or.inl rfl)) (pgs_cons (pg_name (i := 6) sc.nd rfl (Or.inl rfl)) pgs_nil))))) (fun _ _ _ _ _ => pts_nil) (fun _ _ _ _ _ => (pe_op U.add (pv 6) (pe_op U.mul pe_int (C8.pe_c c_entry hr (by decide) rfl (pa_cons (U.pe_fldK (K := K) rfl (pe_fld (pv 3) rfl)) (pa_cons (pe_op U.sub (pv 5) pe_int) pa_nil))))))) pa_nil)))))))
      (pss_cons (ps_set (i := 4) sc.nd rfl (Or.inl rfl) (pe_ix U.ix (pe_fld (pv 0) rfl) (pe_un U.neg pe_int) (fun _ _ => rfl)))
      (pss_cons (ps_fld (pv 0) (C8.pe_mk k_Figures hr (by decide) rfl (pa_cons (pv 4) pa_nil)) rfl)
      (pss_cons (ps_fld (pv 0) (pe_lc (own := [("at", 5), ("one", 6)]) rfl sc.nd (pi_enum (by rfl) B.enumerate_ (pa_cons (pv 4) pa_nil)) (blkOk_by (N := ["self", "most", "more", "figures", "ends", "at", "one"]) (sc := defScope s_Counts___init__) (own := [("at", 5), ("one", 6)]) (by decide +kernel)) (fun _ _ _ _ _ => (U.pg_tupK (K := K) (n := 2) rfl (pg_tup (by rfl) (pgs_cons (pg_name (i := 5) sc.nd rfl (Or.inl rfl)) (pgs_cons (pg_name (i := 6) sc.nd rfl (Or.inl rfl)) pgs_nil))))) (fun _ _ _ _ _ => pts_nil) (fun _ _ _ _ _ => (pe_op U.add (pv 6) (C8.pe_c c_entry hr (by decide) rfl (pa_cons (U.pe_fldK (K := K) rfl (pe_fld (U.pe_fldK (K := K) rfl (pe_fld (pv 0) rfl)) rfl)) (pa_cons (pe_op U.sub (pv 5) pe_int) pa_nil)))))) rfl)
      (pss_cons (ps_fld (pv 0) (C8.pe_mt m_Counts_longer hr (by decide) (pv 0) (pa_cons (pe_fld (pv 0) rfl) (pa_cons (pe_lst (pa_cons pe_int (pa_cons pe_int (pa_cons pe_int (pa_cons pe_int (pa_cons pe_int pa_nil)))))) pa_nil))) rfl)
      (pss_one (ps_fld (pv 0) (C8.pe_mt m_Counts_longer hr (by decide) (pv 0) (pa_cons (pe_fld (pv 0) rfl) (pa_cons (pe_lst (pa_cons pe_int (pa_cons pe_int (pa_cons pe_int (pa_cons pe_int pa_nil))))) pa_nil))) rfl))))))))))), ?_⟩)
  · obtain ⟨_, _, rfl, _⟩ := h; rfl
  · obtain ⟨s', m, rfl, x, dx, n, rfl, rfl, hn, hx, k⟩ := h
    obtain ⟨m0, m1, m2, m3⟩ := MF
    obtain ⟨mc, a1, a2, a3, a4, a5, a6, a7, a8⟩ := MC
    have lY : ∀ F : Nat → Int, (U.iv (U.sq (n + 1) F)).length = n + 1 := fun F => by rw [U.iv_len, U.sq_len]
    walk_at "rd"
    refine ⟨by omega, by omega, fun H1 c1 f1 hc1 gc1 => ?_⟩
    rw [Int.toNat_natCast] at gc1
    have hx1 := f1.get (by simp) hx
    have c1x := U.ne_new hc1 hx
    have xc1 := c1x.symm
    walk_at "rd"
    have e2 : upd H1 x (.ins C_Counts dx (U.ct1 c1)) c1 = some (.lst (U.iv (U.sq (n + 1) U.copF))) := by rw [upd_ne c1x]; exact gc1
    refine ⟨by decide, ⟨_, SqL.of e2⟩, ?_⟩
    refine U.lcM walk_enum (U.iv (U.sq (n + 1) U.yearF)) (by rw [lY, lY]) (by rw [lY]; omega) rfl (fun H4 f4 => U.SqL_fr f4 (SqL.of e2)) ?_ ?_
    · rintro j y v H4 H5 R hy f4 ⟨T, x1, z1, rfl, hT, rfl, hx1', hz1⟩ kR
      obtain ⟨hj, rfl⟩ := U.sq_at hy
      cases hx1'
      obtain ⟨hj2, rfl⟩ := U.sq_at hz1
      refine U.tgt2 upd_same rfl ⟨rfl, ?_⟩
      have g1 := U.upd_old2 (o := .tup [.int (j : Nat), .int (U.copF j)]) hT (f4.get (by simp) (upd_same (H := H1) (a := x) (o := .ins C_Counts dx (U.ct1 c1))))
      have g2 := U.upd_old2 (o := .tup [.int (j : Nat), .int (U.copF j)]) hT (f4.get (by simp) e2)
      walk_at "rd"
      exact ⟨n + 1, U.copF, rfl, by omega, U.mulL (by decide), kR _ (U.fr1 hT)⟩
    intro c2 H2 hD f2 gD
    have hx2 := f2.get (by simp) (upd_same (H := H1) (a := x) (o := .ins C_Counts dx (U.ct1 c1)))
    have c2x : c2 ≠ x := U.ne_new hD upd_same
    have xc2 := c2x.symm
    have F2 : U.Fr [x] H H2 := ((f1.sub (by simp)).own (.inl (by simp))).trans (f2.sub (by simp))
    clear gc1 e2
    walk_at "rd"
    refine ⟨by rw [U.sizeL]; decide, fun c3 h3 => ?_⟩
    have c3x : c3 ≠ x := by rintro rfl; rw [upd_same] at h3; cases h3
    have xc3 := c3x.symm
    have h30 : H2 c3 = none := by rw [upd_ne c3x] at h3; exact h3
    have c32 : c3 ≠ c2 := U.ne_new h30 gD
    have c23 := c32.symm
    walk_at "rd"
    refine ⟨by rw [U.sizeL]; decide, fun c4 h4 => ?_⟩
    have c4x : c4 ≠ x := by rintro rfl; rw [upd_same] at h4; cases h4
    have xc4 := c4x.symm
    have c43 : c4 ≠ c3 := by rintro rfl; rw [upd_ne c4x, upd_same] at h4; cases h4
    have c34 := c43.symm
    have h40 : H2 c4 = none := by rw [upd_ne c4x, upd_ne c43, upd_ne c4x] at h4; exact h4
    have c42 : c4 ≠ c2 := U.ne_new h40 gD
    have c24 := c42.symm
    have hc40 := F2.none h40 (by simp; exact c4x)
    have hc30 := F2.none h30 (by simp; exact c3x)
    walk_at "rd"
    refine U.r_rng (by decide) (by decide) (fun i σ H' => (∃ o o1 o2 o3 o4, σ = [some (.ref x), some (.int n), o, o1, o2, o3, o4]) ∧ H' x = some (.ins C_Counts dx (U.ct4 c1 c2 c3 c4)) ∧ H' c2 = some (.lst (U.iv (U.sq (n + 1) U.yearF))) ∧
      (∃ fs : List Addr, H' c4 = some (.lst (fs.map V.ref)) ∧ fs.length ≤ i) ∧ (∃ ms e, H' c3 = some (.lst (ms ++ [.ref e])) ∧ ms.length = i ∧ H' e = some (.lst (U.iv (U.sq (n + 1) (U.endF i)))) ∧ e ≠ x ∧ e ≠ c3 ∧ e ≠ c4) ∧ U.Fr [x] H H') ?_ ?_ ?_
    · refine ⟨⟨_, _, _, _, _, rfl⟩, upd_same, ?_, ⟨[], ?_, by simp⟩, ⟨[], c2, ?_, rfl, ?_, c2x, c23, c24⟩, ?_⟩
      · rw [upd_ne c2x, upd_ne c24, upd_ne c2x, upd_ne c23, upd_ne c2x]; exact gD
      · rw [upd_ne c4x, upd_same]; rfl
      · rw [upd_ne c3x, upd_ne c34, upd_ne c3x, upd_same]; rfl
      · rw [upd_ne c2x, upd_ne c24, upd_ne c2x, upd_ne c23, upd_ne c2x]; exact gD
      · exact ((((F2.own (.inl (by simp))).new h3).own (.inl (by simp))).new h4).own (.inl (by simp))
    · rintro i σ H' hi ⟨⟨o, o1, o2, o3, o4, rfl⟩, b1, b2, ⟨fs, b3, hfs⟩, ⟨ms, e, b4, hms, b5, ex, ec3, ec4⟩, F3⟩
      have la := U.atI_lastV (l := ms) (c := V.ref e)
      have c1n : (U.iv (U.sq (n + 1) (U.endF i))).length = n + 1 := lY _
      walk_at "rd"
      intro xf df hxf hdf ndf
      have n1 := U.ne_new hxf b1
      have n2 := U.ne_new hxf b2
      have n3 := U.ne_new hxf b3
      have n4 := U.ne_new hxf b4
      have n5 := U.ne_new hxf b5
      have n5' := n5.symm
      have n6 := U.ne_new hdf b5
      have n6' := n6.symm
      walk_at "rd"
      refine ⟨⟨_, rfl⟩, n + 1, _, rfl, by omega, by omega, fun H6 f6 G6 => ?_⟩
      have F6 : U.Fr [] H' H6 := (((U.fr1 hdf).new (by rw [upd_ne (fun z => ndf z.symm)]; exact hxf))).wide f6 (by simp [hxf])
      have G6' := G6
      obtain ⟨dxf, qf, gf, sf, w1, w2, w3⟩ := G6'
      have d1 := F6.get (by simp) b1
      have d2 := F6.get (by simp) b2
      have d3 := F6.get (by simp) b3
      have d4 := F6.get (by simp) b4
      have gfc4 : gf ≠ c4 := by
        rintro rfl
        rw [w2] at d3
        simp only [Option.some.injEq, HO.lst.injEq] at d3
        exact U.iv_refs d3
      have gfc3 : gf ≠ c3 := by
        rintro rfl
        rw [w2] at d4
        simp only [Option.some.injEq, HO.lst.injEq] at d4
        have q1 := congrArg List.getLast? d4
        rw [U.sq_succ, ← U.iv_app] at q1
        simp [U.iv] at q1
      have c4gf := gfc4.symm
      have lf : (fs.map V.ref).length = fs.length := List.length_map ..
      have c4xf := n3.symm
      walk_at "rd"
      have e7 : upd H6 c4 (.lst (fs.map V.ref ++ [.ref xf])) c2 = some (.lst (U.iv (U.sq (n + 1) U.yearF))) := by rw [upd_ne c24]; exact d2
      have e8 : upd H6 c4 (.lst (fs.map V.ref ++ [.ref xf])) xf = some (.ins C_Figures dxf (U.fg3 qf gf sf)) := by rw [upd_ne n3]; exact w1
      have e9 : upd H6 c4 (.lst (fs.map V.ref ++ [.ref xf])) gf = some (.lst (U.iv (U.sq (n + 1) (U.goF (U.endF i))))) := by rw [upd_ne gfc4]; exact w2
      refine ⟨by omega, ⟨_, SqL.of e7⟩, ?_⟩
      refine U.lcM walk_enum (U.iv (U.sq (n + 1) (U.endF (i + 1)))) (by rw [lY, lY]) (by rw [lY]; omega) rfl (fun H4 f4 => U.SqL_fr f4 (SqL.of e7)) ?_ ?_
      · rintro j y v H7 H8 R hy f7 ⟨T, x1, z1, rfl, hT, rfl, hx1', hz1⟩ kR
        obtain ⟨hj, rfl⟩ := U.sq_at hy
        cases hx1'
        obtain ⟨hj2, rfl⟩ := U.sq_at hz1
        refine U.tgt2 upd_same rfl ⟨rfl, ?_⟩
        have g1 := U.upd_old2 (o := .tup [.int (j : Nat), .int (U.yearF j)]) hT (f7.get (by simp) e8)
        have g2 := U.upd_old2 (o := .tup [.int (j : Nat), .int (U.yearF j)]) hT (f7.get (by simp) e9)
        walk_at "rd"
        exact ⟨n + 1, _, rfl, by omega, U.mulL (by decide), kR _ (U.fr1 hT)⟩
      · intro D H7 hD7 f7 gD7
        have q1 := f7.get (b := x) (by simp) (by rw [upd_ne xc4]; exact d1)
        have q2 := f7.get (by simp) e7
        have q3 := f7.get (b := c3) (by simp) (by rw [upd_ne c34]; exact d4)
        have q4 := f7.get (b := c4) (by simp) upd_same
        have Dx : D ≠ x := U.ne_new hD7 (by rw [upd_ne xc4]; exact d1)
        have Dc3 : D ≠ c3 := U.ne_new hD7 (by rw [upd_ne c34]; exact d4)
        have Dc4 : D ≠ c4 := U.ne_new hD7 upd_same
        walk_at "rd"
        refine ⟨by walk_at "om", ⟨_, rfl⟩, ⟨fs ++ [xf], by simp, by simp; omega⟩, ⟨ms ++ [.ref e], D, rfl, by simp; omega, by rw [upd_ne Dc3]; exact gD7, Dx, Dc3, Dc4⟩, ?_⟩
        exact (((F3.trans (F6.sub (by simp))).own (.inr hc40)).trans (f7.sub (by simp))).own (.inr hc30)
    rintro σ H3 ⟨⟨o, o1, o2, o3, o4, rfl⟩, b1, b2, ⟨fs, b3, hfs⟩, ⟨ms, e, b4, hms, b5, ex, ec3, ec4⟩, F3⟩
    have la := U.atI_lastV (l := ms) (c := V.ref e)
    have b5 : H3 e = some (.lst (U.iv (U.sq (n + 1) (U.endF 3)))) := b5
    clear b2 b3
    walk_at "rd"
    intro xf df hxf hdf ndf
    have n1 := U.ne_new hxf b1
    have n5 := U.ne_new hxf b5
    have n5' := n5.symm
    have n6 := U.ne_new hdf b5
    have n6' := n6.symm
    walk_at "rd"
    refine ⟨⟨_, rfl⟩, n + 1, _, rfl, by omega, by omega, fun H6 f6 G6 => ?_⟩
    have F6 : U.Fr [] H3 H6 := (((U.fr1 hdf).new (by rw [upd_ne (fun z => ndf z.symm)]; exact hxf))).wide f6 (by simp [hxf])
    obtain ⟨dxf, qf, gf, sf, w1, w2, w3⟩ := G6
    have d1 := F6.get (by simp) b1
    have d5 := F6.get (by simp) b5
    have xxf := n1.symm
    have gfx : gf ≠ x := by rintro rfl; rw [w2] at d1; cases d1
    walk_at "rd"
    have e7 : upd H6 x (.ins C_Counts dx (U.ct5 c1 c2 c3 c4 xf)) e = some (.lst (U.iv (U.sq (n + 1) (U.endF 3)))) := by rw [upd_ne ex]; exact d5
    have e8 : upd H6 x (.ins C_Counts dx (U.ct5 c1 c2 c3 c4 xf)) xf = some (.ins C_Figures dxf (U.fg3 qf gf sf)) := by rw [upd_ne n1]; exact w1
    have e9 : upd H6 x (.ins C_Counts dx (U.ct5 c1 c2 c3 c4 xf)) gf = some (.lst (U.iv (U.sq (n + 1) (U.goF (U.endF 3))))) := by rw [upd_ne gfx]; exact w2
    refine ⟨⟨_, SqL.of e7⟩, ?_⟩
    refine U.lcM walk_enum (U.iv (U.sq (n + 1) U.numF)) (by rw [lY, lY]) (by rw [lY]; omega) rfl (fun H4 f4 => U.SqL_fr f4 (SqL.of e7)) ?_ ?_
    · rintro j y v H7 H8 R hy f7 ⟨T, x1, z1, rfl, hT, rfl, hx1', hz1⟩ kR
      obtain ⟨hj, rfl⟩ := U.sq_at hy
      cases hx1'
      obtain ⟨hj2, rfl⟩ := U.sq_at hz1
      refine U.tgt2 upd_same rfl ⟨rfl, ?_⟩
      have g0 := U.upd_old2 (o := .tup [.int (j : Nat), .int (U.endF 3 j)]) hT (f7.get (b := x) (by simp) upd_same)
      have g1 := U.upd_old2 (o := .tup [.int (j : Nat), .int (U.endF 3 j)]) hT (f7.get (by simp) e8)
      have g2 := U.upd_old2 (o := .tup [.int (j : Nat), .int (U.endF 3 j)]) hT (f7.get (by simp) e9)
      walk_at "rd"
      exact ⟨n + 1, _, rfl, by omega, kR _ (U.fr1 hT)⟩
    intro D H7 hD7 f7 gD7
    have qx := f7.get (b := x) (by simp) upd_same
    have Dx : D ≠ x := U.ne_new hD7 upd_same
    have xD := Dx.symm
    have FF : U.Fr [x] H H7 := ((F3.trans (F6.sub (by simp))).own (.inl (by simp))).trans (f7.sub (by simp))
    walk_at "rd"
    refine ⟨by rw [U.sizeL]; decide, fun p5 hp5 => ?_⟩
    have p5x : p5 ≠ x := by rintro rfl; rw [upd_same] at hp5; cases hp5
    have xp5 := p5x.symm
    have hp50 : H7 p5 = none := by rw [upd_ne p5x] at hp5; exact hp5
    have p5D := U.ne_new hp50 gD7
    have Dp5 := p5D.symm
    walk_at "rd"
    refine ⟨n + 1, 5, _, rfl, (fun z => [0, 9, 90, 900, 9000].getD z 0), rfl, by omega, by omega, ?_, fun H8 p8 f8 hp8 gp8 => ?_⟩
    · intro i
      rcases i with _ | _ | _ | _ | _ | i <;> simp [List.getD]
    have qx8 := f8.get (b := x) (by simp) (by rw [upd_ne xp5]; exact upd_same)
    have p8x : p8 ≠ x := U.ne_new hp8 (by rw [upd_ne xp5]; exact upd_same)
    have xp8 := p8x.symm
    have FG : U.Fr [x] H H8 := ((FF.own (.inl (by simp))).new hp5).trans (f8.sub (by simp))
    walk_at "rd"
    refine ⟨by rw [U.sizeL]; decide, fun p6 hp6 => ?_⟩
    have p6x : p6 ≠ x := by rintro rfl; rw [upd_same] at hp6; cases hp6
    have xp6 := p6x.symm
    have hp60 : H8 p6 = none := by rw [upd_ne p6x] at hp6; exact hp6
    have p68 := U.ne_new hp60 gp8
    have p86 := p68.symm
    walk_at "rd"
    refine ⟨n + 1, 4, _, rfl, (fun z => [0, 26, 676, 17576].getD z 0), rfl, by omega, by omega, ?_, fun H9 p9 f9 hp9 gp9 => ?_⟩
    · intro i
      rcases i with _ | _ | _ | _ | i <;> simp [List.getD]
    have qx9 := f9.get (b := x) (by simp) (by rw [upd_ne xp6]; exact upd_same)
    have p9x : p9 ≠ x := U.ne_new hp9 (by rw [upd_ne xp6]; exact upd_same)
    walk_at "rd"
    refine k _ ((((FG.own (.inl (by simp))).new hp6).trans (f9.sub (by simp))).own (.inl (by simp))) ⟨dx, _, p9, upd_same, rfl, ?_⟩
    rw [upd_ne p9x]
    exact gp9

/-- a whole number from l on, up to hi -/
def isWhole (t l : Int) (hi : V) : Bool := match hi with
  | .int h => decide (l ≤ t) && decide (t ≤ h)
  | _ => decide (l ≤ t)
abbrev sp_is_whole : Sp := U.sp3 fun t lo hi H Q _ => U.optE (U.intOf t) fun i => U.optE (U.intOf lo) fun l => (hi = .non ∨ (U.intOf hi).isSome = true) ∧ Q (.bl (isWhole i l hi)) H
theorem sc_is_whole : FnScope ["thing", "low", "high"] ["thing", "low", "high"] (defScope s_is_whole) := U.scope_by (by decide +kernel)
theorem ok_is_whole {P : Program} {w : World} {K : PySem.W.Frag} {mg : Str → Option Value} {base : Heap} {f : Addr} {fd : FuncData}
    (F : FunD K "is_whole" "is_whole" (defArgs s_is_whole) (defBody s_is_whole) (defScope s_is_whole) [.non] [] f fd) (B : U.BI mg)  :
    FnOk P w K mg base C8.CX0 1 f fd ["thing", "low", "high"] (sp_is_whole) := by
  have sc := sc_is_whole
  refine F.ok sc (fun vs H Q E h => ?_) (fun cdv A outer s H vs Q E hr h => ⟨_, PSs.nox (pss_cons (ps_if (PW.pt (pw_or (pt_not (pt_val (pe_callB U.c_isinstance (by rfl) B.isinstance_ U.bt_isinstance (pa_cons (pv 0) (pa_cons (U.pe_ty rfl B.int_ U.bt_int) pa_nil))))) (pw_or (pt_val (pe_callB U.c_isinstance (by rfl) B.isinstance_ U.bt_isinstance (pa_cons (pv 0) (pa_cons (U.pe_ty rfl B.bool_ U.bt_bool) pa_nil)))) (pw_or1 (pt_cmpR U.lt (pv 0) (pv 1) (nomark _)))))) (pss_one (ps_ret pe_bl)) pss_nil)
      (pss_one (ps_ret (pe_or (pe_cmpR U.is_ (pv 2) pe_non (nomark _)) (pe_one (pe_cmpR U.le (pv 0) (pv 2) (nomark _))))))), ?_⟩)
  · obtain ⟨_, _, _, rfl, _⟩ := h; rfl
  · obtain ⟨t, lo, hi, rfl, i, ht, l, hlo, hh, k⟩ := h
    cases U.intOf_eq ht
    cases U.intOf_eq hlo
    obtain rfl | ⟨h, rfl⟩ : hi = .non ∨ ∃ h, hi = .int h := hh.imp id (fun z => (Option.isSome_iff_exists.mp z).imp fun _ e => U.intOf_eq e)
    all_goals walk_at "rd"
    all_goals by_cases e : i < l
    all_goals simp only [e, if_true, if_false]
    · simpa [isWhole, show ¬ l ≤ i by omega] using k
    · simpa [isWhole, show l ≤ i by omega] using k
    · simpa [isWhole, show ¬ l ≤ i by omega] using k
    · simpa [isWhole, show l ≤ i by omega] using k

abbrev sp_need_bound : Sp := U.sp1 fun m H Q _ => U.optE (U.intOf m) fun n => 0 ≤ n ∧ n ≤ 60 ∧ Q .non H
theorem sc_need_bound : FnScope ["many"] ["many"] (defScope s_need_bound) := U.scope_by (by decide +kernel)
theorem ok_need_bound {P : Program} {w : World} {K : PySem.W.Frag} {mg : Str → Option Value} {base : Heap} {f : Addr} {fd : FuncData}
    (F : FunD K "need_bound" "need_bound" (defArgs s_need_bound) (defBody s_need_bound) (defScope s_need_bound) [] [] f fd) (B : U.BI mg) (c_is_whole : C8.Cal P w K mg base 1 "is_whole" (sp_is_whole) []) (g_MOST : U.GInt mg "MOST" 60) :
    FnOk P w K mg base C8.CX0 2 f fd ["many"] (sp_need_bound) := by
  have sc := sc_need_bound
  refine F.ok sc (fun vs H Q E h => ?_) (fun cdv A outer s H vs Q E hr h => ⟨_, PSs.nox (pss_one (ps_if (pt_not (pt_val (C8.pe_c c_is_whole hr (by decide) rfl (pa_cons (pv 0) (pa_cons pe_int (pa_cons (U.pe_gi rfl g_MOST) pa_nil)))))) (pss_one ps_never) pss_nil)), ?_⟩)
  · obtain ⟨_, rfl, _⟩ := h; rfl
  · obtain ⟨m, rfl, n, hm, h0, h1, k⟩ := h
    cases U.intOf_eq hm
    have e : isWhole n 0 (.int 60) = true := by simp only [isWhole, Bool.and_eq_true, decide_eq_true_eq]; exact ⟨h0, h1⟩
    walk_at "rd"

abbrev sp_how_many : Sp := U.sp1 fun m H Q _ => U.optE (U.intOf m) fun n => 0 ≤ n ∧ n ≤ 60 ∧ ∀ H', U.Fr [] H H' → Q (.int (U.sigF n.toNat)) H'
theorem sc_how_many : FnScope ["many"] ["many"] (defScope s_how_many) := U.scope_by (by decide +kernel)
theorem ok_how_many {P : Program} {w : World} {K : PySem.W.Frag} {mg : Str → Option Value} {base : Heap} {f : Addr} {fd : FuncData} {C_Counts : Addr}
    (F : FunD K "how_many" "how_many" (defArgs s_how_many) (defBody s_how_many) (defScope s_how_many) [] [] f fd) (B : U.BI mg) (MC : U.CtC K C_Counts) (c_need_bound : C8.Cal P w K mg base 2 "need_bound" (sp_need_bound) []) (k_Counts : C8.Mak P w K mg base 3 "Counts" C_Counts (sp_Counts___init__ C_Counts) []) :
    FnOk P w K mg base C8.CX0 5 f fd ["many"] (sp_how_many) := by
  have sc := sc_how_many
  refine F.ok sc (fun vs H Q E h => ?_) (fun cdv A outer s H vs Q E hr h => ⟨_, PSs.nox (pss_cons (ps_expr (C8.pe_c c_need_bound hr (by decide) rfl (pa_cons (pv 0) pa_nil)))
      (pss_one (ps_ret (pe_ix U.ix (pe_fld (C8.pe_mk k_Counts hr (by decide) rfl (pa_cons (pv 0) pa_nil)) rfl) (pv 0) (fun _ _ => rfl))))), ?_⟩)
  · obtain ⟨_, rfl, _⟩ := h; rfl
  · obtain ⟨m, rfl, n, hm, h0, h1, k⟩ := h
    cases U.intOf_eq hm
    obtain ⟨mc, a1, a2, a3, a4, a5, a6, a7, a8⟩ := MC
    obtain ⟨n, rfl⟩ := Int.eq_ofNat_of_zero_le h0
    rw [Int.toNat_natCast] at k
    walk_at "rd"
    intro x dx hx hdx nd
    refine ⟨dx, n, rfl, by omega, rfl, fun H1 f1 G => ?_⟩
    have F1 : U.Fr [] H H1 := ((U.fr1 hdx).new (by rw [upd_ne (fun z => nd z.symm)]; exact hx)).wide f1 (by simp [hx])
    obtain ⟨d, fs, s', g1, g2, g3⟩ := G
    have e1 : atI (U.iv (U.sq (n + 1) U.sigF)) (n : Int) = some (.int (U.sigF n)) := U.sq_ix (by omega) (by omega)
    have k' := k _ F1
    walk_at "rd"

abbrev sp_with_signs : Sp := U.sp1 fun m H Q _ => U.optE (U.intOf m) fun n => 0 ≤ n ∧ n ≤ 60 ∧ ∀ H', U.Fr [] H H' → Q (.int (U.sigF n.toNat - U.entF U.sigF (n - 1))) H'
theorem sc_with_signs : FnScope ["many", "counts"] ["many"] (defScope s_with_signs) := U.scope_by (by decide +kernel)
theorem ok_with_signs {P : Program} {w : World} {K : PySem.W.Frag} {mg : Str → Option Value} {base : Heap} {f : Addr} {fd : FuncData} {C_Counts : Addr}
    (F : FunD K "with_signs" "with_signs" (defArgs s_with_signs) (defBody s_with_signs) (defScope s_with_signs) [] [] f fd) (B : U.BI mg) (MC : U.CtC K C_Counts) (c_entry : C8.Cal P w K mg base 1 "entry" (sp_entry) []) (c_need_bound : C8.Cal P w K mg base 2 "need_bound" (sp_need_bound) []) (k_Counts : C8.Mak P w K mg base 3 "Counts" C_Counts (sp_Counts___init__ C_Counts) []) :
    FnOk P w K mg base C8.CX0 5 f fd ["many"] (sp_with_signs) := by
  have sc := sc_with_signs
  refine F.ok sc (fun vs H Q E h => ?_) (fun cdv A outer s H vs Q E hr h => ⟨_, PSs.nox (pss_cons (ps_expr (C8.pe_c c_need_bound hr (by decide) rfl (pa_cons (pv 0) pa_nil)))
      (pss_cons (ps_set (i := 1) sc.nd rfl (Or.inl rfl) (C8.pe_mk k_Counts hr (by decide) rfl (pa_cons (pv 0) pa_nil)))
      (pss_one (ps_ret (pe_op U.sub (pe_ix U.ix (pe_fld (pv 1) rfl) (pv 0) (fun _ _ => rfl)) (C8.pe_c c_entry hr (by decide) rfl (pa_cons (pe_fld (pv 1) rfl) (pa_cons (pe_op U.sub (pv 0) pe_int) pa_nil)))))))), ?_⟩)
  · obtain ⟨_, rfl, _⟩ := h; rfl
  · obtain ⟨m, rfl, n, hm, h0, h1, k⟩ := h
    cases U.intOf_eq hm
    obtain ⟨mc, a1, a2, a3, a4, a5, a6, a7, a8⟩ := MC
    obtain ⟨n, rfl⟩ := Int.eq_ofNat_of_zero_le h0
    rw [Int.toNat_natCast] at k
    walk_at "rd"
    intro x dx hx hdx nd
    refine ⟨dx, n, rfl, by omega, rfl, fun H1 f1 G => ?_⟩
    have F1 : U.Fr [] H H1 := ((U.fr1 hdx).new (by rw [upd_ne (fun z => nd z.symm)]; exact hx)).wide f1 (by simp [hx])
    obtain ⟨d, fs, s', g1, g2, g3⟩ := G
    have e1 : atI (U.iv (U.sq (n + 1) U.sigF)) (n : Int) = some (.int (U.sigF n)) := U.sq_ix (by omega) (by omega)
    walk_at "rd"
    exact ⟨n + 1, _, rfl, by omega, k _ F1⟩

abbrev sp__law_is : Sp := U.sp2 fun a b H Q _ => U.optE (U.intOf a) fun i => U.optE (U.intOf b) fun j => Q (.bl (decide (i = j))) H
theorem sc__law_is : FnScope ["_law_found", "_law_due"] ["_law_found", "_law_due"] (defScope s__law_is) := U.scope_by (by decide +kernel)
theorem ok__law_is {P : Program} {w : World} {K : PySem.W.Frag} {mg : Str → Option Value} {base : Heap} {f : Addr} {fd : FuncData}
    (F : FunD K "_law_is" "_law_is" (defArgs s__law_is) (defBody s__law_is) (defScope s__law_is) [] [] f fd) (B : U.BI mg)  :
    FnOk P w K mg base C8.CX0 1 f fd ["_law_found", "_law_due"] (sp__law_is) := by
  have sc := sc__law_is
  refine F.ok sc (fun vs H Q E h => ?_) (fun cdv A outer s H vs Q E hr h => ⟨_, PSs.nox (pss_one (ps_ret (pe_and (pe_callB U.c_isinstance (by rfl) B.isinstance_ U.bt_isinstance (pa_cons (pv 0) (pa_cons (U.pe_ty rfl B.int_ U.bt_int) pa_nil))) (pe_and (pe_not (pe_callB U.c_isinstance (by rfl) B.isinstance_ U.bt_isinstance (pa_cons (pv 0) (pa_cons (U.pe_ty rfl B.bool_ U.bt_bool) pa_nil)))) (pe_one (pe_cmpR U.eq (pv 0) (pv 1) (nomark _))))))), ?_⟩)
  · obtain ⟨_, _, rfl, _⟩ := h; rfl
  · obtain ⟨a, b, rfl, i, hi, j, hj, k⟩ := h
    cases U.intOf_eq hi
    cases U.intOf_eq hj
    walk_at "rd"

abbrev sp__law_behind : Sp := U.sp2 fun a b H Q _ => ∃ (p q : Addr) (A O : List Int), a = .ref p ∧ b = .ref q ∧ H p = some (.lst (U.iv A)) ∧ H q = some (.lst (U.iv O)) ∧ A.length ≤ 61 ∧ O.length = 61 ∧ (∀ i, (A.getD i 0).natAbs < 2 ^ 1000) ∧ (∀ i, (O.getD i 0).natAbs < 2 ^ 1000) ∧
  ∀ H' r, U.Fr [] H H' → H r = none → H' r = some (.lst (U.iv (U.behL A O))) → Q (.ref r) H'
theorem sc__law_behind : FnScope ["_law_one", "_law_other", "_law_found", "_law_at", "_law_bound", "_law_size"] ["_law_one", "_law_other"] (defScope s__law_behind) := U.scope_by (by decide +kernel)
theorem ok__law_behind {P : Program} {w : World} {K : PySem.W.Frag} {mg : Str → Option Value} {base : Heap} {f : Addr} {fd : FuncData}
    (F : FunD K "_law_behind" "_law_behind" (defArgs s__law_behind) (defBody s__law_behind) (defScope s__law_behind) [] [] f fd) (B : U.BI mg)  :
    FnOk P w K mg base C8.CX0 1 f fd ["_law_one", "_law_other"] (sp__law_behind) := by
  have sc := sc__law_behind
  refine F.ok sc (fun vs H Q E h => ?_) (fun cdv A outer s H vs Q E hr h => ⟨_, PSs.nox (pss_cons (ps_set (i := 2) sc.nd rfl (Or.inl rfl) (pe_op U.mul (pe_lst (pa_cons pe_int pa_nil)) pe_int))
      (pss_cons (ps_for PassesOwn.never rfl (pi_enum (by rfl) B.enumerate_ (pa_cons (pv 0) pa_nil)) (pg_tup (by rfl) (pgs_cons (pg_name (i := 3) sc.nd rfl (Or.inl rfl)) (pgs_cons (pg_name (i := 4) sc.nd rfl (Or.inl rfl)) pgs_nil))) (pss_one (ps_if (pt_cmpR U.gt (pv 4) pe_int (nomark _)) (pss_one (ps_for PassesOwn.never rfl (pi_range1 rfl B.range_ (pa_cons (pe_op U.sub pe_int (pv 3)) pa_nil)) (pg_name (i := 5) sc.nd rfl (Or.inl rfl)) (pss_one (ps_asg (pe_op U.add (pe_ix U.ix (pv 2) (pe_op U.add (pv 3) (pv 5)) (fun _ _ => rfl)) (pe_op U.mul (pv 4) (pe_ix U.ix (pv 1) (pv 5) (fun _ _ => rfl)))) (pg_sub (pv 2) (pe_op U.add (pv 3) (pv 5)) U.setL))))) pss_nil)))
      (pss_one (ps_ret (pv 2))))), ?_⟩)
  · obtain ⟨_, _, rfl, _⟩ := h; rfl
  · obtain ⟨a, b, rfl, p, q, A, O, rfl, rfl, hp, hq, la, lo, ba, bo, k⟩ := h
    walk_at "rd"
    refine ⟨by rw [U.sizeL]; decide, fun p1 hp1 => ⟨by decide, fun r hr => ?_⟩⟩
    have rp1 : r ≠ p1 := by rintro rfl; rw [upd_same] at hr; cases hr
    have hr0 : H r = none := by rw [upd_ne rp1] at hr; exact hr
    have rp : r ≠ p := U.ne_new hr0 hp
    have pr := rp.symm
    have rq : r ≠ q := U.ne_new hr0 hq
    have qr := rq.symm
    have e1 := U.upd_old2 (o := .lst (U.iv (U.repZ 61 0))) hr (U.upd_old2 (o := .lst [V.int 0]) hp1 hp)
    have e2 := U.upd_old2 (o := .lst (U.iv (U.repZ 61 0))) hr (U.upd_old2 (o := .lst [V.int 0]) hp1 hq)
    refine ⟨⟨_, SqL.of e1⟩, ?_⟩
    unfold U.forBody
    refine for_it (walk_enum (xs := U.iv A)) (fun i σ H' => (∃ o1 o2 o3, σ = [some (.ref p), some (.ref q), some (.ref r), o1, o2, o3]) ∧ H' p = some (.lst (U.iv A)) ∧ H' q = some (.lst (U.iv O)) ∧ H' r = some (.lst (U.iv (U.sq 61 (U.behF (fun i => A.getD i 0) (fun i => O.getD i 0) i)))) ∧ U.Fr [] H H')
      ⟨⟨_, _, _, rfl⟩, e1, e2, by rw [upd_same, U.rep_sq]; rfl, (U.fr1 hp1).new hr⟩ (fun i σ H' _ hP => SqL.of hP.2.1) ?_ ?_
    · rintro i v σ H' H2 hi ⟨⟨o1, o2, o3, rfl⟩, b1, b2, b3, f⟩ ⟨T, x, z, rfl, hT, rfl, hx, hz⟩
      cases hx
      obtain ⟨hi2, rfl⟩ := U.iv_at hz
      refine U.tgt2 upd_same rfl ?_
      have g1 := U.upd_old2 (o := .tup [.int (i : Nat), .int (A.getD i 0)]) hT b1
      have g2 := U.upd_old2 (o := .tup [.int (i : Nat), .int (A.getD i 0)]) hT b2
      have g3 := U.upd_old2 (o := .tup [.int (i : Nat), .int (A.getD i 0)]) hT b3
      have f2 := f.new (o := .tup [.int (i : Nat), .int (A.getD i 0)]) hT
      obtain ⟨H3, hH3⟩ : ∃ H3, H3 = upd H' T (.tup [.int (i : Nat), .int (A.getD i 0)]) := ⟨_, rfl⟩
      rw [← hH3] at g1 g2 g3 f2 ⊢
      clear hH3
      walk_at "rd"
      by_cases hpos : 0 < A.getD i 0
      · rw [if_pos hpos]
        refine U.r_rng (by omega) (by omega) (fun k σ H' => (∃ o3, σ = [some (.ref p), some (.ref q), some (.ref r), some (.int (i : Nat)), some (.int (A.getD i 0)), o3]) ∧ H' p = some (.lst (U.iv A)) ∧ H' q = some (.lst (U.iv O)) ∧
          H' r = some (.lst (U.iv (U.sq 61 (fun m => U.behF (fun i => A.getD i 0) (fun i => O.getD i 0) i m + if i ≤ m ∧ m < i + k then A.getD i 0 * O.getD (m - i) 0 else 0)))) ∧ U.Fr [] H H') ⟨⟨_, rfl⟩, g1, g2, ?_, f2⟩ ?_ ?_
        · rw [g3]
          congr 3
          refine U.sq_ext fun m _ => ?_
          rw [if_neg (by omega), Int.add_zero]
        · rintro k σ H4 hk ⟨⟨o3, rfl⟩, c1, c2, c3, f4⟩
          have hk2 : i + k < 61 := by omega
          have d1 : atI (U.iv (U.sq 61 (fun m => U.behF (fun i => A.getD i 0) (fun i => O.getD i 0) i m + if i ≤ m ∧ m < i + k then A.getD i 0 * O.getD (m - i) 0 else 0))) ((i : Int) + (k : Int)) = some (.int (U.behF (fun i => A.getD i 0) (fun i => O.getD i 0) i (i + k))) := by
            rw [U.sq_ix (by omega) (by omega)]
            have e : ((i : Int) + (k : Int)).toNat = i + k := by omega
            rw [e, if_neg (by omega), Int.add_zero]
          have d2 : atI (U.iv O) (k : Int) = some (.int (O.getD k 0)) := by rw [U.iv_ix (by omega) (by omega)]; rfl
          have d3 : (U.iv (U.sq 61 (fun m => U.behF (fun i => A.getD i 0) (fun i => O.getD i 0) i m + if i ≤ m ∧ m < i + k then A.getD i 0 * O.getD (m - i) 0 else 0))).length = 61 := by rw [U.iv_len, U.sq_len]
          have d4 : ixN 61 ((i : Int) + (k : Int)) = some (i + k) := U.ixN_of (by omega) hk2
          have d5 : (U.iv (U.sq 61 (fun m => U.behF (fun i => A.getD i 0) (fun i => O.getD i 0) i m + if i ≤ m ∧ m < i + k then A.getD i 0 * O.getD (m - i) 0 else 0))).set (i + k) (V.int (U.behF (fun i => A.getD i 0) (fun i => O.getD i 0) i (i + k) + A.getD i 0 * O.getD k 0)) =
              U.iv (U.sq 61 (fun m => U.behF (fun i => A.getD i 0) (fun i => O.getD i 0) i m + if i ≤ m ∧ m < i + (k + 1) then A.getD i 0 * O.getD (m - i) 0 else 0)) := by
            rw [U.iv_set, U.sq_set hk2]
            congr 1
            refine U.sq_ext fun m _ => ?_
            by_cases e : m = i + k
            · subst e
              rw [if_pos rfl, if_pos (by omega), Nat.add_sub_cancel_left]
            · rw [if_neg e]
              congr 1
              by_cases e2 : i ≤ m ∧ m < i + k
              · rw [if_pos e2, if_pos (by omega)]
              · rw [if_neg e2, if_neg (by omega)]
          walk_at "rd"
          exact ⟨U.mulW (ba i) (bo k), ⟨_, rfl⟩, f4.own (.inr hr0)⟩
        · rintro σ H4 ⟨⟨o3, rfl⟩, c1, c2, c3, f4⟩
          refine ⟨⟨_, _, _, rfl⟩, c1, c2, ?_, f4⟩
          rw [c3]
          congr 3
          refine U.sq_ext fun m hm => ?_
          show _ = U.behF _ _ i m + (if A.getD i 0 > 0 ∧ i ≤ m then A.getD i 0 * O.getD (m - i) 0 else 0)
          congr 1
          by_cases e2 : i ≤ m
          · rw [if_pos (by omega), if_pos ⟨hpos, e2⟩]
          · rw [if_neg (by omega), if_neg (by omega)]
      · rw [if_neg hpos]
        refine ⟨⟨_, rfl⟩, ?_⟩
        congr 1
        refine U.sq_ext fun m hm => ?_
        show _ = U.behF _ _ i m + (if A.getD i 0 > 0 ∧ i ≤ m then A.getD i 0 * O.getD (m - i) 0 else 0)
        rw [if_neg (by omega), Int.add_zero]
    · rintro σ H' ⟨⟨o1, o2, o3, rfl⟩, b1, b2, b3, f⟩
      rw [U.iv_len] at b3
      walk_at "rd"
      exact k _ r f hr0 b3

abbrev sp__law_long : Sp := U.sp1 fun a H Q _ => ∃ (p : Addr) (T : List Int), a = .ref p ∧ H p = some (.lst (U.iv T)) ∧ T.length ≤ 1000 ∧ ∀ H' r, U.Fr [] H H' → H r = none → H' r = some (.lst (U.iv (U.lngL T))) → Q (.ref r) H'
theorem sc__law_long : FnScope ["_law_table"] ["_law_table"] (defScope s__law_long) := U.scope_by (by decide +kernel)
theorem ok__law_long {P : Program} {w : World} {K : PySem.W.Frag} {mg : Str → Option Value} {base : Heap} {f : Addr} {fd : FuncData}
    (F : FunD K "_law_long" "_law_long" (defArgs s__law_long) (defBody s__law_long) (defScope s__law_long) [] [] f fd) (B : U.BI mg)  :
    FnOk P w K mg base C8.CX0 1 f fd ["_law_table"] (sp__law_long) := by
  have sc := sc__law_long
  refine F.ok sc (fun vs H Q E h => ?_) (fun cdv A outer s H vs Q E hr h => ⟨_, PSs.nox (pss_one (ps_ret (pe_slice U.sl (pe_op U.add (pv 0) (pe_op U.mul (pe_lst (pa_cons pe_int pa_nil)) pe_int)) po_none (po_some pe_int)))), ?_⟩)
  · obtain ⟨_, rfl, _⟩ := h; rfl
  · obtain ⟨a, rfl, p, T, rfl, hp, lt, k⟩ := h
    walk_at "rd"
    refine ⟨by rw [U.sizeL]; decide, fun p1 hp1 => ⟨by decide, fun r hr => ?_⟩⟩
    have rp1 : r ≠ p1 := by rintro rfl; rw [upd_same] at hr; cases hr
    have hr0 : H r = none := by rw [upd_ne rp1] at hr; exact hr
    have e1 := U.upd_old2 (o := .lst (U.iv (U.repZ 61 0))) hr (U.upd_old2 (o := .lst [V.int 0]) hp1 hp)
    have lt1 : (U.iv T).length = T.length := U.iv_len
    have lt2 : (U.iv (U.repZ 61 0)).length = 61 := by rw [U.iv_len, U.repZ_len]
    walk_at "rd"
    refine ⟨by omega, fun r2 hr2 r3 hr3 => ?_⟩
    have e2 : U.iv T ++ U.iv (U.repZ 61 0) = U.iv (T ++ U.repZ 61 0) := U.iv_app
    have f3 := (((U.fr1 (o := .lst [V.int 0]) hp1).new hr (o := .lst (U.iv (U.repZ 61 0)))).new hr2 (o := .lst (U.iv T ++ U.iv (U.repZ 61 0)))).new hr3 (o := .lst (U.cutL (U.iv T ++ U.iv (U.repZ 61 0)) none (some 61)))
    have h3 : H r3 = none := (((U.fr1 (o := .lst [V.int 0]) hp1).new hr (o := .lst (U.iv (U.repZ 61 0)))).new hr2 (o := .lst (U.iv T ++ U.iv (U.repZ 61 0)))).none hr3 (by simp)
    refine k _ r3 f3 h3 ?_
    rw [upd_same, e2, U.iv_cut, U.cut_to (by decide)]
    rfl

abbrev sp__law_sizes : Sp := U.sp0 fun H Q _ => ∀ H' r, U.Fr [] H H' → H' r = some (.lst (U.iv U.l_f5)) → Q (.ref r) H'
theorem sc__law_sizes : FnScope ["_law_tens", "_law_k", "_law_points", "_law_maker", "_law_two", "_law_makers", "_law_found", "_law_ten", "_law_one", "_law_other", "_law_third"] [] (defScope s__law_sizes) := U.scope_by (by decide +kernel)
theorem ok__law_sizes {P : Program} {w : World} {K : PySem.W.Frag} {mg : Str → Option Value} {base : Heap} {f : Addr} {fd : FuncData}
    (F : FunD K "_law_sizes" "_law_sizes" (defArgs s__law_sizes) (defBody s__law_sizes) (defScope s__law_sizes) [] [] f fd) (B : U.BI mg) (c__law_behind : C8.Cal P w K mg base 1 "_law_behind" (sp__law_behind) []) (c__law_long : C8.Cal P w K mg base 1 "_law_long" (sp__law_long) []) :
    FnOk P w K mg base C8.CX0 2 f fd [] (sp__law_sizes) := by
  have sc := sc__law_sizes
  refine F.ok sc (fun vs H Q E h => ?_) (fun cdv A outer s H vs Q E hr h => ⟨_, PSs.nox (pss_cons (ps_set (i := 0) sc.nd rfl (Or.inl rfl) (pe_lst (pa_cons pe_int pa_nil)))
      (pss_cons (ps_for PassesOwn.never rfl (pi_range1 rfl B.range_ (pa_cons pe_int pa_nil)) (pg_name (i := 1) sc.nd rfl (Or.inl rfl)) (pss_one (ps_expr (U.pe_l PySem.F.slot_list_append PySem.F.type_list_append U.m_append (pv 0) (pa_cons (pe_op U.mul pe_int (pe_ix U.ix (pv 0) (pe_un U.neg pe_int) (fun _ _ => rfl))) pa_nil)))))
      (pss_cons (ps_set (i := 2) sc.nd rfl (Or.inl rfl) (pe_op U.add (pe_lst (pa_cons pe_int (pa_cons pe_int pa_nil))) (pe_lc (own := [("_law_ten", 7)]) rfl sc.nd (pi_list (pv 0)) (blkOk_by (N := ["_law_tens", "_law_k", "_law_points", "_law_maker", "_law_two", "_law_makers", "_law_found", "_law_ten", "_law_one", "_law_other", "_law_third"]) (sc := defScope s__law_sizes) (own := [("_law_ten", 7)]) (by decide +kernel)) (fun _ _ _ _ _ => (pg_name (i := 7) sc.nd rfl (Or.inl rfl))) (fun _ _ _ _ _ => pts_nil) (fun _ _ _ _ _ => (pe_op U.mul pe_int (pv 7))))))
      (pss_cons (ps_set (i := 3) sc.nd rfl (Or.inl rfl) (C8.pe_c c__law_long hr (by decide) rfl (pa_cons (pe_op U.add (pe_lst (pa_cons pe_int (pa_cons pe_int (pa_cons pe_int pa_nil)))) (pe_lc (own := [("_law_ten", 7)]) rfl sc.nd (pi_list (pv 0)) (blkOk_by (N := ["_law_tens", "_law_k", "_law_points", "_law_maker", "_law_two", "_law_makers", "_law_found", "_law_ten", "_law_one", "_law_other", "_law_third"]) (sc := defScope s__law_sizes) (own := [("_law_ten", 7)]) (by decide +kernel)) (fun _ _ _ _ _ => (pg_name (i := 7) sc.nd rfl (Or.inl rfl))) (fun _ _ _ _ _ => pts_nil) (fun _ _ _ _ _ => (pe_op U.mul pe_int (pv 7))))) pa_nil)))
      (pss_cons (ps_set (i := 4) sc.nd rfl (Or.inl rfl) (C8.pe_c c__law_behind hr (by decide) rfl (pa_cons (pv 3) (pa_cons (pv 3) pa_nil))))
      (pss_cons (ps_setLc (i := 5) (own := [("_law_one", 8), ("_law_other", 9), ("_law_third", 10)]) rfl sc.nd rfl rfl (sw_true rfl rfl rfl (by decide +kernel)) (U.pi_zip3 (by rfl) B.zip_ (pa_cons (pv 3) (pa_cons (pv 4) (pa_cons (C8.pe_c c__law_behind hr (by decide) rfl (pa_cons (pv 4) (pa_cons (pv 3) pa_nil))) pa_nil)))) (blkOk_by (N := ["_law_tens", "_law_k", "_law_points", "_law_maker", "_law_two", "_law_makers", "_law_found", "_law_ten", "_law_one", "_law_other", "_law_third"]) (sc := defScope s__law_sizes) (own := [("_law_one", 8), ("_law_other", 9), ("_law_third", 10)]) (by decide +kernel)) (fun _ _ _ _ _ => (U.pg_tupK (K := K) (n := 3) rfl (pg_tup (by rfl) (pgs_cons (pg_name (i := 8) sc.nd rfl (Or.inl rfl)) (pgs_cons (pg_name (i := 9) sc.nd rfl (Or.inl rfl)) (pgs_cons (pg_name (i := 10) sc.nd rfl (Or.inl rfl)) pgs_nil)))))) (fun _ _ _ _ _ => pts_nil) (fun _ _ _ _ _ => (pe_op U.add (pe_op U.add (pv 8) (pv 9)) (pv 10))))
      (pss_cons (ps_set (i := 6) sc.nd rfl (Or.inl rfl) (C8.pe_c c__law_behind hr (by decide) rfl (pa_cons (C8.pe_c c__law_long hr (by decide) rfl (pa_cons (pe_lst (pa_cons pe_int (pa_cons pe_int (pa_cons pe_int (pa_cons pe_int pa_nil))))) pa_nil)) (pa_cons (C8.pe_c c__law_long hr (by decide) rfl (pa_cons (pe_lst (pa_cons pe_int (pa_cons pe_int (pa_cons pe_int (pa_cons pe_int (pa_cons pe_int pa_nil)))))) pa_nil)) pa_nil))))
      (pss_cons (ps_set (i := 6) sc.nd rfl (Or.inl rfl) (C8.pe_c c__law_behind hr (by decide) rfl (pa_cons (C8.pe_c c__law_long hr (by decide) rfl (pa_cons (pv 2) pa_nil)) (pa_cons (pv 6) pa_nil))))
      (pss_cons (ps_set (i := 6) sc.nd rfl (Or.inl rfl) (C8.pe_c c__law_behind hr (by decide) rfl (pa_cons (pe_op U.add (pe_lst (pa_cons pe_int pa_nil)) (pe_slice U.sl (pv 5) (po_some pe_int) po_none)) (pa_cons (pv 6) pa_nil))))
      (pss_cons (ps_set (i := 6) sc.nd rfl (Or.inl rfl) (C8.pe_c c__law_behind hr (by decide) rfl (pa_cons (C8.pe_c c__law_long hr (by decide) rfl (pa_cons (pe_lst (pa_cons pe_int (pa_cons pe_int (pa_cons pe_int (pa_cons pe_int (pa_cons pe_int (pa_cons pe_int pa_nil))))))) pa_nil)) (pa_cons (pv 6) pa_nil))))
      (pss_one (ps_ret (C8.pe_c c__law_behind hr (by decide) rfl (pa_cons (C8.pe_c c__law_long hr (by decide) rfl (pa_cons (pe_op U.add (pe_lst (pa_cons pe_int (pa_cons pe_int (pa_cons pe_int (pa_cons pe_int (pa_cons pe_int pa_nil)))))) (pe_lc (own := [("_law_ten", 7)]) rfl sc.nd (pi_list (pv 0)) (blkOk_by (N := ["_law_tens", "_law_k", "_law_points", "_law_maker", "_law_two", "_law_makers", "_law_found", "_law_ten", "_law_one", "_law_other", "_law_third"]) (sc := defScope s__law_sizes) (own := [("_law_ten", 7)]) (by decide +kernel)) (fun _ _ _ _ _ => (pg_name (i := 7) sc.nd rfl (Or.inl rfl))) (fun _ _ _ _ _ => pts_nil) (fun _ _ _ _ _ => (pe_op U.mul pe_int (pv 7))))) pa_nil)) (pa_cons (pv 6) pa_nil))))))))))))))), ?_⟩)
  · obtain ⟨rfl, _⟩ := h; rfl
  · obtain ⟨rfl, k⟩ := h
    walk_at "rd"
    refine ⟨by rw [U.sizeL]; decide, fun p hp => ?_⟩
    refine U.r_rng (by decide) (by decide) (fun i σ H' => (∃ o, σ = [some (.ref p), o, none, none, none, none, none, none, none, none, none]) ∧ H' p = some (.lst (U.iv (U.l_tens.take (i + 1)))) ∧ U.Fr [] H H') ⟨⟨_, rfl⟩, by rw [upd_same]; rfl, U.fr1 hp⟩ ?_ ?_
    · rintro i σ H' hi ⟨⟨o, rfl⟩, b1, f⟩
      have hi2 : i < 59 := hi
      have la := U.tens_last (i := i) (by omega)
      have ap := U.tens_step hi2
      have ln : (U.iv (U.l_tens.take (i + 1))).length ≤ 60 := by rw [U.iv_len, List.length_take]; have := U.tens_len; omega
      walk_at "rd"
      exact ⟨U.mulL (by decide), by omega, ⟨_, rfl⟩, f.own (.inr hp)⟩
    rintro σ H1 ⟨⟨o, rfl⟩, b1, f1⟩
    have b1 : H1 p = some (.lst (U.iv U.l_tens)) := by rw [b1]; exact congrArg (fun z => some (HO.lst (U.iv z))) U.tens_all
    have tl := U.tens_len
    walk_at "rd"
    refine ⟨by rw [U.sizeL]; decide, fun a1 ha1 => ?_⟩
    have e1 := U.upd_old2 (o := .lst [V.int 1, V.int 0]) ha1 b1
    refine ⟨⟨_, SqL.of e1⟩, ?_⟩
    refine U.lc_scale rfl rfl rfl (by show 7 < 11; decide) e1 (by omega) (by decide) fun D1 H2 hD1 f2 g2 => ?_
    have e2 := f2.get (b := a1) (by simp) upd_same
    have l9 : (U.iv (U.l_tens.map (9 * ·))).length = 60 := by rw [U.iv_len, List.length_map, tl]
    walk_at "rd"
    intro pts hpts
    have F3 : U.Fr [] H H2 := (f1.new ha1).trans f2
    have b3 := U.upd_old2 (o := .lst (V.int 1 :: V.int 0 :: U.iv (U.l_tens.map (9 * ·)))) hpts (f2.get (by simp) e1)
    have c3 := upd_same (H := H2) (a := pts) (o := .lst (V.int 1 :: V.int 0 :: U.iv (U.l_tens.map (9 * ·))))
    have F4 := F3.new (o := .lst (V.int 1 :: V.int 0 :: U.iv (U.l_tens.map (9 * ·)))) hpts
    obtain ⟨H3, hH3⟩ : ∃ H3, H3 = upd H2 pts (.lst (V.int 1 :: V.int 0 :: U.iv (U.l_tens.map (9 * ·)))) := ⟨_, rfl⟩
    rw [← hH3] at b3 c3 F4 ⊢
    clear hH3 e1 e2 g2 f2 F3 hpts hD1 hp f1 ha1
    refine ⟨by rw [U.sizeL]; decide, fun a2 ha2 => ?_⟩
    have e1 := U.upd_old2 (o := .lst [V.int 0, V.int 0, V.int 0]) ha2 b3
    refine ⟨⟨_, SqL.of e1⟩, ?_⟩
    refine U.lc_scale rfl rfl rfl (by show 7 < 11; decide) e1 (by omega) (by decide) fun D2 H4 hD2 f4 g4 => ?_
    have e2 := f4.get (b := a2) (by simp) upd_same
    have l2 : (U.iv (U.l_tens.map (234 * ·))).length = 60 := by rw [U.iv_len, List.length_map, tl]
    have e3 := f4.get (by simp) e1
    have e4 := f4.get (by simp) (U.upd_old2 (o := .lst [V.int 0, V.int 0, V.int 0]) ha2 c3)
    have F5 := (F4.new (o := .lst [V.int 0, V.int 0, V.int 0]) ha2).trans f4
    walk_at "rd"
    intro r5 h5
    refine ⟨[0, 0, 0] ++ U.l_tens.map (234 * ·), rfl, by simp [tl], fun H6 mk f6 hmk gmk => ?_⟩
    rw [U.b_maker] at gmk
    have p6 := f6.get (by simp) (U.upd_old2 (o := .lst (V.int 0 :: V.int 0 :: V.int 0 :: U.iv (U.l_tens.map (234 * ·)))) h5 e3)
    have c6 := f6.get (by simp) (U.upd_old2 (o := .lst (V.int 0 :: V.int 0 :: V.int 0 :: U.iv (U.l_tens.map (234 * ·)))) h5 e4)
    have F6 := (F5.new (o := .lst (V.int 0 :: V.int 0 :: V.int 0 :: U.iv (U.l_tens.map (234 * ·)))) h5).trans f6
    clear e1 e2 e3 e4 F5 f4 g4 f6 hmk hD2
    refine ⟨_, gmk, _, gmk, Nat.le_of_eq U.n_maker.1, U.n_maker.1, U.n_maker.2, U.n_maker.2, fun H7 tw f7 htw gtw => ?_⟩
    rw [U.b_two] at gtw
    have gmk7 := f7.get (by simp) gmk
    refine ⟨_, gtw, _, gmk7, Nat.le_of_eq U.n_two.1, U.n_maker.1, U.n_two.2, U.n_maker.2, fun H8 tr f8 htr gtr => ?_⟩
    rw [U.b_tri] at gtr
    have gmk8 := f8.get (by simp) gmk7
    have gtw8 := f8.get (by simp) gtw
    have p8 := f8.get (by simp) (f7.get (by simp) p6)
    have c8 := f8.get (by simp) (f7.get (by simp) c6)
    have F8 := (F6.trans f7).trans f8
    refine ⟨⟨_, SqL.of gmk8⟩, ⟨_, SqL.of gtw8⟩, ⟨_, SqL.of gtr⟩, ?_⟩
    refine U.lcM (U.walk_zip3 (n := 61) (xs := U.iv U.l_maker) (ys := U.iv U.l_two) (us := U.iv U.l_tri) (by rw [U.iv_len]; exact U.n_maker.1) (by rw [U.iv_len]; exact U.n_two.1) (by rw [U.iv_len]; exact U.n_tri)) (U.iv (U.add3 U.l_maker U.l_two U.l_tri)) (by rw [U.iv_len, U.b_makers]; exact U.n_makers) (by rw [U.iv_len, U.b_makers, U.n_makers]; decide) rfl (fun H f => ⟨U.SqL_fr f (SqL.of gmk8), U.SqL_fr f (SqL.of gtw8), U.SqL_fr f (SqL.of gtr)⟩) ?_ ?_
    · rintro j y v H9 H10 R hy f9 ⟨T, x1, y1, z1, rfl, hT, rfl, hx, hy1, hz⟩ kR
      obtain ⟨hj, rfl⟩ := U.iv_at hx
      obtain ⟨-, rfl⟩ := U.iv_at hy1
      obtain ⟨-, rfl⟩ := U.iv_at hz
      obtain ⟨-, rfl⟩ := U.iv_at hy
      have es : (U.add3 U.l_maker U.l_two U.l_tri).getD j 0 = U.l_maker.getD j 0 + U.l_two.getD j 0 + U.l_tri.getD j 0 := U.sq_get hj
      rw [es] at kR
      refine U.tgt3 upd_same rfl ⟨rfl, ?_⟩
      walk_at "rd"
      exact kR _ (U.fr1 hT)
    intro D9 H9 hD9 f9 g9
    rw [U.b_makers] at g9
    have p9 := f9.get (by simp) p8
    have c9 := f9.get (by simp) c8
    have F9 := F8.trans f9
    clear gmk gmk7 gmk8 gtw gtw8 gtr p6 c6 p8 c8 F6 F8 f7 f8 f9 htw htr hD9
    refine ⟨by rw [U.sizeL]; decide, fun q1 h1 => ⟨[0, 26, 676, 17576], rfl, by decide, fun H10 r1 g1 hr1 gr1 => ⟨by rw [U.sizeL]; decide, fun q2 h2 => ⟨[0, 9, 90, 900, 9000], rfl, by decide, fun H11 r2 g2 hr2 gr2 => ?_⟩⟩⟩⟩
    have K10 := (U.fr1 h1).trans g1
    have K11 := (K10.new h2).trans g2
    refine ⟨_, g2.get (by simp) (U.upd_old2 h2 gr1), _, gr2, Nat.le_of_eq U.n_a1.1, U.n_o1.1, U.n_a1.2, U.n_o1.2, fun H12 r3 g3 hr3 gr3 => ?_⟩
    rw [U.b_f1] at gr3
    have K12 := K11.trans g3
    refine ⟨[1, 0] ++ U.l_tens.map (9 * ·), by have := K12.get (by simp) c9; exact this, by simp [tl], fun H13 r4 g4 hr4 gr4 => ?_⟩
    have K13 := K12.trans g4
    refine ⟨_, gr4, _, g4.get (by simp) gr3, Nat.le_of_eq U.n_a2.1, U.n_f1.1, U.n_a2.2, U.n_f1.2, fun H14 r5 g5 hr5 gr5 => ?_⟩
    rw [U.b_f2] at gr5
    have K14 := K13.trans g5
    have m14 := K14.get (by simp) g9
    have p14 := K14.get (by simp) p9
    have F14 := F9.trans K14
    clear K10 K11 K12 K13 K14 g1 g2 g3 g4 g5 gr1 gr2 gr3 gr4 hr1 hr2 hr3 hr4 hr5 h1 h2 g9 c9 p9 F9
    refine ⟨by rw [U.sizeL]; decide, fun q1 h1 => ?_⟩
    have e1 := U.upd_old2 (o := .lst [V.int 1]) h1 m14
    walk_at "rd"
    intro q3 h3
    rw [U.upd_old2 h3 upd_same]
    have lm : (U.iv (U.cutL U.l_makers (some 1) none)).length ≤ 61 := by rw [U.iv_len]; exact Nat.le_trans U.cut_len (Nat.le_of_eq U.n_makers)
    refine U.optE_of rfl ⟨by simp only [List.length_cons, List.length_nil]; omega, fun q4 h4 => ?_⟩
    refine ⟨[1] ++ U.l_makers.drop 1, by rw [U.cut_from (by decide)]; rfl, U.l_f2, U.upd_old2 h4 (U.upd_old2 h3 (U.upd_old2 h1 gr5)), Nat.le_of_eq U.n_a3.1, U.n_f2.1, U.n_a3.2, U.n_f2.2, fun H15 r6 g6 hr6 gr6 => ?_⟩
    rw [U.b_f3] at gr6
    have p15 := g6.get (by simp) (U.upd_old2 h4 (U.upd_old2 h3 (U.upd_old2 h1 p14)))
    have F15 := (((F14.new h1).new h3).new h4).trans g6
    refine ⟨by rw [U.sizeL]; decide, fun q5 h5' => ⟨[1, 0, 0, 0, 0, 2000], rfl, by decide, fun H16 r7 g7 hr7 gr7 => ⟨_, gr7, _, g7.get (by simp) (U.upd_old2 h5' gr6), Nat.le_of_eq U.n_a4.1, U.n_f3.1, U.n_a4.2, U.n_f3.2, fun H17 r8 g8 hr8 gr8 => ?_⟩⟩⟩
    rw [U.b_f4] at gr8
    have p17 := g8.get (by simp) (g7.get (by simp) (U.upd_old2 h5' p15))
    have F17 := ((F15.new h5').trans g7).trans g8
    clear F15 F14 p15 p14 g6 g7 g8 gr6 gr7 gr5 e1 m14 h1 h3 h4 h5' hr6 hr7 hr8
    refine ⟨by rw [U.sizeL]; decide, fun q6 h6 => ?_⟩
    have e1 := U.upd_old2 (o := .lst [V.int 1, V.int 0, V.int 0, V.int 0, V.int 8]) h6 p17
    refine ⟨⟨_, SqL.of e1⟩, ?_⟩
    refine U.lc_scale rfl rfl rfl (by show 7 < 11; decide) e1 (by omega) (by decide) fun D2 H18 hD2 f18 g18 => ?_
    have e2 := f18.get (b := q6) (by simp) upd_same
    have l2 : (U.iv (U.l_tens.map (90 * ·))).length = 60 := by rw [U.iv_len, List.length_map, tl]
    have gr18 := f18.get (by simp) (U.upd_old2 (o := .lst [V.int 1, V.int 0, V.int 0, V.int 0, V.int 8]) h6 gr8)
    have F18 := (F17.new (o := .lst [V.int 1, V.int 0, V.int 0, V.int 0, V.int 8]) h6).trans f18
    clear e1 p17 F17 h6 hD2 gr8 f18
    walk_at "rd"
    intro q7 h7
    refine ⟨[1, 0, 0, 0, 8] ++ U.l_tens.map (90 * ·), rfl, by simp [tl], fun H19 r9 g9 hr9 gr9 => ⟨_, gr9, _, g9.get (by simp) (U.upd_old2 h7 gr18), Nat.le_of_eq U.n_a5.1, U.n_f4.1, U.n_a5.2, U.n_f4.2, fun H20 r10 g10 hr10 gr10 => ?_⟩⟩
    rw [U.b_f5] at gr10
    exact k _ r10 (((F18.new h7).trans g9).trans g10) gr10

abbrev sp_law (K : PySem.W.Frag) : Sp := U.sp1 fun s H Q _ => ∃ (a : Addr) (ns : List Int), s = .ref a ∧ SqL K H a (ns.map V.int) ∧ ∀ H', Q (.bl true) H'
theorem sc_law : FnScope ["_law_script", "_law_sizes_here", "_law_cell", "_law_bound"] ["_law_script"] (defScope s_law) := U.scope_by (by decide +kernel)
theorem ok_law {P : Program} {w : World} {K : PySem.W.Frag} {mg : Str → Option Value} {base : Heap} {f : Addr} {fd : FuncData}
    (F : FunD K "law" "law" (defArgs s_law) (defBody s_law) (defScope s_law) [] [] f fd) (B : U.BI mg) (c__law_is : C8.Cal P w K mg base 1 "_law_is" (sp__law_is) []) (c__law_sizes : C8.Cal P w K mg base 2 "_law_sizes" (sp__law_sizes) []) (c_how_many : C8.Cal P w K mg base 5 "how_many" (sp_how_many) []) (c_with_signs : C8.Cal P w K mg base 5 "with_signs" (sp_with_signs) []) :
    FnOk P w K mg base C8.CX0 6 f fd ["_law_script"] (sp_law K) := by
  have sc := sc_law
  refine F.ok sc (fun vs H Q E h => ?_) (fun cdv A outer s H vs Q E hr h => ⟨_, PSs.nox (pss_cons (ps_set (i := 1) sc.nd rfl (Or.inl rfl) (U.pe_c0 c__law_sizes hr (by decide) rfl))
      (pss_cons (ps_for PassesOwn.never rfl (pi_list (pe_op U.add (pe_slice U.slS (pv 0) po_none (po_some pe_int)) (pe_lst (pa_cons pe_int (pa_cons pe_int (pa_cons pe_int pa_nil)))))) (pg_name (i := 2) sc.nd rfl (Or.inl rfl)) (pss_cons (ps_set (i := 3) sc.nd rfl (Or.inl rfl) (pe_op U.mod (pv 2) pe_int))
      (pss_cons (ps_if (PW.pt (pw_or (pt_not (pt_val (C8.pe_c c__law_is hr (by decide) rfl (pa_cons (C8.pe_c c_how_many hr (by decide) rfl (pa_cons (pv 3) pa_nil)) (pa_cons (pe_callB (U.c_sum rfl) (by rfl) B.sum_ U.bt_sum (pa_cons (pe_slice U.sl (pv 1) po_none (po_some (pe_op U.add (pv 3) pe_int))) pa_nil)) pa_nil))))) (pw_or1 (pt_not (pt_val (C8.pe_c c__law_is hr (by decide) rfl (pa_cons (C8.pe_c c_with_signs hr (by decide) rfl (pa_cons (pv 3) pa_nil)) (pa_cons (pe_ix U.ix (pv 1) (pv 3) (fun _ _ => rfl)) pa_nil)))))))) (pss_one (ps_ret pe_bl)) pss_nil)
      (pss_one (ps_if (PW.pt (pw_or (pt_cmpR U.ne (C8.pe_c c_with_signs hr (by decide) rfl (pa_cons (pv 3) pa_nil)) (pe_ix U.ix (pv 1) (pv 3) (fun _ _ => rfl)) (nomark _)) (pw_or1 (pt_cmpR U.ne (C8.pe_c c_how_many hr (by decide) rfl (pa_cons (pv 3) pa_nil)) (pe_callB (U.c_sum rfl) (by rfl) B.sum_ U.bt_sum (pa_cons (pe_slice U.sl (pv 1) po_none (po_some (pe_op U.add (pv 3) pe_int))) pa_nil)) (nomark _))))) (pss_one (ps_ret pe_bl)) pss_nil)))))
      (pss_one (ps_ret pe_bl)))), ?_⟩)
  · obtain ⟨_, rfl, _⟩ := h; rfl
  · obtain ⟨s', rfl, a, ns, rfl, hS, k⟩ := h
    walk_at "rd"
    refine fun H1 sz f1 g1 => ⟨_, U.SqL_fr f1 hS, fun c1 hc1 => ⟨by rw [U.sizeL]; decide, fun c2 hc2 => ?_⟩⟩
    rw [U.upd_old2 hc2 upd_same]
    have hlen : (U.cutL (ns.map V.int) none (some 10)).length ≤ 10 := by rw [U.cut_to (by decide), List.length_take]; exact Nat.min_le_left _ _
    refine U.optE_of rfl ⟨by omega, fun L hL => ?_⟩
    have gs := U.upd_old2 hL (o := .lst (U.cutL (ns.map V.int) none (some 10) ++ [V.int 60, V.int 2, V.int 0])) (U.upd_old2 hc2 (o := .lst [V.int 60, V.int 2, V.int 0]) (U.upd_old2 hc1 (o := .lst (U.cutL (ns.map V.int) none (some 10))) g1))
    refine U.r_lst upd_same (fun i σ H' => (∃ o o1, σ = [some (.ref a), some (.ref sz), o, o1]) ∧ H' sz = some (.lst (U.iv U.l_f5)) ∧ H' L = some (.lst (U.cutL (ns.map V.int) none (some 10) ++ [V.int 60, V.int 2, V.int 0]))) ⟨⟨_, _, rfl⟩, gs, upd_same⟩ ?_ ?_ ?_
    · rintro i σ H' hi ⟨-, -, h⟩
      exact h
    · rintro i x σ H' hx ⟨⟨o, o1, rfl⟩, b1, b2⟩
      obtain ⟨c, rfl⟩ : ∃ c, x = .int c := by
        have hm := List.mem_of_getElem? hx
        simp only [List.mem_append, List.mem_cons, List.not_mem_nil, or_false] at hm
        rcases hm with hm | rfl | rfl | rfl
        · obtain ⟨c, _, rfl⟩ := List.mem_map.mp (U.cut_mem hm)
          exact ⟨c, rfl⟩
        · exact ⟨_, rfl⟩
        · exact ⟨_, rfl⟩
        · exact ⟨_, rfl⟩
      have m0 : 0 ≤ c % 61 := Int.emod_nonneg _ (by decide)
      have m1 : c % 61 < 61 := Int.emod_lt_of_pos _ (by decide)
      have hn : (((c % 61).toNat : Nat) : Int) = c % 61 := Int.toNat_of_nonneg m0
      have hs : (U.cutL U.l_f5 none (some (c % 61 + 1))).sum = U.sigF (c % 61).toNat := by
        rw [U.cut_to (by omega), show (c % 61 + 1).toNat = (c % 61).toNat + 1 by omega]
        exact (U.agree1 _ (by omega)).symm
      have ha : atI (U.iv U.l_f5) (c % 61) = some (.int (U.sigF (c % 61).toNat - U.entF U.sigF (c % 61 - 1))) := by
        rw [U.iv_ix m0 (by rw [U.n_f5]; exact m1), ← U.agree2 _ (by omega), hn]
      have m2 : c % 61 ≤ 60 := by omega
      walk_at "rd"
      intro H2 f2
      have b3 := f2.get (by simp) b1
      walk_at "rd"
      intro r3 h3 H4 f4
      have b4 := f4.get (by simp) (U.upd_old2 (o := .lst (U.iv (U.cutL U.l_f5 none (some (c % 61 + 1))))) h3 b3)
      walk_at "rd"
      intro H5 f5
      have b5 := f5.get (by simp) b4
      walk_at "rd"
      intro H6 f6
      have b6 := f6.get (by simp) b5
      walk_at "rd"
      intro r7 h7
      have F6 := ((((f2.new (o := .lst (U.iv (U.cutL U.l_f5 none (some (c % 61 + 1))))) h3).trans f4).trans f5).trans f6).new (o := .lst (U.iv (U.cutL U.l_f5 none (some (c % 61 + 1))))) h7
      exact ⟨⟨_, rfl⟩, F6.get (by simp) b1, (F6.get (by simp) b2).trans (by rw [show U.iv (U.cutL ns none (some 10)) = U.cutL (ns.map V.int) none (some 10) from U.iv_cut.symm])⟩
    · rintro σ H' ⟨⟨o, o1, rfl⟩, b1, b2⟩
      walk_at "rd"

theorem facts {P : Program} {w : World} {K : PySem.W.Frag} {h : Heap} {mg : Str → Option Value} {fa_ : Addr} (X : K.In h) (G : h.Ns mainGlobals mg) (hfa : mg "law" = some (.ref fa_)) (c : He.SaysX Hd.fa Hd.fn Hd.tabs [] Hd.exB w h K) :
    ∃ fd : FuncData, (∀ (s : Shared) (v : Value), BindsTo s fd ⟨[v], []⟩ [("_law_script", v)]) ∧ ∀ base : Heap, K.In base → base.Ns mainGlobals mg → FnOk P w K mg base C8.CX0 6 fa_ fd ["_law_script"] (sp_law K) := by
  have B : U.BI mg := ⟨He.free_ok X G (c.t.d.fact 36 (f := .free "len") rfl), He.free_ok X G (c.t.d.fact 37 (f := .free "isinstance") rfl), He.free_ok X G (c.t.d.fact 38 (f := .free "all") rfl), He.free_ok X G (c.t.d.fact 39 (f := .free "any") rfl), He.free_ok X G (c.t.d.fact 40 (f := .free "range") rfl), He.free_ok X G (c.t.d.fact 41 (f := .free "int") rfl), He.free_ok X G (c.t.d.fact 42 (f := .free "str") rfl), He.free_ok X G (c.t.d.fact 43 (f := .free "list") rfl), He.free_ok X G (c.t.d.fact 44 (f := .free "tuple") rfl), He.free_ok X G (c.t.d.fact 45 (f := .free "max") rfl), He.free_ok X G (c.t.d.fact 46 (f := .free "min") rfl), He.free_ok X G (c.t.d.fact 47 (f := .free "sorted") rfl), He.free_ok X G (c.t.d.fact 48 (f := .free "repr") rfl), He.free_ok X G (c.t.d.fact 49 (f := .free "enumerate") rfl), He.free_ok X G (c.t.d.fact 50 (f := .free "zip") rfl), He.free_ok X G (c.t.d.fact 51 (f := .free "divmod") rfl), He.free_ok X G (c.t.d.fact 52 (f := .free "sum") rfl), He.free_ok X G (c.t.d.fact 53 (f := .free "reversed") rfl), He.free_ok X G (c.t.d.fact 54 (f := .free "dict") rfl), He.free_ok X G (c.t.d.fact 55 (f := .free "bool") rfl)⟩
  have g_MOST : U.GInt mg "MOST" 60 := U.gint_of (He.int_ok X G (c.t.d.fact 56 (f := .int "MOST" 60) rfl))
  have K_Figures := He.cls_ok (c.t.d.fact 14 (f := .cls "Figures") rfl)
  have G_Figures := He.glo_ok X G (c.t.d.fact 13 (f := .glo "Figures") rfl)
  have K_Counts := He.cls_ok (c.t.d.fact 23 (f := .cls "Counts") rfl)
  have G_Counts := He.glo_ok X G (c.t.d.fact 22 (f := .glo "Counts") rfl)
  have MF : U.FgC K (He.ga K "Figures") := ⟨K_Figures, He.noat_ok (c.t.d.fact 15 (f := .noat "Figures" "tails") rfl), He.noat_ok (c.t.d.fact 16 (f := .noat "Figures" "going") rfl), He.noat_ok (c.t.d.fact 17 (f := .noat "Figures" "stopping") rfl)⟩
  have MC : U.CtC K (He.ga K "Counts") := ⟨K_Counts, He.noat_ok (c.t.d.fact 24 (f := .noat "Counts" "by_copy") rfl), He.noat_ok (c.t.d.fact 25 (f := .noat "Counts" "by_year") rfl), He.noat_ok (c.t.d.fact 26 (f := .noat "Counts" "by_makers") rfl), He.noat_ok (c.t.d.fact 27 (f := .noat "Counts" "by_figures") rfl), He.noat_ok (c.t.d.fact 28 (f := .noat "Counts" "by_points") rfl), He.noat_ok (c.t.d.fact 29 (f := .noat "Counts" "by_number") rfl), He.noat_ok (c.t.d.fact 30 (f := .noat "Counts" "by_word") rfl), He.noat_ok (c.t.d.fact 31 (f := .noat "Counts" "by_sign") rfl)⟩
  obtain ⟨fd_entry, F0_entry⟩ := c.t.d.def_ 2 (d := Hd.d_entry) rfl
  have F_entry : FunD K "entry" "entry" (defArgs s_entry) (defBody s_entry) (defScope s_entry) [] [] (He.fAd K ("entry", none)) fd_entry := F0_entry
  clear F0_entry
  obtain ⟨fd_Counts_longer, F0_Counts_longer⟩ := c.t.d.def_ 8 (d := Hd.d_Counts_longer) rfl
  have F_Counts_longer : FunD K "longer" "Counts.longer" (defArgs s_Counts_longer) (defBody s_Counts_longer) (defScope s_Counts_longer) [] [] (He.fAd K ("Counts", some "longer")) fd_Counts_longer := F0_Counts_longer
  clear F0_Counts_longer
  obtain ⟨fd_Figures___init__, F0_Figures___init__⟩ := c.t.d.def_ 3 (d := Hd.d_Figures___init__) rfl
  have F_Figures___init__ : FunD K "__init__" "Figures.__init__" (defArgs s_Figures___init__) (defBody s_Figures___init__) (defScope s_Figures___init__) [] [] (He.fAd K ("Figures", some "__init__")) fd_Figures___init__ := F0_Figures___init__
  clear F0_Figures___init__
  obtain ⟨fd_copies_by, F0_copies_by⟩ := c.t.d.def_ 6 (d := Hd.d_copies_by) rfl
  have F_copies_by : FunD K "copies_by" "copies_by" (defArgs s_copies_by) (defBody s_copies_by) (defScope s_copies_by) [] [] (He.fAd K ("copies_by", none)) fd_copies_by := F0_copies_by
  clear F0_copies_by
  obtain ⟨fd_Counts___init__, F0_Counts___init__⟩ := c.t.d.def_ 7 (d := Hd.d_Counts___init__) rfl
  have F_Counts___init__ : FunD K "__init__" "Counts.__init__" (defArgs s_Counts___init__) (defBody s_Counts___init__) (defScope s_Counts___init__) [] [] (He.fAd K ("Counts", some "__init__")) fd_Counts___init__ := F0_Counts___init__
  clear F0_Counts___init__
  obtain ⟨fd_is_whole, F0_is_whole⟩ := c.t.d.def_ 1 (d := Hd.d_is_whole) rfl
  have F_is_whole : FunD K "is_whole" "is_whole" (defArgs s_is_whole) (defBody s_is_whole) (defScope s_is_whole) [.non] [] (He.fAd K ("is_whole", none)) fd_is_whole := F0_is_whole
  clear F0_is_whole
  obtain ⟨fd_need_bound, F0_need_bound⟩ := c.t.d.def_ 10 (d := Hd.d_need_bound) rfl
  have F_need_bound : FunD K "need_bound" "need_bound" (defArgs s_need_bound) (defBody s_need_bound) (defScope s_need_bound) [] [] (He.fAd K ("need_bound", none)) fd_need_bound := F0_need_bound
  clear F0_need_bound
  obtain ⟨fd_how_many, F0_how_many⟩ := c.t.d.def_ 11 (d := Hd.d_how_many) rfl
  have F_how_many : FunD K "how_many" "how_many" (defArgs s_how_many) (defBody s_how_many) (defScope s_how_many) [] [] (He.fAd K ("how_many", none)) fd_how_many := F0_how_many
  clear F0_how_many
  obtain ⟨fd_with_signs, F0_with_signs⟩ := c.t.d.def_ 12 (d := Hd.d_with_signs) rfl
  have F_with_signs : FunD K "with_signs" "with_signs" (defArgs s_with_signs) (defBody s_with_signs) (defScope s_with_signs) [] [] (He.fAd K ("with_signs", none)) fd_with_signs := F0_with_signs
  clear F0_with_signs
  obtain ⟨fd__law_is, F0__law_is⟩ := c.t.d.def_ 13 (d := Hd.d__law_is) rfl
  have F__law_is : FunD K "_law_is" "_law_is" (defArgs s__law_is) (defBody s__law_is) (defScope s__law_is) [] [] (He.fAd K ("_law_is", none)) fd__law_is := F0__law_is
  clear F0__law_is
  obtain ⟨fd__law_behind, F0__law_behind⟩ := c.t.d.def_ 14 (d := Hd.d__law_behind) rfl
  have F__law_behind : FunD K "_law_behind" "_law_behind" (defArgs s__law_behind) (defBody s__law_behind) (defScope s__law_behind) [] [] (He.fAd K ("_law_behind", none)) fd__law_behind := F0__law_behind
  clear F0__law_behind
  obtain ⟨fd__law_long, F0__law_long⟩ := c.t.d.def_ 15 (d := Hd.d__law_long) rfl
  have F__law_long : FunD K "_law_long" "_law_long" (defArgs s__law_long) (defBody s__law_long) (defScope s__law_long) [] [] (He.fAd K ("_law_long", none)) fd__law_long := F0__law_long
  clear F0__law_long
  obtain ⟨fd__law_sizes, F0__law_sizes⟩ := c.t.d.def_ 16 (d := Hd.d__law_sizes) rfl
  have F__law_sizes : FunD K "_law_sizes" "_law_sizes" (defArgs s__law_sizes) (defBody s__law_sizes) (defScope s__law_sizes) [] [] (He.fAd K ("_law_sizes", none)) fd__law_sizes := F0__law_sizes
  clear F0__law_sizes
  obtain ⟨fd_law, F0_law⟩ := c.t.d.def_ 17 (d := Hd.d_law) rfl
  have F_law : FunD K "law" "law" (defArgs s_law) (defBody s_law) (defScope s_law) [] [] (He.fAd K ("law", none)) fd_law := F0_law
  clear F0_law
  have e_law := hfa.symm.trans (He.glo_ok X G (c.t.d.fact 10 (f := .glo "law") rfl))
  cases e_law
  refine ⟨fd_law, fun s v => FunD.bindsA (ps := ["_law_script"]) F_law (fun _ _ _ _ _ _ us hl => match us, hl with | [_], _ => rfl) s [v] rfl, fun base _ _ => ?_⟩
  have o_entry := @ok_entry P w K mg base (He.fAd K ("entry", none)) fd_entry F_entry B 
  have b_c_entry : Binds K fd_entry _ [] := FunD.bindsN (ps := ["table", "at"]) F_entry (fun _ _ _ _ _ _ us hl => match us, hl with | [_, _], _ => rfl)
  have c_entry : C8.Cal P w K mg base 1 "entry" (sp_entry) [] := ⟨_, fd_entry, _, [], o_entry, He.glo_ok X G (c.t.d.fact 1 (f := .glo "entry") rfl), F_entry.kp, b_c_entry, .nil⟩
  have o_Counts_longer := @ok_Counts_longer P w K mg base (He.fAd K ("Counts", some "longer")) fd_Counts_longer F_Counts_longer B (c_entry)
  have b_m_Counts_longer : Binds K fd_Counts_longer _ [] := FunD.bindsN (ps := ["self", "table", "sizes"]) F_Counts_longer (fun _ _ _ _ _ _ us hl => match us, hl with | [_, _, _], _ => rfl)
  have m_Counts_longer : C8.Met P w K mg base 2 (He.ga K "Counts") "longer" (sp_Counts_longer) [] := ⟨_, fd_Counts_longer, _, [], K_Counts, He.meth_ok (c.t.d.fact 33 (f := .meth "Counts" "longer") rfl), o_Counts_longer, b_m_Counts_longer, .nil⟩
  have o_Figures___init__ := @ok_Figures___init__ P w K mg base (He.fAd K ("Figures", some "__init__")) fd_Figures___init__ _ F_Figures___init__ B (MF)
  have b_k_Figures : Binds K fd_Figures___init__ _ [] := FunD.bindsN (ps := ["self", "tails"]) F_Figures___init__ (fun _ _ _ _ _ _ us hl => match us, hl with | [_, _], _ => rfl)
  have k_Figures : C8.Mak P w K mg base 1 "Figures" (He.ga K "Figures") (sp_Figures___init__ (He.ga K "Figures")) [] := ⟨_, fd_Figures___init__, _, [], He.mkr_ok (c.t.d.fact 21 (f := .mkr "Figures") rfl), o_Figures___init__, G_Figures, b_k_Figures, .nil⟩
  have o_copies_by := @ok_copies_by P w K mg base (He.fAd K ("copies_by", none)) fd_copies_by F_copies_by B 
  have b_c_copies_by : Binds K fd_copies_by _ [] := FunD.bindsN (ps := ["most"]) F_copies_by (fun _ _ _ _ _ _ us hl => match us, hl with | [_], _ => rfl)
  have c_copies_by : C8.Cal P w K mg base 1 "copies_by" (sp_copies_by) [] := ⟨_, fd_copies_by, _, [], o_copies_by, He.glo_ok X G (c.t.d.fact 2 (f := .glo "copies_by") rfl), F_copies_by.kp, b_c_copies_by, .nil⟩
  have o_Counts___init__ := @ok_Counts___init__ P w K mg base (He.fAd K ("Counts", some "__init__")) fd_Counts___init__ _ _ F_Counts___init__ B (MC) (MF) (c_copies_by) (c_entry) (k_Figures) (m_Counts_longer)
  have b_k_Counts : Binds K fd_Counts___init__ _ [] := FunD.bindsN (ps := ["self", "most"]) F_Counts___init__ (fun _ _ _ _ _ _ us hl => match us, hl with | [_, _], _ => rfl)
  have k_Counts : C8.Mak P w K mg base 3 "Counts" (He.ga K "Counts") (sp_Counts___init__ (He.ga K "Counts")) [] := ⟨_, fd_Counts___init__, _, [], He.mkr_ok (c.t.d.fact 35 (f := .mkr "Counts") rfl), o_Counts___init__, G_Counts, b_k_Counts, .nil⟩
  have o_is_whole := @ok_is_whole P w K mg base (He.fAd K ("is_whole", none)) fd_is_whole F_is_whole B 
  obtain ⟨ds_c_is_whole, v_c_is_whole, b_c_is_whole⟩ := FunD.binds1 (ps := ["thing", "low", "high"]) F_is_whole 3 1 (by simp) (by rfl) (fun _ _ _ _ _ _ _ us its hl hi => match us, its, hl, hi with | [_, _, _], [_], _, _ => ⟨_, rfl, rfl⟩)
  have c_is_whole : C8.Cal P w K mg base 1 "is_whole" (sp_is_whole) [] := ⟨_, fd_is_whole, _, ds_c_is_whole, o_is_whole, He.glo_ok X G (c.t.d.fact 0 (f := .glo "is_whole") rfl), F_is_whole.kp, b_c_is_whole, v_c_is_whole⟩
  have o_need_bound := @ok_need_bound P w K mg base (He.fAd K ("need_bound", none)) fd_need_bound F_need_bound B (c_is_whole) (g_MOST)
  have b_c_need_bound : Binds K fd_need_bound _ [] := FunD.bindsN (ps := ["many"]) F_need_bound (fun _ _ _ _ _ _ us hl => match us, hl with | [_], _ => rfl)
  have c_need_bound : C8.Cal P w K mg base 2 "need_bound" (sp_need_bound) [] := ⟨_, fd_need_bound, _, [], o_need_bound, He.glo_ok X G (c.t.d.fact 3 (f := .glo "need_bound") rfl), F_need_bound.kp, b_c_need_bound, .nil⟩
  have o_how_many := @ok_how_many P w K mg base (He.fAd K ("how_many", none)) fd_how_many _ F_how_many B (MC) (c_need_bound) (k_Counts)
  have b_c_how_many : Binds K fd_how_many _ [] := FunD.bindsN (ps := ["many"]) F_how_many (fun _ _ _ _ _ _ us hl => match us, hl with | [_], _ => rfl)
  have c_how_many : C8.Cal P w K mg base 5 "how_many" (sp_how_many) [] := ⟨_, fd_how_many, _, [], o_how_many, He.glo_ok X G (c.t.d.fact 4 (f := .glo "how_many") rfl), F_how_many.kp, b_c_how_many, .nil⟩
  have o_with_signs := @ok_with_signs P w K mg base (He.fAd K ("with_signs", none)) fd_with_signs _ F_with_signs B (MC) (c_entry) (c_need_bound) (k_Counts)
  have b_c_with_signs : Binds K fd_with_signs _ [] := FunD.bindsN (ps := ["many"]) F_with_signs (fun _ _ _ _ _ _ us hl => match us, hl with | [_], _ => rfl)
  have c_with_signs : C8.Cal P w K mg base 5 "with_signs" (sp_with_signs) [] := ⟨_, fd_with_signs, _, [], o_with_signs, He.glo_ok X G (c.t.d.fact 5 (f := .glo "with_signs") rfl), F_with_signs.kp, b_c_with_signs, .nil⟩
  have o__law_is := @ok__law_is P w K mg base (He.fAd K ("_law_is", none)) fd__law_is F__law_is B 
  have b_c__law_is : Binds K fd__law_is _ [] := FunD.bindsN (ps := ["_law_found", "_law_due"]) F__law_is (fun _ _ _ _ _ _ us hl => match us, hl with | [_, _], _ => rfl)
  have c__law_is : C8.Cal P w K mg base 1 "_law_is" (sp__law_is) [] := ⟨_, fd__law_is, _, [], o__law_is, He.glo_ok X G (c.t.d.fact 6 (f := .glo "_law_is") rfl), F__law_is.kp, b_c__law_is, .nil⟩
  have o__law_behind := @ok__law_behind P w K mg base (He.fAd K ("_law_behind", none)) fd__law_behind F__law_behind B 
  have b_c__law_behind : Binds K fd__law_behind _ [] := FunD.bindsN (ps := ["_law_one", "_law_other"]) F__law_behind (fun _ _ _ _ _ _ us hl => match us, hl with | [_, _], _ => rfl)
  have c__law_behind : C8.Cal P w K mg base 1 "_law_behind" (sp__law_behind) [] := ⟨_, fd__law_behind, _, [], o__law_behind, He.glo_ok X G (c.t.d.fact 7 (f := .glo "_law_behind") rfl), F__law_behind.kp, b_c__law_behind, .nil⟩
  have o__law_long := @ok__law_long P w K mg base (He.fAd K ("_law_long", none)) fd__law_long F__law_long B 
  have b_c__law_long : Binds K fd__law_long _ [] := FunD.bindsN (ps := ["_law_table"]) F__law_long (fun _ _ _ _ _ _ us hl => match us, hl with | [_], _ => rfl)
  have c__law_long : C8.Cal P w K mg base 1 "_law_long" (sp__law_long) [] := ⟨_, fd__law_long, _, [], o__law_long, He.glo_ok X G (c.t.d.fact 8 (f := .glo "_law_long") rfl), F__law_long.kp, b_c__law_long, .nil⟩
  have o__law_sizes := @ok__law_sizes P w K mg base (He.fAd K ("_law_sizes", none)) fd__law_sizes F__law_sizes B (c__law_behind) (c__law_long)
  have b_c__law_sizes : Binds K fd__law_sizes _ [] := FunD.bindsN (ps := []) F__law_sizes (fun _ _ _ _ _ _ us hl => match us, hl with | [], _ => rfl)
  have c__law_sizes : C8.Cal P w K mg base 2 "_law_sizes" (sp__law_sizes) [] := ⟨_, fd__law_sizes, _, [], o__law_sizes, He.glo_ok X G (c.t.d.fact 9 (f := .glo "_law_sizes") rfl), F__law_sizes.kp, b_c__law_sizes, .nil⟩
  have o_law := @ok_law P w K mg base (He.fAd K ("law", none)) fd_law F_law B (c__law_is) (c__law_sizes) (c_how_many) (c_with_signs)
  exact o_law

end My
open PySem PySem.W PyProof.Rows L2
theorem PySem.Challenge.cw_spinemarks_k19_how_many_there_are_holds : PySem.Challenge.rw_spinemarks_k19_how_many_there_are.Holds := by
  w_on
  o_law
  refine HandSHeadRun.head_any (r := PySem.W.OpenLaw.row PySem.Challenge.rw_spinemarks_k19_how_many_there_are) (q := PySem.W.view Hd.R.prog [20]) (H := Hd.hk) (ob := Hd.ob) (M := 20000) (loose := Hd.lo) (d := HandSHeadRun.topDef Hd.R.prog 20) (kwd := []) Hd.ob_eq (by kernel_rfl) (fun s => by kernel_rfl) Hd.run (by kernel_rfl) (by kernel_rfl) (by kernel_rfl) (by rfl) (by first | assumption | decide +kernel) (by decide +kernel) ⟨rfl, rfl, rfl, rfl, rfl, by decide +kernel⟩ ?hw ?hc
  case hw => w_witness2
  case hc =>
    refine L2.walk_ofE (l := PySem.Challenge.rw_spinemarks_k19_how_many_there_are) (n := 63) (k := 6) (x := "_law_script") (CX := C8.CX0) rfl (by decide) (by kernel_rfl) ⟨rfl, by decide, by decide⟩ ?F (fun _ _ _ _ z => z)
    intro w mg fa h Y G hmg0
    obtain ⟨K, KX, c⟩ := Y
    have hmg : mg ("law" : PySem.Str) = some (.ref fa) := by
      have e : (HandSHeadRun.topDef Hd.R.prog 20).name = ("law" : PySem.Str) := by kernel_rfl
      rw [← e]
      exact hmg0
    obtain ⟨fd, hb, hF⟩ := My.facts (P := (PySem.Challenge.rw_spinemarks_k19_how_many_there_are).prog) (w := w) KX G hmg c
    exact ⟨K, fd, My.sp_law K, KX, hb, fun H a ns hl _ hS => ⟨.ref a, rfl, a, ns, rfl, hS, fun _ => rfl⟩, hF⟩

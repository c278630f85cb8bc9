import PyProof.Rows.All
import Wide.All
import OpenK.AllK
import Wide.FinOn
import PyProof.EqAt
import PyProof.EqKinds
import PyProof.TupleCall
import PyProof.StrOps2
import HandS.ForMost
import HandS.Wide
import HandS.Gcd
import HandS.IsInst
import HandS.Defaults
import HandS.CallSlots
import HandS.Exc
import HandS.ExcOwn
import HandS.ExcCtx
import HandS.HotCalls
import HandS.Flow
import HandS.Style
import HandS.Conv
import HandS.Codes
import HandS.Head3
import HandS.HeadEnd
import HandS.HeadHook4
import KE.KExcSuper
import HandS.ExcInit
import HandS.ExcInitHot
import HandS.Nested
import HandS.FStr
import HandS.ExcField
import HandS.ExcIs
import KE.KTryMore
import KE.KExcIs
import HandS.Lambda
import HandS.Walk
import HandS.Text
import HandS.WideBits
import HandS.StrMore
import HandS.AnyAll
import KE.KIntText
import HandS.DictComp
import HandS.ReplaceLit
import HandS.ReplaceList
import HandS.ReplaceDef
import HandS.HeadWalk
import PySem.Challenge.RW_echolearn_k00_names_and_fractions
set_option Elab.async false
set_option linter.all false
set_option maxRecDepth 100000
set_option maxHeartbeats 4000000
/-! EL0: operators by values of any kind, the steps of a reading (x_), heaps that grow. -/
namespace EL
open PySem PySem.Spec PyProof.Rows L2

/-! ### operators -/
/-- // by any divisor but 0 below 2 ^ 9000 -/
def CDivA (_ j : Int) : Prop := j ≠ 0 ∧ j.natAbs.log2 < 9000
section
variable {X : Cx}
theorem op_fdivA : OpR X (binaryOp .FloorDiv) (rI CDivA fun i j => .int (i.fdiv j)) :=
  opI fun _ _ _ _ _ _ _ hc q => floordiv_int hc.1 q (.inl (PyProof.noPylong_of_log2 hc.2))
def rMulS : R2 := fun x y H Q => ∃ (z : Str) (n : Int), x = .str z ∧ y = .int n ∧ 0 ≤ n ∧ z.length * n.toNat ≤ 16777216 ∧ n < 2 ^ 63 ∧ Q (.str ⟨((List.replicate n.toNat z.cps.toList).flatten).toArray⟩) H
end
def rAddA : R2 := fun x y H Q => (rI0 (fun i j => .int (i + j)) x y H Q) ∨ ((∃ i j, x = .str i ∧ y = .str j ∧ i.length + j.length ≤ sizeLine ∧ Q (.str (i ++ j)) H) ∨ rCat x y H Q)
section
variable {X : Cx}
theorem opA_add : OpR X (binaryOp .Add) rAddA := OpR.or op_add (OpR.or op_add_str op_cat)
end

/-! ### the steps of a reading -/
section
variable {σ : L2.St} {H : Hp} {Q : VK} {D : Ends} {ta tb te : TE} {x y v : V} {r : R2} {i j : Int} {K : PySem.W.Frag} {t u : TT} {ts tu : TS}
theorem x_var {n : Nat} (h : σ[n]? = some (some v)) (q : Q v H) : tVar n σ H Q := ⟨v, h, q⟩
theorem x_c (q : Q v H) : tC v σ H Q := q
theorem x_op (q : ta σ H fun x H1 => tb σ H1 fun y H2 => r x y H2 Q) : tOp r ta tb σ H Q := q
theorem x_un {r : V → Hp → VK → Prop} (q : ta σ H fun x H1 => r x H1 Q) : tUn r ta σ H Q := q
theorem x_rU {g : Int → V} (q : Q (g i) H) : rU g (.int i) H Q := ⟨i, rfl, q⟩
theorem x_I0 {g : Int → Int → V} (q : Q (g i j) H) : rI0 g (.int i) (.int j) H Q := ⟨i, j, rfl, rfl, q⟩
theorem x_I {C : Int → Int → Prop} {g : Int → Int → V} (hc : C i j) (q : Q (g i j) H) : rI C g (.int i) (.int j) H Q := ⟨i, j, rfl, rfl, hc, q⟩
theorem x_addI (q : Q (.int (i + j)) H) : rAddA (.int i) (.int j) H Q := .inl ⟨i, j, rfl, rfl, q⟩
theorem x_addS {a b : Str} (h : a.length + b.length ≤ sizeLine) (q : Q (.str (a ++ b)) H) : rAddA (.str a) (.str b) H Q := .inr (.inl ⟨a, b, rfl, rfl, h, q⟩)
theorem x_addL {a b : Addr} {xs zs : List V} (h1 : H a = some (.lst xs)) (h2 : H b = some (.lst zs)) (h : xs.length + zs.length ≤ sizeLine) (q : ∀ p, H p = none → Q (.ref p) (upd H p (.lst (xs ++ zs)))) : rAddA (.ref a) (.ref b) H Q :=
  .inr (.inr ⟨a, b, xs, zs, rfl, rfl, h1, h2, h, q⟩)
theorem x_eqI (q : Q (.bl (decide (i = j))) H) : rEq (.int i) (.int j) H Q := ⟨rfl, by rw [show decide (V.int i = V.int j) = decide (i = j) by simp]; exact q⟩
theorem x_neI (q : Q (.bl (!decide (i = j))) H) : rNe (.int i) (.int j) H Q := ⟨rfl, by rw [show decide (V.int i = V.int j) = decide (i = j) by simp]; exact q⟩
theorem x_eqS {a b : Str} (q : Q (.bl (decide (a = b))) H) : rEq (.str a) (.str b) H Q := ⟨rfl, by rw [show decide (V.str a = V.str b) = decide (a = b) by simp]; exact q⟩
theorem x_neS {a b : Str} (q : Q (.bl (!decide (a = b))) H) : rNe (.str a) (.str b) H Q := ⟨rfl, by rw [show decide (V.str a = V.str b) = decide (a = b) by simp]; exact q⟩
theorem x_test {Q : Bool → Hp → Prop} (q : te σ H fun x H' => ∃ k, x = .bl k ∧ Q k H') : tTest te σ H Q := q
theorem x_tB {Q : Bool → Hp → Prop} (q : te σ H fun x H' => ∃ k, x = .bl k ∧ Q k H') : tB te σ H Q := q
theorem x_bl {b : Bool} {Q : Bool → Hp → Prop} (q : Q b H) : ∃ k, V.bl b = .bl k ∧ Q k H := ⟨b, rfl, q⟩
theorem x_and {Q : Bool → Hp → Prop} (q : t σ H fun c H1 => if c = true then u σ H1 Q else Q false H1) : tAnd t u σ H Q := q
theorem x_or {Q : Bool → Hp → Prop} (q : t σ H fun c H1 => if c = true then Q true H1 else u σ H1 Q) : tOr t u σ H Q := q
theorem x_not {Q : Bool → Hp → Prop} (q : t σ H fun c H1 => Q (!c) H1) : tNot t σ H Q := q
theorem x_andV (q : ta σ H fun x H1 => ∃ c, x = .bl c ∧ if c = true then tb σ H1 Q else Q (.bl false) H1) : tAndV ta tb σ H Q := q
theorem x_orV (q : ta σ H fun x H1 => ∃ c, x = .bl c ∧ if c = true then Q (.bl true) H1 else tb σ H1 Q) : tOrV ta tb σ H Q := q
theorem x_notV (q : ta σ H fun x H1 => ∃ c, x = .bl c ∧ Q (.bl (!c)) H1) : tNotV ta σ H Q := q
theorem x_ex {b : Bool} {P : Bool → Prop} (q : P b) : ∃ c, V.bl b = .bl c ∧ P c := ⟨b, rfl, q⟩
theorem x_ifE (q : t σ H fun c H1 => if c = true then ta σ H1 Q else tb σ H1 Q) : tIf t ta tb σ H Q := q
theorem x_seq (q : ts { D with nx := tu D } σ H) : tSeq ts tu D σ H := q
theorem x_next (q : D.nx σ H) : tNext D σ H := q
theorem x_brk (q : D.bk σ H) : tBreak D σ H := q
theorem x_cont (q : D.ct σ H) : tCont D σ H := q
theorem x_ret (q : te σ H D.rt) : tRet te D σ H := q
theorem x_retN (q : D.rt .non H) : tRetN D σ H := q
theorem x_drop (q : te σ H fun _ H1 => D.nx σ H1) : tDrop te D σ H := q
theorem x_ifS (q : t σ H fun b H1 => if b = true then ts D σ H1 else tu D σ H1) : tIfS t ts tu D σ H := q
theorem x_asg {g : TG} (q : te σ H fun x H1 => g x σ H1 D.nx) : tAsg te g D σ H := q
theorem x_gName {n : Nat} {Q : L2.St → Hp → Prop} (q : Q (σ.set n (some v)) H) : gName n v σ H Q := q
theorem x_nil {Q : List V → Hp → Prop} (q : Q [] H) : tNil σ H Q := q
theorem x_cons {tr : TA} {Q : List V → Hp → Prop} (q : te σ H fun x H1 => tr σ H1 fun xs H2 => Q (x :: xs) H2) : tCons te tr σ H Q := q
theorem x_tup {ta : TA} (q : ta σ H fun xs H1 => xs.length ≤ sizeLine ∧ ∀ p, H1 p = none → Q (.ref p) (upd H1 p (.tup xs))) : tTup ta σ H Q := q
theorem x_lst {ta : TA} (q : ta σ H fun xs H1 => xs.length ≤ sizeLine ∧ ∀ p, H1 p = none → Q (.ref p) (upd H1 p (.lst xs))) : tLst ta σ H Q := q
theorem x_callS {sp : Sp} {E : L2.St → XK} {ta : TA} (q : ta σ H fun vs H1 => sp vs H1 Q (E σ)) : tCallS sp E ta σ H Q := q
theorem x_CB {r : List V → Hp → VK → Prop} {ta : TA} (q : ta σ H fun vs H1 => r vs H1 Q) : tCB r ta σ H Q := q
theorem x_par {m n : Nat} {ta : TA} (q : ta σ H fun vs H1 => ∃ v w, vs = [v, w] ∧ D.nx ((σ.set m (some v)).set n (some w)) H1) : tPar m n ta D σ H := q
theorem x_if (b : Bool) {A B : Prop} (h1 : b = true → A) (h2 : b = false → B) : if b = true then A else B := by
  cases b with
  | true => rw [if_pos rfl]; exact h1 rfl
  | false => rw [if_neg Bool.false_ne_true]; exact h2 rfl
theorem x_ifT {b : Bool} {A B : Prop} (h : b = true) (h1 : A) : if b = true then A else B := by rw [if_pos h]; exact h1
theorem x_ifF {b : Bool} {A B : Prop} (h : b = false) (h1 : B) : if b = true then A else B := by rw [if_neg (by rw [h]; exact Bool.false_ne_true)]; exact h1
end

/-! ### more operators -/
theorem rep_array (c : Array Nat) : ∀ (n : Nat) (acc : List Nat), (List.replicate n c).foldl (· ++ ·) acc.toArray = (acc ++ (List.replicate n c.toList).flatten).toArray
  | 0, acc => by simp
  | n + 1, acc => by
    have e : acc.toArray ++ c = (acc ++ c.toList).toArray := by simp
    rw [List.replicate_succ, List.replicate_succ, List.foldl_cons, e, rep_array c n (acc ++ c.toList), List.flatten_cons, List.append_assoc]
def repS (z : Str) (n : Nat) : Str := ⟨((List.replicate n z.cps.toList).flatten).toArray⟩
def rMulT : R2 := fun x y H Q => ∃ (z : Str) (n : Int), x = .str z ∧ y = .int n ∧ 0 ≤ n ∧ z.length * n.toNat ≤ 16777216 ∧ n < 2 ^ 30 ∧ z.length < 2 ^ 30 ∧ Q (.str (repS z n.toNat)) H
section
variable {X : Cx}
theorem repS_arr (x : Str) (n : Nat) : (⟨(List.replicate n x.cps).foldl (· ++ ·) #[]⟩ : Str) = repS x n := by
  have h := rep_array x.cps n []
  rw [List.nil_append] at h
  have h2 : (List.replicate n x.cps).foldl (fun x1 x2 => x1 ++ x2) #[] = (List.replicate n x.cps.toList).flatten.toArray := h
  unfold repS
  rw [h2]
theorem repS_self (x : Str) : repS x 1 = x := by
  unfold repS
  refine TL.ext_tl ?_
  show (List.replicate 1 x.cps.toList).flatten = x.cps.toList
  simp
theorem repS_zero (x : Str) : repS x 0 = Str.empty := rfl
theorem repS_nil (x : Str) (n : Nat) (h : x.length = 0) : repS x n = x := by
  have e : x.cps.toList = [] := (TL.len0_tl x).mp h
  unfold repS
  refine TL.ext_tl ?_
  show (List.replicate n x.cps.toList).flatten = x.cps.toList
  rw [e]
  simp
theorem op_mulT : OpR X (binaryOp .Mult) rMulT := by
  intro pins s σ H x y v u Q I rx ry h
  obtain ⟨z, n, rfl, rfl, h0, hl, hn, hz, q⟩ := h
  obtain ⟨t, rfl⟩ := rx
  obtain ⟨t', rfl⟩ := ry
  have fin : ∀ w : Str, w = repS z n.toNat → EP X pins σ Q (.str w s.toks) { s with toks := s.toks + 1 } := fun w e => ⟨.str w, H, I.tok _, ⟨_, rfl⟩, by rw [e]; exact q⟩
  refine PySem.P.mul_str ?_ (fun h1 h2 => ?_) (fun _ _ => ?_) ?_
  · have h1 : ¬ n < -(2 ^ 63 : Int) := by omega
    have h2 : ¬ n ≥ 2 ^ 63 := by omega
    rw [decide_eq_false h1, decide_eq_false h2] <;> rfl
  · intro hb
    have h1' : (0 : Int) < n := by omega
    have e2 : (2 ^ 63 - 1) < n * ((2 ^ 63 - 1) / n + 1) := by
      have z := Int.lt_mul_ediv_self_add (x := 2 ^ 63 - 1) h1'
      rw [Int.mul_add, Int.mul_one]
      exact z
    have e3 : n * ((2 ^ 63 - 1) / n + 1) ≤ n * (z.length : Int) := Int.mul_le_mul_of_nonneg_left (by omega) (by omega)
    have e4 : n * (z.length : Int) ≤ 2 ^ 30 * 2 ^ 30 := Int.mul_le_mul (by omega) (by omega) (by omega) (by omega)
    omega
  · show decide (z.length * n.toNat > sizeLine) = false
    exact decide_eq_false (by rw [sizeLine_eq]; omega)
  · split
    · rename_i h1
      have e : n.toNat = 0 := by omega
      exact ⟨by decide, fin _ (by rw [e]; rfl)⟩
    · split
      · rename_i h1 h2
        have e : repS z n.toNat = z := by
          rw [Bool.or_eq_true] at h2
          rcases h2 with h2 | h2
          · have e : n.toNat = 1 := by have := beq_iff_eq.mp h2; omega
            rw [e]; exact repS_self z
          · exact repS_nil z _ (beq_iff_eq.mp h2)
        exact ⟨.str z, H, I, ⟨_, rfl⟩, by rw [← e]; exact q⟩
      · rename_i h1 h2
        refine ⟨?_, fin _ (repS_arr z _)⟩
        rw [repS_arr, TL.len_tl]
        show ((List.replicate n.toNat z.cps.toList).flatten).length ≤ sizeLine
        rw [List.length_flatten, List.map_replicate, List.sum_replicate_nat, sizeLine_eq, Nat.mul_comm]
        rw [TL.len_tl] at hl
        exact hl
/-- * of ints of any size, of a text or a list and an int -/
def CMulX (i j : Int) : Prop := CMul i j ∨ CMulW i j
theorem op_mulX : OpR X (binaryOp .Mult) (rI CMulX fun i j => .int (i * j)) := opI fun _ _ _ _ _ _ _ hc q => mul_int q (hc.elim CMul.ok CMulW.ok)
def rMulA : R2 := fun x y H Q => rI CMulX (fun i j => .int (i * j)) x y H Q ∨ rMulT x y H Q ∨ rRep x y H Q
theorem opA_mul : OpR X (binaryOp .Mult) rMulA := OpR.or op_mulX (OpR.or op_mulT op_rep)
/-- ==, != of data -/
def rEqA (K : PySem.W.Frag) : R2 := fun x y H Q => rEq x y H Q ∨ rEqD K x y H Q
def rNeA (K : PySem.W.Frag) : R2 := fun x y H Q => rNe x y H Q ∨ rNeD K x y H Q
theorem opA_eq (hu : X.A.units + 64 < cLine) : OpR X (compareOp .Eq) (rEqA X.K) := OpR.or op_eq (op_eqD hu)
theorem opA_ne (hu : X.A.units + 64 < cLine) : OpR X (compareOp .NotEq) (rNeA X.K) := OpR.or op_ne (op_neD hu)
def rInSt : R2 := fun x y H Q => ∃ (c : Nat) (z : Str), x = .str ⟨#[c]⟩ ∧ y = .str z ∧ Q (.bl (decide (c ∈ z.cps.toList))) H
def rNotInSt : R2 := fun x y H Q => ∃ (c : Nat) (z : Str), x = .str ⟨#[c]⟩ ∧ y = .str z ∧ Q (.bl (!decide (c ∈ z.cps.toList))) H
def rInA (K : PySem.W.Frag) : R2 := fun x y H Q => rInSt x y H Q ∨ rIn K false x y H Q
def rNotInA (K : PySem.W.Frag) : R2 := fun x y H Q => rNotInSt x y H Q ∨ rIn K true x y H Q
theorem opA_in : OpR X (compareOp .In) (rInA X.K) := OpR.or op_in_sign op_in_seq
theorem opA_notin : OpR X (compareOp .NotIn) (rNotInA X.K) := OpR.or op_notIn_sign op_notIn_seq
def rSlB' (K : PySem.W.Frag) : V → Option Int → Option Int → Hp → VK → Prop := fun x lo hi H Q => rSlL K x lo hi H Q ∨ rSlS x lo hi H Q
theorem slA : SlR X (rSlB' X.K) := SlR.or sl_list sl_str
def rAbs : List V → Hp → VK → Prop := fun xs H Q => ∃ i, xs = [.int i] ∧ Q (.int (if i < 0 then -i else i)) H
theorem callA_abs : CallR X (.builtin "abs") rAbs := call_abs
def rIsNo : R2 := fun x y H Q => y = .non ∧ Q (.bl (decide (x = .non))) H
def rNotNo : R2 := fun x y H Q => y = .non ∧ Q (.bl (!decide (x = .non))) H
theorem opA_isN : OpR X (compareOp .Is) rIsNo := op_isN
theorem opA_notN : OpR X (compareOp .IsNot) rNotNo := op_notN
def rLenA (K : PySem.W.Frag) : List V → Hp → VK → Prop := fun xs H Q => (∃ x n, xs = [x] ∧ LenV K x H n ∧ Q (.int n) H) ∨ ∃ d kvs, xs = [.ref d] ∧ H d = some (.dK kvs) ∧ Q (.int kvs.length) H
theorem callA_len : CallR X (.builtin "len") (rLenA X.K) := CallR.or call_len call_lenD
def rIsA (K : PySem.W.Frag) : List V → Hp → VK → Prop := fun xs H Q => rIsi K xs H Q ∨ rIsiT K xs H Q
theorem callA_isi : CallR X (.builtin "isinstance") (rIsA X.K) := CallR.or call_isi call_isiT
def rIntA : List V → Hp → VK → Prop := fun xs H Q => ((∃ i, xs = [.int i] ∧ Q (.int i) H) ∨ ∃ k, xs = [.bl k] ∧ Q (.int (if k then 1 else 0)) H) ∨ ∃ a n, xs = [.str a] ∧ PySem.intText? a = some n ∧ a.length ≤ 640 ∧ Q (.int n) H
theorem callA_int : CallR X (.type "int") rIntA := CallR.or call_int1 call_int_str
def rStrA : List V → Hp → VK → Prop := fun xs H Q => ∃ i, xs = [.int i] ∧ i.natAbs.log2 < 1920 ∧ Q (.str (toString i)) H
theorem callA_str : CallR X (.type "str") rStrA := call_str_int
def rListA (K : PySem.W.Frag) : List V → Hp → VK → Prop := fun xs H Q => ∃ p ys, xs = [.ref p] ∧ (SqL K H p ys ∨ SqT K H p ys) ∧ ∀ l, H l = none → Q (.ref l) (upd H l (.lst ys))
theorem callA_list : CallR X (.type "list") (rListA X.K) := call_list_of
def rTupA (K : PySem.W.Frag) : List V → Hp → VK → Prop := fun xs H Q => ∃ p ys, xs = [.ref p] ∧ ((SqL K H p ys ∧ ∀ l, H l = none → Q (.ref l) (upd H l (.tup ys))) ∨ (SqT K H p ys ∧ Q (.ref p) H))
theorem callA_tuple : CallR X (.type "tuple") (rTupA X.K) := call_tuple_of
end
end EL

namespace EL
open PySem PySem.Spec PyProof.Rows L2
section
variable {σ : L2.St} {H : Hp} {Q : VK} {D : Ends} {ta tb te : TE} {x y v : V} {r : R2} {i j : Int} {K : PySem.W.Frag}
theorem x_mulI (q : Q (.int (i * j)) H) (hc : CMulX i j) : rMulA (.int i) (.int j) H Q := .inl ⟨i, j, rfl, rfl, hc, q⟩
theorem x_mulS {z : Str} {n : Int} (q : Q (.str (repS z n.toNat)) H) (h0 : 0 ≤ n) (h1 : z.length * n.toNat ≤ 16777216) (h2 : n < 2 ^ 30) (h3 : z.length < 2 ^ 30) : rMulA (.str z) (.int n) H Q := .inr (.inl ⟨z, n, rfl, rfl, h0, h1, h2, h3, q⟩)
theorem x_fdiv (q : Q (.int (i.fdiv j)) H) (hc : CDivA i j) : rI CDivA (fun i j => .int (i.fdiv j)) (.int i) (.int j) H Q := ⟨i, j, rfl, rfl, hc, q⟩
theorem x_mod (q : Q (.int (i.fmod j)) H) (hc : j ≠ 0) : rI (fun _ j => j ≠ 0) (fun i j => .int (i.fmod j)) (.int i) (.int j) H Q := ⟨i, j, rfl, rfl, hc, q⟩
theorem x_pow (q : Q (.int (i ^ j.toNat)) H) (hc : CPow i j) : rI CPow (fun i j => .int (i ^ j.toNat)) (.int i) (.int j) H Q := ⟨i, j, rfl, rfl, hc, q⟩
theorem x_eqI' (q : Q (.bl (decide (i = j))) H) : rEqA K (.int i) (.int j) H Q := .inl (x_eqI q)
theorem x_neI' (q : Q (.bl (!decide (i = j))) H) : rNeA K (.int i) (.int j) H Q := .inl (x_neI q)
theorem x_eqS' {a b : Str} (q : Q (.bl (decide (a = b))) H) : rEqA K (.str a) (.str b) H Q := .inl (x_eqS q)
theorem x_neS' {a b : Str} (q : Q (.bl (!decide (a = b))) H) : rNeA K (.str a) (.str b) H Q := .inl (x_neS q)
theorem x_eqD {d e : PyData} (q : Q (.bl (PyData.eqv d e)) H) (h1 : Dp K H x d) (h2 : Dp K H y e) (s1 : SeqAt.shaped d = true) (s2 : SeqAt.shaped e = true) : rEqA K x y H Q := .inr ⟨d, e, h1, h2, s1, s2, q⟩
theorem x_neD {d e : PyData} (q : Q (.bl (!PyData.eqv d e)) H) (h1 : Dp K H x d) (h2 : Dp K H y e) (s1 : SeqAt.shaped d = true) (s2 : SeqAt.shaped e = true) : rNeA K x y H Q := .inr ⟨d, e, h1, h2, s1, s2, q⟩
theorem x_inS {c : Nat} {z : Str} (q : Q (.bl (decide (c ∈ z.cps.toList))) H) : rInA K (.str ⟨#[c]⟩) (.str z) H Q := .inl ⟨c, z, rfl, rfl, q⟩
theorem x_notinS {c : Nat} {z : Str} (q : Q (.bl (!decide (c ∈ z.cps.toList))) H) : rNotInA K (.str ⟨#[c]⟩) (.str z) H Q := .inl ⟨c, z, rfl, rfl, q⟩
theorem x_inL {p : Addr} {xs : List V} (q : Q (.bl (inV x xs)) H) (h : SqL K H p xs ∨ SqT K H p xs) (fx : flatV x = true) (fa : xs.all flatV = true) : rInA K x (.ref p) H Q := .inr ⟨p, xs, rfl, h, fx, fa, q⟩
theorem x_notinL {p : Addr} {xs : List V} (q : Q (.bl (!inV x xs)) H) (h : SqL K H p xs ∨ SqT K H p xs) (fx : flatV x = true) (fa : xs.all flatV = true) : rNotInA K x (.ref p) H Q := .inr ⟨p, xs, rfl, h, fx, fa, q⟩
theorem x_lenS {z : Str} (q : Q (.int z.length) H) (h : z.length ≤ sizeLine) : rLenA K [.str z] H Q := .inl ⟨_, _, rfl, ⟨h, rfl⟩, q⟩
theorem x_lenL {p : Addr} {xs : List V} (q : Q (.int xs.length) H) (h : SqL K H p xs) : rLenA K [.ref p] H Q := .inl ⟨_, _, rfl, .inl ⟨xs, h, rfl⟩, q⟩
theorem x_lenT {p : Addr} {xs : List V} (q : Q (.int xs.length) H) (h : SqT K H p xs) : rLenA K [.ref p] H Q := .inl ⟨_, _, rfl, .inr ⟨xs, h, rfl⟩, q⟩
theorem x_lenD {p : Addr} {kvs : List (Key × V)} (q : Q (.int kvs.length) H) (h : H p = some (.dK kvs)) : rLenA K [.ref p] H Q := .inr ⟨p, kvs, rfl, h, q⟩
theorem x_isi {t c : String} {b : Bool} (q : Q (.bl b) H) (ty : TyX K H x (.type t)) (k : kitB t c = some b) : rIsA K [x, .ty c] H Q := .inl ⟨x, .ty c, .type t, .type c, b, rfl, .ty c, ty, kit_ty k, q⟩
theorem x_isi2 {t c d : String} {tp : Addr} {b b' : Bool} (q : Q (.bl (b || b')) H) (ht : H tp = some (.tup [.ty c, .ty d])) (ty : TyX K H x (.type t)) (k : kitB t c = some b) (k' : kitB t d = some b') : rIsA K [x, .ref tp] H Q :=
  .inr ⟨x, tp, [.ty c, .ty d], .type t, [.type c, .type d], b || b', rfl, ht, .cons (.ty c) (.cons (.ty d) .nil), ty,
    kitAny_cons (kit_ty k) (fun e => kitAny_cons (kit_ty k') (fun e' => by rw [e, e']; exact kitAny_nil) (fun e' => by rw [e', Bool.or_true])) (fun e => by rw [e, Bool.true_or]), q⟩
theorem x_int (q : Q (.int i) H) : rIntA [.int i] H Q := .inl (.inl ⟨i, rfl, q⟩)
theorem x_intS {a : Str} {n : Int} (q : Q (.int n) H) (h : PySem.intText? a = some n) (hl : a.length ≤ 640) : rIntA [.str a] H Q := .inr ⟨a, n, rfl, h, hl, q⟩
theorem x_str (q : Q (.str (toString i)) H) (h : i.natAbs.log2 < 1920) : rStrA [.int i] H Q := ⟨i, rfl, h, q⟩
theorem x_abs (q : Q (.int (if i < 0 then -i else i)) H) : rAbs [.int i] H Q := ⟨i, rfl, q⟩
theorem x_gcd {a b : Int} (q : Q (.int ((Nat.gcd a.natAbs b.natAbs : Nat) : Int)) H) : rGcd [.int a, .int b] H Q := ⟨a, b, rfl, q⟩
theorem x_ixL {p : Addr} {xs : List V} {n : Nat} (q : Q v H) (h : SqL K H p xs) (ha : xs[n]? = some v) : rIx K (.ref p) (.int (n : Int)) H Q := .inl ⟨p, xs, _, v, rfl, rfl, h, atI_nat ha, q⟩
theorem x_ixT {p : Addr} {xs : List V} {n : Nat} (q : Q v H) (h : SqT K H p xs) (ha : xs[n]? = some v) : rIx K (.ref p) (.int (n : Int)) H Q := .inr (.inl ⟨p, xs, _, v, rfl, rfl, h, atI_nat ha, q⟩)
theorem x_ixS {z : Str} {n : Nat} {c : Nat} (q : Q (.str ⟨#[c]⟩) H) (h : z.length ≤ sizeLine) (ha : z.cps.toList[n]? = some c) : rIx K (.str z) (.int (n : Int)) H Q := .inr (.inr ⟨z, _, c, rfl, rfl, h, atI_nat ha, q⟩)
theorem x_isN (q : Q (.bl (decide (x = .non))) H) : rIsNo x .non H Q := ⟨rfl, q⟩
theorem x_notN (q : Q (.bl (!decide (x = .non))) H) : rNotNo x .non H Q := ⟨rfl, q⟩
theorem x_list {p : Addr} {ys : List V} (h : SqL K H p ys ∨ SqT K H p ys) (q : ∀ l, H l = none → Q (.ref l) (upd H l (.lst ys))) : rListA K [.ref p] H Q := ⟨p, ys, rfl, h, q⟩
theorem x_tupL {p : Addr} {ys : List V} (h : SqL K H p ys) (q : ∀ l, H l = none → Q (.ref l) (upd H l (.tup ys))) : rTupA K [.ref p] H Q := ⟨p, ys, rfl, .inl ⟨h, q⟩⟩
theorem x_tupT {p : Addr} {ys : List V} (h : SqT K H p ys) (q : Q (.ref p) H) : rTupA K [.ref p] H Q := ⟨p, ys, rfl, .inr ⟨h, q⟩⟩
theorem x_slL {a : Addr} {xs : List V} {lo hi : Option Int} (h : SqL K H a xs) (q : ∀ p, H p = none → Q (.ref p) (upd H p (.lst (cutV xs lo hi)))) : rSlB' K (.ref a) lo hi H Q := .inl ⟨a, xs, rfl, h, q⟩
theorem x_slS {z : Str} {lo hi : Option Int} (q : Q (.str (cutS z lo hi)) H) (h : z.length ≤ sizeLine) : rSlB' K (.str z) lo hi H Q := .inr ⟨z, rfl, h, q⟩
theorem x_sl {r : V → Option Int → Option Int → Hp → VK → Prop} {tl th : TO} (q : te σ H fun x H1 => tl σ H1 fun l H2 => th σ H2 fun u H3 => r x l u H3 Q) : tSl r te tl th σ H Q := q
theorem x_noPart {Q : Option Int → Hp → Prop} (q : Q none H) : tNoPart σ H Q := q
theorem x_part {Q : Option Int → Hp → Prop} (q : te σ H fun x H1 => ∃ i, x = .int i ∧ Q (some i) H1) : tPart te σ H Q := q
theorem x_exI {P : Int → Prop} (q : P i) : ∃ k, V.int i = .int k ∧ P k := ⟨i, rfl, q⟩
theorem x_len2 {P : Prop} (h : P) : 2 ≤ sizeLine ∧ P := ⟨by decide, h⟩
theorem x_sz {n : Nat} {P : Prop} (h : P) (hn : n ≤ 100000 := by exact Nat.le_of_ble_eq_true rfl) : n ≤ sizeLine ∧ P := ⟨Nat.le_trans hn (by decide), h⟩
theorem x_two {v w : V} {P : V → V → Prop} (q : P v w) : ∃ a b, [v, w] = [a, b] ∧ P a b := ⟨v, w, rfl, q⟩
theorem x_w {c : TT} {tb : TS} (W : Nat → L2.St → Hp → Prop) (m : Nat) (w0 : W m σ H) (hs : ∀ m σ H, W m σ H → c σ H fun b H1 => if b = true then ∃ Nx : L2.St → Hp → Prop, (∀ σ' H', Nx σ' H' → ∃ m', m' < m ∧ W m' σ' H') ∧ tb { nx := Nx, rt := D.rt, bk := D.nx, ct := Nx } σ H1 else D.nx σ H1) : tWhile c tb D σ H :=
  ⟨W, ⟨m, w0⟩, hs⟩
end

/-! ### promises by the number of arguments -/
def sp1 (f : V → Hp → VK → XK → Prop) : Sp := fun vs H Q E => ∃ a, vs = [a] ∧ f a H Q E
def sp2 (f : V → V → Hp → VK → XK → Prop) : Sp := fun vs H Q E => ∃ a b, vs = [a, b] ∧ f a b H Q E
def sp3 (f : V → V → V → Hp → VK → XK → Prop) : Sp := fun vs H Q E => ∃ a b c, vs = [a, b, c] ∧ f a b c H Q E
def sp4 (f : V → V → V → V → Hp → VK → XK → Prop) : Sp := fun vs H Q E => ∃ a b c d, vs = [a, b, c, d] ∧ f a b c d H Q E
def sp0 (f : Hp → VK → XK → Prop) : Sp := fun vs H Q E => vs = [] ∧ f H Q E
section
variable {H : Hp} {Q : VK} {E : XK} {a b c d : V}
theorem sp0_i {f : Hp → VK → XK → Prop} (h : f H Q E) : sp0 f [] H Q E := ⟨rfl, h⟩
theorem sp1_i {f : V → Hp → VK → XK → Prop} (h : f a H Q E) : sp1 f [a] H Q E := ⟨a, rfl, h⟩
theorem sp2_i {f : V → V → Hp → VK → XK → Prop} (h : f a b H Q E) : sp2 f [a, b] H Q E := ⟨a, b, rfl, h⟩
theorem sp3_i {f : V → V → V → Hp → VK → XK → Prop} (h : f a b c H Q E) : sp3 f [a, b, c] H Q E := ⟨a, b, c, rfl, h⟩
theorem sp4_i {f : V → V → V → V → Hp → VK → XK → Prop} (h : f a b c d H Q E) : sp4 f [a, b, c, d] H Q E := ⟨a, b, c, d, rfl, h⟩
end
theorem sp0_len {f : Hp → VK → XK → Prop} : ∀ vs H Q E, sp0 f vs H Q E → vs.length = 0 := fun vs H Q E h => by rw [h.1]; rfl
theorem sp1_len {f : V → Hp → VK → XK → Prop} : ∀ vs H Q E, sp1 f vs H Q E → vs.length = 1 := fun vs H Q E ⟨a, e, _⟩ => by rw [e]; rfl
theorem sp2_len {f : V → V → Hp → VK → XK → Prop} : ∀ vs H Q E, sp2 f vs H Q E → vs.length = 2 := fun vs H Q E ⟨a, b, e, _⟩ => by rw [e]; rfl
theorem sp3_len {f : V → V → V → Hp → VK → XK → Prop} : ∀ vs H Q E, sp3 f vs H Q E → vs.length = 3 := fun vs H Q E ⟨a, b, c, e, _⟩ => by rw [e]; rfl
theorem sp4_len {f : V → V → V → V → Hp → VK → XK → Prop} : ∀ vs H Q E, sp4 f vs H Q E → vs.length = 4 := fun vs H Q E ⟨a, b, c, d, e, _⟩ => by rw [e]; rfl
/-- the function that the module's name x stands for -/
def fdOf (K : PySem.W.Frag) (x : Str) : FuncData := match K.lookup (He.ga K x) with
  | some ⟨_, _, .func fd, _⟩ => fd
  | _ => PySem.W.fnOf "" "" { posonlyargs := [], args := [], vararg := none, kwonlyargs := [], kw_defaults := [], kwarg := none, defaults := [] } [] { kind := .function, names := [], isGenerator := false, isCoroutine := false, more := [] } .none .none .none .none none .none .none
theorem funD_fd {K : PySem.W.Frag} {x n qual : Str} {params : Arguments} {body : List Stmt} {scope : Scope} {dvs : List V} {kws : List (Str × V)} {fd : FuncData} (F : FunD K n qual params body scope dvs kws (He.ga K x) fd) : FunD K n qual params body scope dvs kws (He.ga K x) (fdOf K x) := by
  have e : fdOf K x = fd := by
    obtain ⟨oc, od, dV, kV, doc, pm, an, cdv, ct, osl, _, lk, _⟩ := F.ex
    unfold fdOf
    rw [lk]
  rw [e]
  exact F
/-- a def of the module's top that keeps a promise -/
def Ok (P : Program) (w : World) (K : PySem.W.Frag) (mg : Str → Option Value) (base : Heap) (k : Nat) (x : Str) (ps : List Str) (sp : Sp) : Prop := FnOk P w K mg base (L2N.CX P w) k (He.ga K x) (fdOf K x) ps sp
/-- a while, by a word that falls -/
theorem x_while {c : TT} {tb : TS} {D : Ends} {σ : L2.St} {H : Hp} (W : Nat → L2.St → Hp → Prop) (m : Nat) (w0 : W m σ H)
    (hs : ∀ m σ H, W m σ H → c σ H fun b H1 => if b = true then tb { D with nx := fun σ' H' => ∃ m', m' < m ∧ W m' σ' H', ct := fun σ' H' => ∃ m', m' < m ∧ W m' σ' H', bk := D.nx } σ H1 else D.nx σ H1)
    (mono : ∀ σ H Q Q', (∀ b H1, Q b H1 → Q' b H1) → c σ H Q → c σ H Q') : tWhile c tb D σ H :=
  ⟨W, ⟨m, w0⟩, fun m σ H w => mono σ H _ _ (fun b H1 q => by
    cases b with
    | true => exact ⟨_, fun _ _ h => h, q⟩
    | false => exact q) (hs m σ H w)⟩

/-! ### heaps in which all but j stays -/
def ExtX (j : Addr) (H H' : Hp) : Prop := ∀ a o, a ≠ j → H a = some o → H' a = some o
theorem ExtX.refl {j : Addr} (H : Hp) : ExtX j H H := fun _ _ _ h => h
theorem ExtX.trans {j : Addr} {H H1 H2 : Hp} (a : ExtX j H H1) (b : ExtX j H1 H2) : ExtX j H H2 := fun x o n h => b x o n (a x o n h)
theorem ExtX.of {j : Addr} {H H' : Hp} (e : Same H H') : ExtX j H H' := fun a o _ h => e a o h
theorem ExtX.new {j p : Addr} {H : Hp} {o : HO} (h : H p = none) : ExtX j H (upd H p o) := fun a u _ e => by
  rw [upd_ne (ne_of_none e h)]
  exact e
theorem ExtX.self {j : Addr} {H : Hp} {o : HO} : ExtX j H (upd H j o) := fun a u n e => by
  rw [upd_ne n]
  exact e
/-- an object that is not of H changes -/
theorem ExtX.mut {j p : Addr} {H H' : Hp} {o : HO} (e : ExtX j H H') (h : H p = none) : ExtX j H (upd H' p o) := fun a u n ha => by
  rw [upd_ne (ne_of_none ha h)]
  exact e a u n ha
theorem Same.new {p : Addr} {H : Hp} {o : HO} (h : H p = none) : Same H (upd H p o) := fun a u e => by
  rw [upd_ne (ne_of_none e h)]
  exact e
theorem Same.mut {p : Addr} {H H' : Hp} {o : HO} (e : Same H H') (h : H p = none) : Same H (upd H' p o) := fun a u ha => by
  rw [upd_ne (ne_of_none ha h)]
  exact e a u ha

section
variable {σ : L2.St} {H : Hp} {Q : VK} {K : PySem.W.Frag} {v : V} {j : Addr} {xs : List V} {i : Int}
theorem x_ixU (ha : atI xs i = some v) (q : Q v (upd H j (.lst xs))) : rIx K (.ref j) (.int i) (upd H j (.lst xs)) Q := .inl ⟨j, xs, i, v, rfl, rfl, SqL.of upd_same, ha, q⟩
theorem x_ixA (h : SqL K H j xs) (ha : atI xs i = some v) (q : Q v H) : rIx K (.ref j) (.int i) H Q := .inl ⟨j, xs, i, v, rfl, rfl, h, ha, q⟩
theorem x_ixTA (h : SqT K H j xs) (ha : atI xs i = some v) (q : Q v H) : rIx K (.ref j) (.int i) H Q := .inr (.inl ⟨j, xs, i, v, rfl, rfl, h, ha, q⟩)
theorem x_ixTU (ha : atI xs i = some v) (q : Q v (upd H j (.tup xs))) : rIx K (.ref j) (.int i) (upd H j (.tup xs)) Q := .inr (.inl ⟨j, xs, i, v, rfl, rfl, SqT.of upd_same, ha, q⟩)
theorem x_gSub {to ti : TE} {t : TSet} {Q : L2.St → Hp → Prop} (q : to σ H fun o H1 => ti σ H1 fun i H2 => t o i v H2 fun H3 => Q σ H3) : gSub to ti t v σ H Q := q
theorem x_setU {m : Nat} {Q : Hp → Prop} (hm : ixN xs.length i = some m) (q : Q (upd H j (.lst (xs.set m v)))) : rSetL (.ref j) (.int i) v (upd H j (.lst xs)) Q :=
  ⟨j, xs, i, m, rfl, rfl, upd_same, hm, by rw [upd_upd]; exact q⟩
theorem x_setA {m : Nat} {Q : Hp → Prop} (h : H j = some (.lst xs)) (hm : ixN xs.length i = some m) (q : Q (upd H j (.lst (xs.set m v)))) : rSetL (.ref j) (.int i) v H Q := ⟨j, xs, i, m, rfl, rfl, h, hm, q⟩
end

theorem fmod_lo {a b : Int} (h : 0 < b) : 0 ≤ a.fmod b := Int.fmod_nonneg_of_pos a h
theorem fmod_hi {a b : Int} (h : 0 < b) : a.fmod b < b := Int.fmod_lt_of_pos a h
theorem div_of {a b : Int} (h : b ≠ 0) (hb : b.natAbs.log2 < 9000) : CDivA a b := ⟨h, hb⟩
theorem mul_left {a b : Int} (h : -(2 ^ 64) < a) (h' : a < 2 ^ 64) : CMulX a b := .inl (.inl ⟨h, h'⟩)
theorem mul_right {a b : Int} (h : -(2 ^ 64) < b) (h' : b < 2 ^ 64) : CMulX a b := .inl (.inr ⟨h, h'⟩)
theorem mul_wide {a b : Int} (h : CMulW a b) : CMulX a b := .inr h
end EL

set_option maxHeartbeats 400000
/-! EL1: own exceptions over ValueError whose __init__ says super().__init__(..). -/
namespace EL
open PySem PySem.Spec PySem.Calls PyProof.Rows L2 NdefX
/-- what the written part says of the class at C and of its __init__ at f, whose words are F -/
structure SupI (P : Program) (K : PySem.W.Frag) (C f cc : Addr) (F : NF) (fd : FuncData) : Prop where
  lk : ∃ (oc : Value) (od : Option Addr) (osl : Array (Option Value)) (kV doc pm : Value) (an : Option Addr) (ct : Value), fd = PySem.W.fnX F.name F.qual F.params F.body F.scope F.cl .none kV doc pm an (.ref F.c) ct ∧ K.lookup f = some ⟨oc, od, .func fd, osl⟩
  cl : F.cl = [(("__class__" : Str), cc)]
  cd : PySem.W.codeIn K (.ref F.c) F.qual = true
  file : ∃ (oc : Value) (od : Option Addr) (vs : Array Value) (osl : Array (Option Value)) (fl : Str) (tf : Tok), K.lookup F.c = some ⟨oc, od, .fields vs, osl⟩ ∧ vs[2]? = some (.str fl tf) ∧ ((P.main.file : Str) == fl) = true
  cell : ∃ (oc : Value) (od : Option Addr) (osl : Array (Option Value)), K.lookup cc = some ⟨oc, od, .cell (some (.ref C)), osl⟩
  top : (P.main.scope.names.lookup ("super" : Str)).isSome = false
  iC : PySem.W.findIn K (.ref C) "__init__" = some (some (.ref f))
  tI : PySem.W.typeIn K (.ref f) = some (.type "function")
  oex : OexC K C
  sub : PySem.W.subIn K (.ref C) (.type "ValueError") = some true
  self : PySem.W.mroIn K C (.ref C) = some true
  sup : PySem.W.ks_superIn K C C "__init__" = some (some (.builtin "ValueError.__init__"))
  opq : PySem.W.nsIn K cStatics "thirdparty.any" = some none
section
variable {CX : CXT} {P : Program} {w : World} {K : PySem.W.Frag} {mg : Str → Option Value} {base : Heap} {N ps : List Str} {F : NF} {f C cc : Addr} {A : Around} {outer : List Env} {s₀ : Shared} {H₀ : Hp} {E : XK} {fd : FuncData}
theorem SupI.cdata (T : SupI P K C f cc F fd) : ∃ nm q Ns bs bm sn sub ab col dd k0 k1 k2 k3 k5, K.lookup C = some (excClassObj nm q C Ns bs bm true sn sub ab col dd k0 k1 k2 k3 k5 "ValueError.__new__") ∧ PySem.HandSPX.refsVE bm = true ∧
    PySem.W.clsIn K C = some { name := nm, bases := bs, mro := .ref C :: bm, ns := Ns, qualname := q, hasDict := true, slotNames := sn, subclasses := sub, abstract := ab, collection := col, hasDel := false } := by
  obtain ⟨nm, q, Ns, bs, bm, sn, sub, ab, col, dd, k0, k1, k2, k3, k5, hC, hbm⟩ := T.oex.cls
  exact ⟨nm, q, Ns, bs, bm, sn, sub, ab, col, dd, k0, k1, k2, k3, k5, hC, hbm, by unfold PySem.W.clsIn; rw [hC] <;> rfl⟩
/-- super().__init__(e) -/
theorem super_stmt (T : SupI P K C f cc F fd) (hsup : mg "super" = none) {ar : Arg} {arg : Expr} {ta : TA} {p0 p1 p2 p3 p4 : Pos} {σ : L2.St} {H : Hp} {s : Shared} {a : Addr} {Qn : Hp → Prop}
    (hp : (F.params.posonlyargs ++ F.params.args).head? = some ar) (hN : N[0]? = some ar.arg) (hkl : F.scope.names.lookup ar.arg = some .local) (hks : F.scope.names.lookup ("super" : Str) = some .globalImplicit) (hkc : F.scope.names.lookup ("__class__" : Str) = some .free) (hk : F.scope.kind = .function)
    (he : starEach (arg :: []) (envF F f s₀.heap.objs.size) = (false, eval arg (envF F f s₀.heap.objs.size)) :: starEach [] (envF F f s₀.heap.objs.size))
    (hsw : swapsWith (.Call (.Attribute (.Call (.Name "super" p0) [] [] p1) "__init__" p2) [arg] [] p3) none p4.line (envF F f s₀.heap.objs.size) = pure false) (hin : interactive (envF F f s₀.heap.objs.size) = false)
    (hev : eval (.Call (.Attribute (.Call (.Name "super" p0) [] [] p1) "__init__" p2) [arg] [] p3) (envF F f s₀.heap.objs.size) = (do
      let ov ← attributeBase (.Call (.Name "super" p0) [] [] p1) "__init__" (envF F f s₀.heap.objs.size) (eval (.Call (.Name "super" p0) [] [] p1) (envF F f s₀.heap.objs.size))
      standAt p2.atName
      let (f', first) ← holding [ov] (getMethod ov "__init__" (pure false))
      callWith p3 f' first (backTo p3 (starEach [arg] (envF F f s₀.heap.objs.size))) []))
    (ha : PA (ncx CX P w K mg base N F f A outer s₀ H₀ E) [arg] ta) (I : Inv (ncx CX P w K mg base N F f A outer s₀ H₀ E) [] σ H s) (hσ : σ[0]? = some (some (.ref a))) (hH : H a = some (exo a C none))
    (h : ta σ H fun xs H1 => xs.length ≤ 1000 ∧ H1 a = some (exo a C none) ∧ Qn H1) :
    _root_.PySem.wpAt (model P w) (ncx CX P w K mg base N F f A outer s₀ H₀ E).A (.func F.body (envF F f s₀.heap.objs.size)) (exec (.Expr (.Call (.Attribute (.Call (.Name "super" p0) [] [] p1) "__init__" p2) [arg] [] p3) p4) (envF F f s₀.heap.objs.size))
      (fun fl s' => fl = .next ∧ ∃ H1, Inv (ncx CX P w K mg base N F f A outer s₀ H₀ E) [] σ H1 s' ∧ Qn H1) (ncx CX P w K mg base N F f A outer s₀ H₀ E).xe s := by
  obtain ⟨nm, q, Ns, bs, bm, sn, sub, ab, col, dd, k0, k1, k2, k3, k5, hC, hbm, hcl⟩ := T.cdata
  obtain ⟨oc, od, osl, kV, doc, pm, an, ct, hfd, lk⟩ := T.lk
  obtain ⟨oc2, od2, vs2, osl2, fl, tf, lk2, hv2, hfile⟩ := T.file
  obtain ⟨oc3, od3, osl3, lk3⟩ := T.cell
  have X := I.kIn
  obtain ⟨t1, ho⟩ := exo_at I.hok hH
  refine PySem.ks_wpAt_Expr_any (PySem.ks_wpAt_MethodCall (pl := pure false) (PySem.ks_wpAt_super_base (env := envF F f s₀.heap.objs.size) (fd := fd) hks hkc rfl rfl (X _ _ lk) rfl (by rw [hfd]; exact hp) rfl (X _ _ lk2) rfl hv2 hfile T.top ?_) hev) hin hsw
  obtain ⟨mb, hb1, hb2⟩ := I.mod.blt
  refine PySem.W.ks_loadName_global hk hks (Calls.loadGlobal_builtin (env := envF F f s₀.heap.objs.size) (I.mod.glob.keeps I.bk) hsup (hb1.keeps I.bk) ((hb2 _ (by decide)).trans (show bootBuiltins "super" = some (.type "super") by decide +kernel)) ⟨rfl, ?_⟩)
  refine wpAny_loadName_free hk hkc (show (envF F f s₀.heap.objs.size).cells.lookup ("__class__" : Str) = some cc by show F.cl.lookup ("__class__" : Str) = some cc; rw [T.cl]; rfl) ⟨_, X _ _ lk3, rfl⟩ ?_
  obtain ⟨m, hns, hloc⟩ := I.loc
  obtain ⟨u, ru, hlk⟩ := hloc 0 ar.arg (.ref a) hN hσ (.inl hkl)
  obtain rfl : u = Value.ref a := ru
  have hm : m ar.arg = some (.ref a) := by
    rcases hlk with ⟨_, e⟩ | ⟨e, _⟩
    · exact e
    · rcases e with e | e <;> exact absurd (hkl.symm.trans e) (by decide)
  refine wpAny_loadName_local hk hkl hns hm ?_
  refine PySem.ks_wpAny_isType_cls (X _ _ hC) rfl ⟨rfl, ?_⟩
  obtain ⟨hp1, g, dr, tk, os⟩ := s
  refine PySem.ks_wpAny_call_super (X _ _ hC) rfl ho rfl (fun c e => by cases e) (PySem.W.looks_mroIn X T.self) (fun h1 e1 k1 => ?_)
  have I1 := I.kept (t' := tk) k1
  have X1 := I1.kIn
  have ho1 := k1 _ _ ho
  have IA : PySem.W.InstAt h1 a _ C none := ⟨ho1, rfl, rfl, trivial⟩
  have hsupm : PySem.W.alongIn K "__init__" (((Value.ref C :: bm).dropWhile (· != .ref C)).drop 1) = some (some (.builtin "ValueError.__init__")) := by
    have z := T.sup
    unfold PySem.W.ks_superIn at z
    rw [hcl] at z
    exact z
  refine PySem.W.kxs_getMethod PySem.W.kxs_ValueError e1 (PySem.W.looks_opaque X1 T.opq) (l₀ := .ref C :: bm) (fun A Q E s k q => wpAny_bind ((PySem.W.looks_clsIn X1 hcl) A _ E s k (wpAny_pure q))) rfl X1 hsupm (IA.type.andThen (PySem.W.looks_subIn X1 T.sub)) (PySem.W.ks_ne X1 IA hcl) rfl ?_
  have k2 : ∀ b o, h1.get? b = some o → (h1.push (PySem.W.kxs_mw "ValueError.__init__" a)).get? b = some o := fun b o e => Heap.get?_push_of_some _ e
  have I2 := I1.kept (t' := tk + 1) k2
  have hu : (h1.push (PySem.W.kxs_mw "ValueError.__init__" a)).get? h1.objs.size = some (PySem.W.kxs_mw "ValueError.__init__" a) := Heap.get?_push_at rfl rfl
  have hun : H h1.objs.size = none := I1.hok.fresh (Nat.le_refl _)
  have I3 := I2.pins_of (pins' := [(h1.objs.size, PySem.W.kxs_mw "ValueError.__init__" a)]) (fun p hpp => by
    rcases List.mem_cons.mp hpp with rfl | z
    · exact ⟨hu, hun, Nat.ne_of_gt I1.lt, I1.nofs (Nat.le_refl _), fun v e => by cases e⟩
    · cases z)
  rw [he]
  refine PySem.W.kxs_callWith (i := "ValueError.__init__") (x := a) rfl ?_
  refine evalArgs_plain ?_
  have hr := ha.run p3 _ _ σ H _ I3 h
  rw [show (ncx CX P w K mg base N F f A outer s₀ H₀ E).env = envF F f s₀.heap.objs.size from rfl, he] at hr
  refine thn hr fun us s3 ⟨vs, H1, I4, rv, hl, hH1, qn⟩ => ?_
  obtain ⟨hu4, hn4, _, _, _⟩ := I4.pin _ (List.mem_append_right _ List.mem_cons_self)
  refine ⟨hu4, ?_⟩
  obtain ⟨t3, ho3⟩ := exo_at I4.hok hH1
  have hlen : us.length ≤ sizeLine := by rw [← rv.length, sizeLine_eq]; omega
  have X4 := I4.kIn
  obtain ⟨hp3, g3, dr3, tk3, os3⟩ := s3
  show wpAny _ _ (call (.ref h1.objs.size) us) _ _ _
  refine wpAny_call (codeAny_of_tree ?_)
  show wpAny _ (ncx CX P w K mg base N F f A outer s₀ H₀ E).A.in1 (callAny (.ref h1.objs.size) ⟨us, []⟩) _ _ _
  simp only [callAny]
  refine wpAny_bind (wpAny_load hu4 ?_)
  simp only [PySem.W.kxs_mw, show (Value.type "method-wrapper" == Value.type "method" || Value.type "method-wrapper" == Value.type "builtin_function_or_method" || Value.type "method-wrapper" == Value.type "method-wrapper") = true by decide, if_true]
  refine PySem.W.KFB.if_so (by decide) ?_
  refine wpAny_bind (PySem.W.check_bound_init PySem.F.excBase_ValueError.toExcCallFacts (X4 _ _ hC) ho3 rfl ?_)
  refine wpAny_bind (wpAny_pure (wpAny_pure ?_))
  refine ⟨plainId_quiet PySem.F.excBase_ValueError.init.plain _, codeAny_builtin PySem.F.excBase_ValueError.initEntry ?_⟩
  refine PySem.W.exc_init_tree (cls := .ref C) (t0 := t3) (dv := none) (c2 := .none) (c3 := .none) (b4 := .bool false) ho3 hlen fun h' k e' t' => ?_
  have J := I4.write (t' := tk3) (x := a) (e := a) (o := exo a C none) (by rw [hH1]; exact True.intro) (.inl rfl) k ⟨_, e'⟩ (exo_ok e')
  have eu : upd H1 a (exo a C none) = H1 := by
    funext b
    by_cases hb : b = a
    · rw [hb, upd_same, hH1]
    · rw [upd_ne hb]
  rw [eu] at J
  exact ⟨True.intro, H1, J.pins_of (fun p hpp => by cases hpp), qn⟩
theorem exc_cells (T : SupI P K C f cc F fd) {s : Shared} {H : Hp} (e0 : Env0 P w K mg base A outer s H) : CellsAt F.cl ["__class__"] [some (.ref C)] s.heap H := by
  obtain ⟨oc3, od3, osl3, lk3⟩ := T.cell
  have hb := e0.mod.kin _ _ lk3
  have hc := e0.bs _ _ hb
  have one : ∀ {y : Str} {c : Addr}, F.cl.lookup y = some c → y = "__class__" ∧ c = cc := fun {y c} e => by
    rw [T.cl] at e
    by_cases h : y = ("__class__" : Str)
    · subst h
      refine ⟨rfl, ?_⟩
      have e2 : List.lookup ("__class__" : Str) [(("__class__" : Str), cc)] = some cc := by simp [List.lookup]
      rw [e2] at e
      exact (Option.some.inj e).symm
    · have e2 : (y == ("__class__" : Str)) = false := by simpa using h
      have e3 : List.lookup y [(("__class__" : Str), cc)] = none := by simp [List.lookup, e2]
      rw [e3] at e
      cases e
  refine ⟨rfl, fun y c e => ?_, fun x y c e1 e2 => (one e1).1.trans (one e2).1.symm, fun i y hi => ?_⟩
  · obtain ⟨_, rfl⟩ := one e
    exact ⟨hc.2, _, _, hc.1, rfl⟩
  · match i, hi with
    | 0, hi =>
      obtain rfl : ("__class__" : Str) = y := Option.some.inj hi
      refine ⟨cc, by rw [T.cl]; simp [List.lookup], fun v hv => ?_⟩
      obtain rfl : V.ref C = v := Option.some.inj (Option.some.inj hv)
      exact ⟨.ref C, rfl, _, hc.1, rfl⟩
/-- such an __init__ keeps its promise -/
theorem fn_sup {k : Nat} {sp : Sp} (T : SupI P K C f cc F fd) (hsup : mg "super" = none) (S : NScope N ps ["__class__"] F.scope) {ar : Arg} {arg : Expr} {rest : List Stmt} {p0 p1 p2 p3 p4 : Pos}
    (hbd : F.body = .Expr (.Call (.Attribute (.Call (.Name "super" p0) [] [] p1) "__init__" p2) [arg] [] p3) p4 :: rest)
    (hp : (F.params.posonlyargs ++ F.params.args).head? = some ar) (hN : N[0]? = some ar.arg) (hkl : F.scope.names.lookup ar.arg = some .local) (hks : F.scope.names.lookup ("super" : Str) = some .globalImplicit) (hkc : F.scope.names.lookup ("__class__" : Str) = some .free)
    (he : ∀ L, starEach (arg :: []) (envF F f L) = (false, eval arg (envF F f L)) :: starEach [] (envF F f L))
    (hsw : ∀ L, swapsWith (.Call (.Attribute (.Call (.Name "super" p0) [] [] p1) "__init__" p2) [arg] [] p3) none p4.line (envF F f L) = pure false) (hin : ∀ L, interactive (envF F f L) = false)
    (hev : ∀ L, eval (.Call (.Attribute (.Call (.Name "super" p0) [] [] p1) "__init__" p2) [arg] [] p3) (envF F f L) = (do
      let ov ← attributeBase (.Call (.Name "super" p0) [] [] p1) "__init__" (envF F f L) (eval (.Call (.Name "super" p0) [] [] p1) (envF F f L))
      standAt p2.atName
      let (f', first) ← holding [ov] (getMethod ov "__init__" (pure false))
      callWith p3 f' first (backTo p3 (starEach [arg] (envF F f L))) []))
    (hcell : ∀ x ∈ F.scope.names, x.2 ≠ .cell)
    (len : ∀ vs H Q E, sp vs H Q E → vs.length = ps.length)
    (hw : ∀ (A : Around) (outer : List Env) (s : Shared) (H : Hp) (vs : List V) (Q : VK) (E : XK), Room k (A.deeper (envF F f s.heap.objs.size)) → sp vs H Q E →
      ∃ (ta : TA) (t : TS) (a : Addr), PA (ncx CX P w K mg base N F f A outer s H E) [arg] ta ∧ PSs (ncx CX P w K mg base N F f A outer s H E) rest t ∧ vs[0]? = some (.ref a) ∧ H a = some (exo a C none) ∧
        ta (startF N vs [some (.ref C)]) H (fun xs H1 => xs.length ≤ 1000 ∧ H1 a = some (exo a C none) ∧ t { nx := fun _ H' => Q .non H', rt := Q } (startF N vs [some (.ref C)]) H1)) :
    FnOk P w K mg base CX (k + 1) f fd ps sp := by
  refine ⟨len, fun A outer s H args us vs Q E hr e0 hb r hsp => ?_⟩
  have hl := len _ _ _ _ hsp
  have KX : K.In s.heap := e0.mod.kin.keeps fun b o e => (e0.bs b o e).1
  have lim : s.heap.NoLimit := e0.mod.nolimit.keeps fun b o e => (e0.bs b o e).1
  obtain ⟨oc, od, osl, kV, doc, pm, an, ct, hfd, lk⟩ := T.lk
  subst hfd
  refine ks_codeAny_call_defAt (fd := _) (body := F.body) (binds := ps.zip us) hr.depth (KX _ _ lk) rfl lim (PySem.W.codeRec_of KX T.cd) rfl hb hcell (fun ⟨n, _⟩ hy => S.par n (List.of_mem_zip hy).1) (fun h₁ hns kp => ?_) S.co S.gen S.kind
  obtain ⟨ta, t, a, hpa, ht, hv0, hH, hq⟩ := hw A outer s H vs Q E (hr.deeper _) hsp
  have I : Inv (ncx CX P w K mg base N F f A outer s H E) [] (startF N vs [some (.ref C)]) H { s with heap := h₁, toks := s.toks + (ps.zip us).length } := inv_startN S hr.hd e0 hl r (exc_cells T e0) hns kp
  have hσ : (startF N vs [some (V.ref C)])[0]? = some (some (.ref a)) := by
    unfold startF
    rw [List.getElem?_append_left (by rw [List.length_map]; exact (List.getElem?_eq_some_iff.mp hv0).1), List.getElem?_map, hv0]
    rfl
  rw [hbd]
  refine ks_wpAt_execs_cons ?_
  have st := super_stmt (p0 := p0) (p1 := p1) (p2 := p2) (p3 := p3) (p4 := p4) T hsup hp hN hkl hks hkc S.kind (he _) (hsw _) (hin _) (hev _) hpa I hσ hH hq
  rw [hbd] at st
  refine ks_wpAt_mono st (fun fl s1 h1 => ?_) fun e s' hs => hs
  obtain ⟨rfl, H1, I1, q1⟩ := h1
  refine wpAt_of_wpAny ?_
  refine wpAny_mono (ht.run [] _ _ H1 _ I1 q1) (fun fl s' hs => ?_) fun e s' hs => hs
  have fin : ∀ {σ' : L2.St} {H' : Hp} {v : V} {u : Value}, Inv (ncx CX P w K mg base N F f A outer s H E) [] σ' H' s' → L2.RelV v u → Q v H' → CE outer P w H s Q u s' :=
    fun {σ' H' v u} J rv q => ⟨v, H', J.os, J.bare, J.base, J.hok, rv, q⟩
  cases fl with
  | ret u =>
    obtain ⟨v, σ', H', J, rv, q⟩ := hs
    exact fin J rv q
  | next =>
    obtain ⟨σ', H', J, q⟩ := hs
    exact fin (v := V.non) (u := Value.none) J rfl q
  | brk =>
    obtain ⟨_, _, _, q⟩ := hs
    exact False.elim q
  | cont =>
    obtain ⟨_, _, _, q⟩ := hs
    exact False.elim q
end
/-- what C(vs) asks of C's __init__ -/
def MkIn (C : Addr) (sp : Sp) (vs : List V) (H1 : Hp) (Q : XK) : Prop := vs.length ≤ 1000 ∧ ∀ a, H1 a = none → sp (.ref a :: vs) (upd H1 a (exo a C none))
  (fun v H2 => v = .non ∧ ∃ (d : Addr) (fs : List (Str × V)), H2 a = some (exo a C (some d)) ∧ H2 d = some (exd d fs) ∧ H1 d = none ∧ Q (.ref C) (some d) (upd (del H2 a) d (.xd fs))) (fun _ _ _ => False)
/-- C(e, ..), a context of None -/
theorem pmk_sup {X : Cx} {CX : CXT} {x : Str} {e : Expr} {es : List Expr} {ta : TA} {p pos : Pos} {C fI : Addr} {k : Nat} {fd : FuncData} {ps : List Str} {sp : Sp} (T : OexC X.K C) (iC : PySem.W.findIn X.K (.ref C) "__init__" = some (some (.ref fI))) (tI : PySem.W.typeIn X.K (.ref fI) = some (.type "function"))
    (F1 : FnOk X.prog X.w X.K X.mg X.base CX k fI fd ps sp) (hr : Room (k + 1) X.A) (hb : Binds X.K fd ps []) (hx : Passes CX X (fun _ _ _ => False)) (hg : Gl X x) (hm : X.mg x = some (.ref C)) (ha : PA X (e :: es) ta) (Rd : List V → Hp → XK → Prop) (conv : ∀ vs H1 Q, Rd vs H1 Q → MkIn C sp vs H1 Q)
    (hdb : (x == ("__debug__" : Str)) = false := by decide) (he : starEach (e :: es) X.env = (false, eval e X.env) :: starEach es X.env := by rfl) (hpl : (backTo pos (starEach es X.env)).any (·.1) = false := by rfl) :
    L2N.PMk X (.Call (.Name x p) (e :: es) [] pos) (fun σ H Q => ta σ H fun vs H1 => Rd vs H1 Q) := by
  intro pins s σ H Q I h
  obtain ⟨nm, q, N, bs, bm, sn, sub, ab, col, dd, k0, k1, k2, k3, k5, hC, hbm⟩ := T.cls
  refine wpAny_Call_Name_kw (ld_glob I hg hm ?_ hdb)
  refine PySem.W.callWith_K (h₀ := X.base) I.ok.mod.kin T.kC (thn (ha.run pos pins s σ H _ I h) fun us s1 ⟨vs, H1, I1, r1, hrd⟩ => ⟨I1.kIn, ?_⟩) he hpl
  obtain ⟨hz, q1⟩ := conv _ _ _ hrd
  show wpAny _ _ (call (.ref C) us) _ _ _
  obtain ⟨hp, g, dr, tk, os⟩ := s1
  have hsz : hp.objs.size ≤ hp.objs.size + 1 := Nat.le_succ _
  have hn : H1 (hp.objs.size + 1) = none := I1.hok.fresh hsz
  have hq := q1 (hp.objs.size + 1) hn
  have kk : ∀ b o, hp.get? b = some o → ((hp.push (PySem.W.kdv_tup us)).push (PySem.HandSPX.excO C hp.objs.size)).get? b = some o := fun b o e => Heap.get?_push_of_some _ (Heap.get?_push_of_some _ e)
  have hget : ((hp.push (PySem.W.kdv_tup us)).push (PySem.HandSPX.excO C hp.objs.size)).get? (hp.objs.size + 1) = some (PySem.HandSPX.excO C hp.objs.size) := by heap_get
  have I2 : Inv X pins σ (upd H1 (hp.objs.size + 1) (exo (hp.objs.size + 1) C none)) ⟨(hp.push (PySem.W.kdv_tup us)).push (PySem.HandSPX.excO C hp.objs.size), g, dr, tk, os⟩ :=
    I1.laid (t' := tk) (a := hp.objs.size + 1) (o := exo (hp.objs.size + 1) C none) (h' := (hp.push (PySem.W.kdv_tup us)).push (PySem.HandSPX.excO C hp.objs.size)) kk hsz (exo_ok hget)
  have r2 : Vals (V.ref (hp.objs.size + 1) :: vs) (Value.ref (hp.objs.size + 1) :: us) := .cons rfl r1
  have hl : (Value.ref (hp.objs.size + 1) :: us ++ []).length = ps.length := by
    have e := r2.length
    rw [F1.len _ _ _ _ hq] at e
    rw [List.append_nil]
    exact e.symm
  have hus : us.length ≤ sizeLine := by
    rw [← r1.length, sizeLine_eq]
    omega
  have b2 := hb _ (Value.ref (hp.objs.size + 1) :: us) I2.kIn hl
  rw [List.append_nil] at b2
  refine wpAny_call (PySem.HandSPX.call_own PySem.F.excBase_ValueError (fun Y => PySem.HandSPX.refsVE_contains Y bm hbm) (I1.kIn _ _ hC) (PySem.W.looks_findIn I1.kIn iC) (fun self => PySem.W.bind_fn I1.kIn self tI) hus
    (codeAny_mono (F1.run _ X.stack _ _ ⟨Value.ref (hp.objs.size + 1) :: us, []⟩ (Value.ref (hp.objs.size + 1) :: us) _ _ (fun _ _ _ => False) (hr.make C us []) (I2.env0.make C us []) b2 r2 hq) fun r s' hq' => ?_))
  cases r with
  | error er => exact hx pins σ _ _ er s' I2 hq'
  | ok fl =>
    cases fl with
    | ret u =>
      obtain ⟨v, H2, os2, bare2, un2, hok2, rv, ev, d, fs, ea, ed, hd1, q2⟩ := hq'
      subst ev
      obtain ⟨h2, g2, d2, t2, os'⟩ := s'
      obtain ⟨t0, G, J, kG, ge, hoe, na⟩ := mk_end0 (d2 := d2) (t2 := t2) I1 hsz kk un2 hok2 os2 bare2 ea ed hd1
      refine ⟨rv, hp.objs.size + 1, _, _, ⟨G, g2, d2, t2, os'⟩, _, .ref C, some d, rfl, J, kG, ge, hoe, ⟨rfl, rfl, fun vs hv => ?_⟩, rfl, rfl, na, rfl, bare2, raises_own T.exC T.tyC, q2⟩
      cases hv
      rfl
    | next => exact False.elim hq'
    | brk => exact False.elim hq'
    | cont => exact False.elim hq'
end EL

set_option maxHeartbeats 400000
namespace EL
open PySem PySem.W PySem.Spec PyProof.Rows
section
variable {M : Model} {A : Around} {E : Value → Shared → Prop} {s : Shared} {K : Frag} {cls : Value}
theorem each_passes {body : Value → PUnit → Sem (ForInStep PUnit)} {Q : PUnit → Shared → Prop} : ∀ {cs : List Value}, (∀ c ∈ cs, ∀ Q', Q' (.yield PUnit.unit) s → wpAny M A (body c PUnit.unit) Q' E s) → Q PUnit.unit s → wpAny M A (forIn cs PUnit.unit body) Q E s
  | [], _, q => by rw [List.forIn_nil]; exact wpAny_pure q
  | c :: cs, hb, q => by
    rw [List.forIn_cons]
    exact wpAny_bind (hb c List.mem_cons_self _ (each_passes (fun d hd => hb d (List.mem_cons_of_mem _ hd)) q))
theorem first_hit {body : Value → Option Bool × Unit → Sem (ForInStep (Option Bool × Unit))} {Q : Option Bool × Unit → Shared → Prop} : ∀ {cs : List Value} {b : Bool}, exmAny K cls cs = some b →
    (∀ c v, exmOne K cls c = some v → ∀ Q', Q' (if v = true then .done (some true, ()) else .yield (none, ())) s → wpAny M A (body c (none, ())) Q' E s) → Q (if b = true then (some true, ()) else (none, ())) s → wpAny M A (forIn cs (none, ()) body) Q E s
  | [], b, e, _, q => by
    rw [List.forIn_nil]
    have e' : some false = some b := e
    cases e'
    exact wpAny_pure q
  | c :: cs, b, e, hb, q => by
    obtain ⟨b1, d1, x1, y1, z1⟩ := exmAny_cons e
    rw [List.forIn_cons]
    refine wpAny_bind (hb c b1 x1 _ ?_)
    cases b1 with
    | true =>
      rw [if_pos rfl]
      have : b = true := by rw [z1]; rfl
      subst this
      exact wpAny_pure q
    | false =>
      rw [if_neg Bool.false_ne_true]
      have : b = d1 := by rw [z1]; rfl
      subst this
      exact first_hit y1 hb q
end
theorem exmAny_mem {K : Frag} {cls : Value} : ∀ {cs : List Value} {b : Bool}, exmAny K cls cs = some b → ∀ c ∈ cs, ∃ v, exmOne K cls c = some v
  | [], _, _, c, hc => by cases hc
  | x :: cs, b, e, c, hc => by
    obtain ⟨b1, d1, x1, y1, _⟩ := exmAny_cons e
    rcases List.mem_cons.mp hc with rfl | h
    · exact ⟨b1, x1⟩
    · exact exmAny_mem y1 c h
/-- an exception against a tuple of classes, however many -/
theorem exm_tupN {M : Model} {K : Frag} {cs : List Value} {cls : Value} {tp e : Addr} {b : Bool} {h : Heap} (X : K.In h) (LT : Looks M h (typeOf (.ref e)) cls) (hp : ∃ n sl, h.get? tp = some { cls := .type "tuple", data := .seq cs.toArray n, slots := sl }) (hx : exmAny K cls cs = some b) :
    Looks M h (excMatches (.ref e) (.ref tp)) b := by
  intro A Q E s k q
  obtain ⟨n, sl, hp⟩ := hp
  have L0 : Looks M h (isInstance (.ref tp) (.type "tuple")) true := ((Looks.ld hp).andThen .now).andThen (Looks.of_pure isSubtype_tuple_tuple)
  obtain ⟨hh, g, d, tk, os⟩ := s
  have k' : ∀ b o, h.get? b = some o → hh.get? b = some o := k
  have L1 := L0.keeps k'
  unfold excMatches
  refine wpAny_bind (L1.at ?_)
  dsimp only
  rw [if_pos rfl]
  first
    | refine wpAny_bind (wpAny_seqItems (k' _ _ hp) rfl ?_)
    | refine wpAny_bind (wpAny_bind (wpAny_seqItems (k' _ _ hp) rfl (wpAny_pure ?_)))
  dsimp only [Option.getD_some, Option.getD]
  refine wpAny_bind (wpAny_pure (wpAny_bind (each_passes (fun c hc Q' q' => ?_) ?_)))
  · obtain ⟨v, hv⟩ := exmAny_mem hx c hc
    have L2 := (exm_cls (M := M) X hv).1.keeps k'
    refine wpAny_bind (L2.at ?_)
    exact wpAny_pure q'
  refine wpAny_bind ((LT.keeps k').at (wpAny_bind (first_hit hx (fun c v hv Q' q' => ?_) ?_)))
  · have L2 := (exm_cls (M := M) X hv).2.keeps k'
    refine wpAny_bind (L2.at ?_)
    cases v with
    | true => exact wpAny_pure q'
    | false => exact wpAny_pure q'
  · cases b with
    | true => exact wpAny_pure q
    | false => exact wpAny_pure q
end EL
namespace EL
open PySem PySem.Spec PyProof.Rows L2
open PySem.W (exmAny exmOne)
/-! ### except t as n, t a class or a tuple of classes -/
/-- t names the classes cs: itself, or a new tuple of them -/
def ClsE (X : Cx) (t : Expr) (cs : List Value) : Prop := ∀ (a : Addr) (pn : List (Addr × Obj)) (σ : L2.St) (H : Hp) (s : Shared) (Q : Value → Shared → Prop) (E : Value → Shared → Prop), Inv (X.suite a pn) [] σ H s →
  (∀ c h' tk', (∀ b o, s.heap.get? b = some o → h'.get? b = some o) → (cs = [c] ∨ ∃ tp n sl, c = .ref tp ∧ h'.get? tp = some { cls := .type "tuple", data := .seq cs.toArray n, slots := sl }) → Q c { s with heap := h', toks := tk' }) →
  wpAny (model X.prog X.w) (X.A.mark (some (.ref a))) (eval t X.env) Q E s
theorem cls_one {X : Cx} {x : Str} {c : Value} {p : Pos} (h : Names X x c) : ClsE X (.Name x p) [c] := by
  intro a pn σ H s Q E I q
  have q' : Q c s := q c s.heap s.toks (fun _ _ e => e) (.inl rfl)
  obtain ⟨hg, hd, hm | ⟨hm, hv, hn⟩⟩ := h
  · exact ld_glob (X := X.suite a pn) I hg hm q' hd
  · exact ld_blt (X := X.suite a pn) I hg hm hv q' hn hd
inductive NamesL (X : Cx) : List Expr → List Value → Prop
  | nil : NamesL X [] []
  | cons {x : Str} {c : Value} {p : Pos} {es : List Expr} {cs : List Value} (h : Names X x c) (r : NamesL X es cs) : NamesL X (.Name x p :: es) (c :: cs)
theorem names_run {X : Cx} {a : Addr} {pn : List (Addr × Obj)} {σ : L2.St} {H : Hp} {s : Shared} {E : Value → Shared → Prop} {pos : Pos} (I : Inv (X.suite a pn) [] σ H s) : ∀ {es : List Expr} {cs : List Value}, NamesL X es cs → ∀ {Q : List Value → Shared → Prop}, Q cs s →
    wpAny (model X.prog X.w) (X.A.mark (some (.ref a))) (spliced (backTo pos (starEach es X.env))) Q E s := by
  intro es cs h
  induction h with
  | nil => intro Q q; exact Calls.spliced_nil q
  | cons h r ih =>
    intro Q q
    refine Calls.spliced_cons ?_
    have k := ih (Q := fun vs s2 => Q (_ :: vs) s2) q
    obtain ⟨hg, hd, hm | ⟨hm, hv, hn⟩⟩ := h
    · exact ld_glob (X := X.suite a pn) I hg hm k hd
    · exact ld_blt (X := X.suite a pn) I hg hm hv k hn hd
theorem cls_tup {X : Cx} {es : List Expr} {cs : List Value} {x1 : Nat} {p : Pos} (h : NamesL X es cs) (hl : cs.length ≤ 1000) : ClsE X (.Tuple es x1 p) cs := by
  intro a pn σ H s Q E I q
  refine wpAny_Tuple_spliced (names_run I h ⟨by rw [sizeLine_eq]; omega, ?_⟩)
  exact q _ _ s.toks (fun _ _ e => Heap.get?_push_of_some _ e) (.inr ⟨_, _, _, rfl, Heap.get?_push_size _ rfl⟩)
/-- what the clauses wish of an exception of the body, in their order; slot i is the name behind as -/
def wCl (K : PySem.W.Frag) (i : Nat) (Wout : WX) (D : Ends) : List (List Value × (Addr → Value → Option Addr → TS)) → WX
  | [] => Wout
  | (cs, ts) :: r => fun cls d σ H => ∃ b, exmAny K cls cs = some b ∧
      (b = true → ∀ a, H a = none → ts a cls d { nx := fun σ' H' => D.nx (σ'.set i none) H', rt := D.rt, bk := fun σ' H' => D.bk (σ'.set i none) H', ct := fun σ' H' => D.ct (σ'.set i none) H' } (σ.set i (some (.ref a))) H) ∧
      (b = false → wCl K i Wout D r cls d σ H)
inductive CsOk (X : Cx) (n : Str) : List ExceptHandler → List (List Value × (Addr → Value → Option Addr → TS)) → Prop
  | nil : CsOk X n [] []
  | cons {t : Expr} {cs : List Value} {ts : Addr → Value → Option Addr → TS} {b₀ : Stmt} {suite : List Stmt} {pos' : Pos} {hds : List ExceptHandler} {l : List (List Value × (Addr → Value → Option Addr → TS))} (ht : ClsE X t cs)
      (hsu : ∀ (a : Addr) (oe : Obj) (cls : Value) (d : Option Addr) (pn : List (Addr × Obj)), L2N.Zn cls d oe → (∃ vs, oe.data = .fields vs) → PSs (X.suite a ((a, oe) :: pn)) (b₀ :: suite) (ts a cls d)) (r : CsOk X n hds l) :
      CsOk X n (.ExceptHandler (some t) (some n) (b₀ :: suite) pos' :: hds) ((cs, ts) :: l)
theorem exm_cs {K : PySem.W.Frag} {M : Model} {cs : List Value} {cls c : Value} {e : Addr} {b : Bool} {h : Heap} (X : K.In h) (LT : PySem.W.Looks M h (typeOf (.ref e)) cls) (hx : exmAny K cls cs = some b)
    (hc : cs = [c] ∨ ∃ tp n sl, c = .ref tp ∧ h.get? tp = some { cls := .type "tuple", data := .seq cs.toArray n, slots := sl }) : PySem.W.Looks M h (excMatches (.ref e) c) b := by
  rcases hc with rfl | ⟨tp, n, sl, rfl, hp⟩
  · obtain ⟨b1, d1, h1, h2, rfl⟩ := PySem.W.exmAny_cons hx
    have e2 : some false = some d1 := h2
    cases e2
    rw [Bool.or_false]
    exact PySem.W.exm_one X LT h1
  · exact exm_tupN X LT ⟨n, sl, hp⟩ hx
theorem flying_more {B h h' : Heap} {l : List Env} {a : Addr} {Z : Obj → Prop} (x : HandSPX.FlyingZ B l a Z h) (k : ∀ b o, h.get? b = some o → h'.get? b = some o) : HandSPX.FlyingZ B l a Z h' := by
  obtain ⟨h1, h2, h3, oe, vs, T, oT, ts, g1, g2, g3, g4, g5, g6, g7, g8, g9⟩ := x
  exact ⟨fun b o e => k _ _ (h1 b o e), h2, Heap.FunFrames.of_keeps (fun b o e _ => ⟨o, k b o e, rfl⟩) h3, oe, vs, T, oT, ts, k _ _ g1, g2, g3, g4, g5, g6, k _ _ g7, g8, g9⟩
section
variable {X : Cx} {n : Str} {i : Nat} {body : List Stmt} {h₀ : ExceptHandler} {hds : List ExceptHandler} {l : List (List Value × (Addr → Value → Option Addr → TS))} {pos : Pos} {tb : WX → TS} {Wout : WX}
theorem ps_tryC (hs : X.stack = X.env :: X.outer) (hf : X.env.frame = some X.env.locals) (hN : X.N.Nodup) (hi : X.N[i]? = some n) (hln : X.env.kindOf n = some .local) (tk : L2N.Takes X Wout)
    (hb : ∀ (W : WX) (pn : List (Addr × Obj)) (xe : Value → Shared → Prop), L2N.Takes (X.tr pn xe) W → PassesOwn (model X.prog X.w) X.A X.env xe → PSs (X.tr pn xe) body (tb W))
    (hh : CsOk X n (h₀ :: hds) l) : PS X (.Try body (h₀ :: hds) [] [] pos) (fun D σ H => tb (wCl X.K i Wout D l) D σ H) := by
  refine ⟨fun pins s σ H D I0 hw => ?_⟩
  have ok := I0.ok
  have hfr : X.A.frames = some (X.env :: X.outer) := by rw [ok.frames, hs]
  have hloc : Loc X.env.scope n := Or.inl hln
  refine wpAny_Try_except ?_
  have run := (hb (wCl X.K i Wout D l) (X.pn ++ pins) (fun e s₁ => wpAny (model X.prog X.w) X.A (noteFrame e X.env) (fun _ s₂ => wpAny (model X.prog X.w) X.A (setFlight e none) (fun _ s₃ => wpAny (model X.prog X.w) X.A (handleBy e X.env (h₀ :: hds)) (SP X pins D) X.xe s₃) X.xe s₂) X.xe s₁)
    (fun u s' xx => ?_) PassesOwn.looking).run [] s σ H D (I0.toTry _) hw
  · refine wpAny_mono run (fun fl s1 hsp => ?_) fun _ _ he => he
    cases fl with
    | next => obtain ⟨σ', H', J, q⟩ := hsp; exact wpAny_execs_nil ⟨σ', H', J.ofTry ok, q⟩
    | brk => obtain ⟨σ', H', J, q⟩ := hsp; exact ⟨σ', H', J.ofTry ok, q⟩
    | cont => obtain ⟨σ', H', J, q⟩ := hsp; exact ⟨σ', H', J.ofTry ok, q⟩
    | ret u => obtain ⟨v, σ', H', J, r, q⟩ := hsp; exact ⟨v, σ', H', J.ofTry ok, r, q⟩
  obtain ⟨a, B, sI, pins', σ', H', cls, d, rfl, J', nb, up0, sky, na, os, ag, w0⟩ := xx
  have J : Inv X pins σ' H' sI := J'.ofTry ok
  have sky' : Sky B (X.env :: X.outer) a (L2N.Zn cls d) X.env.locals s'.heap := by rw [← hs]; exact sky
  show wpAny (model X.prog X.w) X.A (noteFrame (.ref a) X.env) _ _ _
  refine L2N.Sky.land L2N.Zn.steady hfr hf sky' fun hA flA upA => ?_
  -- the clauses, one after the other, in a heap that may have grown
  have go : ∀ {cl : List ExceptHandler} {wl : List (List Value × (Addr → Value → Option Addr → TS))}, CsOk X n cl wl → ∀ (h3 : Heap) (tk3 : Nat), HandSPX.FlyingZ B (X.env :: X.outer) a (L2N.Zn cls d) h3 → sI.heap.UpToSlots h3 → wCl X.K i Wout D wl cls d σ' H' →
      wpAny (model X.prog X.w) X.A (handleBy (.ref a) X.env cl) (SP X pins D) X.xe { s' with heap := h3, toks := tk3 } := by
    intro cl wl hk
    induction hk with
    | nil =>
      intro h3 tk3 fl3 up3 w
      obtain ⟨_, _, _, oe, vs, T, oT, _, he, _, hd, h1, _⟩ := id fl3
      refine wpAny_handleBy_nil ?_
      unfold PySem.passOn
      refine wpAny_bind (wpAny_field he hd h1 ?_)
      rw [if_neg (show ¬ ((Value.ref T == Value.none) = true) by simp)]
      have fin : wpAny (model X.prog X.w) X.A (setFlight (.ref a) X.env.frame) (fun _ s4 => wpAny (model X.prog X.w) X.A (throw (.ref a) : Sem Flow) (SP X pins D) X.xe s4) X.xe { s' with heap := h3, toks := tk3 } := by
        rw [hf]
        exact HandSPX.setFlight_upZ fl3 fun h4 hh4 up4 => wpAny_throw (tk _ _ ⟨a, B, sI, pins, σ', H', cls, d, rfl, J, nb, up3.trans up4, .inr (.inr (by rw [hs]; exact hh4)), na, os, ag, w⟩)
      first
        | exact wpAny_bind (wpAny_pure (wpAny_bind fin))
        | exact wpAny_bind fin
    | @cons t cs ts b₀ suite pos' hds2 l2 ht hsu r ih =>
      intro h3 tk3 fl3 up3 w
      obtain ⟨b, hb1, hyes, hno⟩ := w
      have landed : ∀ {h : Heap} {tk' : Nat}, HandSPX.FlyingZ B (X.env :: X.outer) a (L2N.Zn cls d) h → sI.heap.UpToSlots h → Inv X pins σ' H' { s' with heap := h, toks := tk' } := fun {h tk'} fl up => J.landed nb fl.1 up os ag
      have J3 := landed (tk' := tk3) fl3 up3
      obtain ⟨oe3, vs3, he3, hz3, hd3⟩ := fl3.there
      have nfr : a ∉ frs (X.env :: X.outer) := fun hm => by
        obtain ⟨_, o', e', hnf⟩ := fl3.2.2.1.mem hm
        rw [he3] at e'
        cases e'
        exact hnf _ hd3
      have nL : a ≠ X.env.locals := fun z => nfr (List.mem_filterMap.mpr ⟨X.env, List.mem_cons_self, by rw [hf, z]⟩)
      have nF : a ∉ X.fs := fun hm => by
        obtain ⟨e, he, q⟩ := List.mem_filterMap.mp hm
        exact nfr (List.mem_filterMap.mpr ⟨e, List.mem_cons_of_mem _ he, q⟩)
      have S3 := J3.suite he3 hd3 na nL nF
      refine wpAny_handleBy_cons (codeAny_handlers_test (ht a _ _ _ _ _ _ S3 fun c h4 tk4 k4 hc => ?_)) (by intro q; cases q)
      have fl4 := flying_more fl3 k4
      have up4 := up3.trans (Heap.UpToSlots.of_keeps k4)
      have LT : PySem.W.Looks (model X.prog X.w) h4 (typeOf (.ref a)) cls := fun A Q E s k q => wpAny_typeOf_ref (k _ _ (k4 _ _ he3)) (by rw [hz3.1]; exact q)
      refine (exm_cs (landed (tk' := tk4) fl4 up4).kIn LT hb1 hc).here ?_
      cases b with
      | false =>
        show wpAny _ X.A (handleBy (.ref a) X.env hds2) _ _ _
        exact ih h4 tk4 fl4 up4 (hno rfl)
      | true =>
        refine codeAny_handlers_suite_as (HandSPX.lands_againZ fl4 fun h5 fl5 up5 => ?_)
        have J5 := landed (tk' := tk4) fl5 (up4.trans up5)
        obtain ⟨oe5, vs5, he5, hz5, hd5⟩ := fl5.there
        refine store_ok (X := X.suite a ((a, oe5) :: (X.pn ++ pins))) (v := .ref a) (J5.suite he5 hd5 na nL nF) hN hi hloc rfl (fun s5 S5 => ?_) (.inr hln)
        refine wpAny_mono ((hsu a oe5 cls d (X.pn ++ pins) hz5 ⟨_, hd5⟩).run [] s5 _ H' _ S5 (hyes rfl a na)) (fun fl s6 hsp => ?_) fun _ _ z => z.elim
        have bye : ∀ {σ6 : L2.St} {H6 : Hp} {Q : Shared → Prop}, Inv (X.suite a ((a, oe5) :: (X.pn ++ pins))) [] σ6 H6 s6 → (∀ s7, Inv X pins (σ6.set i none) H6 s7 → Q s7) →
            wpAny (model X.prog X.w) X.A (do bindName X.env n .none; unbindBehindTheSuite X.env n pos') (fun _ s7 => Q s7) X.xe s6 := fun {σ6 H6 Q} S6 hq => gone_ok (S6.unsuite ok) hN hi hln hq
        cases fl with
        | next => obtain ⟨σ6, H6, S6, q⟩ := hsp; exact bye S6 fun s7 J7 => ⟨_, _, J7, q⟩
        | brk => obtain ⟨σ6, H6, S6, q⟩ := hsp; exact bye S6 fun s7 J7 => ⟨_, _, J7, q⟩
        | cont => obtain ⟨σ6, H6, S6, q⟩ := hsp; exact bye S6 fun s7 J7 => ⟨_, _, J7, q⟩
        | ret u => obtain ⟨v, σ6, H6, S6, r, q⟩ := hsp; exact bye S6 fun s7 J7 => ⟨_, _, _, J7, r, q⟩
  exact go hh hA s'.toks flA (up0.trans upA) w0
end
end EL

set_option maxHeartbeats 400000
/-! EL3: defs that are called while an exception is handled and that know it; isinstance of it; a list comprehension there. -/
namespace EL
open PySem PySem.Spec PyProof.Rows L2 HotX L2H
/-! ### the end of a list's iterator, an exception being handled -/
theorem next_end_hot {prog : Program} {w : World} {A : Around} {E : Value → Shared → Prop} {s : Shared} {it l x1 : Addr} {i : Nat} {items : Array Value} {Q : Option Value → Shared → Prop} (hot : HotAt A x1 s.heap) (hne : x1 ≠ it)
    (hit : s.heap.IsListIter it l i) (hl : s.heap.IsList l items) (hx : items[i]? = none) (hQ : ∀ h', Heap.ExtBut it s.heap h' → Q none { s with heap := h' }) : wpAny (model prog w) A (pyNext (.ref it)) Q E s := by
  obtain ⟨hh, o1, vs1, g1, d1, c1⟩ := hot
  obtain ⟨oi, gi, ci, di⟩ := id hit
  obtain ⟨ol, gl, _, nl, dl⟩ := hl
  unfold pyNext
  refine wpAny_bind (wpAny_attempt (wpAny_callSpecial?_slot (name := Str.ofString "__next__") hit.typeIs PySem.slot_listiter_next (wpAny_call_entry PySem.slot_listiter_next hit.typeIs PySem.entry_listiter_next ?_ (PySem.args_listiter_next _))))
  show wpAny _ _ (field (.ref it) 0 >>= _) _ _ s
  refine wpAny_bind (wpAny_field gi di (x := .ref l) rfl ?_)
  show wpAny _ _ (if (Value.ref l == Value.none) = true then _ else _) _ _ s
  rw [if_neg (show ¬ ((Value.ref l == Value.none) = true) from Bool.false_ne_true)]
  show wpAny _ _ (field (.ref it) 1 >>= _) _ _ s
  refine wpAny_bind (wpAny_field gi di (x := .int i 0) rfl ?_)
  show wpAny _ _ (seqItems? (.ref l) >>= _) _ _ s
  refine wpAny_bind (wpAny_seqItems gl dl ?_)
  simp only [Int.toNat_natCast, hx]
  refine wpAny_bind (wpAny_rule (wpAny_bind (wpAny_setField gi di (by simp) ?_)))
  show wpAny _ _ (newExc (.type "StopIteration") [] >>= _) _ _ _
  refine wpAny_bind ?_
  simp only [newExc, newTuple]
  refine wpAny_bind (wpAny_newObj_type ?_ (by size_fits))
  refine wpAny_bind (m := firstArgMember _ _) (wpAny_of_eq (a := Value.none) (by first | rfl | (simp only [firstArgMember]; rfl)) ?_)
  refine wpAny_newObj_type ?_ (by size_fits)
  have g2 := (Heap.get?_update_other s.heap (Obj.mapFields (·.setIfInBounds 0 Value.none)) (Ne.symm hne)).trans g1
  refine raiseNew_hot ⟨hh, o1, vs1, Heap.get?_push_of_some _ (Heap.get?_push_of_some _ g2), d1, c1⟩ (Nat.ne_of_lt (Heap.lt_size (Heap.get?_push_of_some _ g2))) (Heap.get?_push_size _ rfl) rfl (by first | (simp; done) | (simp; omega)) ?_
  refine wpAny_bind (wpAny_isInstance (T := "StopIteration") (b := true) ⟨_, Heap.get?_update_self _ (Heap.get?_push_size _ rfl) rfl, rfl⟩ isSubtype_stop ?_)
  refine wpAny_pure (hQ _ fun b o hb e => ?_)
  have e2 := (Heap.get?_update_other s.heap (Obj.mapFields (·.setIfInBounds 0 Value.none)) (Ne.symm hb)).trans e
  rw [Heap.get?_update_other _ _ (Nat.ne_of_gt (Heap.lt_size (Heap.get?_push_of_some _ e2)))]
  exact Heap.get?_push_of_some _ (Heap.get?_push_of_some _ e2)
/-! ### [elt for tg in a list if ..], an exception being handled; nothing but the new list changes -/
def tLcH (K : PySem.W.Frag) (tl : TE) (g : TG) (tt : TT) (te : TE) (vs : List Nat) : TE := fun σ H Q => tl σ H fun x H1 => ∃ (l : Addr) (xs : List V), x = .ref l ∧ SqL K H1 l xs ∧ ∀ D, H1 D = none → ∃ P : Nat → List V → Prop, P 0 [] ∧
  (∀ i y acc, xs[i]? = some y → P i acc → g y (wipe σ vs) (upd H1 D (.lst acc)) fun σ2 H2 => H2 = upd H1 D (.lst acc) ∧ wipe σ2 vs = wipe σ vs ∧ tt σ2 H2 fun b H3 => H3 = upd H1 D (.lst acc) ∧
    if b = true then te σ2 H3 fun v H4 => H4 = upd H1 D (.lst acc) ∧ acc.length < sizeLine ∧ P (i + 1) (acc ++ [v]) else P (i + 1) acc) ∧
  ∀ acc, P xs.length acc → Q (.ref D) (upd H1 D (.lst acc))
section
variable {X : Cx}
theorem pe_lcH {elt tg iter : Expr} {ifs : List Expr} {scope : Scope} {own : List (Str × Nat)} {pos : Pos} {tl : TE} {g : TG} {tt : TT} {te : TE} (hc : HotC X) (hN : X.N.Nodup) (hl : PE X iter tl) (ok : BlkOk X.N X.env.scope scope own)
    (hg : ∀ (s : Shared) (H : Hp) (C : Addr) (cl : List (Str × Addr)) (fp : List Addr), PG (X.blk s H scope (compEnvC scope cl C X.env) fp) tg g) (ht : ∀ (s : Shared) (H : Hp) (C : Addr) (cl : List (Str × Addr)) (fp : List Addr), PTs (X.blk s H scope (compEnvC scope cl C X.env) fp) ifs tt)
    (he : ∀ (s : Shared) (H : Hp) (C : Addr) (cl : List (Str × Addr)) (fp : List Addr), PE (X.blk s H scope (compEnvC scope cl C X.env) fp) elt te) (hs : ∀ x, foldedSetIterable iter X.env x = pure x := by intro _; rfl) :
    PE X (.ListComp elt [⟨tg, iter, ifs, 0⟩] scope pos) (tLcH X.K tl g tt te (own.map (·.2))) := by
  obtain ⟨p, hot, hp⟩ := hc
  refine ⟨fun pins s σ H Q I h => ?_⟩
  have cells : ∀ y ∈ scope.names, y.2 = .free → ∃ c, X.env.cells.lookup y.1 = some c := fun y hy e => (ok.free y hy e).elim (fun k => I.ok.has _ (.inl k)) fun k => I.ok.has _ (.inr k)
  rw [eval_ListComp]
  refine wpAny_comprehension_free (use := none) rfl hs (closure_ok cells) ok.kind (fun y hy e => by rw [ok.uniq y hy, e]) (thn (hl.run pins s σ H _ I h) fun xv s1 hx => ?_)
  obtain ⟨x, H1, I1, r1, l, xs, rfl, hS, q⟩ := hx
  obtain rfl : xv = Value.ref l := r1
  obtain ⟨its, rv, pl, hz⟩ := I1.list hS
  refine wpAny_pyIter_list pl.isList ?_
  refine wpAny_newObj_type (newEnv_comp ?_) (by show 0 ≤ sizeLine; decide)
  -- the iterator at it, the new list at D
  generalize hit : s1.heap.objs.size = it
  generalize hs2 : ({ s1 with heap := s1.heap.push { cls := .type "list_iterator", data := .fields #[.ref l, .int 0 0] } } : Shared) = s2
  have e2 : s2.heap = s1.heap.push { cls := .type "list_iterator", data := .fields #[.ref l, .int 0 0] } := by rw [← hs2]
  have I2 : Inv X pins σ H1 s2 := by rw [← hs2]; exact I1.kept (t' := s1.toks) fun b o e => Heap.get?_push_of_some _ e
  have st2 : s2.heap.IsListIter it l 0 := by rw [e2, ← hit]; exact ⟨_, Heap.get?_push_size _ rfl, rfl, rfl⟩
  have fit : FpOk X pins H1 it := I1.fpOk (Nat.le_of_eq hit) (I1.hok.fresh (Nat.le_of_eq hit))
  generalize hD : s2.heap.objs.size = D
  have hDn : H1 D = none := I2.hok.fresh (Nat.le_of_eq hD)
  obtain ⟨P, p0, step, fin⟩ := q D hDn
  generalize hs3 : ({ s2 with heap := s2.heap.push { cls := .type "list", data := .seq ([] : List Value).toArray } } : Shared) = s3
  have e3 : s3.heap = s2.heap.push { cls := .type "list", data := .seq ([] : List Value).toArray } := by rw [← hs3]
  have I3 : Inv X pins σ (upd H1 D (.lst [])) s3 := by
    rw [← hs3]
    refine I2.laid (t' := s2.toks) (fun b o e => Heap.get?_push_of_some _ e) (Nat.le_of_eq hD) ⟨Nat.zero_le _, [], 0, .nil, ?_⟩
    rw [← hD]
    exact Heap.get?_push_size _ rfl
  have itlt : it < s2.heap.objs.size := by obtain ⟨o, e, _⟩ := st2; exact Heap.lt_size e
  have itD : it ≠ D := by rw [← hD]; exact Nat.ne_of_lt itlt
  have st3 : s3.heap.IsListIter it l 0 := st2.at fun o e => by rw [e3]; exact Heap.get?_push_of_some _ e
  have fit3 : ∀ b ∈ [it], FpOk X pins (upd H1 D (.lst [])) b ∧ b < s3.heap.objs.size := fun b hb => by
    obtain rfl : b = it := by simpa using hb
    exact ⟨⟨by rw [upd_ne itD]; exact fit.1, fit.2⟩, by rw [e3, Heap.size_push]; exact Nat.lt_succ_of_lt itlt⟩
  -- the exception that is handled
  obtain ⟨pg0, pf0, pL0, pF0, pc0⟩ := I1.pin p (List.mem_append_left _ hp)
  have plt : p.1 < s1.heap.objs.size := Heap.lt_size pg0
  have pit : p.1 ≠ it := by rw [← hit]; exact Nat.ne_of_lt plt
  have pg3 : s3.heap.get? p.1 = some p.2 := by rw [e3, e2]; exact Heap.get?_push_of_some _ (Heap.get?_push_of_some _ pg0)
  have pD : p.1 ≠ D := by rw [← hD, e2, Heap.size_push]; exact Nat.ne_of_lt (Nat.lt_succ_of_lt plt)
  have I4 := block_start I3 ok hN fit3
  have pg := hg s3 (upd H1 D (.lst [])) s3.heap.objs.size (cellsFrom (s3.heap.objs.size + 1) scope.names (cloFrom X.env.cells scope.names [])) [it]
  have pt := ht s3 (upd H1 D (.lst [])) s3.heap.objs.size (cellsFrom (s3.heap.objs.size + 1) scope.names (cloFrom X.env.cells scope.names [])) [it]
  have pe := he s3 (upd H1 D (.lst [])) s3.heap.objs.size (cellsFrom (s3.heap.objs.size + 1) scope.names (cloFrom X.env.cells scope.names [])) [it]
  show codeAny _ _ (.compStart (.ListComp elt [⟨tg, iter, ifs, 0⟩] scope pos) 0 (.ref it) (.ref D) (compEnvC scope (cellsFrom (s3.heap.objs.size + 1) scope.names (cloFrom X.env.cells scope.names [])) s3.heap.objs.size X.env)) (compPost (model X.prog X.w) X.A X.xe none _ (.ref D) s3.heap.objs.size) { s3 with heap := pushCells (s3.heap.push { cls := .type "dict", data := .dict #[] }) scope.names }
  generalize hce : compEnvC scope (cellsFrom (s3.heap.objs.size + 1) scope.names (cloFrom X.env.cells scope.names [])) s3.heap.objs.size X.env = ce at I4 pg pt pe ⊢
  have cL : ce.locals = s3.heap.objs.size := by subst hce; rfl
  generalize hs4 : ({ s3 with heap := pushCells (s3.heap.push { cls := .type "dict", data := .dict #[] }) scope.names } : Shared) = s4 at I4 ⊢
  have k4 : ∀ b o, s3.heap.get? b = some o → s4.heap.get? b = some o := fun b o e => by rw [← hs4]; exact pushCells_keeps _ _ _ _ (Heap.get?_push_of_some _ e)
  have st4 := st3.at (h' := s4.heap) fun o e => k4 _ _ e
  have I5 : Inv (X.blk s3 (upd H1 D (.lst [])) scope ce [it]) [p] (wipe σ (own.map (·.2))) (upd H1 D (.lst [])) s4 := I4.pins_of fun z hz => by
    obtain rfl : z = p := by simpa using hz
    refine ⟨k4 _ _ pg3, by rw [upd_ne pD]; exact pf0, ?_, ?_, pc0⟩
    · show z.1 ≠ ce.locals
      rw [cL]
      exact Nat.ne_of_lt (Heap.lt_size pg3)
    · intro hm
      exact (List.mem_cons.mp (I3.stkSub z.1 hm)).elim pL0 pF0
  have stat : ∀ {σ' : L2.St} {H' : Hp} {s' : Shared}, Inv (X.blk s3 (upd H1 D (.lst [])) scope ce [it]) [p] σ' H' s' → H' it = none → FpOk (X.blk s3 (upd H1 D (.lst [])) scope ce [it]) [p] H' it := fun {σ' H' s'} J hn =>
    ⟨hn, (J.ok.exf it List.mem_cons_self).1, J.ok.exfs it List.mem_cons_self, .inl List.mem_cons_self, fun x c e => (J.ok.exf it List.mem_cons_self).2 x c e, fun z hz => by
      obtain rfl : z = p := by simpa using hz
      exact pit⟩
  have itn : ∀ acc, (upd H1 D (.lst acc)) it = none := fun acc => by rw [upd_ne itD]; exact fit.1
  have loop : codeAny (model X.prog X.w) X.A (.compLoop (.ListComp elt [⟨tg, iter, ifs, 0⟩] scope pos) 0 (.ref it) (.ref D) ce) (compPost (model X.prog X.w) X.A X.xe none (EP X pins σ Q) (.ref D) s3.heap.objs.size) s4 := by
    refine compLoop_any (fun n s' => ∃ i acc, n = xs.length - i ∧ i ≤ xs.length ∧ Inv (X.blk s3 (upd H1 D (.lst [])) scope ce [it]) [p] (wipe σ (own.map (·.2))) (upd H1 D (.lst acc)) s' ∧ s'.heap.IsListIter it l i ∧ P i acc) ?_ xs.length ⟨0, [], (Nat.sub_zero _).symm, Nat.zero_le _, I5, st4, p0⟩
    rintro n s5 ⟨i, acc, hn, hi, J, st5, pi⟩
    obtain ⟨its5, rv5, pl5, hz5⟩ := J.list ((Same.new hDn).seq hS : SqL X.K (upd H1 D (.lst acc)) l xs)
    have hl5 := rv5.length
    cases hx : xs[i]? with
    | none =>
      have hi2 : xs.length ≤ i := List.getElem?_eq_none_iff.mp hx
      obtain rfl : i = xs.length := Nat.le_antisymm hi hi2
      obtain ⟨pg5, _⟩ := J.pin p (List.mem_append_right _ List.mem_cons_self)
      obtain ⟨hh, vs, hd, hv⟩ := hot
      obtain ⟨_, f1, f2, f3, f4, f5⟩ := stat J (itn acc)
      refine next_end_hot ⟨hh, _, vs, pg5, hd, hv⟩ pit st5 pl5.isList (by simp; omega) fun h' eb => ?_
      have J2 : Inv (X.blk s3 (upd H1 D (.lst [])) scope ce [it]) [p] (wipe σ (own.map (·.2))) (upd H1 D (.lst acc)) { s5 with heap := h' } := J.turned (t' := s5.toks) (fun b o hb e => eb b o hb e) (itn acc) f1 f3 f4 f5
      have J3 : Inv X pins σ (upd H1 D (.lst acc)) { s5 with heap := h' } := I3.call' (ch := [it]) J2.os J2.base J2.hok J2.bare fun b hb => ⟨(fit3 b hb).1.2.2.2.1, (fit3 b hb).1.2.1, (fit3 b hb).1.2.2.2.2.1, (fit3 b hb).1.2.2.2.2.2⟩
      have nC : (upd H1 D (.lst acc)) s3.heap.objs.size = none := by
        have z : (upd H1 D (.lst acc)) ce.locals = none := J2.free
        rw [cL] at z
        exact z
      obtain ⟨m, hm, _⟩ := J2.loc
      have hm : h'.Ns ce.locals m := hm
      rw [cL] at hm
      have fC := I3.fpOk (Nat.le_refl _) nC
      obtain ⟨c0, c1, c2, c3, c4, c5⟩ := fC
      exact ⟨m, hm, fun h'' sb => ⟨.ref D, _, J3.turned (t' := s5.toks) (fun b o hb e => (sb.2 b hb).trans e) c0 c1 c3 c4 c5, rfl, fin acc pi⟩⟩
    | some y =>
      obtain ⟨u, hu, ru⟩ := rv5.get hx
      have hi3 : i < xs.length := (List.getElem?_eq_some_iff.mp hx).1
      obtain ⟨_, f1, f2, f3, f4, f5⟩ := stat J (itn acc)
      refine wpAny_pyNext_list_item st5 pl5.isList (x := u) (by simpa using hu) fun h' st6 sb => ?_
      have J2 : Inv (X.blk s3 (upd H1 D (.lst [])) scope ce [it]) [p] (wipe σ (own.map (·.2))) (upd H1 D (.lst acc)) { s5 with heap := h' } := J.turned (t' := s5.toks) (fun b o hb e => (sb.2 b hb).trans e) (itn acc) f1 f3 f4 f5
      obtain ⟨oi, gi, ci, di⟩ := id st6
      refine go_of (s := { s5 with heap := h' }) gi ci di (by decide) ?_
      have J3 : Inv (X.blk s3 (upd H1 D (.lst [])) scope ce [it]) ([p] ++ [(it, oi)]) (wipe σ (own.map (·.2))) (upd H1 D (.lst acc)) { s5 with heap := h' } := J2.pins_of fun z hz => by
        rcases List.mem_append.mp hz with hz | hz
        · exact J2.pin z (List.mem_append_right _ hz)
        · obtain rfl : z = (it, oi) := by simpa using hz
          exact ⟨gi, itn acc, f1, f2, fun v z => by rw [di] at z; cases z⟩
      refine thnF (pg.run _ _ _ _ y u _ J3 ru (step i y acc hx pi)) fun _ s8 ⟨σ8, H8, I8, eH8, hw8, q8⟩ => ?_
      subst eH8
      refine thnF (pt.run _ s8 σ8 _ _ I8 q8) fun b s9 ⟨H9, I9, eH9, q9⟩ => ?_
      subst eH9
      have done : ∀ {s' : Shared} {acc' : List V}, Inv (X.blk s3 (upd H1 D (.lst [])) scope ce [it]) ([p] ++ [(it, oi)]) σ8 (upd H1 D (.lst acc')) s' → P (i + 1) acc' → ∃ m, m < n ∧ ∃ i acc, m = xs.length - i ∧ i ≤ xs.length ∧
          Inv (X.blk s3 (upd H1 D (.lst [])) scope ce [it]) [p] (wipe σ (own.map (·.2))) (upd H1 D (.lst acc)) s' ∧ s'.heap.IsListIter it l i ∧ P i acc := fun {s' acc'} J' pn => by
        have g := (J'.pin (it, oi) (List.mem_append_right _ (List.mem_append_right _ List.mem_cons_self))).1
        have hlw : (wipe σ (own.map (·.2))).length = σ8.length := by rw [← hw8, wipe_length]
        refine ⟨xs.length - (i + 1), by omega, i + 1, acc', rfl, hi3, (J'.unpinned (pins := [p])).weak hlw (fun j v e => ?_), st6.at fun o e => ?_, pn⟩
        · rw [← hw8] at e
          exact (wipe_some e).1
        · rw [gi] at e
          cases e
          exact g
      cases b with
      | false =>
        simp only [Bool.false_eq_true, if_false] at q9 ⊢
        exact done I9 q9
      | true =>
        simp only [if_true] at q9 ⊢
        refine thnF (pe.run _ s9 σ8 _ _ I9 q9) fun z s10 ⟨yv, H10, I10, r10, eH10, hz10, pn⟩ => ?_
        subst eH10
        refine app_ok (X := X.blk s3 (upd H1 D (.lst [])) scope ce [it]) I10 upd_same hz10 r10 fun s11 I11 => ?_
        rw [upd_upd] at I11
        exact done I11 pn
  exact codeAny_compStart_list loop (wpAny_pyIter_listiter st4 loop)
end
end EL

set_option maxHeartbeats 400000
/-! EL4: defs called within an except suite that know the exception that is handled. -/
namespace EL
open PySem PySem.Spec PyProof.Rows L2 HotX L2H
/-- in X the exception at a is handled: of the class cls, its dict d, its context None -/
def HotE (X : Cx) (a : Addr) (cls : Value) (d : Option Addr) : Prop := ∃ oe : Obj, X.A.handled = some (.ref a) ∧ L2N.Zn cls d oe ∧ (∃ vs, oe.data = .fields vs) ∧ (a, oe) ∈ X.pn
theorem HotE.hot {X : Cx} {a : Addr} {cls : Value} {d : Option Addr} (h : HotE X a cls d) : HotC X := by
  obtain ⟨oe, h1, h2, ⟨vs, h3⟩, h4⟩ := h
  exact ⟨(a, oe), ⟨h1, vs, h3, h2.2.2 vs h3⟩, h4⟩
theorem hotE_suite {X : Cx} {a : Addr} {cls : Value} {d : Option Addr} {oe : Obj} {pn : List (Addr × Obj)} (hz : L2N.Zn cls d oe) (hf : ∃ vs, oe.data = .fields vs) : HotE (X.suite a ((a, oe) :: pn)) a cls d :=
  ⟨oe, rfl, hz, hf, List.mem_cons_self⟩
/-- the promise of a def that is called there -/
structure FnE (P : Program) (w : World) (K : PySem.W.Frag) (mg : Str → Option Value) (base : Heap) (CX : CXT) (k : Nat) (f : Addr) (fd : FuncData) (ps : List Str) (sp : Addr → Value → Option Addr → Sp) : Prop where
  len : ∀ a cls d vs H Q E, sp a cls d vs H Q E → vs.length = ps.length
  run : ∀ (A : Around) (outer : List Env) (s : Shared) (H : Hp) (args : Args) (us : List Value) (vs : List V) (Q : VK) (E : XK) (a : Addr) (oe : Obj) (cls : Value) (d : Option Addr), RoomH k A → A.handled = some (.ref a) → L2N.Zn cls d oe → (∃ x, oe.data = .fields x) → PinOk outer H s (a, oe) →
    Env0 P w K mg base A outer s H → BindsTo s fd args (ps.zip us) → Vals vs us → sp a cls d vs H Q E → codeAny (model P w) A (.call (.ref f) args) (CR CX outer P w H s Q E) s
theorem FnE.mono {P : Program} {w : World} {K : PySem.W.Frag} {mg : Str → Option Value} {base : Heap} {CX : CXT} {j k : Nat} {f : Addr} {fd : FuncData} {ps : List Str} {sp : Addr → Value → Option Addr → Sp} (F : FnE P w K mg base CX j f fd ps sp) (h : j ≤ k) : FnE P w K mg base CX k f fd ps sp :=
  ⟨F.len, fun A outer s H args us vs Q E a oe cls d hr => F.run A outer s H args us vs Q E a oe cls d (hr.mono h)⟩
section
variable {P : Program} {w : World} {K : PySem.W.Frag} {mg : Str → Option Value} {base : Heap} {x qual : Str} {params : Arguments} {body : List Stmt} {scope : Scope} {dvs : List V} {kws : List (Str × V)} {f : Addr} {fd : FuncData} {CX : CXT} {N ps : List Str} {k : Nat} {sp : Addr → Value → Option Addr → Sp}
/-- by the def's body -/
theorem fnE_of (F : FunD K x qual params body scope dvs kws f fd) (S : FnScope N ps scope) (len : ∀ a cls d vs H Q E, sp a cls d vs H Q E → vs.length = ps.length)
    (hbody : ∀ (cdv : Value) (A : Around) (outer : List Env) (s : Shared) (H : Hp) (vs : List V) (Q : VK) (E : XK) (a : Addr) (oe : Obj) (cls : Value) (d : Option Addr), RoomH k (A.deeper (envOfC qual scope s.heap.objs.size f cdv)) →
      HotE (cxH CX P w K mg base N qual scope f cdv A outer s H E (a, oe)) a cls d → sp a cls d vs H Q E →
      ∃ t, PSs (cxH CX P w K mg base N qual scope f cdv A outer s H E (a, oe)) body t ∧ t { nx := fun _ H' => Q .non H', rt := Q } (L2.start N vs) H) : FnE P w K mg base CX (k + 1) f fd ps sp := by
  obtain ⟨oc, od, dV, kV, doc, pm, an, cdv, ct, osl, rfl, lk, hcd, _, _⟩ := F.ex
  refine ⟨len, fun A outer s H args us vs Q E a oe cls d hr hh hz hf hpin e0 hb r hsp => ?_⟩
  have KX : K.In s.heap := e0.mod.kin.keeps fun b o e => (e0.bs b o e).1
  have lim : s.heap.NoLimit := e0.mod.nolimit.keeps fun b o e => (e0.bs b o e).1
  refine codeAny_call_function hr.depth (KX _ _ lk) rfl S.co S.gen rfl (PySem.W.codeRec_of KX hcd) (hb _ _ _ _ ?_)
  refine wpAny_newFunctionEnv_cells S.kind (fun ⟨n, v⟩ hy => (S.par n (List.of_mem_zip hy).1).imp id fun q => ⟨q, PySem.W.cellsFrom_some _ _ _ (.inl q)⟩) fun env he s1 z => ?_
  subst he
  refine ⟨lim.keeps z.toInCall.keep, codeAny_func ?_⟩
  obtain ⟨t, ht, hq⟩ := hbody cdv A outer s H vs Q E a oe cls d (hr.deeper _) ⟨oe, hh, hz, hf, List.mem_singleton.mpr rfl⟩ hsp
  have I : Inv (cxH CX P w K mg base N qual scope f cdv A outer s H E (a, oe)) [] (L2.start N vs) H s1 := inv_startH S hpin e0 (len _ _ _ _ _ _ _ hsp) r z
  refine wpAny_mono (ht.run [] s1 _ H _ I hq) (fun fl s' hs => ?_) fun _ _ z => z
  have ends : ∀ {σ' : L2.St} {H' : Hp} {v : V} {u : Value}, Inv (cxH CX P w K mg base N qual scope f cdv A outer s H E (a, oe)) [] σ' H' s' → L2.RelV v u → Q v H' → CE outer P w H s Q u s' := fun {σ' H' v u} J rv q => ⟨v, H', J.os, J.bare, J.base, J.hok, rv, q⟩
  cases fl with
  | next => obtain ⟨σ', H', J, q⟩ := hs; exact ends (v := V.non) (u := Value.none) J rfl q
  | ret u => obtain ⟨v, σ', H', J, rv, q⟩ := hs; exact ends J rv q
  | brk => obtain ⟨_, _, _, q⟩ := hs; exact q.elim
  | cont => obtain ⟨_, _, _, q⟩ := hs; exact q.elim
end
section
variable {X : Cx} {CX : CXT} {k : Nat} {f : Addr} {fd : FuncData} {ps : List Str} {sp : Addr → Value → Option Addr → Sp} {E : L2.St → XK} {x : Str} {q pos : Pos} {e : Expr} {es : List Expr} {t : TA} {a : Addr} {cls : Value} {d : Option Addr}
/-- such a def called by its name -/
theorem pe_callE (F : FnE X.prog X.w X.K X.mg X.base CX k f fd ps sp) (hr : RoomH k X.A) (hc : HotE X a cls d) (hg : Gl X x) (hm : X.mg x = some (.ref f)) (hk : PySem.W.keepIn X.K (.ref f) = true) (hb : Binds X.K fd ps []) (hx : ∀ σ, PassesAt CX X σ (E σ))
    (ha : PA X (e :: es) t) (hdb : (x == ("__debug__" : Str)) = false := by decide) (he : starEach (e :: es) X.env = (false, eval e X.env) :: starEach es X.env := by rfl) (hpl : (backTo pos (starEach es X.env)).any (·.1) = false := by rfl) :
    PE X (.Call (.Name x q) (e :: es) [] pos) (tCallS (sp a cls d) E t) := by
  obtain ⟨oe, hh, hz, hf, hp⟩ := hc
  refine ⟨fun pins s σ H Q I h => ?_⟩
  refine wpAny_Call_Name_kw (ld_glob I hg hm ?_ hdb)
  refine PySem.W.callWith_K (h₀ := X.base) I.ok.mod.kin hk (thn (ha.run pos pins s σ H _ I h) fun us s1 ⟨vs, H1, I1, r, w⟩ => ⟨I1.kIn, ?_⟩) he hpl
  have hl : us.length = ps.length := by rw [← r.length]; exact F.len _ _ _ _ _ _ _ w
  have b := hb s1 us I1.kIn (by rw [List.append_nil]; exact hl)
  rw [List.append_nil] at b
  obtain ⟨p1, p2, p3, p4, p5⟩ := I1.pin (a, oe) (List.mem_append_left _ hp)
  have hpin : PinOk X.stack H1 s1 (a, oe) := ⟨p1, p2, fun hm => (List.mem_cons.mp (I1.stkSub a hm)).elim p3 p4, p5⟩
  refine wpAny_call (codeAny_mono (F.run X.A X.stack s1 H1 ⟨us, []⟩ us vs Q (E σ) a oe cls d hr hh hz hf hpin I1.env0 b r w) fun r' s' hq => ?_)
  cases r' with
  | error u => exact hx σ pins H1 s1 u s' I1 hq
  | ok fl => cases fl with
    | ret u => exact I1.after hq
    | next => exact hq.elim
    | brk => exact hq.elim
    | cont => exact hq.elim
/-- isinstance(e, c), e the exception that is handled -/
def rIsX (K : PySem.W.Frag) (a : Addr) (cls : Value) (d : Option Addr) : List V → Hp → VK → Prop := fun xs H Q => ∃ (c : V) (cv : Value) (b : Bool) (D dd : Addr) (fs : List (Str × V)), xs = [.ref a, c] ∧ (∀ u, L2.RelV c u → u = cv) ∧ cls = .ref D ∧ d = some dd ∧ H dd = some (.xd fs) ∧ ExcC K D ∧
  PySem.W.kitOne K (.ref D) cv = some b ∧ Q (.bl b) H
theorem callX_isi (hc : HotE X a cls d) : CallR X (.builtin "isinstance") (rIsX X.K a cls d) := by
  intro pins s σ H xs us Q I r h
  obtain ⟨c, cv, b, D, dd, fs, rfl, hcv, rfl, rfl, hdd, C, e, q⟩ := h
  obtain ⟨oe, _, hz, ⟨vs, hv⟩, hp⟩ := hc
  cases r with
  | cons rx rr =>
    cases rr with
    | cons rt rr =>
      cases rr
      cases rx
      obtain rfl := hcv _ rt
      obtain ⟨hget, _⟩ := I.pin (a, oe) (List.mem_append_left _ hp)
      obtain ⟨mA, ⟨od, _, _, god, _⟩, _⟩ := (show ObjOk X.prog X.w H s.heap dd (.xd fs) from I.hok dd _ hdd)
      have J : PySem.W.InstAt s.heap a oe D (some od) := ⟨hget, hz.1, by unfold PySem.W.notCls; rw [hv] <;> rfl, by rw [hz.2.1]; exact god⟩
      obtain ⟨cd, hcd, _⟩ := PySem.W.any_some C.hd
      exact PySem.W.kia_one (PySem.W.kitx_exc (by rw [hcd]; rfl) C.hg C.hk C.hs C.ha C.hn C.ht C.hm) I.kIn J e (fun z => nomatch z) fun tk => ⟨.bl b, H, I.kept (t' := tk) fun _ _ z => z, rfl, q⟩
end
end EL

set_option maxHeartbeats 400000
/-! EL5: functions handed to defs: what is known of them is put into the base of the called def. -/
namespace EL
open PySem PySem.Spec PyProof.Rows L2 NdefX
/-- the part of a heap at p -/
theorem part_of (h : Heap) (p : Addr → Bool) : ∃ G : Heap, G.objs.size = h.objs.size ∧ (∀ b o, h.get? b = some o → p b = true → G.get? b = some o) ∧ ∀ b o, G.get? b = some o → h.get? b = some o ∧ p b = true := by
  refine ⟨PySem.W.hideAll h ((List.range h.objs.size).filter fun b => !p b), PySem.W.hideAll_size _ _, fun b o e q => PySem.W.hideAll_get _ e fun hm => ?_, fun b o e => ?_⟩
  · have z := (List.mem_filter.mp hm).2
    rw [q] at z
    cases z
  · have e1 := PySem.W.of_hideAll _ e
    refine ⟨e1, ?_⟩
    cases q : p b with
    | true => rfl
    | false =>
      have hm : b ∈ (List.range h.objs.size).filter fun b => !p b := List.mem_filter.mpr ⟨List.mem_range.mpr (Heap.lt_size e1), by rw [q]; rfl⟩
      rw [PySem.W.hideAll_none _ hm] at e
      cases e
/-- the base of X made greater by objects at ks that nobody tracks and that are no frames -/
theorem rebase {X : Cx} {pins : List (Addr × Obj)} {σ : L2.St} {H : Hp} {s : Shared} (I : Inv X pins σ H s) (ks : List Addr) (hk : ∀ b ∈ ks, H b = none ∧ b ∉ frs X.stack) :
    ∃ G : Heap, (∀ b o, X.base.get? b = some o → G.get? b = some o) ∧ (∀ b o, b ∈ ks → s.heap.get? b = some o → G.get? b = some o) ∧ Env0 X.prog X.w X.K X.mg G X.A X.stack s H := by
  obtain ⟨G, g1, g2, g3⟩ := part_of s.heap fun b => (X.base.get? b).isSome || decide (b ∈ ks)
  have up : ∀ b o, X.base.get? b = some o → G.get? b = some o := fun b o e => g2 b o (I.bk b o e) (by rw [e]; rfl)
  have e0 := I.env0
  refine ⟨G, up, fun b o hb e => g2 b o e (by rw [decide_eq_true hb, Bool.or_true]), e0.frames, ⟨e0.mod.kin.keeps up, e0.mod.glob.keeps up, ?_, e0.mod.nolimit.keeps up⟩, fun b o e => ?_, Nat.le_of_eq g1, ?_, e0.frf, e0.hok, e0.bare⟩
  · obtain ⟨mb, h1, h2⟩ := e0.mod.blt
    exact ⟨mb, h1.keeps up, h2⟩
  · obtain ⟨h1, h2⟩ := g3 b o e
    refine ⟨h1, ?_⟩
    rcases Bool.or_eq_true_iff.mp h2 with z | z
    · obtain ⟨u, hu⟩ := Option.isSome_iff_exists.mp z
      exact (I.bs b u hu).2
    · exact (hk b (of_decide_eq_true z)).1
  · have key : ∀ l : List Env, (∀ b ∈ frs l, b ∉ ks) → s.heap.FunFrames X.base l → s.heap.FunFrames G l := by
      intro l
      induction l with
      | nil => intro _ _; trivial
      | cons env rest ih =>
        intro hn hl
        obtain ⟨h1, ⟨L, o, h2, h3, h4, h5⟩, h6⟩ := hl
        have hL : L ∈ frs (env :: rest) := List.mem_filterMap.mpr ⟨env, List.mem_cons_self, h2⟩
        refine ⟨h1, ⟨L, o, h2, ?_, h4, h5⟩, ih (fun b hb => hn b ?_) h6⟩
        · cases q : G.get? L with
          | none => rfl
          | some u =>
            obtain ⟨_, z⟩ := g3 L u q
            rcases Bool.or_eq_true_iff.mp z with z | z
            · rw [h3] at z
              cases z
            · exact absurd (of_decide_eq_true z) (hn L hL)
        · obtain ⟨e, he, hq⟩ := List.mem_filterMap.mp hb
          exact List.mem_filterMap.mpr ⟨e, List.mem_cons_of_mem _ he, hq⟩
    exact key _ (fun b hb hm => (hk b hm).2 hb) e0.funs
/-- a function without parameters, known in the base: what a call of it does -/
structure Thunk (P : Program) (w : World) (K : PySem.W.Frag) (mg : Str → Option Value) (base : Heap) (k : Nat) (f : Addr) (tl : Hp → VK → XK → Prop) : Prop where
  obj : PySem.W.FnAt f base
  run : ∀ (A : Around) (outer : List Env) (s : Shared) (H : Hp) (Q : VK) (E : XK), Room k A → Env0 P w K mg base A outer s H → tl H Q E → codeAny (model P w) A (.call (.ref f) ⟨[], []⟩) (CR (L2N.CX P w) outer P w H s Q E) s
/-- x(), x a slot that holds such a function -/
def tThunk (P : Program) (w : World) (K : PySem.W.Frag) (mg : Str → Option Value) (base : Heap) (k i : Nat) (E : L2.St → XK) : TE := fun σ H Q => ∃ (f : Addr) (tl : Hp → VK → XK → Prop), σ[i]? = some (some (.ref f)) ∧ Thunk P w K mg base k f tl ∧ tl H Q (E σ)
theorem pe_thunk {X : Cx} {i k : Nat} {x : Str} {E : L2.St → XK} {p pos : Pos} (hN : X.N[i]? = some x) (hv : Vis X.env.scope x) (hr : Room k X.A) (hx : ∀ σ, PassesAt (L2N.CX X.prog X.w) X σ (E σ)) (hd : (x == ("__debug__" : Str)) = false := by decide) (hcd : (x == ("__classdict__" : Str)) = false := by decide) :
    PE X (.Call (.Name x p) [] [] pos) (tThunk X.prog X.w X.K X.mg X.base k i E) := by
  refine ⟨fun pins s σ H Q I h => ?_⟩
  obtain ⟨f, tl, hs, ⟨ob, run⟩, ht⟩ := h
  refine wpAny_Call_Name_kw (thn ((pe_var (pos := p) hN hv hd hcd).run pins s σ H (fun v H1 => v = .ref f ∧ H1 = H) I ⟨.ref f, hs, rfl, rfl⟩) fun u s1 ⟨v, H1, I1, r1, ev, eH⟩ => ?_)
  subst ev
  subst eH
  obtain rfl : u = Value.ref f := r1
  obtain ⟨oc, od, fd, sl, ho⟩ := ob
  refine PySem.W.callWith_F0 ⟨oc, od, fd, sl, I1.bk f _ ho⟩ ?_
  refine wpAny_call (codeAny_mono (run X.A X.stack s1 H1 Q (E σ) hr I1.env0 ht) fun r s' hq => ?_)
  cases r with
  | error e => exact hx σ pins H1 s1 e s' I1 hq
  | ok fl => cases fl with
    | ret u => exact I1.after hq
    | next => exact hq.elim
    | brk => exact hq.elim
    | cont => exact hq.elim
/-- captured cells, known in the base -/
theorem cells_up {P : Program} {w : World} {K : PySem.W.Frag} {mg : Str → Option Value} {base : Heap} {A : Around} {outer : List Env} {s : Shared} {H : Hp} {cl : List (Str × Addr)} {fr : List Str} {ws : List (Option V)} (e0 : Env0 P w K mg base A outer s H) (C : CellsAt cl fr ws base fun _ => none) : CellsAt cl fr ws s.heap H := by
  have up : ∀ {c v}, base.IsCell c v → s.heap.IsCell c v ∧ H c = none := fun {c v} ⟨o, ho, hd⟩ => ⟨⟨o, (e0.bs c o ho).1, hd⟩, (e0.bs c o ho).2⟩
  refine ⟨C.len, fun y c e => ?_, C.inj, fun i y e => ?_⟩
  · obtain ⟨_, v, hv⟩ := C.all y c e
    exact ⟨(up hv).2, v, (up hv).1⟩
  · obtain ⟨c, hc, hall⟩ := C.has i y e
    refine ⟨c, hc, fun v hv => ?_⟩
    obtain ⟨u, ru, hu⟩ := hall v hv
    exact ⟨u, ru, (up hu).1⟩
/-- a lambda's words -/
def lamF (q : Str) (params : Arguments) (scope : Scope) (cl : List (Str × Addr)) (c : Addr) : NF := ⟨"<lambda>", q, params, [], scope, cl, c⟩
/-- the object of a lambda without parameters -/
theorem thunk_lam {P : Program} {w : World} {K : PySem.W.Frag} {mg : Str → Option Value} {base : Heap} {k : Nat} {f c' : Addr} {q : Str} {params : Arguments} {body : Expr} {scope : Scope} {cl : List (Str × Addr)} {pm ctv : Value} {fr : List Str} {ws : List (Option V)} {t : XK → TE}
    (hf : base.get? f = some (PySem.W.kla_obj "<lambda>" q params body scope cl pm c' ctv)) (C : CellsAt cl fr ws base fun _ => none) (S : NScope fr [] fr scope) (hbind : bindArgs (PySem.W.kla_fn "<lambda>" q params body scope cl pm (.ref c') ctv) ⟨[], []⟩ = pure [])
    (hbody : ∀ (A : Around) (outer : List Env) (s : Shared) (H : Hp) (E : XK), Room k (A.deeper (envF (lamF q params scope cl c') f s.heap.objs.size)) → PE (ncx (L2N.CX P w) P w K mg base fr (lamF q params scope cl c') f A outer s H E) body (t E)) :
    Thunk P w K mg base (k + 1) f (fun H Q E => H c' = some (LamX.CodeO c' q) ∧ t E ws H Q) := by
  refine ⟨⟨_, _, _, _, hf⟩, fun A outer s H Q E hr e0 ⟨hco, ht⟩ => ?_⟩
  have lim : s.heap.NoLimit := e0.mod.nolimit.keeps fun b o e => (e0.bs b o e).1
  obtain ⟨⟨oc, vs, tt, hoc, hdc, hvc⟩, _, _⟩ := e0.hok c' _ hco
  refine PySem.W.kla_callFunE hr.depth (e0.bs f _ hf).1 rfl S.co S.gen rfl ⟨c', oc, vs, tt, rfl, hoc, hdc, hvc⟩ ?_
  rw [hbind]
  refine wpAny_pure (wpAny_newFunctionEnv S.nocell (fun y hy => absurd hy (by simp)) (fun h₁ hns hsb => ⟨lim.fresh _ hsb, ?_⟩) S.kind)
  show codeAny _ _ (.expr body (envF (lamF q params scope cl c') f s.heap.objs.size)) _ _
  have kp : ∀ b o, s.heap.get? b = some o → h₁.get? b = some o := fun b o e => hsb.extBut b o (Nat.ne_of_lt (Heap.lt_size e)) (Heap.get?_push_of_some _ e)
  have J : Inv (ncx (L2N.CX P w) P w K mg base fr (lamF q params scope cl c') f A outer s H E) [] (startF fr [] ws) H { s with heap := h₁, toks := s.toks + ([] : List (Str × Value)).length } := inv_startN (ps := []) (us := []) S hr.hd e0 rfl .nil (cells_up e0 C) hns kp
  have hst : startF fr [] ws = ws := by
    unfold startF
    have := C.len
    simp [this]
  rw [hst] at J
  refine PySem.W.kla_codeExpr (wpAny_mono ((hbody A outer s H E (hr.deeper _)).run [] _ _ H Q J ht) (fun v s' hq => ?_) fun e s' hq => hq)
  obtain ⟨w', H', J', rv, q'⟩ := hq
  exact ⟨w', H', J'.os, J'.bare, J'.base, J'.hok, rv, q'⟩
/-- g(lambda: body, ..): t, the body's reading by what the captured names hold; T, the tables of code objects; spB, what g promises by the base -/
def tLamC (T : List (Addr × Str)) (P : Program) (w : World) (K : PySem.W.Frag) (mg : Str → Option Value) (k : Nat) (q : Str) (js : List Nat) (t : XK → TE) (spB : Heap → Sp) (E : L2.St → XK) (ta : TA) : TE := fun σ H Q => LamX.Tabs T H ∧ ∀ (f c' : Addr) (H1 : Hp), LamX.ExtN H H1 → LamX.Tabs T H1 →
  H1 c' = some (LamX.CodeO c' q) → ta σ H1 fun vs H2 => ∀ base : Heap, Thunk P w K mg base k f (fun H Q E => H c' = some (LamX.CodeO c' q) ∧ t E (js.map (slotAt σ)) H Q) → spB base (.ref f :: vs) H2 Q (E σ)
theorem pe_callLam {X : Cx} {T : List (Addr × Str)} {x : Str} {g c Pt : Addr} {j k : Nat} {fd : FuncData} {ps fr : List Str} {js : List Nat} {spB : Heap → Sp} {E : L2.St → XK} {params : Arguments} {body : Expr} {scope : Scope} {es : List Expr} {ta : TA} {t : XK → TE} {p lpos pos : Pos}
    (F : ∀ base, FnOk X.prog X.w X.K X.mg base (L2N.CX X.prog X.w) j g fd ps (spB base)) (hr : Room j X.A) (hg : Gl X x) (hm : X.mg x = some (.ref g)) (hk : PySem.W.keepIn X.K (.ref g) = true) (hb : Binds X.K fd ps []) (hx : ∀ σ, PassesAt (L2N.CX X.prog X.w) X σ (E σ))
    (hs : X.stack = X.env :: X.outer) (hfm : X.env.frame = some X.env.locals) (hfn : ∀ y, X.fn y = true) (TB : LamX.TabB X.base X.mg c Pt) (hcode : X.env.code = .ref c) (hmT : (Pt, X.env.qual ++ "<lambda>") ∈ T) (hu : ∀ p ∈ T, p.1 = Pt → p.2 = X.env.qual ++ "<lambda>")
    (hdef : defaultsOf params X.env = ([], [])) (hfree : ∀ y ∈ scope.names, y.2 = .free → X.env.scope.names.lookup y.1 = some .cell ∨ X.env.scope.names.lookup y.1 = some .free) (hfr : ∀ y ∈ fr, (y, NameKind.free) ∈ scope.names) (hjs : js.map (fun j => X.N[j]?) = fr.map some)
    (S : NScope fr [] fr scope) (hbind : ∀ (q : Str) (cl : List (Str × Addr)) (pm cv ctv : Value), bindArgs (PySem.W.kla_fn "<lambda>" q params body scope cl pm cv ctv) ⟨[], []⟩ = pure [])
    (hbody : ∀ (base : Heap) (A : Around) (outer : List Env) (s : Shared) (H : Hp) (E : XK) (f c' : Addr), Room k (A.deeper (envF (lamF (X.env.qual ++ "<lambda>") params scope (cloFrom X.env.cells scope.names []) c') f s.heap.objs.size)) →
      PE (ncx (L2N.CX X.prog X.w) X.prog X.w X.K X.mg base fr (lamF (X.env.qual ++ "<lambda>") params scope (cloFrom X.env.cells scope.names []) c') f A outer s H E) body (t E))
    (ha : PA X es ta) (hdb : (x == ("__debug__" : Str)) = false := by decide) (hpl : (backTo pos (starEach es X.env)).any (·.1) = false := by rfl) :
    PE X (.Call (.Name x p) (.Lambda params body scope lpos :: es) [] pos) (tLamC T X.prog X.w X.K X.mg (k + 1) (X.env.qual ++ "<lambda>") js t spB E ta) := by
  refine ⟨fun pins s σ H Q I h => ?_⟩
  obtain ⟨hT, h⟩ := h
  have hhas : ∀ y ∈ scope.names, y.2 = .free → ∃ c, X.env.cells.lookup y.1 = some c := fun y hy e => (hfree y hy e).elim (fun z => I.ok.has _ (.inl z)) fun z => I.ok.has _ (.inr z)
  refine wpAny_Call_Name_kw (ld_glob I hg hm ?_ hdb)
  refine PySem.W.callWith_K (h₀ := X.base) I.ok.mod.kin hk ?_ (by rfl) hpl
  show wpAny _ _ (spliced ((false, eval (.Lambda params body scope lpos) X.env) :: backTo pos (starEach es X.env))) _ _ s
  refine Calls.spliced_cons (LamX.lam_make2 I TB hcode hmT hu hT hdef hhas fun f c' pm ctv H1 s' I1 eN T1 hf hfn1 hfs hco => ?_)
  have hfs' : f ≠ X.env.locals ∧ f ∉ X.fs := by
    rw [hs] at hfs
    refine ⟨fun z => hfs (List.mem_filterMap.mpr ⟨X.env, List.mem_cons_self, by rw [hfm, z]⟩), fun z => ?_⟩
    obtain ⟨e, he, q⟩ := List.mem_filterMap.mp z
    exact hfs (List.mem_filterMap.mpr ⟨e, List.mem_cons_of_mem _ he, q⟩)
  have I2 := I1.pins_of (pins' := pins ++ [(f, PySem.W.kla_obj "<lambda>" (X.env.qual ++ "<lambda>") params body scope (cloFrom X.env.cells scope.names []) pm c' ctv)]) fun z hz => by
    rcases List.mem_append.mp hz with hz | hz
    · exact I1.pin z (List.mem_append_right _ hz)
    · obtain rfl := List.mem_singleton.mp hz
      exact ⟨hf, hfn1, hfs'.1, hfs'.2, fun v e => by cases e⟩
  refine thn (ha.run pos _ s' σ H1 _ I2 (h f c' H1 eN T1 hco)) fun us s1 ⟨vs, H2, I3, r, q⟩ => ⟨I3.kIn, ?_⟩
  obtain ⟨g1, g2, _, _, _⟩ := I3.pin _ (List.mem_append_right _ (List.mem_append_right _ List.mem_cons_self))
  have I4 : Inv X pins σ H2 s1 := I3.unpinned
  have caps : Caps X (cloFrom X.env.cells scope.names []) fr js := Caps.made I4.ok hfree hfr hjs
  have CA := cells_of I4 caps
  have cmem : ∀ b ∈ (cloFrom X.env.cells scope.names []).map (·.2), ∃ y, X.env.cells.lookup y = some b := fun b hb => by
    obtain ⟨⟨y, b'⟩, hm, rfl⟩ := List.mem_map.mp hb
    rcases cloFrom_mem hm with hm | ⟨h1, h2⟩
    · cases hm
    · obtain ⟨c1, hc1⟩ := hhas _ h1 rfl
      have hc1 : X.env.cells.lookup y = some c1 := hc1
      refine ⟨y, ?_⟩
      show X.env.cells.lookup y = some b'
      rw [h2, hc1] <;> rfl
  obtain ⟨G, up, kp, e0⟩ := rebase I4 (f :: (cloFrom X.env.cells scope.names []).map (·.2)) fun b hb => by
    rcases List.mem_cons.mp hb with rfl | hb
    · exact ⟨g2, hfs⟩
    · obtain ⟨y, hy⟩ := cmem b hb
      refine ⟨I4.freeC y b hy, fun hm => ?_⟩
      rcases List.mem_cons.mp (I4.stkSub b hm) with z | z
      · exact I4.cne y b hy z
      · have h1 := I4.ok.cab y b (hfn y) hy
        obtain ⟨_, o, ho, _⟩ := I4.ok.funs.mem z
        exact absurd (Nat.lt_of_lt_of_le (Heap.lt_size ho) h1) (Nat.lt_irrefl _)
  have CG : CellsAt (cloFrom X.env.cells scope.names []) fr (js.map (slotAt σ)) G fun _ => none := by
    have cup : ∀ {y c v}, (cloFrom X.env.cells scope.names []).lookup y = some c → s1.heap.IsCell c v → G.IsCell c v := fun {y c v} e ⟨o, ho, hd⟩ => ⟨o, kp c o (List.mem_cons_of_mem _ (List.mem_map.mpr ⟨(y, c), PySem.mem_of_lookup e, rfl⟩)) ho, hd⟩
    refine ⟨CA.len, fun y c e => ?_, CA.inj, fun i y e => ?_⟩
    · obtain ⟨_, v, hv⟩ := CA.all y c e
      exact ⟨rfl, v, cup e hv⟩
    · obtain ⟨c, hc, hall⟩ := CA.has i y e
      refine ⟨c, hc, fun v hv => ?_⟩
      obtain ⟨u, ru, hu⟩ := hall v hv
      exact ⟨u, ru, cup hc hu⟩
  have th := thunk_lam (P := X.prog) (w := X.w) (K := X.K) (mg := X.mg) (k := k) (t := t) (kp f _ List.mem_cons_self g1) CG S (hbind _ _ _ _ _) fun A outer s H E hr' => hbody G A outer s H E f c' hr'
  have hq := q G th
  have r2 : Vals (V.ref f :: vs) (Value.ref f :: us) := .cons rfl r
  have hl : (Value.ref f :: us).length = ps.length := by rw [← r2.length]; exact (F G).len _ _ _ _ hq
  have b := hb s1 (.ref f :: us) I4.kIn (by rw [List.append_nil]; exact hl)
  rw [List.append_nil] at b
  show wpAny _ _ (call (.ref g) (.ref f :: us)) _ _ _
  refine wpAny_call (codeAny_mono ((F G).run X.A X.stack s1 H2 ⟨.ref f :: us, []⟩ (.ref f :: us) (.ref f :: vs) Q (E σ) hr e0 b r2 hq) fun r' s2 hz => ?_)
  cases r' with
  | error e => exact hx σ pins H2 s1 e s2 I4 hz
  | ok fl => cases fl with
    | ret u => exact I4.after hz
    | next => exact hz.elim
    | brk => exact hz.elim
    | cont => exact hz.elim
end EL

set_option maxHeartbeats 400000
/-! EL6: what the raising of an own exception leaves. -/
namespace EL
open PySem PySem.Spec PyProof.Rows L2 NdefX
theorem upd_swap {H : Hp} {a b : Addr} {x y : HO} (h : a ≠ b) : upd (upd H a x) b y = upd (upd H b y) a x := by
  funext c
  by_cases h1 : c = b
  · subst h1
    rw [upd_same, upd_ne (Ne.symm h), upd_same]
  · rw [upd_ne h1]
    by_cases h2 : c = a
    · subst h2
      rw [upd_same, upd_same]
    · rw [upd_ne h2, upd_ne h2, upd_ne h1]
/-- what an __init__ of such a class does: its fields are the arguments -/
def spInit (C : Addr) (ok : List V → Prop) (fl : List V → List (Str × V)) : Sp := fun vs H Q _ => ∃ (a : Addr) (ys : List V), vs = .ref a :: ys ∧ ok ys ∧ H a = some (exo a C none) ∧ ∀ dx, H dx = none → dx ≠ a → Q .non (upd (upd H dx (exd dx (fl ys))) a (exo a C (some dx)))
/-- C(e, ..) -/
def tNewE (C : Addr) (ok : List V → Prop) (fl : List V → List (Str × V)) (ta : TA) : L2.St → Hp → XK → Prop := fun σ H Q => ta σ H fun vs H1 => ok vs ∧ ∀ d, H1 d = none → Q (.ref C) (some d) (upd H1 d (.xd (fl vs)))
theorem newE_of {C : Addr} {ok : List V → Prop} {fl : List V → List (Str × V)} (hl : ∀ vs, ok vs → vs.length ≤ 1000) (vs : List V) (H1 : Hp) (Q : XK) (h : ok vs ∧ ∀ d, H1 d = none → Q (.ref C) (some d) (upd H1 d (.xd (fl vs)))) : MkIn C (spInit C ok fl) vs H1 Q := by
  obtain ⟨h1, h2⟩ := h
  refine ⟨hl _ h1, fun a ha => ⟨a, vs, rfl, h1, upd_same, fun dx hd hne => ⟨rfl, dx, fl vs, upd_same, by rw [upd_ne hne, upd_same], by rw [upd_ne hne] at hd; exact hd, ?_⟩⟩⟩
  have hd1 : H1 dx = none := by rw [upd_ne hne] at hd; exact hd
  have e : upd (del (upd (upd (upd H1 a (exo a C none)) dx (exd dx (fl vs))) a (exo a C (some dx))) a) dx (.xd (fl vs)) = upd H1 dx (.xd (fl vs)) := by
    funext b
    by_cases hb : b = dx
    · rw [hb, upd_same, upd_same]
    · rw [upd_ne hb, upd_ne hb]
      by_cases hb2 : b = a
      · rw [hb2, del_same, ha]
      · rw [del_ne hb2, upd_ne hb2, upd_ne hb, upd_ne hb2]
  rw [e]
  exact h2 dx hd1
theorem pmk_imp {X : Cx} {e : Expr} {t t' : L2.St → Hp → XK → Prop} (h : L2N.PMk X e t) (i : ∀ σ H Q, t' σ H Q → t σ H Q) : L2N.PMk X e t' := fun pins s σ H Q I q => h pins s σ H Q I (i σ H Q q)
theorem x_ost {K : PySem.W.Frag} {f : Str} {i j : Nat} {D : Ends} {σ : L2.St} {H : Hp} {a C : Addr} {y : V} (hi : σ[i]? = some (some (.ref a))) (hj : σ[j]? = some (some y)) (T : OexC K C) (hno : PySem.W.findIn K (.ref C) f = some none) (h : H a = some (exo a C none))
    (q : ∀ dx, H dx = none → dx ≠ a → D.nx σ (upd (upd H dx (exd dx [(f, y)])) a (exo a C (some dx)))) : tOst K f (tVar i) (tVar j) D σ H := ⟨y, hj, .ref a, hi, a, C, rfl, T, hno, .inl ⟨h, q⟩⟩
theorem x_ostM {K : PySem.W.Frag} {f : Str} {i j : Nat} {D : Ends} {σ : L2.St} {H : Hp} {a C dx : Addr} {y : V} {fs : List (Str × V)} (hi : σ[i]? = some (some (.ref a))) (hj : σ[j]? = some (some y)) (T : OexC K C) (hno : PySem.W.findIn K (.ref C) f = some none) (hl : fs.length ≤ 900) (hne : dx ≠ a)
    (q : D.nx σ (upd (upd H dx (exd dx ((f, y) :: fs))) a (exo a C (some dx)))) : tOst K f (tVar i) (tVar j) D σ (upd (upd H dx (exd dx fs)) a (exo a C (some dx))) :=
  ⟨y, hj, .ref a, hi, a, C, rfl, T, hno, .inr ⟨dx, fs, upd_same, by rw [upd_ne hne, upd_same], hl, by rw [upd_swap (Ne.symm hne), upd_upd]; exact q⟩⟩
/-- {x}, x a text or an int -/
theorem x_fmtS {te : TE} {σ : L2.St} {H : Hp} {Q : VK} {y : Str} (h : te σ H fun v H1 => v = .str y ∧ H1 = H) (mono : ∀ {R R' : VK}, te σ H R → (∀ v H1, R v H1 → R' v H1) → te σ H R') (hl : y.length ≤ sizeLine) (q : Q (.str y) H) : tFmt te σ H Q :=
  mono h fun v H1 ⟨e1, e2⟩ => .inl ⟨y, e1, hl, by rw [e2]; exact q⟩
theorem x_js1 {t : TE} {ts : List TE} {acc : Str} {σ : L2.St} {H : Hp} {Q : Str → Hp → Prop} (h : t σ H fun x H1 => ∃ y : Str, x = .str y ∧ (acc ++ y).length ≤ sizeLine ∧ tJs ts (acc ++ y) σ H1 Q) : tJs (t :: ts) acc σ H Q := h
theorem x_js0 {acc : Str} {σ : L2.St} {H : Hp} {Q : Str → Hp → Prop} (h : Q acc H) : tJs [] acc σ H Q := h
/-- what the law asks of a raised class, told by the written part -/
structure ExF (K : PySem.W.Frag) (C : Addr) (fl : List Str) : Prop where
  oex : OexC K C
  xf : XfC K C
  ic : ExcC K C
  no : ∀ f ∈ fl, PySem.W.findIn K (.ref C) f = some none
  ve : PySem.W.kitOne K (.ref C) (.type "ValueError") = some true
  le : PySem.W.kitOne K (.ref C) (.type "LookupError") = some false
  re : PySem.W.kitOne K (.ref C) (.type "RuntimeError") = some false
end EL

set_option maxHeartbeats 400000
/-! EL7: comprehensions that change nothing but the new list. -/
namespace EL
open PySem PySem.Spec PyProof.Rows L2
theorem seqT {K : PySem.W.Frag} {H H' : Hp} {a : Addr} {xs : List V} (e : Same H H') (h : SqT K H a xs) : SqT K H' a xs := by
  rcases h with (h | ⟨o, h⟩) | h
  · exact .inl (.inl (e _ _ h))
  · exact .inl (.inr ⟨o, e _ _ h⟩)
  · exact .inr h
/-- turns that change nothing -/
theorem lc_pure {J : It} {xs : List V} {GG : Hp → Prop} (w : Walk J xs.length GG (YAt xs)) {i : Nat} {tt : TT} {te : TE} {σ : L2.St} {H1 : Hp} {D : Addr} {Qd : Hp → Prop} (B : V → Bool) (F : V → V) (hl : xs.length < sizeLine) (hG : ∀ acc, GG (upd H1 D (.lst acc)))
    (ht : ∀ x ∈ xs, ∀ acc (R : Bool → Hp → Prop), R (B x) (upd H1 D (.lst acc)) → tt ((wipe σ [i]).set i (some x)) (upd H1 D (.lst acc)) R) (he : ∀ x ∈ xs, B x = true → ∀ acc (R : VK), R (F x) (upd H1 D (.lst acc)) → te ((wipe σ [i]).set i (some x)) (upd H1 D (.lst acc)) R)
    (hd : Qd (upd H1 D (.lst ((xs.filter B).map F)))) :
    ∃ W : Nat → Nat → Hp → Prop, (∃ m, W 0 m (upd H1 D (.lst []))) ∧ ∀ t m H, W t m H →
      (J.stop t H ∧ Qd H) ∨ (J.go t H ∧ ∃ Nx : Hp → Prop, (∀ H', Nx H' → ∃ m', m' < m ∧ W (t + 1) m' H') ∧ ∀ x H', J.yld t H x H' → gName i x (wipe σ [i]) H' fun σ2 H2 => wipe σ2 [i] = wipe σ [i] ∧ tt σ2 H2 fun b H3 =>
        if b = true then te σ2 H3 fun y H4 => ∃ acc, H4 D = some (.lst acc) ∧ acc.length < sizeLine ∧ Nx (upd H4 D (.lst (acc ++ [y]))) else Nx H3) := by
  have more : ∀ {t : Nat} {x : V}, xs[t]? = some x → xs.take (t + 1) = xs.take t ++ [x] := fun {t x} e => by
    rw [List.take_add_one, e]
    rfl
  refine lc_it w (fun t H => H = upd H1 D (.lst (((xs.take t).filter B).map F))) (by simp) (fun t H _ e => by rw [e]; exact hG _) (fun t x H H' hi e y => ?_) (fun H e => ?_)
  · subst e
    obtain ⟨rfl, hx⟩ := y
    have hm := List.mem_of_getElem? hx
    have hlen : (((xs.take t).filter B).map F).length < sizeLine := by
      rw [List.length_map]
      exact Nat.lt_of_le_of_lt (List.length_filter_le _ _) (Nat.lt_of_le_of_lt (by rw [List.length_take]; omega) hl)
    refine ⟨?_, ht x hm _ _ ?_⟩
    · show (((σ.set i none).set i (some x)).set i none) = σ.set i none
      rw [List.set_set, List.set_set]
    rw [more hx, List.filter_append, List.map_append]
    cases hb : B x with
    | true =>
      rw [if_pos rfl]
      refine he x hm hb _ _ ⟨_, upd_same, hlen, ?_⟩
      rw [upd_upd]
      simp [List.filter, hb]
    | false =>
      rw [if_neg Bool.false_ne_true]
      simp [List.filter, hb]
  · rw [e, List.take_length]
    exact hd
theorem signs_walk {z : Str} : Walk (Its z) (z.cps.toList.map fun c => V.str ⟨#[c]⟩).length (fun _ => True) (YAt (z.cps.toList.map fun c => V.str ⟨#[c]⟩)) := by
  have e : (z.cps.toList.map fun c => V.str ⟨#[c]⟩).length = z.cps.size := by simp
  rw [e]
  refine walk_str.mono (fun _ h => h) fun i H x H' _ _ ⟨e1, c, hc, e2⟩ => ⟨e1, ?_⟩
  rw [List.getElem?_map, e2]
  have : z.cps.toList[i]? = some c := by simpa using hc
  rw [this]
  rfl
def sgn : V → Nat
  | .str z => z.cps.toList.headD 0
  | _ => 0
section
variable {σ : L2.St} {H : Hp} {Q : VK} {tl te : TE} {tt : TT} {i : Nat} {K : PySem.W.Frag}
/-- [te for sign in z if tt] -/
theorem x_lcS {z : Str} (B : Nat → Bool) (F : Nat → V) (h0 : ∀ R : VK, R (.str z) H → tl σ H R) (hz : z.length < sizeLine)
    (ht : ∀ c ∈ z.cps.toList, ∀ (H' : Hp) (R : Bool → Hp → Prop), R (B c) H' → tt ((wipe σ [i]).set i (some (.str ⟨#[c]⟩))) H' R) (he : ∀ c ∈ z.cps.toList, B c = true → ∀ (H' : Hp) (R : VK), R (F c) H' → te ((wipe σ [i]).set i (some (.str ⟨#[c]⟩))) H' R)
    (q : ∀ D, H D = none → Q (.ref D) (upd H D (.lst ((z.cps.toList.filter B).map F)))) : tLc (iStr tl) (gName i) tt te [i] σ H Q := by
  have code : ∀ {x}, x ∈ (z.cps.toList.map fun c => V.str ⟨#[c]⟩) → ∃ c ∈ z.cps.toList, x = V.str ⟨#[c]⟩ ∧ sgn x = c := fun {x} hx => by
    obtain ⟨c, hc, rfl⟩ := List.mem_map.mp hx
    exact ⟨c, hc, rfl, rfl⟩
  refine h0 _ ⟨z, rfl, fun D hD => lc_pure signs_walk (fun v => B (sgn v)) (fun v => F (sgn v)) (by rw [List.length_map]; exact hz) (fun _ => True.intro) (fun x hx acc R r => ?_) (fun x hx hb acc R r => ?_) ?_⟩
  · obtain ⟨c, hc, rfl, e⟩ := code hx
    exact ht c hc _ R r
  · obtain ⟨c, hc, rfl, e⟩ := code hx
    exact he c hc hb _ R r
  · have e : ∀ l : List Nat, ((l.map fun c => V.str ⟨#[c]⟩).filter fun v => B (sgn v)).map (fun v => F (sgn v)) = (l.filter B).map F := by
      intro l
      induction l with
      | nil => rfl
      | cons c l ih =>
        have hc : sgn (V.str ⟨#[c]⟩) = c := rfl
        rw [List.map_cons, List.filter_cons, List.filter_cons, hc]
        cases B c with
        | true => simp [ih, hc]
        | false => simp [ih]
    rw [e]
    exact q D hD
/-- [te for x in xs if tt], xs a list -/
theorem x_lcL {l : Addr} {xs : List V} (B : V → Bool) (F : V → V) (h0 : ∀ R : VK, R (.ref l) H → tl σ H R) (hS : SqL K H l xs) (hl : xs.length < sizeLine)
    (ht : ∀ x ∈ xs, ∀ (H' : Hp) (R : Bool → Hp → Prop), Same H H' → R (B x) H' → tt ((wipe σ [i]).set i (some x)) H' R) (he : ∀ x ∈ xs, B x = true → ∀ (H' : Hp) (R : VK), Same H H' → R (F x) H' → te ((wipe σ [i]).set i (some x)) H' R)
    (q : ∀ D, H D = none → Q (.ref D) (upd H D (.lst ((xs.filter B).map F)))) : tLc (iList K tl) (gName i) tt te [i] σ H Q :=
  h0 _ ⟨l, rfl, ⟨xs, hS⟩, fun D hD => lc_pure walk_list B F hl (fun acc => (Same.new hD).seq hS) (fun x hx acc R r => ht x hx _ R (Same.new hD) r) (fun x hx hb acc R r => he x hx hb _ R (Same.new hD) r) (q D hD)⟩
/-- the same over a tuple -/
theorem x_lcT {l : Addr} {xs : List V} (B : V → Bool) (F : V → V) (h0 : ∀ R : VK, R (.ref l) H → tl σ H R) (hS : SqT K H l xs) (hl : xs.length < sizeLine)
    (ht : ∀ x ∈ xs, ∀ (H' : Hp) (R : Bool → Hp → Prop), Same H H' → R (B x) H' → tt ((wipe σ [i]).set i (some x)) H' R) (he : ∀ x ∈ xs, B x = true → ∀ (H' : Hp) (R : VK), Same H H' → R (F x) H' → te ((wipe σ [i]).set i (some x)) H' R)
    (q : ∀ D, H D = none → Q (.ref D) (upd H D (.lst ((xs.filter B).map F)))) : tLc (iTup K tl) (gName i) tt te [i] σ H Q :=
  h0 _ ⟨l, rfl, ⟨xs, hS⟩, fun D hD => lc_pure walk_tup B F hl (fun acc => seqT (Same.new hD) hS) (fun x hx acc R r => ht x hx _ R (Same.new hD) r) (fun x hx hb acc R r => he x hx hb _ R (Same.new hD) r) (q D hD)⟩
theorem x_yes {R : Bool → Hp → Prop} (q : R true H) : tYes σ H R := q
theorem x_all {D : Addr} {bs : List Bool} (h : SqL K H D (bs.map V.bl)) (q : Q (.bl (bs.all id)) H) : rAll K [.ref D] H Q := ⟨D, bs, rfl, h, q⟩
end
/-! ### the operators that lean on the written part, at a context whose part is K -/
section
variable {X : Cx} {K : PySem.W.Frag}
theorem opK_eq (h : X.K = K) (hu : X.A.units + 64 < cLine) : OpR X (compareOp .Eq) (rEqA K) := by subst h; exact opA_eq hu
theorem opK_ne (h : X.K = K) (hu : X.A.units + 64 < cLine) : OpR X (compareOp .NotEq) (rNeA K) := by subst h; exact opA_ne hu
theorem opK_in (h : X.K = K) : OpR X (compareOp .In) (rInA K) := by subst h; exact opA_in
theorem opK_notin (h : X.K = K) : OpR X (compareOp .NotIn) (rNotInA K) := by subst h; exact opA_notin
theorem slK (h : X.K = K) : SlR X (rSlB' K) := by subst h; exact slA
theorem callK_len (h : X.K = K) : CallR X (.builtin "len") (rLenA K) := by subst h; exact callA_len
theorem callK_isi (h : X.K = K) : CallR X (.builtin "isinstance") (rIsA K) := by subst h; exact callA_isi
theorem callK_list (h : X.K = K) : CallR X (.type "list") (rListA K) := by subst h; exact callA_list
theorem callK_tuple (h : X.K = K) : CallR X (.type "tuple") (rTupA K) := by subst h; exact callA_tuple
theorem ixK (h : X.K = K) : IxR X (rIx K) := by subst h; exact ix_seq
theorem cK_all (h : X.K = K) (hc : X.calm = true) : CallR X (.builtin "all") (rAll K) := by subst h; exact cr_all hc
theorem cK_any (h : X.K = K) (hc : X.calm = true) : CallR X (.builtin "any") (rAny K) := by subst h; exact cr_any hc
end
end EL

set_option maxHeartbeats 400000
/-! EL8: loops. -/
namespace EL
open PySem PySem.Spec PyProof.Rows L2
section
variable {σ : L2.St} {H : Hp} {D : Ends} {tl : TE} {tb : TS} {k : Nat} {K : PySem.W.Frag}
/-- for sign in z -/
theorem x_forS {z : Str} (Pv : List Nat → L2.St → Hp → Prop) (h0 : ∀ R : VK, R (.str z) H → tl σ H R) (p0 : Pv z.cps.toList σ H)
    (hs : ∀ c l σ H, Pv (c :: l) σ H → tb { D with nx := Pv l, ct := Pv l, bk := D.nx } (σ.set k (some (.str ⟨#[c]⟩))) H) (hd : ∀ σ H, Pv [] σ H → D.nx σ H) : tFor (iStr tl) (gName k) tb D σ H := by
  refine h0 _ ⟨z, rfl, for_it signs_walk (fun i σ H => Pv (z.cps.toList.drop i) σ H) (by simpa using p0) (fun _ _ _ _ _ => True.intro) (fun i x σ H H' hi p y => ?_) (fun σ H p => ?_)⟩
  · obtain ⟨rfl, hx⟩ := y
    rw [List.getElem?_map] at hx
    cases hc : z.cps.toList[i]? with
    | none => rw [hc] at hx; cases hx
    | some c =>
      rw [hc] at hx
      cases hx
      obtain ⟨h1, h2⟩ := List.getElem?_eq_some_iff.mp hc
      refine hs c _ σ _ ?_
      rw [← h2, ← List.drop_eq_getElem_cons h1]
      exact p
  · rw [List.length_map, List.drop_length] at p
    exact hd σ H p
/-- for x in xs, xs a list that stays -/
theorem x_forL {l : Addr} {xs : List V} (Pv : List V → L2.St → Hp → Prop) (h0 : ∀ R : VK, R (.ref l) H → tl σ H R) (hS : SqL K H l xs) (p0 : Pv xs σ H) (hk : ∀ r σ H', Pv r σ H' → SqL K H' l xs)
    (hs : ∀ x r σ H, x ∈ xs → Pv (x :: r) σ H → tb { D with nx := Pv r, ct := Pv r, bk := D.nx } (σ.set k (some x)) H) (hd : ∀ σ H, Pv [] σ H → D.nx σ H) : tFor (iList K tl) (gName k) tb D σ H := by
  refine h0 _ ⟨l, rfl, ⟨xs, hS⟩, for_it (walk_list (K := K) (a := l) (xs := xs)) (fun i σ H => Pv (xs.drop i) σ H) (by simpa using p0) (fun _ _ _ _ p => hk _ _ _ p) (fun i x σ H H' hi p y => ?_) (fun σ H p => ?_)⟩
  · obtain ⟨rfl, hx⟩ := y
    obtain ⟨h1, h2⟩ := List.getElem?_eq_some_iff.mp hx
    refine hs x _ σ _ (List.mem_of_getElem? hx) ?_
    rw [← h2, ← List.drop_eq_getElem_cons h1]
    exact p
  · rw [List.drop_length] at p
    exact hd σ H p
/-- for i in range(n) -/
theorem x_forR {ta : TA} {n : Int} (Pv : Nat → L2.St → Hp → Prop) (h0 : ∀ R : List V → Hp → Prop, R [.int n] H → ta σ H R) (hn : n < 2 ^ 62) (hn0 : -(2 ^ 62) ≤ n) (p0 : Pv 0 σ H)
    (hs : ∀ (i : Nat) σ H, (i : Int) < n → Pv i σ H → tb { D with nx := Pv (i + 1), ct := Pv (i + 1), bk := D.nx } (σ.set k (some (.int (i : Int)))) H) (hd : ∀ σ H, Pv n.toNat σ H → D.nx σ H) : tFor (iRng1 ta) (gName k) tb D σ H := by
  refine h0 _ ⟨n, rfl, hn0, hn, for_it (walk_range (lo := 0) (n := n.toNat)) Pv p0 (fun _ _ _ _ _ => True.intro) (fun i x σ H H' hi p y => ?_) hd⟩
  obtain ⟨rfl, rfl⟩ := y
  have e : (0 : Int) + (i : Int) = (i : Int) := by omega
  show tb _ (σ.set k (some (.int (0 + (i : Int))))) _
  rw [e]
  exact hs i σ _ (by omega) p
end
section
variable {σ : L2.St} {H : Hp} {Q : VK} {to te : TE}
theorem x_m0 {r : V → List V → Hp → VK → Prop} {a : Str} (h : to σ H fun x H1 => x = .str a ∧ r (.str a) [] H1 Q) (mono : ∀ {R R' : VK}, to σ H R → (∀ v H1, R v H1 → R' v H1) → to σ H R') : tM0 r to σ H Q :=
  mono h fun v H1 ⟨e, q⟩ => by subst e; exact ⟨⟨a, rfl⟩, q⟩
theorem x_m0v {r : V → List V → Hp → VK → Prop} {a : Str} {i : Nat} (h : σ[i]? = some (some (.str a))) (q : r (.str a) [] H Q) : tM0 r (tVar i) σ H Q := ⟨_, h, ⟨a, rfl⟩, q⟩
theorem x_m1 {r : V → List V → Hp → VK → Prop} (q : to σ H fun x H1 => (∃ a, x = .str a) ∧ te σ H1 fun y H2 => r x [y] H2 Q) : tM1 r to te σ H Q := q
theorem x_ms {a : Str} {P : Prop} (q : P) : (∃ b, V.str a = .str b) ∧ P := ⟨⟨a, rfl⟩, q⟩
theorem x_m1' {r : V → List V → Hp → VK → Prop} (q : to σ H fun x H1 => (∃ a, x = .str a) ∧ r x [] H1 Q) : tM0 r to σ H Q := q
end
end EL

set_option maxHeartbeats 1000000
/-! EL9: int(text) of any length below the limit. -/
namespace EL
open PySem PySem.Spec PyProof.Rows L2
open PySem.NumText
theorem digits_limit {M : Model} {A : Around} {E : Value → Shared → Prop} {s : Shared} {Q : Nat → Shared → Prop} (hd : s.heap.NoDigits) (q : Q 4300 s) : wpAny M A Builtin.intMaxStrDigits Q E s := by
  obtain ⟨mc, hns, hnone⟩ := hd
  unfold Builtin.intMaxStrDigits
  refine wpAny_bind (wpAny_nsGet hns ?_)
  rw [hnone]
  exact wpAny_pure q
theorem wp_text_long {M : Model} {A : Around} {E : Value → Shared → Prop} {s : Shared} {Q : Value → Shared → Prop} {v : Value} {text : List Nat} {n : Int} (hd : s.heap.NoDigits) (hs : ¬ (text.takeWhile (· != 0)).length ≤ 640)
    (hr : (int_private% "readNumeral") 4300 10 (text.takeWhile (· != 0)) = (int_private% "Numeral.value") n) (ha : ((text.takeWhile (· != 0)).length == text.length) = true) (h : Q (.int n s.toks) { s with toks := s.toks + 1 }) :
    wpAny M A ((int_private% "intFromText") v text 10) Q E s := by
  obtain ⟨hp, g, d, tk, os⟩ := s
  repeat (any_goals (first
    | assumption
    | (with_reducible refine wpAny_ite_false (decide_eq_false hs) ?_)
    | (with_reducible refine wpAny_ite_true (decide_eq_true ha) ?_)
    | (with_reducible refine digits_limit hd ?_)
    | wp_step))
  all_goals (try rw [hr])
  all_goals (try dsimp only)
  repeat (any_goals (first
    | assumption
    | (with_reducible refine wpAny_ite_true (decide_eq_true ha) ?_)
    | wp_step))
structure Two (p : Prop) : Prop where
  out : p
theorem meets_text_long {x : Str} {u : Tok} {n : Int} (hn : PySem.intText? x = some n) (hs : ¬ (numSeenOf x).length ≤ 640) (hx : x.length ≤ 4300) :
    Meets (Builtin.«int.__new__» ⟨[.type "int", .str x u], []⟩) (fun _ R s => s.heap.NoDigits ∧ R (.ok (.ret (.int n s.toks))) { s with toks := s.toks + 1 }) := by
  intro prog w A R s ⟨hd, h⟩
  have hr : (int_private% "readNumeral") 4300 10 (numSeenOf x) = (int_private% "Numeral.value") n ∧ ((numSeenOf x).length == (numTextOf x).length) = true := by
    rcases read4300 x (by rw [sizeLine_eq]; omega) with ⟨m, h1, h2, h3⟩ | ⟨h1, _⟩
    · rw [hn] at h1
      cases h1
      exact ⟨h3, h2⟩
    · rw [hn] at h1
      cases h1
  obtain ⟨hp, g, d, tk, os⟩ := s
  have f1 := PySem.F.conv_sub_int
  have f2 := PySem.F.madeHere_int
  have f3 := PySem.W.KIN.str_int
  have f4 := PySem.W.KIN.str_idx
  have f5 := PySem.W.KIN.str_trunc
  have f6 : typeOf (.str x u) = pure (.type "str") := rfl
  have hk := Two.mk (And.intro hs hr)
  clear hs hr hx hn
  repeat (any_goals (first
    | assumption
    | ((with_reducible show wpAny _ _ ((int_private% "intFromText") _ _ _) _ _ _); refine wp_text_long hd hk.out.1 hk.out.2.1 hk.out.2.2 ?_)
    | wp_step))
/-- int(text) -/
def rIntT : List V → Hp → VK → Prop := fun xs H Q => ∃ a n, xs = [.str a] ∧ PySem.intText? a = some n ∧ (a.length ≤ 640 ∨ (¬ (numSeenOf a).length ≤ 640 ∧ a.length ≤ 4300)) ∧ Q (.int n) H
def rIntL : List V → Hp → VK → Prop := fun xs H Q => ((∃ i, xs = [.int i] ∧ Q (.int i) H) ∨ ∃ k, xs = [.bl k] ∧ Q (.int (if k then 1 else 0)) H) ∨ rIntT xs H Q
/-- what the written part says of the setting -/
def NoDig (K : PySem.W.Frag) : Prop := PySem.W.nsOkIn K cStatics = true ∧ PySem.W.nsIn K cStatics "sys.int_max_str_digits" = some none
section
variable {X : Cx}
theorem call_int_long (hd : NoDig X.K) : CallR X (.type "int") rIntT := by
  intro pins s σ H xs us Q I rs h
  obtain ⟨a, n, rfl, hn, hl, q⟩ := h
  cases rs with
  | cons r1 rs =>
    cases rs
    obtain ⟨t, rfl⟩ := r1
    rcases hl with hl | ⟨hs, hl⟩
    · exact PySem.W.KIN.call_text hn hl ⟨.int n, H, I.tok _, ⟨_, rfl⟩, q⟩
    · have G : s.heap.Ns cStatics _ := .of_isNs (PySem.W.isNs_of_in I.kIn hd.1)
      exact call_int_1 (meets_text_long hn hs hl) ⟨⟨_, G, PySem.W.ns_none_of I.kIn G hd.2⟩, rfl, ⟨.int n, H, I.tok _, ⟨_, rfl⟩, q⟩⟩
theorem callL_int (hd : NoDig X.K) : CallR X (.type "int") rIntL := CallR.or call_int1 (call_int_long hd)
end
/-- a text of figures -/
theorem seen_digits {x : Str} (h : AllDigits x.cps.toList) : (numSeenOf x).length = x.length := by
  have h1 : numTextOf x = x.cps.toList := by
    show (if x.cps.all (· < 128) then x.cps.toList else Unicode.numberText x.cps.toList) = _
    rw [if_pos]
    rw [← Array.all_toList]
    exact List.all_eq_true.mpr fun c hc => by have := h c hc; simp; omega
  have h2 : numSeenOf x = x.cps.toList := by
    show (numTextOf x).takeWhile (· != 0) = _
    rw [h1]
    have key : ∀ l : List Nat, AllDigits l → l.takeWhile (· != 0) = l := by
      intro l
      induction l with
      | nil => intro _; rfl
      | cons c l ih =>
        intro hl
        have hc := hl c List.mem_cons_self
        rw [List.takeWhile_cons, if_pos (by simp; omega), ih hl.tail]
    exact key _ h
  rw [h2]
  simp [Str.length]
theorem x_intL {H : Hp} {Q : VK} {x : Str} (h : AllDigits x.cps.toList) (h1 : x.cps.toList ≠ []) (h2 : x.length ≤ 4300) (q : Q (.int ((digitsVal x.cps.toList : Nat) : Int)) H) : rIntL [.str x] H Q := by
  refine .inr ⟨x, _, rfl, intText_digits h h1 h2, ?_, q⟩
  by_cases hl : x.length ≤ 640
  · exact .inl hl
  · exact .inr ⟨by rw [seen_digits h]; exact hl, h2⟩
theorem x_intI {H : Hp} {Q : VK} {i : Int} (q : Q (.int i) H) : rIntL [.int i] H Q := .inl (.inl ⟨i, rfl, q⟩)
end EL

set_option maxHeartbeats 400000
/-! EL10: calls with keywords, calls without arguments. -/
namespace EL
open PySem PySem.Spec PyProof.Rows L2
/-- f(e, .., k = v, ..): the keywords ks, g the parameters' order -/
def tCallK (m : Nat) (sp : Sp) (gV : List V → List V → List V) (E : L2.St → XK) (t tk : TA) : TE := fun σ H Q => t σ H fun vs H1 => tk σ H1 fun zs H2 => vs.length = m ∧ sp (gV vs zs) H2 Q (E σ)
/-- keywords' values, as many as there are keywords -/
structure PKL (X : Cx) (kws : List Keyword) (t : TA) : Prop where
  run : ∀ (pos : Pos) (pins : List (Addr × Obj)) (s : Shared) (σ : L2.St) (H : Hp) (Q : List V → Hp → Prop), Inv X pins σ H s → t σ H Q → wpAny (model X.prog X.w) X.A (evalAll ((backToKw pos (keywordEach kws X.env)).map (·.2))) (fun us s' => ∃ xs H', Inv X pins σ H' s' ∧ Vals xs us ∧ xs.length = kws.length ∧ Q xs H') X.xe s
theorem pkl_nil {X : Cx} : PKL X [] tNil := ⟨fun _ _ _ _ H Q I h => wpAny_evalAll_nil ⟨[], H, I, .nil, rfl, h⟩⟩
theorem pkl_cons {X : Cx} {e : Expr} {kws : List Keyword} {te : TE} {t : TA} {nm : Option Str} {kpos : Pos} (ha : PE X e te) (hr : PKL X kws t) : PKL X (⟨nm, e, kpos⟩ :: kws) (tCons te t) := by
  refine ⟨fun pos pins s σ H Q I h => ?_⟩
  show wpAny _ _ (evalAll ((do let v ← eval e X.env; standAt pos; pure v) :: (backToKw pos (keywordEach kws X.env)).map (·.2))) _ _ s
  refine wpAny_evalAll_cons (wpAny_bind (thn (ha.run pins s σ H _ I h) fun u s1 ⟨x, H1, I1, r1, q1⟩ => wpAny_bind (wpAny_standAt (wpAny_pure ?_))))
  exact thn (hr.run pos pins s1 σ H1 _ I1 q1) fun us s2 ⟨xs, H2, I2, r2, l, q2⟩ => ⟨x :: xs, H2, I2, .cons r1 r2, by rw [List.length_cons, List.length_cons, l], q2⟩
section
variable {X : Cx} {k n : Nat} {f : Addr} {fd : FuncData} {ps ks : List Str} {sp : Sp} {E : L2.St → XK} {x : Str} {p pos : Pos} {e : Expr} {es : List Expr} {kws : List Keyword} {t tk : TA} {g : List Value → List Value → List Value} {gV : List V → List V → List V}
theorem runK {pins : List (Addr × Obj)} {σ : L2.St} {H : Hp} {s : Shared} {Q : VK} {us ws : List Value} {vs zs : List V} (F : FnOk X.prog X.w X.K X.mg X.base (L2N.CX X.prog X.w) k f fd ps sp) (hr : Room k X.A) (hb : KBn X.K fd ps n ks g gV) (hx : PassesAt (L2N.CX X.prog X.w) X σ (E σ))
    (I : Inv X pins σ H s) (r : Vals vs us) (rz : Vals zs ws) (l1 : vs.length = n) (l2 : ws.length = ks.length) (h : sp (gV vs zs) H Q (E σ)) : wpAny (model X.prog X.w) X.A (call (.ref f) us (ks.zip ws)) (EP X pins σ Q) X.xe s := by
  refine wpAny_call (codeAny_mono (F.run X.A X.stack s H ⟨us, ks.zip ws⟩ (g us ws) (gV vs zs) Q (E σ) hr I.env0 (hb.to s us ws I.kIn (r.length.symm.trans l1) l2) (hb.rel r rz) h) fun r' s' hq => ?_)
  cases r' with
  | error u => exact hx pins H s u s' I hq
  | ok fl => cases fl with
    | ret u => exact I.after hq
    | next => exact hq.elim
    | brk => exact hq.elim
    | cont => exact hq.elim
theorem pe_callK (F : FnOk X.prog X.w X.K X.mg X.base (L2N.CX X.prog X.w) k f fd ps sp) (hr : Room k X.A) (hg : Gl X x) (hm : X.mg x = some (.ref f)) (hk : PySem.W.keepIn X.K (.ref f) = true) (hb : KBn X.K fd ps n ks g gV) (hx : ∀ σ, PassesAt (L2N.CX X.prog X.w) X σ (E σ))
    (ha : PA X (e :: es) t) (hkw : PKL X kws tk) (hl : kws.length = ks.length := by rfl) (hall : (backToKw pos (keywordEach kws X.env)).all (·.1.isSome) = true := by rfl) (hks : (backToKw pos (keywordEach kws X.env)).filterMap (·.1) = ks := by rfl) (hdb : (x == ("__debug__" : Str)) = false := by decide)
    (he : starEach (e :: es) X.env = (false, eval e X.env) :: starEach es X.env := by rfl) (hpl : ((backTo pos (starEach (e :: es) X.env)).any (·.1) || (backToKw pos (keywordEach kws X.env)).any (·.1.isNone)) = false := by rfl) :
    PE X (.Call (.Name x p) (e :: es) kws pos) (tCallK n sp gV E t tk) := by
  refine ⟨fun pins s σ H Q I h => ?_⟩
  refine wpAny_Call_Name_kw (ld_glob I hg hm ?_ hdb)
  refine PySem.W.callWith_KW (h₀ := X.base) I.ok.mod.kin hk hall (thn (ha.run pos pins s σ H _ I h) fun us s1 ⟨vs, H1, I1, r, q⟩ => ?_) hpl he
  refine thn (hkw.run pos pins s1 σ H1 _ I1 q) fun ws s2 ⟨zs, H2, I2, rz, l2, l1, q2⟩ => ⟨I2.kIn, ?_⟩
  rw [hks]
  exact runK F hr hb (hx σ) I2 r rz l1 (by rw [← rz.length, l2, hl]) q2
theorem pe_callK0 (F : FnOk X.prog X.w X.K X.mg X.base (L2N.CX X.prog X.w) k f fd ps sp) (hr : Room k X.A) (hg : Gl X x) (hm : X.mg x = some (.ref f)) (hk : PySem.W.keepIn X.K (.ref f) = true) (hb : KBn X.K fd ps 0 ks g gV) (hx : ∀ σ, PassesAt (L2N.CX X.prog X.w) X σ (E σ))
    (hkw : PKL X kws tk) (hl : kws.length = ks.length := by rfl) (hall : (backToKw pos (keywordEach kws X.env)).all (·.1.isSome) = true := by rfl) (hks : (backToKw pos (keywordEach kws X.env)).filterMap (·.1) = ks := by rfl) (hdb : (x == ("__debug__" : Str)) = false := by decide)
    (hpl : ((backTo pos (starEach [] X.env)).any (·.1) || (backToKw pos (keywordEach kws X.env)).any (·.1.isNone)) = false := by rfl) :
    PE X (.Call (.Name x p) [] kws pos) (tCallK 0 sp gV E tNil tk) := by
  refine ⟨fun pins s σ H Q I h => ?_⟩
  refine wpAny_Call_Name_kw (ld_glob I hg hm ?_ hdb)
  refine PySem.W.callWith_KW0 (h₀ := X.base) I.ok.mod.kin hk hall ?_ hpl
  refine thn (hkw.run pos pins s σ H _ I h) fun ws s2 ⟨zs, H2, I2, rz, l2, l1, q2⟩ => ⟨I2.kIn, ?_⟩
  rw [hks]
  exact runK F hr hb (hx σ) I2 .nil rz l1 (by rw [← rz.length, l2, hl]) q2
theorem pe_call0 (F : FnOk X.prog X.w X.K X.mg X.base (L2N.CX X.prog X.w) k f fd [] sp) (hr : Room k X.A) (hg : Gl X x) (hm : X.mg x = some (.ref f)) (hk : PySem.W.keepIn X.K (.ref f) = true) (hb : Binds X.K fd [] []) (hx : ∀ σ, PassesAt (L2N.CX X.prog X.w) X σ (E σ)) (hdb : (x == ("__debug__" : Str)) = false := by decide) :
    PE X (.Call (.Name x p) [] [] pos) (tCallS sp E tNil) := by
  refine ⟨fun pins s σ H Q I h => ?_⟩
  refine wpAny_Call_Name_kw (ld_glob I hg hm ?_ hdb)
  refine PySem.W.callWith_K0 I.kIn hk ?_
  exact run_fnS F hr hb (hx σ) I .nil h
theorem kb_of {K : PySem.W.Frag} {x qual : Str} {params : Arguments} {body : List Stmt} {scope : Scope} {kw0 : List (Str × V)} (F : FunD K x qual params body scope [] kw0 f fd) (hrel : ∀ {vs : List V} {us : List Value} {zs : List V} {ws : List Value}, Vals vs us → Vals zs ws → Vals (gV vs zs) (g us ws))
    (h : ∀ (kV doc pm : Value) (an : Option Addr) (cdv ct : Value) (us ws : List Value), us.length = n → ws.length = ks.length → bindArgs (PySem.W.fnOf x qual params body scope .none kV doc pm an cdv ct) ⟨us, ks.zip ws⟩ = pure (ps.zip (g us ws))) : KBn K fd ps n ks g gV := by
  obtain ⟨oc, od, dV, kV, doc, pm, an, cdv, ct, osl, rfl, lk, hcd, hD, hK⟩ := F.ex
  rcases hD with ⟨_, rfl⟩ | ⟨e, _⟩
  · exact ⟨fun s us ws _ h1 h2 => .of_eq (h kV doc pm an cdv ct us ws h1 h2), hrel⟩
  · exact absurd rfl e
theorem kb_app {vs : List V} {us : List Value} {zs : List V} {ws : List Value} (a : Vals vs us) (b : Vals zs ws) : Vals (vs ++ zs) (us ++ ws) := a.append b
end
theorem takesF {X : Cx} : L2N.Takes X (fun _ _ _ _ => False) := fun _ _ ⟨_, _, _, _, _, _, _, _, _, _, _, _, _, _, _, _, w⟩ => w.elim
theorem x_callK {m : Nat} {sp : Sp} {gV : List V → List V → List V} {E : L2.St → XK} {t tk : TA} {σ : L2.St} {H : Hp} {Q : VK} (q : t σ H fun vs H1 => tk σ H1 fun zs H2 => vs.length = m ∧ sp (gV vs zs) H2 Q (E σ)) : tCallK m sp gV E t tk σ H Q := q
end EL
namespace EL
open PySem PySem.Spec PyProof.Rows L2
theorem x_chain {r r' : R2} {ta tb tc : TE} {σ : L2.St} {H : Hp} {Q : VK} (q : ta σ H fun x H1 => tb σ H1 fun y H2 => r x y H2 fun z H3 => ∃ k, z = .bl k ∧ (if k = true then tc σ H3 fun w' H4 => r' y w' H4 Q else Q (.bl false) H3)) : tChain r r' ta tb tc σ H Q := q
theorem x_callSD {sp : Sp} {dvs : List V} {E : L2.St → XK} {t : TA} {σ : L2.St} {H : Hp} {Q : VK} (q : t σ H fun vs H1 => sp (vs ++ dvs) H1 Q (E σ)) : tCallSD sp dvs E t σ H Q := q
end EL

set_option maxHeartbeats 400000
/-! EL11: comprehensions over a list or a tuple; dicts of keys. -/
namespace EL
open PySem PySem.Spec PyProof.Rows L2
theorem if_tt {A B : Prop} (h : A) : if true = true then A else B := h
theorem pi_or {X : Cx} {tg l : Expr} {w1 w2 : TI} (h1 : PI X tg l w1) (h2 : PI X tg l w2) : PI X tg l (fun σ H R => w1 σ H R ∨ w2 σ H R) := ⟨fun pins s σ H R I h => h.elim (fun h => h1.run pins s σ H R I h) fun h => h2.run pins s σ H R I h⟩
/-- the dict of keys -/
def dk (ys : List Str) (kvs : List (Key × V)) : List (Key × V) := ys.foldl (fun kvs y => putK kvs (.inr y) (.bl true)) kvs
theorem dk_cons (y : Str) (ys : List Str) (kvs : List (Key × V)) : dk (y :: ys) kvs = dk ys (putK kvs (.inr y) (.bl true)) := rfl
theorem dk_snoc (y : Str) (ys : List Str) (kvs : List (Key × V)) : dk (ys ++ [y]) kvs = putK (dk ys kvs) (.inr y) (.bl true) := by
  unfold dk
  rw [List.foldl_append]
  rfl
theorem put_any (kvs : List (Key × V)) (k : Key) : (kvs.any fun kv => decide (kv.1 = k)) = true ↔ k ∈ kvs.map (·.1) := by
  rw [List.any_eq_true, List.mem_map]
  simp only [decide_eq_true_eq]
theorem put_in {kvs : List (Key × V)} {k : Key} (v : V) (h : k ∈ kvs.map (·.1)) : (putK kvs k v).map (·.1) = kvs.map (·.1) := by
  unfold putK
  rw [if_pos ((put_any kvs k).mpr h), List.map_map]
  refine List.map_congr_left fun kv _ => ?_
  show (if kv.1 = k then (kv.1, v) else kv).1 = kv.1
  split <;> rfl
theorem put_out {kvs : List (Key × V)} {k : Key} (v : V) (h : k ∉ kvs.map (·.1)) : (putK kvs k v).map (·.1) = kvs.map (·.1) ++ [k] := by
  unfold putK
  rw [if_neg (fun z => h ((put_any kvs k).mp z)), List.map_append]
  rfl
theorem dk_le (ys : List Str) : ∀ kvs : List (Key × V), (dk ys kvs).length ≤ kvs.length + ys.length := by
  induction ys with
  | nil => intro kvs; exact Nat.le_refl _
  | cons y ys ih =>
    intro kvs
    rw [dk_cons]
    have h1 := ih (putK kvs (.inr y) (.bl true))
    have h2 := length_putK kvs (.inr y : Key) (V.bl true)
    rw [List.length_cons]
    omega
theorem dk_len (ys : List Str) : ∀ kvs : List (Key × V), (dk ys kvs).length = kvs.length + ys.length ↔ (ys.Nodup ∧ ∀ y ∈ ys, (.inr y : Key) ∉ kvs.map (·.1)) := by
  induction ys with
  | nil =>
    intro kvs
    exact ⟨fun _ => ⟨List.nodup_nil, fun y hy => by cases hy⟩, fun _ => rfl⟩
  | cons y ys ih =>
    intro kvs
    rw [dk_cons, List.length_cons]
    by_cases h : (.inr y : Key) ∈ kvs.map (·.1)
    · have hl : (putK kvs (.inr y) (.bl true)).length = kvs.length := by simpa using congrArg List.length (put_in (.bl true) h)
      have h1 := dk_le ys (putK kvs (.inr y) (.bl true))
      constructor
      · intro e
        omega
      · intro ⟨_, e⟩
        exact absurd h (e y List.mem_cons_self)
    · have hk := put_out (V.bl true) h
      have hl : (putK kvs (.inr y) (.bl true)).length = kvs.length + 1 := by simpa using congrArg List.length hk
      have := ih (putK kvs (.inr y) (.bl true))
      rw [hl, hk] at this
      rw [show kvs.length + (ys.length + 1) = kvs.length + 1 + ys.length by omega, this, List.nodup_cons]
      constructor
      · rintro ⟨h1, h2⟩
        refine ⟨⟨fun hy => ?_, h1⟩, fun z hz => ?_⟩
        · exact h2 y hy (List.mem_append_right _ List.mem_cons_self)
        · rcases List.mem_cons.mp hz with rfl | hz
          · exact h
          · exact fun hm => h2 z hz (List.mem_append_left _ hm)
      · rintro ⟨⟨h1, h2⟩, h3⟩
        refine ⟨h2, fun z hz hm => ?_⟩
        rcases List.mem_append.mp hm with hm | hm
        · exact h3 z (List.mem_cons_of_mem _ hz) hm
        · have e : (.inr z : Key) = .inr y := List.mem_singleton.mp hm
          cases e
          exact h1 hz
theorem dk_nodup (ys : List Str) : (dk ys []).length = ys.length ↔ ys.Nodup := by
  have h := dk_len ys []
  rw [List.length_nil, Nat.zero_add] at h
  rw [h]
  exact ⟨fun h => h.1, fun h => ⟨h, fun _ _ hm => by cases hm⟩⟩
section
variable {σ : L2.St} {H : Hp} {Q : VK} {tl te tk tv : TE} {tt : TT} {i : Nat} {K : PySem.W.Frag}
/-- [te for x in xs if tt], xs a list or a tuple -/
theorem x_lcA {l : Addr} {xs : List V} (B : V → Bool) (F : V → V) (h0 : ∀ R : VK, R (.ref l) H → tl σ H R) (hS : SqL K H l xs ∨ SqT K H l xs) (hl : xs.length < sizeLine)
    (ht : ∀ x ∈ xs, ∀ (H' : Hp) (R : Bool → Hp → Prop), Same H H' → R (B x) H' → tt ((wipe σ [i]).set i (some x)) H' R) (he : ∀ x ∈ xs, B x = true → ∀ (H' : Hp) (R : VK), Same H H' → R (F x) H' → te ((wipe σ [i]).set i (some x)) H' R)
    (q : ∀ D, H D = none → Q (.ref D) (upd H D (.lst ((xs.filter B).map F)))) : tLc (fun σ H R => iList K tl σ H R ∨ iTup K tl σ H R) (gName i) tt te [i] σ H Q :=
  hS.elim (fun h => .inl (x_lcL B F h0 h hl ht he q)) fun h => .inr (x_lcT B F h0 h hl ht he q)
theorem dc_keys {J : It} {ys : List Str} {GG : Hp → Prop} (w : Walk J (ys.map V.str).length GG (YAt (ys.map V.str))) {D : Addr} {Qd : Hp → Prop} (hl : ys.length < sizeLine) (hi : i < σ.length) (hG : ∀ kvs, GG (upd H D (.dK kvs)))
    (hd : Qd (upd H D (.dK (dk ys [])))) :
    ∃ W : Nat → Nat → Hp → Prop, (∃ m, W 0 m (upd H D (.dK []))) ∧ ∀ t m H, W t m H →
      (J.stop t H ∧ Qd H) ∨ (J.go t H ∧ ∃ Nx : Hp → Prop, (∀ H', Nx H' → ∃ m', m' < m ∧ W (t + 1) m' H') ∧ ∀ x H', J.yld t H x H' → gName i x (wipe σ [i]) H' fun σ2 H2 => wipe σ2 [i] = wipe σ [i] ∧ tYes σ2 H2 fun b H3 =>
        if b = true then tVar i σ2 H3 fun y H4 => tC (.bl true) σ2 H4 fun z H5 => ∃ kvs k, y = kV k ∧ H5 D = some (.dK kvs) ∧ kvs.length < sizeLine ∧ Nx (upd H5 D (.dK (putK kvs k z))) else Nx H3) := by
    refine ⟨fun t m H' => m = ys.length - t ∧ t ≤ ys.length ∧ H' = upd H D (.dK (dk (ys.take t) [])), ⟨_, rfl, Nat.zero_le _, rfl⟩, ?_⟩
    rintro t m H' ⟨rfl, ht, rfl⟩
    by_cases hlt : t < ys.length
    · refine .inr ⟨w.goes t _ (by rw [List.length_map]; exact hlt) (hG _), fun H' => H' = upd H D (.dK (dk (ys.take (t + 1)) [])), fun H' e => ⟨_, by omega, rfl, hlt, e⟩, fun x H' y => ?_⟩
      obtain ⟨rfl, hx⟩ := w.yields t _ x H' (by rw [List.length_map]; exact hlt) (hG _) y
      rw [List.getElem?_map, List.getElem?_eq_getElem hlt] at hx
      cases hx
      refine ⟨?_, ?_⟩
      · show (((σ.set i none).set i (some _)).set i none) = σ.set i none
        rw [List.set_set, List.set_set]
      · refine ⟨V.str ys[t], ?_, dk (ys.take t) [], .inr ys[t], rfl, upd_same, ?_, ?_⟩
        · show (((σ.set i none)).set i (some _))[i]? = _
          rw [List.getElem?_set_self (by rw [List.length_set]; exact hi)]
        · have h1 := dk_le (ys.take t) []
          rw [List.length_nil, Nat.zero_add, List.length_take] at h1
          omega
        · rw [upd_upd, List.take_add_one, List.getElem?_eq_getElem hlt]
          exact congrArg (fun z => upd H D (.dK z)) (dk_snoc ys[t] (ys.take t) []).symm
    · have e : t = ys.length := by omega
      subst e
      have h1 := w.stops (upd H D (.dK (dk ys []))) (hG _)
      rw [List.length_map] at h1
      rw [List.take_length]
      exact .inl ⟨h1, hd⟩
/-- {x: True for x in xs}, xs a list or a tuple of texts -/
theorem x_dcA {l : Addr} {ys : List Str} (h0 : ∀ R : VK, R (.ref l) H → tl σ H R) (hS : SqL K H l (ys.map V.str) ∨ SqT K H l (ys.map V.str)) (hl : ys.length < sizeLine) (hi : i < σ.length)
    (q : ∀ D, H D = none → Q (.ref D) (upd H D (.dK (dk ys [])))) : tDc (fun σ H R => iList K tl σ H R ∨ iTup K tl σ H R) (gName i) tYes (tVar i) (tC (.bl true)) [i] σ H Q :=
  hS.elim (fun h => .inl (h0 _ ⟨l, rfl, ⟨_, h⟩, fun D hD => dc_keys walk_list hl hi (fun _ => (Same.new hD).seq h) (q D hD)⟩)) fun h => .inr (h0 _ ⟨l, rfl, ⟨_, h⟩, fun D hD => dc_keys walk_tup hl hi (fun _ => seqT (Same.new hD) h) (q D hD)⟩)
end
end EL
namespace EL
open PySem PySem.Spec PyProof.Rows L2
theorem tyX_same {K : PySem.W.Frag} {H H' : Hp} {x : V} {t : Value} (e : Same H H') (h : TyX K H x t) : TyX K H' x t := by
  cases h with
  | base h => exact .base (by
      cases h with
      | non => exact .non
      | bl b => exact .bl b
      | int i => exact .int i
      | str x => exact .str x
      | flt b => exact .flt b
      | lst h => exact .lst (e _ _ h)
      | frz h => exact .frz (e _ _ h)
      | tup h => exact .tup (e _ _ h)
      | dK h => exact .dK (e _ _ h)
      | dT h => exact .dT (e _ _ h)
      | ins h a b c d f => exact .ins (e _ _ h) a b c d f)
  | byt b => exact .byt b
  | set h => exact .set (e _ _ h)
  | kList h c => exact .kList h c
  | kTuple h c => exact .kTuple h c
  | kDict h c => exact .kDict h c
  | fTuple h => exact .fTuple (e _ _ h)
  | fDict h => exact .fDict (e _ _ h)
end EL
namespace EL
open PySem PySem.Spec PyProof.Rows L2
/-- turns in which the heap may grow -/
theorem lc_more {J : It} {xs : List V} {GG : Hp → Prop} (w : Walk J xs.length GG (YAt xs)) {i : Nat} {tt : TT} {te : TE} {σ : L2.St} {H1 : Hp} {D : Addr} {Qd : Hp → Prop} (hD : H1 D = none) (B : V → Bool) (F : V → V) (hl : xs.length < sizeLine) (hG : ∀ H', Same H1 H' → GG H')
    (ht : ∀ x ∈ xs, ∀ (H' : Hp) (R : Bool → Hp → Prop), Same H1 H' → (∀ H'', Same H' H'' → R (B x) H'') → tt ((wipe σ [i]).set i (some x)) H' R) (he : ∀ x ∈ xs, B x = true → ∀ (H' : Hp) (R : VK), Same H1 H' → (∀ H'', Same H' H'' → R (F x) H'') → te ((wipe σ [i]).set i (some x)) H' R)
    (hd : ∀ H', Same H1 H' → H' D = some (.lst ((xs.filter B).map F)) → Qd H') :
    ∃ W : Nat → Nat → Hp → Prop, (∃ m, W 0 m (upd H1 D (.lst []))) ∧ ∀ t m H, W t m H →
      (J.stop t H ∧ Qd H) ∨ (J.go t H ∧ ∃ Nx : Hp → Prop, (∀ H', Nx H' → ∃ m', m' < m ∧ W (t + 1) m' H') ∧ ∀ x H', J.yld t H x H' → gName i x (wipe σ [i]) H' fun σ2 H2 => wipe σ2 [i] = wipe σ [i] ∧ tt σ2 H2 fun b H3 =>
        if b = true then te σ2 H3 fun y H4 => ∃ acc, H4 D = some (.lst acc) ∧ acc.length < sizeLine ∧ Nx (upd H4 D (.lst (acc ++ [y]))) else Nx H3) := by
  have more : ∀ {t : Nat} {x : V}, xs[t]? = some x → xs.take (t + 1) = xs.take t ++ [x] := fun {t x} e => by
    rw [List.take_add_one, e]
    rfl
  refine lc_it w (fun t H => Same H1 H ∧ H D = some (.lst (((xs.take t).filter B).map F))) ⟨Same.new hD, by simp [upd_same]⟩ (fun t H _ e => hG _ e.1) (fun t x H H' hi e y => ?_) (fun H e => ?_)
  · obtain ⟨rfl, hx⟩ := y
    obtain ⟨e1, e2⟩ := e
    have hm := List.mem_of_getElem? hx
    have hlen : (((xs.take t).filter B).map F).length < sizeLine := by
      rw [List.length_map]
      exact Nat.lt_of_le_of_lt (List.length_filter_le _ _) (Nat.lt_of_le_of_lt (by rw [List.length_take]; omega) hl)
    refine ⟨?_, ht x hm _ _ e1 fun H2 s2 => ?_⟩
    · show (((σ.set i none).set i (some x)).set i none) = σ.set i none
      rw [List.set_set, List.set_set]
    rw [more hx, List.filter_append, List.map_append]
    cases hb : B x with
    | true =>
      rw [if_pos rfl]
      refine he x hm hb _ _ (fun a o h => s2 a o (e1 a o h)) fun H3 s3 => ⟨_, s3 _ _ (s2 _ _ e2), hlen, ?_, ?_⟩
      · exact Same.mut (fun a o h => s3 a o (s2 a o (e1 a o h))) hD
      · rw [upd_same]
        simp [List.filter, hb]
    | false =>
      rw [if_neg Bool.false_ne_true]
      refine ⟨fun a o h => s2 a o (e1 a o h), ?_⟩
      rw [s2 _ _ e2]
      simp [List.filter, hb]
  · have e2 := e.2
    rw [List.take_length] at e2
    exact hd H e.1 e2
section
variable {σ : L2.St} {H : Hp} {Q : VK} {tl te : TE} {tt : TT} {i : Nat} {K : PySem.W.Frag} {l : Addr} {xs : List V}
theorem x_lcLm (B : V → Bool) (F : V → V) (h0 : ∀ R : VK, R (.ref l) H → tl σ H R) (hS : SqL K H l xs) (hl : xs.length < sizeLine)
    (ht : ∀ x ∈ xs, ∀ (H' : Hp) (R : Bool → Hp → Prop), Same H H' → (∀ H'', Same H' H'' → R (B x) H'') → tt ((wipe σ [i]).set i (some x)) H' R) (he : ∀ x ∈ xs, B x = true → ∀ (H' : Hp) (R : VK), Same H H' → (∀ H'', Same H' H'' → R (F x) H'') → te ((wipe σ [i]).set i (some x)) H' R)
    (q : ∀ D H', Same H H' → H' D = some (.lst ((xs.filter B).map F)) → Q (.ref D) H') : tLc (iList K tl) (gName i) tt te [i] σ H Q :=
  h0 _ ⟨l, rfl, ⟨xs, hS⟩, fun D hD => lc_more walk_list hD B F hl (fun _ e => e.seq hS) ht he (q D)⟩
theorem x_lcTm (B : V → Bool) (F : V → V) (h0 : ∀ R : VK, R (.ref l) H → tl σ H R) (hS : SqT K H l xs) (hl : xs.length < sizeLine)
    (ht : ∀ x ∈ xs, ∀ (H' : Hp) (R : Bool → Hp → Prop), Same H H' → (∀ H'', Same H' H'' → R (B x) H'') → tt ((wipe σ [i]).set i (some x)) H' R) (he : ∀ x ∈ xs, B x = true → ∀ (H' : Hp) (R : VK), Same H H' → (∀ H'', Same H' H'' → R (F x) H'') → te ((wipe σ [i]).set i (some x)) H' R)
    (q : ∀ D H', Same H H' → H' D = some (.lst ((xs.filter B).map F)) → Q (.ref D) H') : tLc (iTup K tl) (gName i) tt te [i] σ H Q :=
  h0 _ ⟨l, rfl, ⟨xs, hS⟩, fun D hD => lc_more walk_tup hD B F hl (fun _ e => seqT e hS) ht he (q D)⟩
theorem x_lcAm (B : V → Bool) (F : V → V) (h0 : ∀ R : VK, R (.ref l) H → tl σ H R) (hS : SqL K H l xs ∨ SqT K H l xs) (hl : xs.length < sizeLine)
    (ht : ∀ x ∈ xs, ∀ (H' : Hp) (R : Bool → Hp → Prop), Same H H' → (∀ H'', Same H' H'' → R (B x) H'') → tt ((wipe σ [i]).set i (some x)) H' R) (he : ∀ x ∈ xs, B x = true → ∀ (H' : Hp) (R : VK), Same H H' → (∀ H'', Same H' H'' → R (F x) H'') → te ((wipe σ [i]).set i (some x)) H' R)
    (q : ∀ D H', Same H H' → H' D = some (.lst ((xs.filter B).map F)) → Q (.ref D) H') : tLc (fun σ H R => iList K tl σ H R ∨ iTup K tl σ H R) (gName i) tt te [i] σ H Q :=
  hS.elim (fun h => .inl (x_lcLm B F h0 h hl ht he q)) fun h => .inr (x_lcTm B F h0 h hl ht he q)
theorem Same.seqA {H' : Hp} (e : Same H H') (h : SqL K H l xs ∨ SqT K H l xs) : SqL K H' l xs ∨ SqT K H' l xs := h.imp (fun h => e.seq h) fun h => seqT e h
theorem Same.tr {H1 H2 : Hp} (a : Same H H1) (b : Same H1 H2) : Same H H2 := fun x o h => b x o (a x o h)
end
end EL
namespace EL
open PySem PySem.Spec PyProof.Rows L2
/-- a if c else b, as a test -/
def tIfT (tc t u : TT) : TT := fun σ H Q => tc σ H fun k H1 => if k = true then t σ H1 Q else u σ H1 Q
theorem pt_ifE {X : Cx} {c a b : Expr} {tc t u : TT} {pos : Pos} (hc : PT X c tc) (ha : PT X a t) (hb : PT X b u) : PT X (.IfExp c a b pos) (tIfT tc t u) := by
  refine ⟨fun pins s σ H Q I h => ?_⟩
  refine isTrue_IfExp (thn (hc.run pins s σ H _ I h) fun d s1 ⟨H1, I1, q1⟩ => ?_)
  cases d with
  | true => exact ha.run pins s1 σ H1 Q I1 q1
  | false => exact hb.run pins s1 σ H1 Q I1 q1
theorem x_ifT' {tc t u : TT} {σ : L2.St} {H : Hp} {Q : Bool → Hp → Prop} (q : tc σ H fun k H1 => if k = true then t σ H1 Q else u σ H1 Q) : tIfT tc t u σ H Q := q
theorem x_newE {C : Addr} {ok : List V → Prop} {fl : List V → List (Str × V)} {ta : TA} {σ : L2.St} {H : Hp} {Q : XK} (q : ta σ H fun vs H1 => ok vs ∧ ∀ d, H1 d = none → Q (.ref C) (some d) (upd H1 d (.xd (fl vs)))) : tNewE C ok fl ta σ H Q := q
end EL

set_option maxHeartbeats 400000
/-! EL12: texts by their signs. -/
namespace EL
open PySem PySem.Spec PyProof.Rows L2
open SX (S)
theorem isS (z : Str) : ∃ l, z = S l := ⟨z.cps.toList, (SX.S_tl z).symm⟩
theorem S_list (l : List Nat) : (S l).cps.toList = l := rfl
theorem S_length (l : List Nat) : (S l).length = l.length := SX.S_len l
theorem cut_tail (l : List Nat) : cutS (S l) (some 1) none = S l.tail := by
  unfold cutS
  rw [S_length]
  have h1 : HT.sIx l.length 0 (some 1) = min 1 l.length := rfl
  have h2 : HT.sIx l.length l.length none = l.length := rfl
  rw [h1, h2]
  cases l with
  | nil => rfl
  | cons c l =>
    have : min 1 (c :: l).length = 1 := by rw [List.length_cons]; omega
    rw [this]
    show S ((List.drop 1 (c :: l)).take _) = _
    rw [List.drop_succ_cons, List.drop_zero, List.take_of_length_le (by rw [List.length_cons]; omega)]
    first | rfl | done
theorem cut_head (l : List Nat) : cutS (S l) none (some 1) = S (l.take 1) := by
  unfold cutS
  rw [S_length]
  have h1 : HT.sIx l.length 0 none = 0 := rfl
  have h2 : HT.sIx l.length l.length (some 1) = min 1 l.length := rfl
  rw [h1, h2, List.drop_zero, Nat.sub_zero]
  cases l with
  | nil => rfl
  | cons c l =>
    have : min 1 (c :: l).length = 1 := by rw [List.length_cons]; omega
    rw [this]
theorem head_is (l : List Nat) (c : Nat) : decide (S (l.take 1) = S [c]) = (l.head? == some c) := by
  cases l with
  | nil => rfl
  | cons d l =>
    have e : (d :: l).take 1 = [d] := rfl
    rw [e]
    by_cases h : d = c
    · subst h
      rw [decide_eq_true rfl]
      simp
    · rw [decide_eq_false (fun z => h (by have := SX.S_inj z; simpa using this))]
      simp [h]
section
variable {K : PySem.W.Frag} {σ : L2.St} {H : Hp} {Q : L2.St → Hp → Prop}
theorem x_gTup {a : Addr} {xs : List V} {n : Nat} {t : TGs} (h : SqT K H a xs) (hl : xs.length = n) (q : t xs σ H Q) : gTup K n t (.ref a) σ H Q := ⟨a, xs, rfl, h, hl, q⟩
theorem x_gTupU {a : Addr} {xs : List V} {n : Nat} {t : TGs} (hl : xs.length = n) (q : t xs σ (upd H a (.tup xs)) Q) : gTup K n t (.ref a) σ (upd H a (.tup xs)) Q := ⟨a, xs, rfl, SqT.of upd_same, hl, q⟩
theorem x_gCons {v : V} {r : List V} {t : TG} {u : TGs} (q : t v σ H fun σ' H' => u r σ' H' Q) : gCons t u (v :: r) σ H Q := ⟨v, r, rfl, q⟩
theorem x_gNil (q : Q σ H) : gNil [] σ H Q := ⟨rfl, q⟩
theorem x_ifX {t : TT} {ta tb : TE} {Q : VK} (q : t σ H fun c H1 => if c = true then ta σ H1 Q else tb σ H1 Q) : tIf t ta tb σ H Q := q
end
end EL
namespace EL
open PySem PySem.Spec PyProof.Rows L2
theorem x_bits {to : TE} {σ : L2.St} {H : Hp} {Q : VK} (q : to σ H fun x H1 => ∃ i, x = .int i ∧ Q (.int (Builtin.Int.intBits i : Nat)) H1) : tBits to σ H Q := q
end EL
namespace EL
open PySem PySem.Spec PyProof.Rows L2
section
variable {σ : L2.St} {H : Hp} {D : Ends} {tl : TE} {tb : TS} {k : Nat} {K : PySem.W.Frag}
/-- for x in e, e's own reading may lay objects -/
theorem x_forM (h : tl σ H fun v H1 => ∃ (l : Addr) (xs : List V), v = .ref l ∧ SqL K H1 l xs ∧ ∃ Pv : List V → L2.St → Hp → Prop, Pv xs σ H1 ∧ (∀ r σ H', Pv r σ H' → SqL K H' l xs) ∧
    (∀ x r σ H, x ∈ xs → Pv (x :: r) σ H → tb { D with nx := Pv r, ct := Pv r, bk := D.nx } (σ.set k (some x)) H) ∧ (∀ σ H, Pv [] σ H → D.nx σ H))
    (mono : ∀ R R' : VK, tl σ H R → (∀ v H1, R v H1 → R' v H1) → tl σ H R') : tFor (iList K tl) (gName k) tb D σ H := by
  refine mono _ _ h fun v H1 ⟨l, xs, e, hS, Pv, p0, hk, hs, hd⟩ => ?_
  subst e
  refine ⟨l, rfl, ⟨xs, hS⟩, for_it (walk_list (K := K) (a := l) (xs := xs)) (fun i σ H => Pv (xs.drop i) σ H) (by simpa using p0) (fun _ _ _ _ p => hk _ _ _ p) (fun i x σ H H' hi p y => ?_) (fun σ H p => ?_)⟩
  · obtain ⟨rfl, hx⟩ := y
    obtain ⟨h1, h2⟩ := List.getElem?_eq_some_iff.mp hx
    refine hs x _ σ _ (List.mem_of_getElem? hx) ?_
    rw [← h2, ← List.drop_eq_getElem_cons h1]
    exact p
  · rw [List.drop_length] at p
    exact hd σ H p
end
end EL

set_option maxHeartbeats 400000
/-! EL13: equality with lists of texts. -/
namespace EL
open PySem PySem.Spec PyProof.Rows L2
open SX (S)
theorem canLay_strs (zs : List Str) : PyData.canLayAll0 (zs.map PyData.str) = zs.all PyData.strOk := by
  induction zs with
  | nil => rfl
  | cons z zs ih => rw [List.map_cons, List.all_cons, ← ih]; rfl
theorem depth_strs (zs : List Str) : PyData.depthAll (zs.map PyData.str) = 0 := by
  induction zs with
  | nil => rfl
  | cons z zs ih =>
    rw [List.map_cons]
    show max 0 (PyData.depthAll (zs.map PyData.str)) = 0
    rw [ih]; rfl
theorem shaped_strs {zs : List Str} (h : zs.all PyData.strOk = true) : SeqAt.shaped (.list (zs.map PyData.str)) = true := by
  show (PyData.canLayAll0 (zs.map PyData.str) && decide (PyData.depthAll (zs.map PyData.str) + 1 ≤ 64)) = true
  rw [canLay_strs, h, depth_strs]
  rfl
theorem dp_strs {K : PySem.W.Frag} {H : Hp} (zs : List Str) : DpAll K H (zs.map V.str) (zs.map PyData.str) := by
  induction zs with
  | nil => exact .nil
  | cons z zs ih => exact .cons (.str z) ih
theorem eqv_nil (ds : List PyData) : PyData.eqv (.list ds) (.list []) = ds.isEmpty := by
  cases ds <;> rfl
/-- a list of texts == [] -/
theorem x_eqNil {K : PySem.W.Frag} {H : Hp} {Q : VK} {D e : Addr} {zs : List Str} (q : Q (.bl zs.isEmpty) H) (h : SqL K H D (zs.map V.str)) (h' : SqL K H e []) (ok : zs.all PyData.strOk = true) : rEqA K (.ref D) (.ref e) H Q := by
  refine x_eqD (d := .list (zs.map PyData.str)) (e := .list []) ?_ (.lst h (dp_strs zs)) (.lst h' .nil) (shaped_strs ok) rfl
  rw [eqv_nil, List.isEmpty_map]
  exact q
theorem x_neNil {K : PySem.W.Frag} {H : Hp} {Q : VK} {D e : Addr} {zs : List Str} (q : Q (.bl (!zs.isEmpty)) H) (h : SqL K H D (zs.map V.str)) (h' : SqL K H e []) (ok : zs.all PyData.strOk = true) : rNeA K (.ref D) (.ref e) H Q := by
  refine x_neD (d := .list (zs.map PyData.str)) (e := .list []) ?_ (.lst h (dp_strs zs)) (.lst h' .nil) (shaped_strs ok) rfl
  rw [eqv_nil, List.isEmpty_map]
  exact q
section
variable {σ : L2.St} {H : Hp} {D : Ends} {tl : TE} {tb : TS} {k : Nat} {K : PySem.W.Frag}
/-- for x in e, where e's own reading may lay objects: G tells what e leaves -/
theorem x_forN (G : V → Hp → Prop) (h : ∀ R : VK, (∀ v H1, G v H1 → R v H1) → tl σ H R)
    (q : ∀ v H1, G v H1 → ∃ (l : Addr) (xs : List V), v = .ref l ∧ SqL K H1 l xs ∧ ∃ Pv : List V → L2.St → Hp → Prop, Pv xs σ H1 ∧ (∀ r σ H', Pv r σ H' → SqL K H' l xs) ∧
    (∀ x r σ H, x ∈ xs → Pv (x :: r) σ H → tb { D with nx := Pv r, ct := Pv r, bk := D.nx } (σ.set k (some x)) H) ∧ (∀ σ H, Pv [] σ H → D.nx σ H)) : tFor (iList K tl) (gName k) tb D σ H := by
  refine h _ fun v H1 g => ?_
  obtain ⟨l, xs, e, hS, Pv, p0, hk, hs, hd⟩ := q v H1 g
  subst e
  refine ⟨l, rfl, ⟨xs, hS⟩, for_it (walk_list (K := K) (a := l) (xs := xs)) (fun i σ H => Pv (xs.drop i) σ H) (by simpa using p0) (fun _ _ _ _ p => hk _ _ _ p) (fun i x σ H H' hi p y => ?_) (fun σ H p => ?_)⟩
  · obtain ⟨rfl, hx⟩ := y
    obtain ⟨h1, h2⟩ := List.getElem?_eq_some_iff.mp hx
    refine hs x _ σ _ (List.mem_of_getElem? hx) ?_
    rw [← h2, ← List.drop_eq_getElem_cons h1]
    exact p
  · rw [List.drop_length] at p
    exact hd σ H p
end
theorem upd_none {H : Hp} {a b : Addr} {o : HO} (h : upd H a o b = none) : b ≠ a ∧ H b = none := by
  have hn : b ≠ a := fun z => by subst z; rw [upd_same] at h; cases h
  exact ⟨hn, (upd_ne hn).symm.trans h⟩
/-- the numbers from 0 on below n -/
def nums (n : Nat) : List V := (List.range n).map fun i : Nat => V.int (i : Int)
theorem range_walk {n : Nat} : Walk (Itr 0 n) (nums n).length (fun _ => True) (YAt (nums n)) := by
  have e : (nums n).length = n := by simp [nums]
  rw [e]
  refine walk_range.mono (fun _ h => h) fun i H x H' hi _ y => ⟨y.1, ?_⟩
  rw [y.2]
  unfold nums
  rw [List.getElem?_map, List.getElem?_range hi]
  show some (V.int (i : Int)) = some (V.int (0 + (i : Int)))
  rw [Int.zero_add]
section
variable {σ : L2.St} {H : Hp} {Q : VK} {ta : TA} {te : TE} {tt : TT} {i : Nat} {K : PySem.W.Frag}
/-- [te for i in range(n) if tt], the heap may grow -/
theorem x_lcRm {n : Nat} (B : V → Bool) (F : V → V) (h0 : ∀ R : List V → Hp → Prop, R [.int (n : Int)] H → ta σ H R) (hn : n < sizeLine) (hn2 : n < 2 ^ 60)
    (ht : ∀ j < n, ∀ (H' : Hp) (R : Bool → Hp → Prop), Same H H' → (∀ H'', Same H' H'' → R (B (.int (j : Int))) H'') → tt ((wipe σ [i]).set i (some (.int (j : Int)))) H' R)
    (he : ∀ j < n, B (.int (j : Int)) = true → ∀ (H' : Hp) (R : VK), Same H H' → (∀ H'', Same H' H'' → R (F (.int (j : Int))) H'') → te ((wipe σ [i]).set i (some (.int (j : Int)))) H' R)
    (q : ∀ D H', H D = none → Same H H' → H' D = some (.lst (((nums n).filter B).map F)) → Q (.ref D) H') : tLc (iRng1 ta) (gName i) tt te [i] σ H Q := by
  refine h0 _ ⟨n, rfl, by omega, by omega, ?_⟩
  rw [Int.toNat_natCast]
  have hl : (nums n).length = n := by simp [nums]
  have hm : ∀ x ∈ nums n, ∃ j < n, x = .int (j : Int) := fun x hx => by
    obtain ⟨j, hj, rfl⟩ := List.mem_map.mp hx
    exact ⟨j, List.mem_range.mp hj, rfl⟩
  refine fun D hD => lc_more range_walk hD B F (by rw [hl]; exact hn) (fun _ _ => True.intro) (fun x hx H' R s r => ?_) (fun x hx hb H' R s r => ?_) (fun H' s e => q D H' hD s e)
  · obtain ⟨j, hj, rfl⟩ := hm x hx
    exact ht j hj H' R s r
  · obtain ⟨j, hj, rfl⟩ := hm x hx
    exact he j hj hb H' R s r
end
theorem tyL_of {K : PySem.W.Frag} {H : Hp} {a : Addr} {xs : List V} (h : SqL K H a xs) : TyX K H (.ref a) (.type "list") := by
  rcases h with (h | ⟨o, h⟩) | ⟨o, its, n, h, c, _⟩
  · exact .base (.lst h)
  · exact .base (.frz h)
  · exact .kList h c
theorem tyT_of {K : PySem.W.Frag} {H : Hp} {a : Addr} {xs : List V} (h : SqT K H a xs) : TyX K H (.ref a) (.type "tuple") := by
  rcases h with (h | ⟨o, h⟩) | ⟨o, its, n, h, c, _⟩
  · exact .base (.tup h)
  · exact .fTuple h
  · exact .kTuple h c
section
variable {σ : L2.St} {H : Hp} {Q : VK} {tl te : TE} {tt : TT} {i : Nat} {K : PySem.W.Frag} {l : Addr} {xs : List V}
/-- [te for x in xs if tt] while an exception is handled -/
theorem x_lcH (B : V → Bool) (F : V → V) (h0 : ∀ R : VK, R (.ref l) H → tl σ H R) (hS : SqL K H l xs) (hl : xs.length < sizeLine)
    (ht : ∀ x ∈ xs, ∀ (H' : Hp) (R : Bool → Hp → Prop), Same H H' → R (B x) H' → tt ((wipe σ [i]).set i (some x)) H' R) (he : ∀ x ∈ xs, B x = true → ∀ (H' : Hp) (R : VK), Same H H' → R (F x) H' → te ((wipe σ [i]).set i (some x)) H' R)
    (q : ∀ D, H D = none → Q (.ref D) (upd H D (.lst ((xs.filter B).map F)))) : tLcH K tl (gName i) tt te [i] σ H Q := by
  refine h0 _ ⟨l, xs, rfl, hS, fun D hD => ⟨fun n acc => acc = ((xs.take n).filter B).map F, by simp, fun n y acc hy e => ?_, fun acc e => ?_⟩⟩
  · subst e
    have hm := List.mem_of_getElem? hy
    have hlen : (((xs.take n).filter B).map F).length < sizeLine := by
      rw [List.length_map]
      exact Nat.lt_of_le_of_lt (List.length_filter_le _ _) (Nat.lt_of_le_of_lt (by rw [List.length_take]; omega) hl)
    refine ⟨rfl, ?_, ht y hm _ _ (Same.new hD) ⟨rfl, ?_⟩⟩
    · show (((σ.set i none).set i (some y)).set i none) = σ.set i none
      rw [List.set_set, List.set_set]
    have more : xs.take (n + 1) = xs.take n ++ [y] := by rw [List.take_add_one, hy]; rfl
    dsimp only
    rw [more, List.filter_append, List.map_append]
    cases hb : B y with
    | true =>
      rw [if_pos rfl]
      refine he y hm hb _ _ (Same.new hD) ⟨rfl, hlen, ?_⟩
      simp [List.filter, hb]
    | false =>
      rw [if_neg Bool.false_ne_true]
      simp [List.filter, hb]
  · subst e
    rw [List.take_length]
    exact q D hD
end
section
variable {K : PySem.W.Frag} {H : Hp} {Q : VK} {X : Cx} {a : Addr} {cls : Value} {d : Option Addr}
theorem callX_isiK (h : X.K = K) (hc : HotE X a cls d) : CallR X (.builtin "isinstance") (rIsX K a cls d) := by subst h; exact callX_isi hc
theorem x_isX {c : V} {cv : Value} {b : Bool} {D dd : Addr} {fs : List (Str × V)} (q : Q (.bl b) H) (hcv : ∀ u, L2.RelV c u → u = cv) (hdd : H dd = some (.xd fs)) (C : ExcC K D) (e : PySem.W.kitOne K (.ref D) cv = some b) : rIsX K a (.ref D) (some dd) [.ref a, c] H Q :=
  ⟨c, cv, b, D, dd, fs, rfl, hcv, rfl, rfl, hdd, C, e, q⟩
end
end EL

set_option maxHeartbeats 400000
/-! EL14: defs in which a token is out (replace); fields of a handled exception of several classes. -/
namespace EL
open PySem PySem.Spec PyProof.Rows L2
open SX (S)
section
variable {X : Cx} {o e : Expr} {to te : TE}
/-- o.m(e), o wants a token -/
theorem pet_m1 {m : Str} {id : String} {r : V → List V → Hp → VK → Prop} {apos pos : Pos} (sl : Slot "str" m id) (ty : typeOf (.builtin id) = pure (.type "method_descriptor")) (mt : MtR X id r) (ho : PET X o to) (he : PE X e te) (hs : starEach [e] X.env = [(false, eval e X.env)] := by rfl)
    (hb : attributeBase o m X.env (eval o X.env) = eval o X.env := by rfl) (hl : (apos.endLine == pos.line) = true := by rfl) : PET X (.Call (.Attribute o m apos) [e] [] pos) (tM1 r to te) := by
  intro pins s σ H Q h0 I h
  refine PySem.Call_method1 hb hs hl (thn (ho pins s σ H _ h0 I h) fun v s1 ⟨x, H1, I1, r1, ⟨a, ea⟩, q1⟩ => ?_)
  subst ea
  obtain ⟨t, et⟩ := _root_.id r1
  subst et
  refine ⟨"str", _, PySem.F.plainAttrs_str, sl, ty, typeIs_str _ _ _, (fun _ z => nomatch z), Calls.callWith_builtin rfl (Calls.evalArgs_plain (Calls.spliced_cons (thn (he.run pins s1 σ H1 _ I1 q1) fun u s2 ⟨y, H2, I2, r2, q2⟩ => ?_)))⟩
  exact Calls.spliced_nil (mt pins s2 σ H2 _ [y] _ [u] Q I2 r1 (.cons r2 .nil) q2)
theorem pet_split {apos pos : Pos} (ho : PET X o to) (he : PE X e te) (hs : starEach [e] X.env = [(false, eval e X.env)] := by rfl) (hb : attributeBase o "split" X.env (eval o X.env) = eval o X.env := by rfl) (hl : (apos.endLine == pos.line) = true := by rfl) :
    PET X (.Call (.Attribute o "split" apos) [e] [] pos) (tM1 (fun x xs H Q => ∃ a b, x = .str a ∧ xs = [.str b] ∧ (b.length == 0) = false ∧ a.length + 2 ≤ sizeLine ∧ rNewStrs (Txt.split a b) H Q) to te) := pet_m1 PySem.F.slot_str_split PySem.F.type_str_split mt_split ho he hs hb hl
end
/-- a def in which a token is out -/
theorem okT {P : Program} {w : World} {K : PySem.W.Frag} {mg : Str → Option Value} {base : Heap} {x qual : Str} {params : Arguments} {body : List Stmt} {scope : Scope} {dvs : List V} {kws : List (Str × V)} {f : Addr} {fd : FuncData} {CX : CXT} {N ps : List Str} {k : Nat} {sp : Sp}
    (F : FunD K x qual params body scope dvs kws f fd) (S : FnScope N ps scope) (hnc : ∀ y ∈ scope.names, y.2 ≠ .cell) (hps : 1 ≤ ps.length) (len : ∀ vs H Q E, sp vs H Q E → vs.length = ps.length)
    (hbody : ∀ (cdv : Value) (A : Around) (outer : List Env) (s : Shared) (H : Hp) (vs : List V) (Q : VK) (E : XK), Room k (A.deeper (envOfC qual scope s.heap.objs.size f cdv)) → sp vs H Q E →
      ∃ t, PSsT (cxOf CX P w K mg base N qual scope f cdv A outer s H E) body t ∧ t { nx := fun _ H' => Q .non H', rt := Q } (start N vs) H) : FnOk P w K mg base CX (k + 1) f fd ps sp := by
  obtain ⟨oc, od, dV, kV, doc, pm, an, cdv, ct, osl, e, lk, hcd, _, _⟩ := F.ex
  subst e
  exact fn_ofT lk hcd S hnc hps len (hbody cdv)
/-! ### replace of a sign by a sign -/
theorem repl_sign (a b : Nat) : ∀ l : List Nat, PySem.StrLaws.replL [a] [b] l = l.map fun c => if c = a then b else c
  | [] => PySem.StrLaws.replL_nil
  | c :: l => by
    by_cases h : c = a
    · subst h
      rw [PySem.StrLaws.replL_hit (by simp) rfl, List.map_cons, if_pos rfl]
      show [b] ++ PySem.StrLaws.replL [c] [b] l = _
      rw [repl_sign c b l]
      rfl
    · rw [PySem.StrLaws.replL_miss (fun z => h (by simpa using z)), List.map_cons, if_neg h, repl_sign a b l]
theorem replace_sign (a b : Nat) (l : List Nat) : Txt.replace (S l) (S [a]) (S [b]) = S (l.map fun c => if c = a then b else c) := by
  refine TL.ext_tl ?_
  rw [← repl_sign]
  exact PySem.StrLaws.replace_list (x := S l) (y := S [a]) (z := S [b]) (by rw [SX.S_len]; exact Nat.le_refl 1)
theorem spl_len (a : Nat) : ∀ (l acc : List Nat), ∀ p ∈ TL.spl [a] 0 acc l, p.length ≤ acc.length + l.length
  | [], acc, p, h => by
    rw [TL.spl_nil] at h
    rw [List.mem_singleton.mp h]
    exact Nat.le_add_right _ _
  | c :: l, acc, p, h => by
    cases q : TL.pre [a] (c :: l) with
    | true =>
      rw [TL.spl_hit q] at h
      rcases List.mem_cons.mp h with e | h
      · rw [e]
        exact Nat.le_add_right _ _
      · have := spl_len a l [] p h
        rw [List.length_nil, Nat.zero_add] at this
        rw [List.length_cons]
        omega
    | false =>
      rw [TL.spl_miss q] at h
      have := spl_len a l (acc ++ [c]) p h
      rw [List.length_append, List.length_singleton] at this
      rw [List.length_cons]
      omega
/-! ### e.f, e the exception that is handled, its class one of several -/
def tXfA (K : PySem.W.Frag) (a : Addr) (cls : Value) (d : Option Addr) (n : Str) (te : TE) : TE := fun σ H Q => ∃ C : Addr, XfC K C ∧ PySem.W.findIn K (.ref C) n = some none ∧ tXf a cls d C n te σ H Q
theorem pe_xfA {X : Cx} {a : Addr} {oe : Obj} {cls : Value} {d : Option Addr} {pn : List (Addr × Obj)} {e : Expr} {te : TE} {pos : Pos} {n : Str} (hz : L2N.Zn cls d oe) (hf : ∃ vs, oe.data = .fields vs) (he : PE (X.suite a ((a, oe) :: pn)) e te)
    (hb : attributeBase e n X.env (eval e X.env) = eval e X.env := by rfl) : PE (X.suite a ((a, oe) :: pn)) (.Attribute e n pos) (tXfA X.K a cls d n te) :=
  ⟨fun pins s σ H Q I ⟨_, T, no, h⟩ => (pe_xf T no ⟨hz.1, hz.2.1⟩ hf he hb).run pins s σ H Q I h⟩
theorem x_xf {K : PySem.W.Frag} {a C dd : Addr} {n : Str} {i : Nat} {σ : L2.St} {H : Hp} {Q : VK} {fs : List (Str × V)} {v : V} (T : XfC K C) (no : PySem.W.findIn K (.ref C) n = some none) (hi : σ[i]? = some (some (.ref a))) (hd : H dd = some (.xd fs)) (hv : fs.lookup n = some v) (q : Q v H) :
    tXfA K a (.ref C) (some dd) n (tVar i) σ H Q := ⟨C, T, no, .ref a, hi, rfl, rfl, dd, fs, v, rfl, hd, hv, q⟩
end EL

set_option maxHeartbeats 1000000
/-! EL15: defs that are called where nothing is being shown (guards []): repr; the end of a law by them. -/
theorem L2H.RoomH.units {k : Nat} {A : PySem.Around} (r : L2H.RoomH k A) : A.units + 64 < PySem.cLine := by have := r.un; omega
namespace EL
open PySem PySem.Spec PyProof.Rows L2 LamX
/-- a promise kept where nothing is being shown -/
structure FnG (P : Program) (w : World) (K : PySem.W.Frag) (mg : Str → Option Value) (base : Heap) (k : Nat) (f : Addr) (fd : FuncData) (ps : List Str) (sp : Sp) : Prop where
  len : ∀ vs H Q E, sp vs H Q E → vs.length = ps.length
  run : ∀ (A : Around) (outer : List Env) (s : Shared) (H : Hp) (args : Args) (us : List Value) (vs : List V) (Q : VK) (E : XK), Room k A → A.guards = some [] → Env0 P w K mg base A outer s H → BindsTo s fd args (ps.zip us) → Vals vs us → sp vs H Q E →
    codeAny (model P w) A (.call (.ref f) args) (CR (L2N.CX P w) outer P w H s Q E) s
abbrev OkG (P : Program) (w : World) (K : PySem.W.Frag) (mg : Str → Option Value) (base : Heap) (k : Nat) (x : Str) (ps : List Str) (sp : Sp) : Prop := FnG P w K mg base k (He.ga K x) (fdOf K x) ps sp
theorem okG {P : Program} {w : World} {K : PySem.W.Frag} {mg : Str → Option Value} {base : Heap} {x qual y : Str} {params : Arguments} {body : List Stmt} {scope : Scope} {dvs : List V} {kws : List (Str × V)} {fd : FuncData} {N ps : List Str} {k : Nat} {sp : Sp}
    (F : FunD K x qual params body scope dvs kws (He.ga K y) fd) (S : FnScope N ps scope) (len : ∀ vs H Q E, sp vs H Q E → vs.length = ps.length)
    (hbody : ∀ (cdv : Value) (A : Around) (outer : List Env) (s : Shared) (H : Hp) (vs : List V) (Q : VK) (E : XK), Room k (A.deeper (envOfC qual scope s.heap.objs.size (He.ga K y) cdv)) → A.guards = some [] → cdv = .ref (He.cT K (y, none)).1 → sp vs H Q E →
      ∃ t, PSs (cxOf (L2N.CX P w) P w K mg base N qual scope (He.ga K y) cdv A outer s H E) body t ∧ t { nx := fun _ H' => Q .non H', rt := Q } (L2.start N vs) H) : FnG P w K mg base (k + 1) (He.ga K y) fd ps sp := by
  obtain ⟨oc, od, dV, kV, doc, pm, an, cdv, ct, osl, e, lk, hcd, _, _⟩ := F.ex
  obtain ⟨c, ec⟩ := He.codeIn_ref hcd
  subst e
  have ed : cdv = .ref (He.cT K (y, none)).1 := by
    rw [ec]
    exact congrArg Value.ref (He.codeOf_eq (p := (y, none)) lk ec).symm
  exact ⟨len, fun A outer s H args us vs Q E hr hg e0 hb r hsp => run_ofS lk hcd S hr e0 hb r (len _ _ _ _ hsp) fun hr' => hbody cdv A outer s H vs Q E hr' hg ed hsp⟩
section
variable {X : Cx} {k : Nat} {f : Addr} {fd : FuncData} {ps : List Str} {sp : Sp} {E : L2.St → XK} {x : Str} {q pos : Pos} {e : Expr} {es : List Expr} {t : TA}
theorem pe_callG (F : FnG X.prog X.w X.K X.mg X.base k f fd ps sp) (hr : Room k X.A) (hgd : X.A.guards = some []) (hg : Gl X x) (hm : X.mg x = some (.ref f)) (hk : PySem.W.keepIn X.K (.ref f) = true) (hb : Binds X.K fd ps []) (hx : ∀ σ, PassesAt (L2N.CX X.prog X.w) X σ (E σ))
    (ha : PA X (e :: es) t) (hdb : (x == ("__debug__" : Str)) = false := by decide) (he : starEach (e :: es) X.env = (false, eval e X.env) :: starEach es X.env := by rfl) (hpl : (backTo pos (starEach es X.env)).any (·.1) = false := by rfl) : PE X (.Call (.Name x q) (e :: es) [] pos) (tCallS sp E t) := by
  refine ⟨fun pins s σ H Q I h => wpAny_Call_Name_kw (ld_glob I hg hm ?_ hdb)⟩
  refine PySem.W.callWith_K (h₀ := X.base) I.ok.mod.kin hk (thn (ha.run pos pins s σ H _ I h) fun us s1 ⟨vs, H1, I1, r, w⟩ => ⟨I1.kIn, ?_⟩) he hpl
  have b := hb s1 us I1.kIn (by rw [List.append_nil, ← r.length]; exact F.len _ _ _ _ w)
  rw [List.append_nil] at b
  refine wpAny_call (codeAny_mono (F.run X.A X.stack s1 H1 ⟨us, []⟩ us vs Q (E σ) hr hgd I1.env0 b r w) fun r' s' hq => ?_)
  cases r' with
  | error u => exact hx σ pins H1 s1 u s' I1 hq
  | ok fl => cases fl with
    | ret u => exact I1.after hq
    | next => exact hq.elim
    | brk => exact hq.elim
    | cont => exact hq.elim
end
theorem roomS {X : Cx} {j k : Nat} {a : Addr} {pn : List (Addr × Obj)} (hr : Room k X.A) (h : j ≤ k) : L2H.RoomH j (X.suite a pn).A :=
  ⟨by have := hr.dp; show X.A.depth + 3 * j + 5 < _; omega, by have := hr.un; show X.A.units + 16 * j + 200 < _; omega⟩
/-! ### repr -/
def rRepr (K : PySem.W.Frag) : List V → Hp → VK → Prop := fun xs H Q =>
  (∃ x d, xs = [x] ∧ Dp K H x d ∧ d.showable = true ∧ d.hasDict = false ∧ d.depth ≤ 32 ∧ d.shown.length ≤ sizeLine ∧ Q (.str d.shown) H) ∨ (∃ a, xs = [.ref a] ∧ H a = some (.dK []) ∧ Q (.str (PyData.dict []).shown) H)
theorem callK_repr {X : Cx} {K : PySem.W.Frag} (h : X.K = K) (hg : X.A.guards = some []) (hu : X.A.units + 64 < cLine) : CallR X (.builtin "repr") (rRepr K) := by
  subst h
  intro pins s σ H xs us Q I r h
  rcases h with ⟨x, d, rfl, hd, h1, h2, h3, h4, q⟩ | ⟨a, rfl, ha, q⟩
  · cases r with
    | cons r1 rs =>
      cases rs
      obtain ⟨as, rd⟩ := hd.reads I d x _ r1
      have hq : ∀ (h' : Heap) (u tk : Tok), (∀ b o, s.heap.get? b = some o → h'.get? b = some o) → EP X pins σ Q (.str d.shown u) { s with heap := h', toks := tk } := fun h' u tk hk => ⟨.str d.shown, H, I.kept (t' := tk) hk, ⟨u, rfl⟩, q⟩
      cases rd with
      | none => exact PySem.P.repr_of_none (by have z := hq s.heap s.toks (s.toks + 1) (fun _ _ e => e); rw [PyData.shown] at z; exact z)
      | bool b => exact PySem.P.repr_of_bool (by have z := hq s.heap s.toks (s.toks + 1) (fun _ _ e => e); rw [PyData.shown] at z; exact z)
      | int i t => exact PySem.P.repr_of_int (by simpa [PyData.showable] using h1) (by have z := hq s.heap s.toks (s.toks + 1) (fun _ _ e => e); rw [PyData.shown] at z; exact z)
      | str x t => exact PySem.P.repr_of_str (by have z := hq s.heap s.toks (s.toks + 1) (fun _ _ e => e); rw [PyData.shown] at z; exact z) (by simpa only [PyData.shown] using h4)
      | list g1 g2 g3 g4 => exact repr_of_reads' (.list g1 g2 g3 g4) h1 (fun z => by rw [h2] at z; cases z) hg (by omega) (fun _ _ e => e) hq h4
      | tuple g1 g2 g3 g4 => exact repr_of_reads' (.tuple g1 g2 g3 g4) h1 (fun z => by rw [h2] at z; cases z) hg (by omega) (fun _ _ e => e) hq h4
      | dict g1 g2 g3 g4 g5 => exact repr_of_reads' (.dict g1 g2 g3 g4 g5) h1 (fun z => by rw [h2] at z; cases z) hg (by omega) (fun _ _ e => e) hq h4
  · cases r with
    | cons r1 rs =>
      cases rs
      cases r1
      obtain ⟨_, nm, vs, kv, hD⟩ := dk_of I.hok ha
      cases kv
      obtain ⟨o, es, n, g1, g2, g3, g4, g5, g6⟩ := hD
      have e0 : es.toList = [] := by
        generalize es.toList = l at g5
        cases g5
        rfl
      have rd : Reads s.heap (.ref a) (.dict []) (a :: [] ++ []) := .dict g1 g2.1 g3 (by rw [e0]; exact .nil) (by rw [e0]; exact .nil)
      refine repr_of_reads' rd rfl (fun _ hm => ?_) hg (by show X.A.units + (_ + 1) < cLine; simp only [PyData.depth, PyData.depthKv]; omega) (fun _ _ e => e) (fun h' u tk hk => ⟨.str (PyData.dict []).shown, H, I.kept (t' := tk) hk, ⟨u, rfl⟩, q⟩) (by decide)
      have em : sysModules = a := by simpa using hm
      rw [← em] at nm
      simp at nm
/-! ### the end -/
section
variable {P : Program} {w : World} {K : PySem.W.Frag} {mg mb : Str → Option Value} {a : Addr} {cs : List (Addr × Addr)} {s : Shared} {vs : List Value} {ns : List Int}
/-- what the walk tracks at its start: the tables, and the script if it is not written -/
def H0 (K : PySem.W.Frag) (cs : List (Addr × Addr)) (a : Addr) (vs : List Value) (ns : List Int) : Hp := fun b => if b ∈ cs.map (·.2) then some (.tbl #[]) else if b = a ∧ K.lookup a = none then some (.frz { cls := .type "list", data := .seq vs.toArray } (.lst (ns.map V.int))) else none
theorem start_env (KX : K.In s.heap) (hns : s.heap.Ns mainGlobals mg) (hb : s.heap.Ns builtinsNs mb) (hbb : ∀ x : Str, x ≠ "__name__" → mb x = bootBuiltins x) (hlim : s.heap.NoLimit) (hg : s.gens = #[])
    (hT : ∀ p ∈ cs, s.heap.get? p.2 = some { cls := .none, data := .fields #[] }) (nT : ∀ p ∈ cs, K.lookup p.2 = none) (C : ∀ p ∈ cs, PySem.W.CodeHd s.heap p.1 p.2)
    (hbm : ∃ (bm : Addr) (ob : Obj), mg "__builtins__" = some (.ref bm) ∧ bm ≠ builtinsNs ∧ s.heap.get? bm = some ob ∧ ob.cls = .type "module" ∧ ob.dict = some builtinsNs ∧ ob.data = .plain)
    (ha : s.heap.get? a = some { cls := .type "list", data := .seq vs.toArray }) (hi : IntsAre vs ns) (hl : ns.length ≤ sizeLine) :
    ∃ base : Heap, K.In base ∧ base.Ns mainGlobals mg ∧ (∀ p ∈ cs, TabB base mg p.1 p.2) ∧ Env0 P w K mg base callerA [] s (H0 K cs a vs ns) ∧ (∀ p ∈ cs, H0 K cs a vs ns p.2 = some (.tbl #[])) ∧ SqL K (H0 K cs a vs ns) a (ns.map V.int) := by
  generalize eH : H0 K cs a vs ns = H
  have isT : ∀ b : Addr, b ∈ cs.map (·.2) → s.heap.get? b = some { cls := .none, data := .fields #[] } ∧ K.lookup b = none := fun b hb => by
    obtain ⟨p, hp, e⟩ := List.mem_map.mp hb
    rw [← e]
    exact ⟨hT p hp, nT p hp⟩
  have aT : a ∉ cs.map (·.2) := fun z => by
    have q := (isT a z).1
    rw [ha] at q
    have z' : Data.seq vs.toArray _ = Data.fields #[] := congrArg Obj.data (Option.some.inj q)
    cases z'
  have H1 : ∀ b, b ∈ cs.map (·.2) → H b = some (.tbl #[]) := fun b hb => by rw [← eH]; exact if_pos hb
  have H2 : ∀ b, b ∉ cs.map (·.2) → b = a → K.lookup a = none → H b = some (.frz { cls := .type "list", data := .seq vs.toArray } (.lst (ns.map V.int))) := fun b h1 h2 h3 => by
    rw [← eH]
    unfold H0
    rw [if_neg h1, if_pos ⟨h2, h3⟩]
  have H3 : ∀ b, b ∉ cs.map (·.2) → ¬ (b = a ∧ K.lookup a = none) → H b = none := fun b h1 h2 => by
    rw [← eH]
    unfold H0
    rw [if_neg h1, if_neg h2]
  -- what is tracked is a table or the script, and not written
  have trk : ∀ b u, H b = some u → (b ∈ cs.map (·.2) ∧ u = .tbl #[]) ∨ (b = a ∧ K.lookup a = none ∧ u = .frz { cls := .type "list", data := .seq vs.toArray } (.lst (ns.map V.int))) := fun b u e => by
    by_cases h1 : b ∈ cs.map (·.2)
    · rw [H1 b h1] at e
      exact .inl ⟨h1, (Option.some.inj e).symm⟩
    · by_cases h2 : b = a ∧ K.lookup a = none
      · rw [H2 b h1 h2.1 h2.2] at e
        exact .inr ⟨h2.1, h2.2, (Option.some.inj e).symm⟩
      · rw [H3 b h1 h2] at e
        cases e
  have notK : ∀ b o, K.lookup b = some o → H b = none := fun b o e => by
    cases q : H b with
    | none => rfl
    | some u =>
      rcases trk b u q with ⟨h1, _⟩ | ⟨h1, h2, _⟩
      · rw [(isT b h1).2] at e
        cases e
      · rw [h1, h2] at e
        cases e
  have notD : ∀ {b : Addr} {o : Obj}, s.heap.get? b = some o → (∀ vs n, o.data ≠ .seq vs n) → o.data ≠ .fields #[] → H b = none := fun {b o} e h1 h2 => by
    cases q : H b with
    | none => rfl
    | some u =>
      rcases trk b u q with ⟨h3, _⟩ | ⟨h3, _⟩
      · rw [(isT b h3).1] at e
        cases e
        exact (h2 rfl).elim
      · rw [h3, ha] at e
        cases e
        exact (h1 _ _ rfl).elim
  have nsK : ∀ {b : Addr} {m : Str → Option Value}, s.heap.Ns b m → (hidT s.heap H).Ns b m := fun {b m} ⟨o, es, ep, e, d, r⟩ => ⟨o, es, ep, hidT_get e (notD e (fun _ _ z => by rw [d] at z; cases z) fun z => by rw [d] at z; cases z), d, r⟩
  have hKb : K.In (hidT s.heap H) := fun b o e => hidT_get (KX b o e) (notK b o e)
  have hM : L2.Mod K mg (hidT s.heap H) := ⟨hKb, nsK hns, ⟨mb, nsK hb, hbb⟩, let ⟨mc, h1, h2⟩ := hlim; ⟨mc, nsK h1, h2⟩⟩
  have lv := hi.length
  have rv := vals_ints hi
  have hok : HOk P w H s.heap := fun b u e => by
    rcases trk b u e with ⟨h1, rfl⟩ | ⟨rfl, _, rfl⟩
    · exact (isT b h1).1
    · exact ⟨ha, by rw [List.length_map]; exact hl, vs, _, rv, ha⟩
  refine ⟨hidT s.heap H, hKb, nsK hns, fun p hp => ?_, ⟨rfl, hM, fun b o e => of_hidT e, Nat.le_of_eq (hidT_size _ _), True.intro, fun b hb => absurd (show b ∈ ([] : List Addr) from hb) (by simp), hok, .of_eq hg⟩, fun p hp => H1 _ (List.mem_map.mpr ⟨p, hp, rfl⟩), ?_⟩
  · have tp := hT p hp
    obtain ⟨bm, ob, b1, b2, b3, b4, b5, b6⟩ := hbm
    have nG : ∀ {b : Addr} {o : Obj}, s.heap.get? b = some o → (∀ es ep, o.data ≠ .dict es ep) → b ≠ mainGlobals := fun {b o} e hd z => by
      obtain ⟨o', es, ep, e', hd', _⟩ := hns
      rw [z, e'] at e
      cases e
      exact hd _ _ hd'
    refine ⟨?_, ⟨bm, ob, b1, b2, nG b3 (fun _ _ z => by rw [b6] at z; cases z), fun z => ?_, hidT_get b3 (notD b3 (fun _ _ z => by rw [b6] at z; cases z) fun z => by rw [b6] at z; cases z), b4, b5, b6⟩, fun z => nG tp (fun _ _ z => by cases z) z.symm⟩
    · obtain ⟨o, us, file, tf, flags, tg, inF, text, tt, e1, r1, r2, r3, rest⟩ := C p hp
      exact ⟨o, us, file, tf, flags, tg, inF, text, tt, hidT_get e1 (notD e1 (fun _ _ z => by rw [r2] at z; cases z) fun z => by rw [r2] at z; cases z; simp at r3), r1, r2, r3, rest⟩
    · rw [z, tp] at b3
      cases b3
      cases b6
  · cases hk : K.lookup a with
    | none => exact .inl (.inr ⟨_, H2 a aT rfl hk⟩)
    | some o =>
      have e := KX a o hk
      rw [ha] at e
      cases e
      exact .inr ⟨_, vs.toArray, _, hk, rfl, rfl, rfl, by rw [List.size_toArray, lv]; exact hl, by simpa using rv⟩
/-- what stood before stands as it was, but for the tables, which grew -/
theorem end_env {u : Value} {s' : Shared} (hT : ∀ p ∈ cs, s.heap.get? p.2 = some { cls := .none, data := .fields #[] }) (nT : ∀ p ∈ cs, K.lookup p.2 = none) (C : ∀ p ∈ cs, PySem.W.CodeHd s.heap p.1 p.2)
    (ha : s.heap.get? a = some { cls := .type "list", data := .seq vs.toArray }) (h : CE [] P w (H0 K cs a vs ns) s (fun v _ => v = .bl true) u s') : u = .bool true ∧ OldK s.heap s'.heap ∧ s'.os = s.os ∧ AllBare s'.gens := by
  obtain ⟨v, H', os, bare, un, ok, r, q⟩ := h
  have q : v = .bl true := q
  subst q
  obtain rfl : u = Value.bool true := r
  have memT : ∀ b, b ∈ cs.map (·.2) → ∃ p ∈ cs, p.2 = b := fun b hb => by
    obtain ⟨p, hp, e⟩ := List.mem_map.mp hb
    exact ⟨p, hp, e⟩
  have grown : ∀ p ∈ cs, ∃ more : Array Value, s'.heap.get? p.2 = some { cls := .none, data := .fields more } := fun p hp => by
    obtain ⟨more, z⟩ := un.tbls p.2 #[] (if_pos (List.mem_map.mpr ⟨p, hp, rfl⟩))
    exact ⟨_, ok p.2 _ z⟩
  have key : ∀ b o, b ∉ cs.map (·.2) → s.heap.get? b = some o → s'.heap.get? b = some o := fun b o nb e => by
    by_cases h2 : b = a ∧ K.lookup a = none
    · have z : H0 K cs a vs ns b = some (.frz { cls := .type "list", data := .seq vs.toArray } (.lst (ns.map V.int))) := (if_neg nb).trans (if_pos h2)
      obtain ⟨e2, _⟩ := ok b _ (un.frzs b _ _ z)
      rw [h2.1, ha] at e
      cases e
      exact e2
    · exact un.keep b o e ((if_neg nb).trans (if_neg h2)) (fun z => absurd (show b ∈ ([] : List Addr) from z) (by simp)) (by simp)
  refine ⟨rfl, ⟨fun b o e => ?_, fun b o e => ?_⟩, os, bare⟩
  · by_cases hb : b ∈ cs.map (·.2)
    · obtain ⟨p, hp, rfl⟩ := memT b hb
      obtain ⟨more, hm⟩ := grown p hp
      have e0 := hT p hp
      rw [e0] at e
      cases e
      exact .inr (.inl ⟨((C p hp).tab e0).isCodeTable, rfl, #[], more, rfl, hm.trans (by rw [Array.empty_append])⟩)
    · exact .inl (key b o hb e)
  · by_cases hb : b ∈ cs.map (·.2)
    · obtain ⟨p, hp, rfl⟩ := memT b hb
      obtain ⟨more, hm⟩ := grown p hp
      exact ⟨_, hm⟩
    · exact ⟨o, key b o hb e⟩
end
/-- the end of a law whose walk begins where nothing is being shown -/
theorem walk_G {l : PySem.W.OpenLaw} {n k : Nat} {q : Program} {loose : List Str} {XP : (Str → Option Value) → Heap → Prop} {YP : World → Heap → Prop} {d : DefRec} {x : Str} (hn : l.most = some n) (hn2 : n ≤ sizeLine) (hdf : d.params.defaults = []) (hr : Room k callerA)
    (F : ∀ (w : World) (mg : Str → Option Value) (fa : Addr) (h : Heap), YP w h → h.Ns mainGlobals mg → mg d.name = some (.ref fa) → ∃ (K : PySem.W.Frag) (fd : FuncData) (cs : List (Addr × Addr)) (sp : Sp), K.In h ∧ (∀ p ∈ cs, h.get? p.2 = some { cls := .none, data := .fields #[] }) ∧ (∀ p ∈ cs, K.lookup p.2 = none) ∧
      (∀ p ∈ cs, PySem.W.CodeHd h p.1 p.2) ∧ (∀ (s : Shared) (u : Value), BindsTo s fd ⟨[u], []⟩ [(x, u)]) ∧
      (∀ (H : Hp) (a : Addr) (ns : List Int), ns.length ≤ n → (∀ z ∈ ns, Builtin.Int.intBits z ≤ 1048576) → (∀ p ∈ cs, H p.2 = some (.tbl #[])) → SqL K H a (ns.map V.int) → sp [.ref a] H (fun v _ => v = .bl true) fun _ _ _ => False) ∧
      ∀ base : Heap, K.In base → base.Ns mainGlobals mg → (∀ p ∈ cs, TabB base mg p.1 p.2) → FnG l.prog w K mg base k fa fd [x] sp) : PySem.W.WalkO q loose XP YP l.row.toRowW d [] (fun f vs => PySem.call f vs) := by
  refine Att.attach_callB hn hdf fun w s₀ s mg mb fa o pm cd doc a vs ns G Y ho hd hcd hmg hobj hints hlen hbits hg => ?_
  obtain ⟨K, fd, cs, sp, KX, hT, nT, C, hb, hsp, hF⟩ := F w mg fa _ Y G.T.g hmg
  obtain ⟨base, h1, h2, h3, e0, h4, h5⟩ := start_env (P := l.prog) (w := w) KX G.T.g G.T.b G.T.builtins G.T.nolimit hg hT nT C G.T.bmain hobj hints (Nat.le_trans hlen hn2)
  refine codeAny_mono ((hF base h1 h2 h3).run callerA [] s _ ⟨[.ref a], []⟩ [.ref a] [.ref a] _ _ hr rfl e0 (hb s (.ref a)) (.cons rfl .nil) (hsp _ a ns hlen hbits h4 h5)) fun r s' hq => ?_
  cases r with
  | error e =>
    obtain ⟨_, _, _, _, _, _, _, _, _, _, _, _, z⟩ := hq
    exact z.elim
  | ok fl => cases fl with
    | ret u =>
      obtain ⟨rfl, z⟩ := end_env hT nT C hobj hq
      exact ⟨rfl, z⟩
    | next => exact False.elim hq
    | brk => exact False.elim hq
    | cont => exact False.elim hq
end EL

set_option maxHeartbeats 400000
/-! EL16: for over range(e), e of any reading; small readings. -/
namespace EL
open PySem PySem.Spec PyProof.Rows L2
section
variable {σ : L2.St} {H : Hp} {D : Ends} {ta : TA} {tb : TS} {k : Nat} {K : PySem.W.Frag} {Q : VK}
theorem x_forRN (G : Int → Hp → Prop) (h : ∀ R : List V → Hp → Prop, (∀ n H1, G n H1 → R [.int n] H1) → ta σ H R)
    (q : ∀ n H1, G n H1 → n < 2 ^ 62 ∧ -(2 ^ 62) ≤ n ∧ ∃ Pv : Nat → L2.St → Hp → Prop, Pv 0 σ H1 ∧ (∀ (i : Nat) σ H, (i : Int) < n → Pv i σ H → tb { D with nx := Pv (i + 1), ct := Pv (i + 1), bk := D.nx } (σ.set k (some (.int (i : Int)))) H) ∧ (∀ σ H, Pv n.toNat σ H → D.nx σ H)) :
    tFor (iRng1 ta) (gName k) tb D σ H := by
  refine h _ fun n H1 g => ?_
  obtain ⟨hn, hn0, Pv, p0, hs, hd⟩ := q n H1 g
  refine ⟨n, rfl, hn0, hn, for_it (walk_range (lo := 0) (n := n.toNat)) Pv p0 (fun _ _ _ _ _ => True.intro) (fun i x σ H H' hi p y => ?_) hd⟩
  obtain ⟨rfl, rfl⟩ := y
  have e : (0 : Int) + (i : Int) = (i : Int) := by omega
  show tb _ (σ.set k (some (.int (0 + (i : Int))))) _
  rw [e]
  exact hs i σ _ (by omega) p
theorem x_app {l : Addr} {xs : List V} {y : V} (h : H l = some (.lst xs)) (hz : xs.length < sizeLine) (q : Q .non (upd H l (.lst (xs ++ [y])))) : rAppend (.ref l) [y] H Q := ⟨l, xs, y, rfl, rfl, h, hz, q⟩
theorem x_tyL {p : Addr} {xs : List V} (h : H p = some (.lst xs)) : tyV K "list" (.ref p) H := .inl ⟨rfl, xs, SqL.of h⟩
end
theorem ix_at {n j : Nat} (hj : j < n) : ixN n (j : Int) = some j := by
  unfold ixN
  rw [if_pos (Int.natCast_nonneg j), if_pos (by omega), Int.toNat_natCast]
theorem inV_str (z : Str) : ∀ us : List Str, inV (.str z) (us.map V.str) = decide (z ∈ us)
  | [] => rfl
  | u :: us => by
    have ih := inV_str z us
    unfold inV at ih ⊢
    rw [List.map_cons]
    simp only [List.any_cons, List.mem_cons, Bool.decide_or] at ih ⊢
    rw [ih]
    congr 1
    by_cases h : z = u
    · subst h
      simp [eqV]
    · rw [decide_eq_false h]
      have h2 : ¬ u = z := fun e => h e.symm
      simp [eqV, h2]
end EL

set_option maxHeartbeats 1000000
/-! EL17: the head's facts of classes whose __init__ says super().__init__(..); the Hook with them. -/
namespace EL
open PySem PySem.Spec PyProof.Rows L2 NdefX
open He (ga ma fAd)
/-! ### a class, by one Bool -/
def oexB (K : PySem.W.Frag) (C : Addr) : Bool := match K.lookup C with
  | some ⟨.type t, dd, .cls cd, sl⟩ => (match cd.mro, sl.toList with
    | .ref C' :: bm, [_, _, _, _, some (.builtin n), _] => decide (t = "type") && (decide (C' = C) && (decide (n = "ValueError.__new__") && (cd.hasDict && (!cd.hasDel && PySem.HandSPX.refsVE bm))))
    | _, _ => false)
  | _ => false
theorem oexB_ok {K : PySem.W.Frag} {C : Addr} (h : oexB K C = true) : ∃ nm q N bs bm sn sub ab col dd k0 k1 k2 k3 k5, K.lookup C = some (excClassObj nm q C N bs bm true sn sub ab col dd k0 k1 k2 k3 k5 "ValueError.__new__") ∧ PySem.HandSPX.refsVE bm = true := by
  unfold oexB at h
  split at h
  · rename_i t dd cd sl ho
    split at h
    · rename_i C' bm k0 k1 k2 k3 n k5 hm hs
      simp only [Bool.and_eq_true, decide_eq_true_eq, Bool.not_eq_true'] at h
      obtain ⟨rfl, rfl, rfl, hd, hdel, hr⟩ := h
      obtain ⟨nm, bs, mro, ns, qn, hdi, sn, sub, ab, col, del⟩ := cd
      dsimp only at hm hdel hd
      subst hm hdel hd
      obtain ⟨l⟩ := sl
      have hs : l = _ := hs
      subst hs
      exact ⟨nm, qn, ns, bs, bm, sn, sub, ab, col, dd, k0, k1, k2, k3, k5, ho, hr⟩
    · cases h
  · cases h
/-- the class x, whose errors have the fields fl -/
def clsB (K : PySem.W.Frag) (x : Str) (fl : List Str) : Bool := oexB K (ga K x) && (He.eqO (PySem.W.findIn K (.ref (ga K x)) "__setattr__") (some (some (.builtin "object.__setattr__"))) && (decide (PySem.W.subIn K (.ref (ga K x)) (.type "BaseException") = some true) &&
  (decide (PySem.W.typeIn K (.ref (ga K x)) = some (.type "type")) && (PySem.W.keepIn K (.ref (ga K x)) && (He.eqO (PySem.W.findIn K (.ref (ga K x)) "__getattribute__") (some (some (.builtin "BaseException.__getattribute__"))) && (He.eqO (PySem.W.findIn K (.ref (ga K x)) "__getattr__") (some none) &&
  (PySem.W.hasDictIn K (ga K x) && (He.eqO (PySem.W.findIn K (.ref (ga K x)) "__class__") (some (some (.builtin "object.__class__"))) && (He.eqO (PySem.W.specialIn K (.builtin "object.__class__") "__get__") (some (some (.builtin "getset_descriptor.__get__"))) &&
  (decide (PySem.W.takesIn K (.builtin "object.__class__") = some true) && (decide (PySem.W.mroIn K (ga K x) (.type "object") = some true) && (fl.all (fun f => He.eqO (PySem.W.findIn K (.ref (ga K x)) f) (some none)) &&
  (decide (PySem.W.kitOne K (.ref (ga K x)) (.type "ValueError") = some true) && (decide (PySem.W.kitOne K (.ref (ga K x)) (.type "LookupError") = some false) && decide (PySem.W.kitOne K (.ref (ga K x)) (.type "RuntimeError") = some false)))))))))))))))
theorem clsB_ok {K : PySem.W.Frag} {x : Str} {fl : List Str} (h : clsB K x fl = true) : ExF K (ga K x) fl := by
  unfold clsB at h
  simp only [Bool.and_eq_true] at h
  obtain ⟨h1, h2, h3, h4, h5, h6, h7, h8, h9, h10, h11, h12, h13, h14, h15, h16⟩ := h
  refine ⟨⟨oexB_ok h1, He.eqO_ok h2, of_decide_eq_true h3, of_decide_eq_true h4, h5⟩, ⟨He.eqO_ok h6, He.eqO_ok h7, of_decide_eq_true h3, h8⟩, ⟨He.eqO_ok h6, He.eqO_ok h7, of_decide_eq_true h3, h8, He.eqO_ok h9, He.eqO_ok h10, of_decide_eq_true h11, of_decide_eq_true h12⟩, fun f hf => He.eqO_ok (List.all_eq_true.mp h13 f hf), of_decide_eq_true h14, of_decide_eq_true h15, of_decide_eq_true h16⟩
/-! ### its __init__ -/
abbrev FnCV : Type := Option (Str × Str × Arguments × FuncBody × Scope × Addr × List Str × Value × Addr)
def fnC (K : PySem.W.Frag) (p : Str × Option Str) : FnCV := match K.lookup (fAd K p) with
  | some ⟨_, _, .func fd, _⟩ => some (fd.name, fd.qualname, fd.params, fd.body, fd.scope, fd.globals, fd.closure.map (·.1), fd.defaults, fd.builtins)
  | _ => none
/-- an __init__ of the class x, as the text has it -/
structure InitD where
  x : Str
  qual : Str
  params : Arguments
  body : List Stmt
  scope : Scope
def InitD.val (d : InitD) : FnCV := some ("__init__", d.qual, d.params, .stmts d.body, d.scope, mainGlobals, ["__class__"], .none, builtinsNs)
def inB (P : Program) (K : PySem.W.Frag) (C f : Addr) (q : Str) : Bool := match K.lookup f with
  | some ⟨_, _, .func fd, _⟩ => PySem.W.codeIn K fd.code q && (match fd.code, fd.closure with
    | .ref c, [(_, cc)] => (match K.lookup c with
      | some ⟨_, _, .fields vs, _⟩ => (match (vs[2]? : Option Value) with
        | some (.str fl _) => (P.main.file == fl)
        | _ => false)
      | _ => false) && (match K.lookup cc with
      | some ⟨_, _, .cell (some (.ref C')), _⟩ => decide (C' = C)
      | _ => false)
    | _, _ => false)
  | _ => false
def initB (P : Program) (K : PySem.W.Frag) (x q : Str) : Bool := inB P K (ga K x) (ma K (ga K x) "__init__") q && (!(P.main.scope.names.lookup ("super" : Str)).isSome && (He.eqO (PySem.W.findIn K (.ref (ga K x)) "__init__") (some (some (.ref (ma K (ga K x) "__init__")))) &&
  (decide (PySem.W.typeIn K (.ref (ma K (ga K x) "__init__")) = some (.type "function")) && (decide (PySem.W.subIn K (.ref (ga K x)) (.type "ValueError") = some true) && (decide (PySem.W.mroIn K (ga K x) (.ref (ga K x)) = some true) &&
  (He.eqO (PySem.W.ks_superIn K (ga K x) (ga K x) "__init__") (some (some (.builtin "ValueError.__init__"))) && He.eqO (PySem.W.nsIn K cStatics "thirdparty.any") (some none)))))))
theorem initB_ok {P : Program} {K : PySem.W.Frag} {d : InitD} (e : fnC K (d.x, some "__init__") = d.val) (h : initB P K d.x d.qual = true) (hc : OexC K (ga K d.x)) :
    ∃ (f cc cda : Addr) (fd : FuncData), SupI P K (ga K d.x) f cc ⟨"__init__", d.qual, d.params, d.body, d.scope, [(("__class__" : Str), cc)], cda⟩ fd := by
  unfold initB at h
  simp only [Bool.and_eq_true, Bool.not_eq_true'] at h
  obtain ⟨h1, h2, h3, h4, h5, h6, h7, h8⟩ := h
  unfold inB at h1
  unfold fnC fAd at e
  dsimp only at e
  split at h1
  · rename_i oc od fd osl lk
    rw [lk] at e
    simp only [Bool.and_eq_true] at h1
    obtain ⟨h1, h9⟩ := h1
    split at h9
    · rename_i c y cc hcd hcl
      simp only [Bool.and_eq_true] at h9
      obtain ⟨h9, h10⟩ := h9
      obtain ⟨n1, n2, n3, n4, n5, n6, n7, n8, n9, n10, n11, n12, n13, n14, n15⟩ := fd
      dsimp only at hcd hcl h1
      have e2 : (some (n1, n2, n3, n4, n5, n6, n7.map (·.1), n8, n15) : FnCV) = (some ("__init__", d.qual, d.params, .stmts d.body, d.scope, mainGlobals, ["__class__"], .none, builtinsNs) : FnCV) := e
      simp only [Option.some.injEq, Prod.mk.injEq] at e2
      obtain ⟨g1, g2, g3, g4, g5, g6, g7, g8, g9⟩ := e2
      subst g1 g2 g3 g4 g5 g6 g8 g9 hcd
      have ey : n7 = [(("__class__" : Str), cc)] := by
        rw [hcl] at g7 ⊢
        have : y = ("__class__" : Str) := by simpa using g7
        rw [this]
      subst ey
      refine ⟨_, cc, c, _, ⟨⟨oc, od, osl, n9, n10, n11, n12, n14, rfl, lk⟩, rfl, h1, ?_, ?_, h2, He.eqO_ok h3, of_decide_eq_true h4, hc, of_decide_eq_true h5, of_decide_eq_true h6, He.eqO_ok h7, He.eqO_ok h8⟩⟩
      · split at h9
        · rename_i oc2 od2 vs osl2 lk2
          split at h9
          · rename_i fl tf hv
            exact ⟨oc2, od2, vs, osl2, fl, tf, lk2, hv, h9⟩
          · cases h9
        · cases h9
      · split at h10
        · rename_i oc3 od3 C' osl3 lk3
          have := of_decide_eq_true h10
          subst this
          exact ⟨oc3, od3, osl3, lk3⟩
        · cases h10
    · cases h9
  · cases h1
/-! ### the Hook -/
def refsAt (g : Addr → Option Obj) (a : Addr) : List Addr := match g a with
  | some o => He.refsD o
  | none => []
/-- is it a class's own dict -/
def isDic (g : Addr → Option Obj) (a : Addr) : Bool := match g a with
  | some ⟨_, _, .dict _ _, _⟩ => true
  | _ => false
/-- the names' objects; what they name; what the classes' dicts hold; what that names -/
def asY (g : Addr → Option Obj) : Nat → List Addr
  | 0 => [mainGlobals, cStatics]
  | 1 => refsAt g mainGlobals
  | 2 => (asY g 1).flatMap (refsAt g)
  | 3 => ((asY g 2).filter (isDic g)).flatMap (refsAt g)
  | n + 4 => asY g 0 ++ (asY g 1 ++ (asY g 2 ++ (asY g 3 ++ (asY g 3).flatMap (refsAt g))))
abbrev frY (g : Addr → Option Obj) (n : Nat) : PySem.W.Frag := He.frT g (asY g n)
abbrev AlY : Type := He.AlX × List FnCV
def obsY (n : Nat) (fa : List He.Fa) (fn : List He.DefD) (tf : List He.Defn) (ex : PySem.W.Frag → Bool) (ini : List InitD) (g : Addr → Option Obj) : AlY := ((He.obsT fa fn [] (frY g n), ex (frY g n) && He.tabsB g tf (frY g n)), ini.map fun d => fnC (frY g n) (d.x, some "__init__"))
def valY (fn : List He.DefD) (ini : List InitD) (w : World) : AlY := ((He.valT fn [] w, true), ini.map InitD.val)
structure SaysY (fa : List He.Fa) (fn : List He.DefD) (tf : List He.Defn) (ex : PySem.W.Frag → Bool) (ini : List InitD) (w : World) (h : Heap) (K : PySem.W.Frag) : Prop where
  x : He.SaysX fa fn [] tf ex w h K
  ini : ∀ d ∈ ini, fnC K (d.x, some "__init__") = d.val
theorem map_at {α β : Type} {f g : α → β} : ∀ {l : List α}, l.map f = l.map g → ∀ a ∈ l, f a = g a
  | b :: l, h, a, ha => by
    rw [List.map_cons, List.map_cons] at h
    injection h with h1 h2
    rcases List.mem_cons.mp ha with rfl | ha
    · exact h1
    · exact map_at h2 a ha
theorem saysY_of {n : Nat} {fa : List He.Fa} {fn : List He.DefD} {tf : List He.Defn} {ex : PySem.W.Frag → Bool} {ini : List InitD} {w : World} {h : Heap} (e : obsY n fa fn tf ex ini h.get? = valY fn ini w) : SaysY fa fn tf ex ini w h (frY h.get? n) := by
  have e1 : He.obsT fa fn [] (frY h.get? n) = He.valT fn [] w := congrArg (fun z : AlY => z.1.1) e
  have e2 : (ex (frY h.get? n) && He.tabsB h.get? tf (frY h.get? n)) = true := congrArg (fun z : AlY => z.1.2) e
  have e3 : (ini.map fun d => fnC (frY h.get? n) (d.x, some "__init__")) = ini.map InitD.val := congrArg (fun z : AlY => z.2) e
  obtain ⟨h1, h2⟩ := He.ba e2
  have key : ∀ p ∈ tf, PySem.W.codeHdIn (frY h.get? n) (He.cT (frY h.get? n) p).1 (He.cT (frY h.get? n) p).2 = true ∧ ∃ o, h.get? (He.cT (frY h.get? n) p).2 = some o ∧ He.emptyTab o = true := fun p hp => by
    obtain ⟨h3, h4⟩ := He.ba (List.all_eq_true.mp h2 p hp)
    refine ⟨h3, ?_⟩
    cases q : h.get? (He.cT (frY h.get? n) p).2 with
    | none => rw [q] at h4; cases h4
    | some o => rw [q] at h4; exact ⟨o, rfl, h4⟩
  refine ⟨⟨e1, h1, fun p hp => (key p hp).1, fun p hp => ?_, fun p hp => ?_⟩, fun d hd => map_at e3 d hd⟩
  · obtain ⟨_, o, q, z⟩ := key p hp
    exact He.frT_none q z
  · obtain ⟨_, o, q, z⟩ := key p hp
    rw [q, He.emptyTab_eq z]
def hookY (n : Nat) (fa : List He.Fa) (fn : List He.DefD) (tf : List He.Defn) (ex : PySem.W.Frag → Bool) (ini : List InitD) : PySem.W.Hook where
  α := AlY
  obs := fun s => obsY n fa fn tf ex ini s.heap.get?
  val := fun w => valY fn ini w
  says := fun w h => ∃ K : PySem.W.Frag, K.In h ∧ SaysY fa fn tf ex ini w h K
  of := fun _ _ e => ⟨_, He.frT_in, saysY_of e⟩
  keeps := fun _ _ _ ⟨K, hK, c⟩ k => ⟨K, PySem.W.Frag.In.keeps hK k, ⟨⟨c.x.t, c.x.more, c.x.hd, c.x.out, fun p hp => k _ _ (c.x.empty p hp)⟩, c.ini⟩⟩
theorem obsY_eq {n : Nat} {fa : List He.Fa} {fn : List He.DefD} {tf : List He.Defn} {ex : PySem.W.Frag → Bool} {ini : List InitD} {g : Addr → Option Obj} {s : Shared} (h : ∀ a, g a = s.heap.get? a) : obsY n fa fn tf ex ini g = (hookY n fa fn tf ex ini).obs s := by
  have e : g = s.heap.get? := funext h
  rw [e] <;> rfl
/-! ### names and what they stand for -/
theorem glo_nsIn {K : PySem.W.Frag} {x : Str} {i : Int} (c : (He.Fa.int x i).ok K = true) : ∃ t, PySem.W.nsIn K mainGlobals x = some (some (.int i t)) := by
  have c2 : (match PySem.W.nsIn K mainGlobals x with
    | some (some (.int j _)) => decide (j = i)
    | _ => false) = true := c
  split at c2
  · rename_i j t e
    have := of_decide_eq_true c2
    subst this
    exact ⟨t, e⟩
  · cases c2
theorem glo_nsStr {K : PySem.W.Frag} {x z : Str} (c : (He.Fa.str x z).ok K = true) : ∃ t, PySem.W.nsIn K mainGlobals x = some (some (.str z t)) := by
  have c2 : (match PySem.W.nsIn K mainGlobals x with
    | some (some (.str y _)) => decide (y = z)
    | _ => false) = true := c
  split at c2
  · rename_i j t e
    have := of_decide_eq_true c2
    subst this
    exact ⟨t, e⟩
  · cases c2
theorem opt_two {α β γ δ : Type} {o : Option α} {f : α → β} {g : α → γ} {h : α → δ} {b : β} {c : γ} {d : δ} (h1 : o.map (fun x => (f x, g x)) = some (b, c)) (h2 : o.map h = some d) : o.map (fun x => (f x, g x, h x)) = some (b, c, d) := by
  cases o with
  | none => cases h1
  | some a =>
    have e1 : (f a, g a) = (b, c) := Option.some.inj h1
    have e2 : h a = d := Option.some.inj h2
    show some (f a, g a, h a) = some (b, c, d)
    rw [e2]
    injection e1 with e3 e4
    rw [e3, e4]
end EL

set_option maxHeartbeats 4000000
namespace K00
open PySem PySem.Spec PyProof.Rows L2 EL
def tkI (K : PySem.W.Frag) (x : Str) : Tok := match PySem.W.nsIn K mainGlobals x with
  | some (some (.int _ t)) => t
  | some (some (.str _ t)) => t
  | _ => 0
def top (i : Nat) : Stmt := PySem.Challenge.pw_echolearn_k00_names_and_fractions.main.body.getD i (.Pass ⟨0, 0, 0, 0⟩)
abbrev st_BadName___init__ : Stmt := inClass (top 2) 0
abbrev st_BadFraction___init__ : Stmt := inClass (top 3) 0
abbrev st_BadTable___init__ : Stmt := inClass (top 4) 0
abbrev st_BadBook___init__ : Stmt := inClass (top 5) 0
abbrev st_BadWorld___init__ : Stmt := inClass (top 6) 0
abbrev st_BadRow___init__ : Stmt := inClass (top 7) 0
abbrev st_BadPaper___init__ : Stmt := inClass (top 8) 0
abbrev st_BadFoe___init__ : Stmt := inClass (top 9) 0
abbrev st_BadChooser___init__ : Stmt := inClass (top 10) 0
abbrev st_BadPlan___init__ : Stmt := inClass (top 11) 0
abbrev st_BadOffers___init__ : Stmt := inClass (top 12) 0
abbrev st_BadLog___init__ : Stmt := inClass (top 13) 0
abbrev st_BadDraw___init__ : Stmt := inClass (top 14) 0
abbrev st_BadScript___init__ : Stmt := inClass (top 15) 0
abbrev st_Unlike___init__ : Stmt := inClass (top 16) 0
abbrev st_TooMany___init__ : Stmt := inClass (top 17) 0
abbrev st_NoSuch___init__ : Stmt := inClass (top 18) 0
abbrev st_Refused___init__ : Stmt := inClass (top 19) 0
abbrev st_OutOfTurn___init__ : Stmt := inClass (top 20) 0
abbrev st_Ended___init__ : Stmt := inClass (top 21) 0
abbrev st_lowest : Stmt := top 23
abbrev st_long_run : Stmt := top 30
abbrev st_heed : Stmt := top 31
abbrev st_is_whole : Stmt := top 32
abbrev st_is_figures : Stmt := top 33
abbrev st_read_text : Stmt := top 34
abbrev st_read_number : Stmt := top 35
abbrev st_figures_of : Stmt := top 36
abbrev st_number_text : Stmt := top 37
abbrev st_fraction : Stmt := top 39
abbrev st_told : Stmt := top 40
abbrev st_is_word : Stmt := top 47
abbrev st_is_name : Stmt := top 48
abbrev st_all_unlike : Stmt := top 49
abbrev st_names_of : Stmt := top 50
abbrev st_a_name : Stmt := top 52
abbrev st_unlike_names : Stmt := top 53
abbrev st_law_jar : Stmt := top 55
abbrev st_law_draw : Stmt := top 56
abbrev st_law_pick : Stmt := top 57
abbrev st_law_like : Stmt := top 58
abbrev st_law_gcd : Stmt := top 59
abbrev st_law_frac : Stmt := top 60
abbrev st_law_word : Stmt := top 61
abbrev st_law_worn_word : Stmt := top 62
abbrev st_law_worn : Stmt := top 63
abbrev st_law_bad_number : Stmt := top 64
abbrev st_law_class : Stmt := top 65
abbrev st_law_named : Stmt := top 66
abbrev st_law_fault : Stmt := top 67
abbrev st_law_refused : Stmt := top 68
abbrev st_law_alphabet : Stmt := top 69
abbrev st_law_words_kept : Stmt := top 70
abbrev st_law_is_word : Stmt := top 71
abbrev st_law_drawn_word : Stmt := top 72
abbrev st_law_good_name : Stmt := top 73
abbrev st_law_answers : Stmt := top 74
abbrev st_law_names_held : Stmt := top 75
abbrev st_law_big : Stmt := top 76
abbrev st_law_numbers_held : Stmt := top 77
abbrev st_law_long_held : Stmt := top 78
abbrev st_law : Stmt := top 79
def raisedL : List Str := ["BadName", "BadFraction", "TooMany"]
def clsL : List Str := ["BadName", "BadFraction", "BadTable", "BadBook", "BadWorld", "BadRow", "BadPaper", "BadFoe", "BadChooser", "BadPlan", "BadOffers", "BadLog", "BadDraw", "BadScript", "Unlike", "TooMany", "NoSuch", "Refused", "OutOfTurn", "Ended"]
def s_LETTERS : Str := "abcdefghijklmnopqrstuvwxyzABCDEFGHIJKLMNOPQRSTUVWXYZ"
def s_FIRST_SIGNS : Str := "abcdefghijklmnopqrstuvwxyzABCDEFGHIJKLMNOPQRSTUVWXYZ0123456789"
def s_WORD_SIGNS : Str := "abcdefghijklmnopqrstuvwxyzABCDEFGHIJKLMNOPQRSTUVWXYZ0123456789_-'"
def l_KEPT_WORDS : List Str := (["letters", "deed", "done", "paper", "root", "slow", "blind", "still", "strong", "twin", "weak", "wall"] : List Str) ++ ((["on", "climb", "heard", "deaf", "one", "two", "foe", "along", "step", "rounds", "number", "chooser"] : List Str) ++ ((["note", "go", "plan", "at", "mix", "row", "offers", "offer", "as", "log", "take", "pack"] : List Str) ++ ((["model"] : List Str))))
structure Txt (P : Program) (K : PySem.W.Frag) (mg : Str → Option Value) : Prop where
  f_len : mg "len" = none
  f_abs : mg "abs" = none
  f_isinstance : mg "isinstance" = none
  f_all : mg "all" = none
  f_int : mg "int" = none
  f_str : mg "str" = none
  f_list : mg "list" = none
  f_tuple : mg "tuple" = none
  f_bool : mg "bool" = none
  f_dict : mg "dict" = none
  f_range : mg "range" = none
  f_repr : mg "repr" = none
  f_reversed : mg "reversed" = none
  f_divmod : mg "divmod" = none
  f_super : mg "super" = none
  f_ValueError : mg "ValueError" = none
  f_LookupError : mg "LookupError" = none
  f_RuntimeError : mg "RuntimeError" = none
  g_gcd : mg "gcd" = some (.builtin "math.gcd")
  c_MOST_TEXT : mg "MOST_TEXT" = some (.int 2000000 (tkI K "MOST_TEXT"))
  c_MOST_FIGURES : mg "MOST_FIGURES" = some (.int 4000 (tkI K "MOST_FIGURES"))
  c_PIECE_FIGURES : mg "PIECE_FIGURES" = some (.int 60 (tkI K "PIECE_FIGURES"))
  c_PIECE : mg "PIECE" = some (.int 1000000000000000000000000000000000000000000000000000000000000 (tkI K "PIECE"))
  c_SHORT_BITS : mg "SHORT_BITS" = some (.int 12000 (tkI K "SHORT_BITS"))
  c_LETTERS : mg "LETTERS" = some (.str s_LETTERS (tkI K "LETTERS"))
  c_FIRST_SIGNS : mg "FIRST_SIGNS" = some (.str s_FIRST_SIGNS (tkI K "FIRST_SIGNS"))
  c_WORD_SIGNS : mg "WORD_SIGNS" = some (.str s_WORD_SIGNS (tkI K "WORD_SIGNS"))
  c_LONGEST : mg "LONGEST" = some (.int 16 (tkI K "LONGEST"))
  c_KEPT_WORDS : mg "KEPT_WORDS" = some (.ref (He.ga K "KEPT_WORDS"))
  t_KEPT_WORDS : ∀ H : Hp, SqT K H (He.ga K "KEPT_WORDS") (l_KEPT_WORDS.map V.str)
  g_BadName : mg "BadName" = some (.ref (He.ga K "BadName"))
  g_BadFraction : mg "BadFraction" = some (.ref (He.ga K "BadFraction"))
  g_BadTable : mg "BadTable" = some (.ref (He.ga K "BadTable"))
  g_BadBook : mg "BadBook" = some (.ref (He.ga K "BadBook"))
  g_BadWorld : mg "BadWorld" = some (.ref (He.ga K "BadWorld"))
  g_BadRow : mg "BadRow" = some (.ref (He.ga K "BadRow"))
  g_BadPaper : mg "BadPaper" = some (.ref (He.ga K "BadPaper"))
  g_BadFoe : mg "BadFoe" = some (.ref (He.ga K "BadFoe"))
  g_BadChooser : mg "BadChooser" = some (.ref (He.ga K "BadChooser"))
  g_BadPlan : mg "BadPlan" = some (.ref (He.ga K "BadPlan"))
  g_BadOffers : mg "BadOffers" = some (.ref (He.ga K "BadOffers"))
  g_BadLog : mg "BadLog" = some (.ref (He.ga K "BadLog"))
  g_BadDraw : mg "BadDraw" = some (.ref (He.ga K "BadDraw"))
  g_BadScript : mg "BadScript" = some (.ref (He.ga K "BadScript"))
  g_Unlike : mg "Unlike" = some (.ref (He.ga K "Unlike"))
  g_TooMany : mg "TooMany" = some (.ref (He.ga K "TooMany"))
  g_NoSuch : mg "NoSuch" = some (.ref (He.ga K "NoSuch"))
  g_Refused : mg "Refused" = some (.ref (He.ga K "Refused"))
  g_OutOfTurn : mg "OutOfTurn" = some (.ref (He.ga K "OutOfTurn"))
  g_Ended : mg "Ended" = some (.ref (He.ga K "Ended"))
  e_BadName : ∃ (f cc cda : Addr) (fd : FuncData), SupI P K (He.ga K "BadName") f cc ⟨"__init__", "BadName.__init__", defArgs st_BadName___init__, defBody st_BadName___init__, defScope st_BadName___init__, [(("__class__" : Str), cc)], cda⟩ fd
  x_BadName : ExF K (He.ga K "BadName") ["why"]
  e_BadFraction : ∃ (f cc cda : Addr) (fd : FuncData), SupI P K (He.ga K "BadFraction") f cc ⟨"__init__", "BadFraction.__init__", defArgs st_BadFraction___init__, defBody st_BadFraction___init__, defScope st_BadFraction___init__, [(("__class__" : Str), cc)], cda⟩ fd
  x_BadFraction : ExF K (He.ga K "BadFraction") ["why"]
  e_TooMany : ∃ (f cc cda : Addr) (fd : FuncData), SupI P K (He.ga K "TooMany") f cc ⟨"__init__", "TooMany.__init__", defArgs st_TooMany___init__, defBody st_TooMany___init__, defScope st_TooMany___init__, [(("__class__" : Str), cc)], cda⟩ fd
  x_TooMany : ExF K (He.ga K "TooMany") ["what", "count"]
  dig : NoDig K
  exm : ∀ a ∈ raisedL, ∀ b ∈ clsL, PySem.W.exmOne K (.ref (He.ga K a)) (.ref (He.ga K b)) = some (decide (a = b))
  kitB : ∀ a ∈ raisedL, ∀ b ∈ ([("ValueError", true), ("LookupError", false), ("RuntimeError", false)] : List (String × Bool)), PySem.W.kitOne K (.ref (He.ga K a)) (.type b.1) = some b.2
  kit : ∀ a ∈ raisedL, ∀ b ∈ clsL, PySem.W.kitOne K (.ref (He.ga K a)) (.ref (He.ga K b)) = some (decide (a = b))
  g_lowest : mg "lowest" = some (.ref (He.ga K "lowest"))
  k_lowest : PySem.W.keepIn K (.ref (He.ga K "lowest")) = true
  F_lowest : FunD K "lowest" "lowest" (defArgs st_lowest) (defBody st_lowest) (defScope st_lowest) [] [] (He.ga K "lowest") (fdOf K "lowest")
  g_long_run : mg "long_run" = some (.ref (He.ga K "long_run"))
  k_long_run : PySem.W.keepIn K (.ref (He.ga K "long_run")) = true
  F_long_run : FunD K "long_run" "long_run" (defArgs st_long_run) (defBody st_long_run) (defScope st_long_run) [] [] (He.ga K "long_run") (fdOf K "long_run")
  g_heed : mg "heed" = some (.ref (He.ga K "heed"))
  k_heed : PySem.W.keepIn K (.ref (He.ga K "heed")) = true
  F_heed : FunD K "heed" "heed" (defArgs st_heed) (defBody st_heed) (defScope st_heed) [] [] (He.ga K "heed") (fdOf K "heed")
  g_is_whole : mg "is_whole" = some (.ref (He.ga K "is_whole"))
  k_is_whole : PySem.W.keepIn K (.ref (He.ga K "is_whole")) = true
  F_is_whole : FunD K "is_whole" "is_whole" (defArgs st_is_whole) (defBody st_is_whole) (defScope st_is_whole) [] [] (He.ga K "is_whole") (fdOf K "is_whole")
  g_is_figures : mg "is_figures" = some (.ref (He.ga K "is_figures"))
  k_is_figures : PySem.W.keepIn K (.ref (He.ga K "is_figures")) = true
  F_is_figures : FunD K "is_figures" "is_figures" (defArgs st_is_figures) (defBody st_is_figures) (defScope st_is_figures) [] [] (He.ga K "is_figures") (fdOf K "is_figures")
  g_read_text : mg "read_text" = some (.ref (He.ga K "read_text"))
  k_read_text : PySem.W.keepIn K (.ref (He.ga K "read_text")) = true
  F_read_text : FunD K "read_text" "read_text" (defArgs st_read_text) (defBody st_read_text) (defScope st_read_text) [] [] (He.ga K "read_text") (fdOf K "read_text")
  g_read_number : mg "read_number" = some (.ref (He.ga K "read_number"))
  k_read_number : PySem.W.keepIn K (.ref (He.ga K "read_number")) = true
  F_read_number : FunD K "read_number" "read_number" (defArgs st_read_number) (defBody st_read_number) (defScope st_read_number) [] [] (He.ga K "read_number") (fdOf K "read_number")
  g_figures_of : mg "figures_of" = some (.ref (He.ga K "figures_of"))
  k_figures_of : PySem.W.keepIn K (.ref (He.ga K "figures_of")) = true
  F_figures_of : FunD K "figures_of" "figures_of" (defArgs st_figures_of) (defBody st_figures_of) (defScope st_figures_of) [] [] (He.ga K "figures_of") (fdOf K "figures_of")
  g_number_text : mg "number_text" = some (.ref (He.ga K "number_text"))
  k_number_text : PySem.W.keepIn K (.ref (He.ga K "number_text")) = true
  F_number_text : FunD K "number_text" "number_text" (defArgs st_number_text) (defBody st_number_text) (defScope st_number_text) [] [] (He.ga K "number_text") (fdOf K "number_text")
  g_fraction : mg "fraction" = some (.ref (He.ga K "fraction"))
  k_fraction : PySem.W.keepIn K (.ref (He.ga K "fraction")) = true
  F_fraction : FunD K "fraction" "fraction" (defArgs st_fraction) (defBody st_fraction) (defScope st_fraction) [] [] (He.ga K "fraction") (fdOf K "fraction")
  g_told : mg "told" = some (.ref (He.ga K "told"))
  k_told : PySem.W.keepIn K (.ref (He.ga K "told")) = true
  F_told : FunD K "told" "told" (defArgs st_told) (defBody st_told) (defScope st_told) [] [] (He.ga K "told") (fdOf K "told")
  g_is_word : mg "is_word" = some (.ref (He.ga K "is_word"))
  k_is_word : PySem.W.keepIn K (.ref (He.ga K "is_word")) = true
  F_is_word : FunD K "is_word" "is_word" (defArgs st_is_word) (defBody st_is_word) (defScope st_is_word) [] [] (He.ga K "is_word") (fdOf K "is_word")
  g_is_name : mg "is_name" = some (.ref (He.ga K "is_name"))
  k_is_name : PySem.W.keepIn K (.ref (He.ga K "is_name")) = true
  F_is_name : FunD K "is_name" "is_name" (defArgs st_is_name) (defBody st_is_name) (defScope st_is_name) [] [] (He.ga K "is_name") (fdOf K "is_name")
  g_all_unlike : mg "all_unlike" = some (.ref (He.ga K "all_unlike"))
  k_all_unlike : PySem.W.keepIn K (.ref (He.ga K "all_unlike")) = true
  F_all_unlike : FunD K "all_unlike" "all_unlike" (defArgs st_all_unlike) (defBody st_all_unlike) (defScope st_all_unlike) [] [] (He.ga K "all_unlike") (fdOf K "all_unlike")
  g_names_of : mg "names_of" = some (.ref (He.ga K "names_of"))
  k_names_of : PySem.W.keepIn K (.ref (He.ga K "names_of")) = true
  F_names_of : FunD K "names_of" "names_of" (defArgs st_names_of) (defBody st_names_of) (defScope st_names_of) [] [] (He.ga K "names_of") (fdOf K "names_of")
  g_a_name : mg "a_name" = some (.ref (He.ga K "a_name"))
  k_a_name : PySem.W.keepIn K (.ref (He.ga K "a_name")) = true
  F_a_name : FunD K "a_name" "a_name" (defArgs st_a_name) (defBody st_a_name) (defScope st_a_name) [] [("kept", .bl false)] (He.ga K "a_name") (fdOf K "a_name")
  g_unlike_names : mg "unlike_names" = some (.ref (He.ga K "unlike_names"))
  k_unlike_names : PySem.W.keepIn K (.ref (He.ga K "unlike_names")) = true
  F_unlike_names : FunD K "unlike_names" "unlike_names" (defArgs st_unlike_names) (defBody st_unlike_names) (defScope st_unlike_names) [] [] (He.ga K "unlike_names") (fdOf K "unlike_names")
  g_law_jar : mg "_law_jar" = some (.ref (He.ga K "_law_jar"))
  k_law_jar : PySem.W.keepIn K (.ref (He.ga K "_law_jar")) = true
  F_law_jar : FunD K "_law_jar" "_law_jar" (defArgs st_law_jar) (defBody st_law_jar) (defScope st_law_jar) [] [] (He.ga K "_law_jar") (fdOf K "_law_jar")
  g_law_draw : mg "_law_draw" = some (.ref (He.ga K "_law_draw"))
  k_law_draw : PySem.W.keepIn K (.ref (He.ga K "_law_draw")) = true
  F_law_draw : FunD K "_law_draw" "_law_draw" (defArgs st_law_draw) (defBody st_law_draw) (defScope st_law_draw) [] [] (He.ga K "_law_draw") (fdOf K "_law_draw")
  g_law_pick : mg "_law_pick" = some (.ref (He.ga K "_law_pick"))
  k_law_pick : PySem.W.keepIn K (.ref (He.ga K "_law_pick")) = true
  F_law_pick : FunD K "_law_pick" "_law_pick" (defArgs st_law_pick) (defBody st_law_pick) (defScope st_law_pick) [] [] (He.ga K "_law_pick") (fdOf K "_law_pick")
  g_law_like : mg "_law_like" = some (.ref (He.ga K "_law_like"))
  k_law_like : PySem.W.keepIn K (.ref (He.ga K "_law_like")) = true
  F_law_like : FunD K "_law_like" "_law_like" (defArgs st_law_like) (defBody st_law_like) (defScope st_law_like) [] [] (He.ga K "_law_like") (fdOf K "_law_like")
  g_law_gcd : mg "_law_gcd" = some (.ref (He.ga K "_law_gcd"))
  k_law_gcd : PySem.W.keepIn K (.ref (He.ga K "_law_gcd")) = true
  F_law_gcd : FunD K "_law_gcd" "_law_gcd" (defArgs st_law_gcd) (defBody st_law_gcd) (defScope st_law_gcd) [] [] (He.ga K "_law_gcd") (fdOf K "_law_gcd")
  g_law_frac : mg "_law_frac" = some (.ref (He.ga K "_law_frac"))
  k_law_frac : PySem.W.keepIn K (.ref (He.ga K "_law_frac")) = true
  F_law_frac : FunD K "_law_frac" "_law_frac" (defArgs st_law_frac) (defBody st_law_frac) (defScope st_law_frac) [] [] (He.ga K "_law_frac") (fdOf K "_law_frac")
  g_law_word : mg "_law_word" = some (.ref (He.ga K "_law_word"))
  k_law_word : PySem.W.keepIn K (.ref (He.ga K "_law_word")) = true
  F_law_word : FunD K "_law_word" "_law_word" (defArgs st_law_word) (defBody st_law_word) (defScope st_law_word) [] [] (He.ga K "_law_word") (fdOf K "_law_word")
  g_law_worn_word : mg "_law_worn_word" = some (.ref (He.ga K "_law_worn_word"))
  k_law_worn_word : PySem.W.keepIn K (.ref (He.ga K "_law_worn_word")) = true
  F_law_worn_word : FunD K "_law_worn_word" "_law_worn_word" (defArgs st_law_worn_word) (defBody st_law_worn_word) (defScope st_law_worn_word) [] [] (He.ga K "_law_worn_word") (fdOf K "_law_worn_word")
  g_law_worn : mg "_law_worn" = some (.ref (He.ga K "_law_worn"))
  k_law_worn : PySem.W.keepIn K (.ref (He.ga K "_law_worn")) = true
  F_law_worn : FunD K "_law_worn" "_law_worn" (defArgs st_law_worn) (defBody st_law_worn) (defScope st_law_worn) [] [] (He.ga K "_law_worn") (fdOf K "_law_worn")
  g_law_bad_number : mg "_law_bad_number" = some (.ref (He.ga K "_law_bad_number"))
  k_law_bad_number : PySem.W.keepIn K (.ref (He.ga K "_law_bad_number")) = true
  F_law_bad_number : FunD K "_law_bad_number" "_law_bad_number" (defArgs st_law_bad_number) (defBody st_law_bad_number) (defScope st_law_bad_number) [] [] (He.ga K "_law_bad_number") (fdOf K "_law_bad_number")
  g_law_class : mg "_law_class" = some (.ref (He.ga K "_law_class"))
  k_law_class : PySem.W.keepIn K (.ref (He.ga K "_law_class")) = true
  F_law_class : FunD K "_law_class" "_law_class" (defArgs st_law_class) (defBody st_law_class) (defScope st_law_class) [] [] (He.ga K "_law_class") (fdOf K "_law_class")
  g_law_named : mg "_law_named" = some (.ref (He.ga K "_law_named"))
  k_law_named : PySem.W.keepIn K (.ref (He.ga K "_law_named")) = true
  F_law_named : FunD K "_law_named" "_law_named" (defArgs st_law_named) (defBody st_law_named) (defScope st_law_named) [] [] (He.ga K "_law_named") (fdOf K "_law_named")
  g_law_fault : mg "_law_fault" = some (.ref (He.ga K "_law_fault"))
  k_law_fault : PySem.W.keepIn K (.ref (He.ga K "_law_fault")) = true
  F_law_fault : FunD K "_law_fault" "_law_fault" (defArgs st_law_fault) (defBody st_law_fault) (defScope st_law_fault) [] [] (He.ga K "_law_fault") (fdOf K "_law_fault")
  g_law_refused : mg "_law_refused" = some (.ref (He.ga K "_law_refused"))
  k_law_refused : PySem.W.keepIn K (.ref (He.ga K "_law_refused")) = true
  F_law_refused : FunD K "_law_refused" "_law_refused" (defArgs st_law_refused) (defBody st_law_refused) (defScope st_law_refused) [] [] (He.ga K "_law_refused") (fdOf K "_law_refused")
  g_law_alphabet : mg "_law_alphabet" = some (.ref (He.ga K "_law_alphabet"))
  k_law_alphabet : PySem.W.keepIn K (.ref (He.ga K "_law_alphabet")) = true
  F_law_alphabet : FunD K "_law_alphabet" "_law_alphabet" (defArgs st_law_alphabet) (defBody st_law_alphabet) (defScope st_law_alphabet) [] [] (He.ga K "_law_alphabet") (fdOf K "_law_alphabet")
  g_law_words_kept : mg "_law_words_kept" = some (.ref (He.ga K "_law_words_kept"))
  k_law_words_kept : PySem.W.keepIn K (.ref (He.ga K "_law_words_kept")) = true
  F_law_words_kept : FunD K "_law_words_kept" "_law_words_kept" (defArgs st_law_words_kept) (defBody st_law_words_kept) (defScope st_law_words_kept) [] [] (He.ga K "_law_words_kept") (fdOf K "_law_words_kept")
  g_law_is_word : mg "_law_is_word" = some (.ref (He.ga K "_law_is_word"))
  k_law_is_word : PySem.W.keepIn K (.ref (He.ga K "_law_is_word")) = true
  F_law_is_word : FunD K "_law_is_word" "_law_is_word" (defArgs st_law_is_word) (defBody st_law_is_word) (defScope st_law_is_word) [] [] (He.ga K "_law_is_word") (fdOf K "_law_is_word")
  g_law_drawn_word : mg "_law_drawn_word" = some (.ref (He.ga K "_law_drawn_word"))
  k_law_drawn_word : PySem.W.keepIn K (.ref (He.ga K "_law_drawn_word")) = true
  F_law_drawn_word : FunD K "_law_drawn_word" "_law_drawn_word" (defArgs st_law_drawn_word) (defBody st_law_drawn_word) (defScope st_law_drawn_word) [] [] (He.ga K "_law_drawn_word") (fdOf K "_law_drawn_word")
  g_law_good_name : mg "_law_good_name" = some (.ref (He.ga K "_law_good_name"))
  k_law_good_name : PySem.W.keepIn K (.ref (He.ga K "_law_good_name")) = true
  F_law_good_name : FunD K "_law_good_name" "_law_good_name" (defArgs st_law_good_name) (defBody st_law_good_name) (defScope st_law_good_name) [] [] (He.ga K "_law_good_name") (fdOf K "_law_good_name")
  g_law_answers : mg "_law_answers" = some (.ref (He.ga K "_law_answers"))
  k_law_answers : PySem.W.keepIn K (.ref (He.ga K "_law_answers")) = true
  F_law_answers : FunD K "_law_answers" "_law_answers" (defArgs st_law_answers) (defBody st_law_answers) (defScope st_law_answers) [] [] (He.ga K "_law_answers") (fdOf K "_law_answers")
  g_law_names_held : mg "_law_names_held" = some (.ref (He.ga K "_law_names_held"))
  k_law_names_held : PySem.W.keepIn K (.ref (He.ga K "_law_names_held")) = true
  F_law_names_held : FunD K "_law_names_held" "_law_names_held" (defArgs st_law_names_held) (defBody st_law_names_held) (defScope st_law_names_held) [] [] (He.ga K "_law_names_held") (fdOf K "_law_names_held")
  g_law_big : mg "_law_big" = some (.ref (He.ga K "_law_big"))
  k_law_big : PySem.W.keepIn K (.ref (He.ga K "_law_big")) = true
  F_law_big : FunD K "_law_big" "_law_big" (defArgs st_law_big) (defBody st_law_big) (defScope st_law_big) [] [] (He.ga K "_law_big") (fdOf K "_law_big")
  g_law_numbers_held : mg "_law_numbers_held" = some (.ref (He.ga K "_law_numbers_held"))
  k_law_numbers_held : PySem.W.keepIn K (.ref (He.ga K "_law_numbers_held")) = true
  F_law_numbers_held : FunD K "_law_numbers_held" "_law_numbers_held" (defArgs st_law_numbers_held) (defBody st_law_numbers_held) (defScope st_law_numbers_held) [] [] (He.ga K "_law_numbers_held") (fdOf K "_law_numbers_held")
  g_law_long_held : mg "_law_long_held" = some (.ref (He.ga K "_law_long_held"))
  k_law_long_held : PySem.W.keepIn K (.ref (He.ga K "_law_long_held")) = true
  F_law_long_held : FunD K "_law_long_held" "_law_long_held" (defArgs st_law_long_held) (defBody st_law_long_held) (defScope st_law_long_held) [] [] (He.ga K "_law_long_held") (fdOf K "_law_long_held")
  g_law : mg "law" = some (.ref (He.ga K "law"))
  k_law : PySem.W.keepIn K (.ref (He.ga K "law")) = true
  F_law : FunD K "law" "law" (defArgs st_law) (defBody st_law) (defScope st_law) [] [] (He.ga K "law") (fdOf K "law")
end K00

set_option maxHeartbeats 0
namespace K00
open PySem PySem.Spec PyProof.Rows L2 EL NdefX
open LamX (Tabs TabS TabB ExtN CodeO)
/-! ### the head: what the top leaves -/
def TN : List Str := ["_law_names_held", "_law_numbers_held", "_law_long_held"]
def hd_lowest : He.DefD := ⟨("lowest", none), "lowest", "lowest", defArgs st_lowest, defBody st_lowest, defScope st_lowest, [], []⟩
def hd_long_run : He.DefD := ⟨("long_run", none), "long_run", "long_run", defArgs st_long_run, defBody st_long_run, defScope st_long_run, [], []⟩
def hd_heed : He.DefD := ⟨("heed", none), "heed", "heed", defArgs st_heed, defBody st_heed, defScope st_heed, [], []⟩
def hd_is_whole : He.DefD := ⟨("is_whole", none), "is_whole", "is_whole", defArgs st_is_whole, defBody st_is_whole, defScope st_is_whole, [], []⟩
def hd_is_figures : He.DefD := ⟨("is_figures", none), "is_figures", "is_figures", defArgs st_is_figures, defBody st_is_figures, defScope st_is_figures, [], []⟩
def hd_read_text : He.DefD := ⟨("read_text", none), "read_text", "read_text", defArgs st_read_text, defBody st_read_text, defScope st_read_text, [], []⟩
def hd_read_number : He.DefD := ⟨("read_number", none), "read_number", "read_number", defArgs st_read_number, defBody st_read_number, defScope st_read_number, [], []⟩
def hd_figures_of : He.DefD := ⟨("figures_of", none), "figures_of", "figures_of", defArgs st_figures_of, defBody st_figures_of, defScope st_figures_of, [], []⟩
def hd_number_text : He.DefD := ⟨("number_text", none), "number_text", "number_text", defArgs st_number_text, defBody st_number_text, defScope st_number_text, [], []⟩
def hd_fraction : He.DefD := ⟨("fraction", none), "fraction", "fraction", defArgs st_fraction, defBody st_fraction, defScope st_fraction, [], []⟩
def hd_told : He.DefD := ⟨("told", none), "told", "told", defArgs st_told, defBody st_told, defScope st_told, [], []⟩
def hd_is_word : He.DefD := ⟨("is_word", none), "is_word", "is_word", defArgs st_is_word, defBody st_is_word, defScope st_is_word, [], []⟩
def hd_is_name : He.DefD := ⟨("is_name", none), "is_name", "is_name", defArgs st_is_name, defBody st_is_name, defScope st_is_name, [], []⟩
def hd_all_unlike : He.DefD := ⟨("all_unlike", none), "all_unlike", "all_unlike", defArgs st_all_unlike, defBody st_all_unlike, defScope st_all_unlike, [], []⟩
def hd_names_of : He.DefD := ⟨("names_of", none), "names_of", "names_of", defArgs st_names_of, defBody st_names_of, defScope st_names_of, [], []⟩
def hd_a_name : He.DefD := ⟨("a_name", none), "a_name", "a_name", defArgs st_a_name, defBody st_a_name, defScope st_a_name, [], [("kept", .bl false)]⟩
def hd_unlike_names : He.DefD := ⟨("unlike_names", none), "unlike_names", "unlike_names", defArgs st_unlike_names, defBody st_unlike_names, defScope st_unlike_names, [], []⟩
def hd_law_jar : He.DefD := ⟨("_law_jar", none), "_law_jar", "_law_jar", defArgs st_law_jar, defBody st_law_jar, defScope st_law_jar, [], []⟩
def hd_law_draw : He.DefD := ⟨("_law_draw", none), "_law_draw", "_law_draw", defArgs st_law_draw, defBody st_law_draw, defScope st_law_draw, [], []⟩
def hd_law_pick : He.DefD := ⟨("_law_pick", none), "_law_pick", "_law_pick", defArgs st_law_pick, defBody st_law_pick, defScope st_law_pick, [], []⟩
def hd_law_like : He.DefD := ⟨("_law_like", none), "_law_like", "_law_like", defArgs st_law_like, defBody st_law_like, defScope st_law_like, [], []⟩
def hd_law_gcd : He.DefD := ⟨("_law_gcd", none), "_law_gcd", "_law_gcd", defArgs st_law_gcd, defBody st_law_gcd, defScope st_law_gcd, [], []⟩
def hd_law_frac : He.DefD := ⟨("_law_frac", none), "_law_frac", "_law_frac", defArgs st_law_frac, defBody st_law_frac, defScope st_law_frac, [], []⟩
def hd_law_word : He.DefD := ⟨("_law_word", none), "_law_word", "_law_word", defArgs st_law_word, defBody st_law_word, defScope st_law_word, [], []⟩
def hd_law_worn_word : He.DefD := ⟨("_law_worn_word", none), "_law_worn_word", "_law_worn_word", defArgs st_law_worn_word, defBody st_law_worn_word, defScope st_law_worn_word, [], []⟩
def hd_law_worn : He.DefD := ⟨("_law_worn", none), "_law_worn", "_law_worn", defArgs st_law_worn, defBody st_law_worn, defScope st_law_worn, [], []⟩
def hd_law_bad_number : He.DefD := ⟨("_law_bad_number", none), "_law_bad_number", "_law_bad_number", defArgs st_law_bad_number, defBody st_law_bad_number, defScope st_law_bad_number, [], []⟩
def hd_law_class : He.DefD := ⟨("_law_class", none), "_law_class", "_law_class", defArgs st_law_class, defBody st_law_class, defScope st_law_class, [], []⟩
def hd_law_named : He.DefD := ⟨("_law_named", none), "_law_named", "_law_named", defArgs st_law_named, defBody st_law_named, defScope st_law_named, [], []⟩
def hd_law_fault : He.DefD := ⟨("_law_fault", none), "_law_fault", "_law_fault", defArgs st_law_fault, defBody st_law_fault, defScope st_law_fault, [], []⟩
def hd_law_refused : He.DefD := ⟨("_law_refused", none), "_law_refused", "_law_refused", defArgs st_law_refused, defBody st_law_refused, defScope st_law_refused, [], []⟩
def hd_law_alphabet : He.DefD := ⟨("_law_alphabet", none), "_law_alphabet", "_law_alphabet", defArgs st_law_alphabet, defBody st_law_alphabet, defScope st_law_alphabet, [], []⟩
def hd_law_words_kept : He.DefD := ⟨("_law_words_kept", none), "_law_words_kept", "_law_words_kept", defArgs st_law_words_kept, defBody st_law_words_kept, defScope st_law_words_kept, [], []⟩
def hd_law_is_word : He.DefD := ⟨("_law_is_word", none), "_law_is_word", "_law_is_word", defArgs st_law_is_word, defBody st_law_is_word, defScope st_law_is_word, [], []⟩
def hd_law_drawn_word : He.DefD := ⟨("_law_drawn_word", none), "_law_drawn_word", "_law_drawn_word", defArgs st_law_drawn_word, defBody st_law_drawn_word, defScope st_law_drawn_word, [], []⟩
def hd_law_good_name : He.DefD := ⟨("_law_good_name", none), "_law_good_name", "_law_good_name", defArgs st_law_good_name, defBody st_law_good_name, defScope st_law_good_name, [], []⟩
def hd_law_answers : He.DefD := ⟨("_law_answers", none), "_law_answers", "_law_answers", defArgs st_law_answers, defBody st_law_answers, defScope st_law_answers, [], []⟩
def hd_law_names_held : He.DefD := ⟨("_law_names_held", none), "_law_names_held", "_law_names_held", defArgs st_law_names_held, defBody st_law_names_held, defScope st_law_names_held, [], []⟩
def hd_law_big : He.DefD := ⟨("_law_big", none), "_law_big", "_law_big", defArgs st_law_big, defBody st_law_big, defScope st_law_big, [], []⟩
def hd_law_numbers_held : He.DefD := ⟨("_law_numbers_held", none), "_law_numbers_held", "_law_numbers_held", defArgs st_law_numbers_held, defBody st_law_numbers_held, defScope st_law_numbers_held, [], []⟩
def hd_law_long_held : He.DefD := ⟨("_law_long_held", none), "_law_long_held", "_law_long_held", defArgs st_law_long_held, defBody st_law_long_held, defScope st_law_long_held, [], []⟩
def hd_law : He.DefD := ⟨("law", none), "law", "law", defArgs st_law, defBody st_law, defScope st_law, [], []⟩
def fnL0 : List He.DefD := [hd_lowest, hd_long_run, hd_heed, hd_is_whole, hd_is_figures, hd_read_text, hd_read_number, hd_figures_of]
def fnL1 : List He.DefD := [hd_number_text, hd_fraction, hd_told, hd_is_word, hd_is_name, hd_all_unlike, hd_names_of, hd_a_name]
def fnL2 : List He.DefD := [hd_unlike_names, hd_law_jar, hd_law_draw, hd_law_pick, hd_law_like, hd_law_gcd, hd_law_frac, hd_law_word]
def fnL3 : List He.DefD := [hd_law_worn_word, hd_law_worn, hd_law_bad_number, hd_law_class, hd_law_named, hd_law_fault, hd_law_refused, hd_law_alphabet]
def fnL4 : List He.DefD := [hd_law_words_kept, hd_law_is_word, hd_law_drawn_word, hd_law_good_name, hd_law_answers, hd_law_names_held, hd_law_big, hd_law_numbers_held]
def fnL5 : List He.DefD := [hd_law_long_held, hd_law]
def fnL : List He.DefD := fnL0 ++ (fnL1 ++ (fnL2 ++ (fnL3 ++ (fnL4 ++ (fnL5)))))
def faL0 : List He.Fa := [.free "len", .free "abs", .free "isinstance", .free "all", .free "int", .free "str", .free "list", .free "tuple"]
def faL1 : List He.Fa := [.free "bool", .free "dict", .free "range", .free "repr", .free "reversed", .free "divmod", .free "super", .free "ValueError"]
def faL2 : List He.Fa := [.free "LookupError", .free "RuntimeError", .int "MOST_TEXT" 2000000, .int "MOST_FIGURES" 4000, .int "PIECE_FIGURES" 60, .int "PIECE" 1000000000000000000000000000000000000000000000000000000000000, .int "SHORT_BITS" 12000, .str "LETTERS" s_LETTERS]
def faL3 : List He.Fa := [.str "FIRST_SIGNS" s_FIRST_SIGNS, .str "WORD_SIGNS" s_WORD_SIGNS, .int "LONGEST" 16, .glo "KEPT_WORDS", .glo "BadName", .glo "BadFraction", .glo "BadTable", .glo "BadBook"]
def faL4 : List He.Fa := [.glo "BadWorld", .glo "BadRow", .glo "BadPaper", .glo "BadFoe", .glo "BadChooser", .glo "BadPlan", .glo "BadOffers", .glo "BadLog"]
def faL5 : List He.Fa := [.glo "BadDraw", .glo "BadScript", .glo "Unlike", .glo "TooMany", .glo "NoSuch", .glo "Refused", .glo "OutOfTurn", .glo "Ended"]
def faL6 : List He.Fa := [.glo "lowest", .glo "long_run", .glo "heed", .glo "is_whole", .glo "is_figures", .glo "read_text", .glo "read_number", .glo "figures_of"]
def faL7 : List He.Fa := [.glo "number_text", .glo "fraction", .glo "told", .glo "is_word", .glo "is_name", .glo "all_unlike", .glo "names_of", .glo "a_name"]
def faL8 : List He.Fa := [.glo "unlike_names", .glo "_law_jar", .glo "_law_draw", .glo "_law_pick", .glo "_law_like", .glo "_law_gcd", .glo "_law_frac", .glo "_law_word"]
def faL9 : List He.Fa := [.glo "_law_worn_word", .glo "_law_worn", .glo "_law_bad_number", .glo "_law_class", .glo "_law_named", .glo "_law_fault", .glo "_law_refused", .glo "_law_alphabet"]
def faL10 : List He.Fa := [.glo "_law_words_kept", .glo "_law_is_word", .glo "_law_drawn_word", .glo "_law_good_name", .glo "_law_answers", .glo "_law_names_held", .glo "_law_big", .glo "_law_numbers_held"]
def faL11 : List He.Fa := [.glo "_law_long_held", .glo "law"]
def faL : List He.Fa := faL0 ++ (faL1 ++ (faL2 ++ (faL3 ++ (faL4 ++ (faL5 ++ (faL6 ++ (faL7 ++ (faL8 ++ (faL9 ++ (faL10 ++ (faL11)))))))))))
def tfL : List He.Defn := [("_law_names_held", none), ("_law_numbers_held", none), ("_law_long_held", none)]
def in_BadName : InitD := ⟨"BadName", "BadName.__init__", defArgs st_BadName___init__, defBody st_BadName___init__, defScope st_BadName___init__⟩
def in_BadFraction : InitD := ⟨"BadFraction", "BadFraction.__init__", defArgs st_BadFraction___init__, defBody st_BadFraction___init__, defScope st_BadFraction___init__⟩
def in_TooMany : InitD := ⟨"TooMany", "TooMany.__init__", defArgs st_TooMany___init__, defBody st_TooMany___init__, defScope st_TooMany___init__⟩
def inL : List InitD := [in_BadName, in_BadFraction, in_TooMany]
def ex0 (K : PySem.W.Frag) : Bool := He.eqO (PySem.W.nsIn K mainGlobals "gcd") (some (some (.builtin "math.gcd")))
def ex1 (K : PySem.W.Frag) : Bool := He.tupB K "KEPT_WORDS" (l_KEPT_WORDS.map He.Dv.str)
def ex2 (K : PySem.W.Frag) : Bool := clsB K "BadName" ["why"]
def ex3 (K : PySem.W.Frag) : Bool := initB PySem.Challenge.pw_echolearn_k00_names_and_fractions K "BadName" "BadName.__init__"
def ex4 (K : PySem.W.Frag) : Bool := clsB K "BadFraction" ["why"]
def ex5 (K : PySem.W.Frag) : Bool := initB PySem.Challenge.pw_echolearn_k00_names_and_fractions K "BadFraction" "BadFraction.__init__"
def ex6 (K : PySem.W.Frag) : Bool := clsB K "TooMany" ["what", "count"]
def ex7 (K : PySem.W.Frag) : Bool := initB PySem.Challenge.pw_echolearn_k00_names_and_fractions K "TooMany" "TooMany.__init__"
def ex8 (K : PySem.W.Frag) : Bool := PySem.W.nsOkIn K cStatics
def ex9 (K : PySem.W.Frag) : Bool := He.eqO (PySem.W.nsIn K cStatics "sys.int_max_str_digits") (some none)
def ex10 (K : PySem.W.Frag) : Bool := (raisedL.all fun a => clsL.all fun b => decide (PySem.W.exmOne K (.ref (He.ga K a)) (.ref (He.ga K b)) = some (decide (a = b))))
def ex11 (K : PySem.W.Frag) : Bool := (raisedL.all fun a => ([("ValueError", true), ("LookupError", false), ("RuntimeError", false)] : List (String × Bool)).all fun b => decide (PySem.W.kitOne K (.ref (He.ga K a)) (.type b.1) = some b.2))
def ex12 (K : PySem.W.Frag) : Bool := (raisedL.all fun a => clsL.all fun b => decide (PySem.W.kitOne K (.ref (He.ga K a)) (.ref (He.ga K b)) = some (decide (a = b))))
def ex13 (K : PySem.W.Frag) : Bool := (TN.all fun x => TN.all fun y => !decide ((He.cT K (x, none)).2 = (He.cT K (y, none)).2) || decide (x = y))
def exL : List (PySem.W.Frag → Bool) := [ex0, ex1, ex2, ex3, ex4, ex5, ex6, ex7, ex8, ex9, ex10, ex11, ex12, ex13]
def exA (K : PySem.W.Frag) : Bool := exL.all fun e => e K
abbrev hk : PySem.W.Hook := hookY 4 faL fnL tfL exA inL
def ob (s : PySem.W.SharedT) : AlY := obsY 4 faL fnL tfL exA inL (HandSHeadRun.getT s)
theorem ob_eq (s : PySem.W.SharedT) : ob s = hk.obs s.abs := obsY_eq (HandSHeadRun.getT_eq s)
def loose0 : List Str := ["BadName", "BadFraction", "BadTable", "BadBook", "BadWorld", "BadRow", "BadPaper", "BadFoe", "BadChooser", "BadPlan", "BadOffers", "BadLog"]
def loose1 : List Str := ["BadDraw", "BadScript", "Unlike", "TooMany", "NoSuch", "Refused", "OutOfTurn", "Ended", "lowest", "MOST_TEXT", "MOST_FIGURES", "PIECE_FIGURES"]
def loose2 : List Str := ["PIECE", "SHORT_BITS", "long_run", "heed", "is_whole", "is_figures", "read_text", "read_number", "figures_of", "number_text", "fraction", "told"]
def loose3 : List Str := ["LETTERS", "FIRST_SIGNS", "WORD_SIGNS", "LONGEST", "KEPT_WORDS", "is_word", "is_name", "all_unlike", "names_of", "a_name", "unlike_names", "_law_jar"]
def loose4 : List Str := ["_law_draw", "_law_pick", "_law_like", "_law_gcd", "_law_frac", "_law_word", "_law_worn_word", "_law_worn", "_law_bad_number", "_law_class", "_law_named", "_law_fault"]
def loose5 : List Str := ["_law_refused", "_law_alphabet", "_law_words_kept", "_law_is_word", "_law_drawn_word", "_law_good_name", "_law_answers", "_law_names_held", "_law_big", "_law_numbers_held", "_law_long_held"]
def loose : List Str := loose0 ++ (loose1 ++ (loose2 ++ (loose3 ++ (loose4 ++ (loose5)))))
abbrev R : PySem.W.OpenRow := PySem.W.OpenLaw.row PySem.Challenge.rw_echolearn_k00_names_and_fractions
abbrev qv : Program := PySem.W.view R.prog [0, 79]
theorem runA (w : World) : (HandSHeadRun.wholeF (fun p => HandSHeadRun.stepQ (HandSHeadRun.denQ HandSHeadRun.tabQ) p w) HandSHeadRun.fenceQ 30000 R.prog).map (fun x => (HandSHeadRun.looksF R.prog x.1.heap x.2.abs, HandSHeadRun.seenQ qv loose (PySem.importedModules R.prog.main.body) (fun s => PySem.W.xlAt qv [] s && PySem.W.recOk R.toRowW.records s) x.2.abs)) = some (true, PySem.W.openGood qv loose) := by kernel_rfl
theorem runB (w : World) : (HandSHeadRun.wholeF (fun p => HandSHeadRun.stepQ (HandSHeadRun.denQ HandSHeadRun.tabQ) p w) HandSHeadRun.fenceQ 30000 R.prog).map (fun x => ob x.2) = some (hk.val w) := by kernel_rfl
theorem run (w : World) : HandSHeadRun.RunEqI R qv hk ob 30000 loose w := opt_two (runA w) (runB w)
end K00

set_option maxHeartbeats 4000000
namespace K00
open PySem PySem.Spec PyProof.Rows L2 EL NdefX
/-! ### the raising of the law's errors -/
def okWhy (vs : List V) : Prop := ∃ z : Str, vs = [.str z] ∧ z.length ≤ 1000
def flWhy : List V → List (Str × V)
  | [v] => [("why", v)]
  | _ => []
def okMany (vs : List V) : Prop := ∃ (z : Str) (c : V), vs = [.str z, c] ∧ z.length ≤ 1000
def flMany : List V → List (Str × V)
  | [v, c] => [("count", c), ("what", v)]
  | _ => []
theorem short_line {n : Nat} (h : n ≤ 100000) : n ≤ sizeLine := Nat.le_trans h (by rw [sizeLine_eq]; decide)
theorem str_len0 {x : Str} : Str.empty ++ x = x := by
  refine TL.ext_tl ?_
  show ((#[] : Array Nat) ++ x.cps).toList = _
  simp
theorem str_app {x y : Str} : (x ++ y).length = x.length + y.length := by
  show (x.cps ++ y.cps).size = _
  rw [Array.size_append]
  rfl
section
variable {P : Program} {w : World} {K : PySem.W.Frag} {mg : Str → Option Value} {base : Heap}
def sp_BadName___init__ (K : PySem.W.Frag) : Sp := spInit (He.ga K "BadName") okWhy flWhy
theorem len_BadName___init__ : ∀ vs H Q E, sp_BadName___init__ K vs H Q E → vs.length = 2 := fun vs H Q E h => by
  obtain ⟨a, ys, rfl, ⟨z, rfl, _⟩, _⟩ := h
  rfl
abbrev N_BadName___init__ : List Str := ["self", "why", "__class__"]
theorem sc_BadName___init__ : NScope N_BadName___init__ ["self", "why"] ["__class__"] (defScope st_BadName___init__) := nscope_by (by decide +kernel)
theorem ok_BadName___init__ (T : Txt P K mg) : ∃ (f : Addr) (fd : FuncData), PySem.W.findIn K (.ref (He.ga K "BadName")) "__init__" = some (some (.ref f)) ∧ PySem.W.typeIn K (.ref f) = some (.type "function") ∧ FnOk P w K mg base C8.CX0 1 f fd ["self", "why"] (sp_BadName___init__ K) ∧ Binds K fd ["self", "why"] [] := by
  obtain ⟨f, cc, cda, fd, S⟩ := T.e_BadName
  have X := T.x_BadName
  refine ⟨f, fd, S.iC, S.tI, fn_sup S T.f_super sc_BadName___init__ (k := 0) rfl rfl rfl rfl rfl rfl (fun _ => rfl) (fun _ => rfl) (fun _ => rfl) (fun _ => rfl) (show ∀ x ∈ (defScope st_BadName___init__).names, x.2 ≠ .cell by decide +kernel) len_BadName___init__ (fun A outer s H vs Q E hr h => ?_), ?_⟩
  case refine_2 => (obtain ⟨oc, od, osl, kV, doc, pm, an, ct, hfd, lk⟩ := S.lk; subst hfd; exact fun s us _ hl => match us, hl with | [_, _], _ => .of_eq rfl)
  case refine_1 =>
  obtain ⟨a, ys, rfl, hok, hH, k⟩ := h
  refine ⟨_, _, a, (pa_cons (pe_joined1 (pe_fmt (pv 1))) pa_nil), (pss_one (ps_ost (pv 0) (pv 1))), rfl, hH, ?_⟩
  obtain ⟨z, rfl, hz⟩ := hok
  refine x_cons (x_fmtS ⟨_, rfl, rfl, rfl⟩ (fun h i => h.imp fun _ h => ⟨h.1, i _ _ h.2⟩) (short_line (by omega)) (x_nil ?_))
  exact ⟨Nat.le_of_ble_eq_true rfl, hH, x_ost rfl rfl X.oex (X.no _ (by simp)) hH fun dx h1 h2 => k dx h1 h2⟩
theorem pmk_BadName {X : Cx} (T : Txt X.prog X.K X.mg) {e : Expr} {es : List Expr} {ta : TA} {p pos : Pos} (hr : Room 2 X.A) (ha : PA X (e :: es) ta) (hg : Gl X "BadName" := by rfl)
    (he : starEach (e :: es) X.env = (false, eval e X.env) :: starEach es X.env := by rfl) (hpl : (backTo pos (starEach es X.env)).any (·.1) = false := by rfl) : L2N.PMk X (.Call (.Name "BadName" p) (e :: es) [] pos) (tNewE (He.ga X.K "BadName") okWhy flWhy ta) := by
  obtain ⟨f, fd, h1, h2, h3, h4⟩ := ok_BadName___init__ (P := X.prog) (w := X.w) (base := X.base) T
  exact pmk_sup T.x_BadName.oex h1 h2 h3 hr h4 pass0 hg T.g_BadName ha _ (newE_of (ok := okWhy) (fl := flWhy) fun vs ⟨z, e, _⟩ => by rw [e]; exact Nat.le_of_ble_eq_true rfl) (by decide) he hpl
def sp_BadFraction___init__ (K : PySem.W.Frag) : Sp := spInit (He.ga K "BadFraction") okWhy flWhy
theorem len_BadFraction___init__ : ∀ vs H Q E, sp_BadFraction___init__ K vs H Q E → vs.length = 2 := fun vs H Q E h => by
  obtain ⟨a, ys, rfl, ⟨z, rfl, _⟩, _⟩ := h
  rfl
abbrev N_BadFraction___init__ : List Str := ["self", "why", "__class__"]
theorem sc_BadFraction___init__ : NScope N_BadFraction___init__ ["self", "why"] ["__class__"] (defScope st_BadFraction___init__) := nscope_by (by decide +kernel)
theorem ok_BadFraction___init__ (T : Txt P K mg) : ∃ (f : Addr) (fd : FuncData), PySem.W.findIn K (.ref (He.ga K "BadFraction")) "__init__" = some (some (.ref f)) ∧ PySem.W.typeIn K (.ref f) = some (.type "function") ∧ FnOk P w K mg base C8.CX0 1 f fd ["self", "why"] (sp_BadFraction___init__ K) ∧ Binds K fd ["self", "why"] [] := by
  obtain ⟨f, cc, cda, fd, S⟩ := T.e_BadFraction
  have X := T.x_BadFraction
  refine ⟨f, fd, S.iC, S.tI, fn_sup S T.f_super sc_BadFraction___init__ (k := 0) rfl rfl rfl rfl rfl rfl (fun _ => rfl) (fun _ => rfl) (fun _ => rfl) (fun _ => rfl) (show ∀ x ∈ (defScope st_BadFraction___init__).names, x.2 ≠ .cell by decide +kernel) len_BadFraction___init__ (fun A outer s H vs Q E hr h => ?_), ?_⟩
  case refine_2 => (obtain ⟨oc, od, osl, kV, doc, pm, an, ct, hfd, lk⟩ := S.lk; subst hfd; exact fun s us _ hl => match us, hl with | [_, _], _ => .of_eq rfl)
  case refine_1 =>
  obtain ⟨a, ys, rfl, hok, hH, k⟩ := h
  refine ⟨_, _, a, (pa_cons (pe_joined1 (pe_fmt (pv 1))) pa_nil), (pss_one (ps_ost (pv 0) (pv 1))), rfl, hH, ?_⟩
  obtain ⟨z, rfl, hz⟩ := hok
  refine x_cons (x_fmtS ⟨_, rfl, rfl, rfl⟩ (fun h i => h.imp fun _ h => ⟨h.1, i _ _ h.2⟩) (short_line (by omega)) (x_nil ?_))
  exact ⟨Nat.le_of_ble_eq_true rfl, hH, x_ost rfl rfl X.oex (X.no _ (by simp)) hH fun dx h1 h2 => k dx h1 h2⟩
theorem pmk_BadFraction {X : Cx} (T : Txt X.prog X.K X.mg) {e : Expr} {es : List Expr} {ta : TA} {p pos : Pos} (hr : Room 2 X.A) (ha : PA X (e :: es) ta) (hg : Gl X "BadFraction" := by rfl)
    (he : starEach (e :: es) X.env = (false, eval e X.env) :: starEach es X.env := by rfl) (hpl : (backTo pos (starEach es X.env)).any (·.1) = false := by rfl) : L2N.PMk X (.Call (.Name "BadFraction" p) (e :: es) [] pos) (tNewE (He.ga X.K "BadFraction") okWhy flWhy ta) := by
  obtain ⟨f, fd, h1, h2, h3, h4⟩ := ok_BadFraction___init__ (P := X.prog) (w := X.w) (base := X.base) T
  exact pmk_sup T.x_BadFraction.oex h1 h2 h3 hr h4 pass0 hg T.g_BadFraction ha _ (newE_of (ok := okWhy) (fl := flWhy) fun vs ⟨z, e, _⟩ => by rw [e]; exact Nat.le_of_ble_eq_true rfl) (by decide) he hpl
def sp_TooMany___init__ (K : PySem.W.Frag) : Sp := spInit (He.ga K "TooMany") okMany flMany
theorem len_TooMany___init__ : ∀ vs H Q E, sp_TooMany___init__ K vs H Q E → vs.length = 3 := fun vs H Q E h => by
  obtain ⟨a, ys, rfl, ⟨z, c, rfl, _⟩, _⟩ := h
  rfl
abbrev N_TooMany___init__ : List Str := ["self", "what", "count", "__class__"]
theorem sc_TooMany___init__ : NScope N_TooMany___init__ ["self", "what", "count"] ["__class__"] (defScope st_TooMany___init__) := nscope_by (by decide +kernel)
theorem ok_TooMany___init__ (T : Txt P K mg) : ∃ (f : Addr) (fd : FuncData), PySem.W.findIn K (.ref (He.ga K "TooMany")) "__init__" = some (some (.ref f)) ∧ PySem.W.typeIn K (.ref f) = some (.type "function") ∧ FnOk P w K mg base C8.CX0 1 f fd ["self", "what", "count"] (sp_TooMany___init__ K) ∧ Binds K fd ["self", "what", "count"] [] := by
  obtain ⟨f, cc, cda, fd, S⟩ := T.e_TooMany
  have X := T.x_TooMany
  refine ⟨f, fd, S.iC, S.tI, fn_sup S T.f_super sc_TooMany___init__ (k := 0) rfl rfl rfl rfl rfl rfl (fun _ => rfl) (fun _ => rfl) (fun _ => rfl) (fun _ => rfl) (show ∀ x ∈ (defScope st_TooMany___init__).names, x.2 ≠ .cell by decide +kernel) len_TooMany___init__ (fun A outer s H vs Q E hr h => ?_), ?_⟩
  case refine_2 => (obtain ⟨oc, od, osl, kV, doc, pm, an, ct, hfd, lk⟩ := S.lk; subst hfd; exact fun s us _ hl => match us, hl with | [_, _, _], _ => .of_eq rfl)
  case refine_1 =>
  obtain ⟨a, ys, rfl, hok, hH, k⟩ := h
  refine ⟨_, _, a, (pa_cons (pe_joined (.cons pe_str (.cons (pe_fmt (pv 1)) .nil))) pa_nil), (pss_cons (ps_ost (pv 0) (pv 1))
  (pss_one (ps_ost (pv 0) (pv 2)))), rfl, hH, ?_⟩
  obtain ⟨z, c, rfl, hz⟩ := hok
  refine x_cons (x_js1 (x_c ⟨_, rfl, by rw [str_len0]; exact short_line (Nat.le_of_ble_eq_true rfl), x_js1 (x_fmtS ⟨_, rfl, rfl, rfl⟩ (fun h i => h.imp fun _ h => ⟨h.1, i _ _ h.2⟩) (short_line (by omega)) ⟨_, rfl, ?_, x_js0 (x_nil ?_)⟩)⟩))
  · rw [str_len0, str_app]
    exact short_line (by have : (Str.ofString "too many ").length = 9 := rfl; omega)
  exact ⟨Nat.le_of_ble_eq_true rfl, hH, x_seq (x_ost rfl rfl X.oex (X.no _ (by simp)) hH fun dx h1 h2 => x_ostM rfl rfl X.oex (X.no _ (by simp)) (Nat.le_of_ble_eq_true rfl) h2 (k dx h1 h2))⟩
theorem pmk_TooMany {X : Cx} (T : Txt X.prog X.K X.mg) {e : Expr} {es : List Expr} {ta : TA} {p pos : Pos} (hr : Room 2 X.A) (ha : PA X (e :: es) ta) (hg : Gl X "TooMany" := by rfl)
    (he : starEach (e :: es) X.env = (false, eval e X.env) :: starEach es X.env := by rfl) (hpl : (backTo pos (starEach es X.env)).any (·.1) = false := by rfl) : L2N.PMk X (.Call (.Name "TooMany" p) (e :: es) [] pos) (tNewE (He.ga X.K "TooMany") okMany flMany ta) := by
  obtain ⟨f, fd, h1, h2, h3, h4⟩ := ok_TooMany___init__ (P := X.prog) (w := X.w) (base := X.base) T
  exact pmk_sup T.x_TooMany.oex h1 h2 h3 hr h4 pass0 hg T.g_TooMany ha _ (newE_of (ok := okMany) (fl := flMany) fun vs ⟨z, c, e, _⟩ => by rw [e]; exact Nat.le_of_ble_eq_true rfl) (by decide) he hpl
end
end K00

set_option maxHeartbeats 4000000
namespace K00
open PySem PySem.Spec PyProof.Rows L2 EL
local macro_rules | `(tactic| walk_at "s1") => `(tactic| with_reducible first
  | refine x_seq ?_ | refine x_asg ?_ | refine x_op ?_ | refine x_c ?_ | refine x_gName ?_ | refine x_ifS ?_ | refine x_ret ?_ | refine x_test ?_ | refine x_bl ?_
  | refine x_I0 ?_ | refine x_addI ?_ | refine x_mulI ?_ ?_ | refine x_fdiv ?_ ?_ | refine x_mod ?_ ?_ | refine x_un ?_ | refine x_rU ?_ | refine x_pow ?_ ?_
  | refine x_eqI' ?_ | refine x_neI' ?_ | refine x_eqS' ?_ | refine x_neS' ?_
  | refine x_cons ?_ | refine x_nil ?_ | refine x_tup ?_ | refine x_lst ?_ | refine x_callS ?_ | refine x_CB ?_ | refine x_par ?_ | refine x_two ?_
  | refine x_next ?_ | refine x_and ?_ | refine x_or ?_ | refine x_not ?_ | refine x_andV ?_ | refine x_orV ?_ | refine x_notV ?_ | refine x_ex ?_ | refine x_ifE ?_ | refine x_tB ?_ | refine x_retN ?_ | refine x_drop ?_ | refine x_brk ?_ | refine x_cont ?_
  | refine x_intI ?_ | refine x_abs ?_ | refine x_gcd ?_ | refine x_str ?_ ?_ | refine x_sz ?_ | refine x_isN ?_ | refine x_notN ?_ | refine x_sl ?_ | refine x_noPart ?_ | refine x_part ?_ | refine x_exI ?_ | refine x_slS ?_ ?_ | refine x_gSub ?_ | refine x_inS ?_ | refine x_notinS ?_ | refine x_yes ?_ | refine x_m1 ?_ | refine x_m1' ?_ | refine x_ms ?_ | refine x_chain ?_ | refine x_callK ?_ | refine x_callSD ?_ | refine x_ifT' ?_ | refine x_newE ?_ | refine x_gCons ?_ | refine x_gNil ?_ | refine x_gTupU rfl ?_ | refine x_ifX ?_)
local macro_rules | `(tactic| walk_at "side") => `(tactic| with_reducible first | decide | (refine mul_left ?_ ?_ <;> omega) | (refine mul_right ?_ ?_ <;> omega) | (refine div_of ?_ ?_ <;> first | omega | assumption | decide +kernel) | omega | assumption)
local macro_rules | `(tactic| walk_at "s") => `(tactic| repeat (first | walk_at "s1" | ((with_reducible apply x_var); (· exact rfl)) | ((with_reducible apply x_ixU); (· exact rfl)) | ((with_reducible apply x_ixTU); (· exact rfl)) | ((with_reducible apply x_setU); (· exact rfl)) | ((with_reducible apply x_all); (· exact SqL.of upd_same))))

/-! ### fractions -/
def low (t b : Int) : Int × Int :=
  let g : Int := ((Nat.gcd t.natAbs b.natAbs : Nat) : Int)
  if b < 0 then ((-t) / g, (-b) / g) else (t / g, b / g)
def sp_lowest : Sp := sp2 fun a b H Q _ => ∃ t d : Int, a = .int t ∧ b = .int d ∧ d ≠ 0 ∧ d.natAbs < 2 ^ 8000 ∧
  ∀ p, H p = none → Q (.ref p) (upd H p (.tup [.int (low t d).1, .int (low t d).2]))
theorem gcd_pos {t d : Int} (h : d ≠ 0) : (0 : Int) < ((Nat.gcd t.natAbs d.natAbs : Nat) : Int) := by
  have : 0 < Nat.gcd t.natAbs d.natAbs := Nat.gcd_pos_of_pos_right _ (Int.natAbs_pos.mpr h)
  omega
theorem gcd_div {t d : Int} (h : d ≠ 0) {n : Nat} (hn : d.natAbs < 2 ^ n) (h0 : 0 < n) (h9 : n ≤ 9000) : CDivA t ((Nat.gcd t.natAbs d.natAbs : Nat) : Int) := by
  have h1 := gcd_pos (t := t) h
  refine ⟨by omega, ?_⟩
  have h2 : (((Nat.gcd t.natAbs d.natAbs : Nat) : Int)).natAbs < 2 ^ n := by
    rw [Int.natAbs_natCast]
    exact Nat.lt_of_le_of_lt (Nat.gcd_le_right _ (Int.natAbs_pos.mpr h)) hn
  exact Nat.lt_of_lt_of_le (PySem.Flt.log2_lt_of h0 h2) h9
section
variable {P : Program} {w : World} {K : PySem.W.Frag} {mg : Str → Option Value} {base : Heap}
abbrev N_lowest : List Str := ["top", "bottom", "common"]
theorem sc_lowest : FnScope N_lowest ["top", "bottom"] (defScope st_lowest) := ⟨rfl, rfl, rfl, by decide +kernel, rfl, by decide +kernel, by decide +kernel⟩
theorem b_lowest (T : Txt P K mg) : Binds K (fdOf K "lowest") ["top", "bottom"] [] := T.F_lowest.bindsN fun _ _ _ _ _ _ us hl => match us, hl with | [_, _], _ => rfl
theorem ok_lowest (T : Txt P K mg) : Ok P w K mg base 2 "lowest" ["top", "bottom"] sp_lowest := by
  refine T.F_lowest.ok sc_lowest sp2_len (fun cdv A outer s H vs Q E hr h => ?_)
  obtain ⟨a0, a1, rfl, h⟩ := h
  refine ⟨_, (pss_cons (ps_if (pt_cmpR op_lt (pv 1) pe_int (nomark _)) (pss_one (ps_par (i := 0) (j := 1) (by rfl) sc_lowest.nd rfl rfl (by decide) rfl rfl (pa_cons (pe_un un_neg (pv 0)) (pa_cons (pe_un un_neg (pv 1)) pa_nil)) (by rfl))) pss_nil)
  (pss_cons (ps_set (i := 2) sc_lowest.nd rfl (Or.inl rfl) (pe_callBfun cr_gcd rfl T.g_gcd (pa_cons (pv 0) (pa_cons (pv 1) pa_nil))))
  (pss_one (ps_ret (pe_tup (pa_cons (pe_op op_fdivA (pv 0) (pv 2)) (pa_cons (pe_op op_fdivA (pv 1) (pv 2)) pa_nil))))))), ?_⟩
  try dsimp only [cxOf, List.map]
  obtain ⟨t, d, rfl, rfl, hd, hb, k⟩ := h
  walk_at "s"
  have fin : ∀ a b : Int, b ≠ 0 → b.natAbs < 2 ^ 8000 → (a / ((Nat.gcd a.natAbs b.natAbs : Nat) : Int), b / ((Nat.gcd a.natAbs b.natAbs : Nat) : Int)) = low t d → ∀ p, H p = none →
      Q (V.ref p) (upd H p (.tup [.int (a.fdiv ((Nat.gcd a.natAbs b.natAbs : Nat) : Int)), .int (b.fdiv ((Nat.gcd a.natAbs b.natAbs : Nat) : Int))])) := fun a b h1 h2 h3 p hp => by
    have hg := gcd_pos (t := a) h1
    rw [Int.fdiv_eq_ediv_of_nonneg _ (by omega), Int.fdiv_eq_ediv_of_nonneg _ (by omega)]
    have q := k p hp
    rw [← h3] at q
    exact q
  refine x_if _ (fun e => ?_) (fun e => ?_)
  · have e := of_decide_eq_true e
    walk_at "s"
    · exact fin (-t) (-d) (by omega) (by rw [Int.natAbs_neg]; exact hb) (by unfold low; simp only [Int.natAbs_neg]; rw [if_pos e])
    · exact gcd_div (by omega) (by rw [Int.natAbs_neg]; exact hb) (by decide) (by decide)
    · exact gcd_div (by omega) (by rw [Int.natAbs_neg]; exact hb) (by decide) (by decide)
  · have e := of_decide_eq_false e
    walk_at "s"
    · exact fin t d hd hb (by unfold low; rw [if_neg e])
    · exact gcd_div hd hb (by decide) (by decide)
    · exact gcd_div hd hb (by decide) (by decide)

/-! ### the law's own fractions -/
theorem gcd_step (a b : Int) (ha : 0 ≤ a) (hb : 0 < b) : Nat.gcd b.natAbs (a.fmod b).natAbs = Nat.gcd a.natAbs b.natAbs := by
  rw [Int.fmod_eq_emod_of_nonneg a (by omega)]
  have e : (a % b).natAbs = a.natAbs % b.natAbs := by
    have h1 := Int.natAbs_emod_of_nonneg (b := b) ha
    exact h1
  rw [e, Nat.gcd_comm a.natAbs b.natAbs, Nat.gcd_rec b.natAbs a.natAbs, Nat.gcd_comm]
def sp_law_gcd : Sp := sp2 fun a b H Q _ => ∃ x y : Int, a = .int x ∧ b = .int y ∧ Q (.int ((Nat.gcd x.natAbs y.natAbs : Nat) : Int)) H
abbrev N_law_gcd : List Str := ["left", "right"]
theorem sc_law_gcd : FnScope N_law_gcd ["left", "right"] (defScope st_law_gcd) := ⟨rfl, rfl, rfl, by decide +kernel, rfl, by decide +kernel, by decide +kernel⟩
theorem b_law_gcd (T : Txt P K mg) : Binds K (fdOf K "_law_gcd") ["left", "right"] [] := T.F_law_gcd.bindsN fun _ _ _ _ _ _ us hl => match us, hl with | [_, _], _ => rfl
theorem ok_law_gcd (T : Txt P K mg) : Ok P w K mg base 2 "_law_gcd" ["left", "right"] sp_law_gcd := by
  refine T.F_law_gcd.ok sc_law_gcd sp2_len (fun cdv A outer s H vs Q E hr h => ?_)
  obtain ⟨a0, a1, rfl, h⟩ := h
  refine ⟨_, (pss_cons (ps_set (i := 0) sc_law_gcd.nd rfl (Or.inl rfl) (pe_callB callA_abs rfl T.f_abs (by decide +kernel) (pa_cons (pv 0) pa_nil)))
  (pss_cons (ps_set (i := 1) sc_law_gcd.nd rfl (Or.inl rfl) (pe_callB callA_abs rfl T.f_abs (by decide +kernel) (pa_cons (pv 1) pa_nil)))
  (pss_cons (ps_while (passes_of rfl) (pt_cmpR (opK_ne (K := K) rfl hr.units) (pv 1) pe_int (nomark _)) (pss_one (ps_par (i := 0) (j := 1) (by rfl) sc_law_gcd.nd rfl rfl (by decide) rfl rfl (pa_cons (pv 1) (pa_cons (pe_op op_modN (pe_callTy (callL_int T.dig) rfl T.f_int (by decide +kernel) (pa_cons (pv 0) pa_nil)) (pv 1)) pa_nil)) (by rfl))))
  (pss_one (ps_ret (pv 0)))))), ?_⟩
  try dsimp only [cxOf, List.map]
  obtain ⟨x, y, rfl, rfl, k⟩ := h
  walk_at "s"
  refine x_w (fun m σ' H' => H' = H ∧ ∃ u v : Int, 0 ≤ u ∧ 0 ≤ v ∧ m = v.toNat ∧ Nat.gcd u.natAbs v.natAbs = Nat.gcd x.natAbs y.natAbs ∧ σ' = [some (.int u), some (.int v)]) _ ⟨rfl, _, _, ?_, ?_, rfl, ?_, rfl⟩ ?_
  · split <;> omega
  · split <;> omega
  · congr 1 <;> (split <;> omega)
  · rintro m σ' H' ⟨rfl, u, v, hu, hv, rfl, hg, rfl⟩
    walk_at "s"
    refine x_if _ (fun e => ⟨fun σ' H'' => _, fun _ _ h => h, ?_⟩) (fun e => ?_)
    · have e : v ≠ 0 := by simpa using e
      walk_at "s"
      · refine ⟨_, ?_, rfl, _, _, hv, ?_, rfl, ?_, rfl⟩
        · rw [Int.fmod_eq_emod_of_nonneg u hv]
          have := Int.emod_lt_of_pos u (show (0:Int) < v by omega)
          have := Int.emod_nonneg u e
          omega
        · exact Int.fmod_nonneg_of_pos u (by omega)
        · rw [gcd_step u v hu (by omega)]
          exact hg
      · exact e
    · have e : v = 0 := by simpa using e
      walk_at "s"
      subst e
      have : Nat.gcd u.natAbs (0:Int).natAbs = u.natAbs := Nat.gcd_zero_right _
      rw [this] at hg
      rw [← hg] at k
      have hu2 : ((u.natAbs : Nat) : Int) = u := Int.natAbs_of_nonneg hu
      rw [hu2] at k
      exact k
end
end K00

set_option maxHeartbeats 4000000
namespace K00
open PySem PySem.Spec PyProof.Rows L2 EL
local macro_rules | `(tactic| walk_at "s1") => `(tactic| with_reducible first
  | refine x_seq ?_ | refine x_asg ?_ | refine x_op ?_ | refine x_c ?_ | refine x_gName ?_ | refine x_ifS ?_ | refine x_ret ?_ | refine x_test ?_ | refine x_bl ?_
  | refine x_I0 ?_ | refine x_addI ?_ | refine x_mulI ?_ ?_ | refine x_fdiv ?_ ?_ | refine x_mod ?_ ?_ | refine x_un ?_ | refine x_rU ?_ | refine x_pow ?_ ?_
  | refine x_eqI' ?_ | refine x_neI' ?_ | refine x_eqS' ?_ | refine x_neS' ?_
  | refine x_cons ?_ | refine x_nil ?_ | refine x_tup ?_ | refine x_lst ?_ | refine x_callS ?_ | refine x_CB ?_ | refine x_par ?_ | refine x_two ?_
  | refine x_next ?_ | refine x_and ?_ | refine x_or ?_ | refine x_not ?_ | refine x_andV ?_ | refine x_orV ?_ | refine x_notV ?_ | refine x_ex ?_ | refine x_ifE ?_ | refine x_tB ?_ | refine x_retN ?_ | refine x_drop ?_ | refine x_brk ?_ | refine x_cont ?_
  | refine x_intI ?_ | refine x_abs ?_ | refine x_gcd ?_ | refine x_str ?_ ?_ | refine x_sz ?_ | refine x_isN ?_ | refine x_notN ?_ | refine x_sl ?_ | refine x_noPart ?_ | refine x_part ?_ | refine x_exI ?_ | refine x_slS ?_ ?_ | refine x_gSub ?_ | refine x_inS ?_ | refine x_notinS ?_ | refine x_yes ?_ | refine x_m1 ?_ | refine x_m1' ?_ | refine x_ms ?_ | refine x_chain ?_ | refine x_callK ?_ | refine x_callSD ?_ | refine x_ifT' ?_ | refine x_newE ?_ | refine x_gCons ?_ | refine x_gNil ?_ | refine x_gTupU rfl ?_ | refine x_ifX ?_)
local macro_rules | `(tactic| walk_at "side") => `(tactic| with_reducible first | decide | (refine mul_left ?_ ?_ <;> omega) | (refine mul_right ?_ ?_ <;> omega) | (refine div_of ?_ ?_ <;> first | omega | assumption | decide +kernel) | omega | assumption)
local macro_rules | `(tactic| walk_at "s") => `(tactic| repeat (first | walk_at "s1" | ((with_reducible apply x_var); (· exact rfl)) | ((with_reducible apply x_ixU); (· exact rfl)) | ((with_reducible apply x_ixTU); (· exact rfl)) | ((with_reducible apply x_setU); (· exact rfl)) | ((with_reducible apply x_all); (· exact SqL.of upd_same))))
section
variable {P : Program} {w : World} {K : PySem.W.Frag} {mg : Str → Option Value} {base : Heap}
def sp_law_frac : Sp := sp2 fun a b H Q _ => ∃ t d : Int, a = .int t ∧ b = .int d ∧ d ≠ 0 ∧ d.natAbs < 2 ^ 8000 ∧
  ∀ p, H p = none → Q (.ref p) (upd H p (.tup [.int (low t d).1, .int (low t d).2]))
theorem low_pos {t d : Int} (h : 0 < d) : low t d = (t.fdiv ((Nat.gcd t.natAbs d.natAbs : Nat) : Int), d.fdiv ((Nat.gcd t.natAbs d.natAbs : Nat) : Int)) := by
  have hg := gcd_pos (t := t) (d := d) (by omega)
  unfold low
  rw [if_neg (by omega), Int.fdiv_eq_ediv_of_nonneg _ (by omega), Int.fdiv_eq_ediv_of_nonneg _ (by omega)]
theorem low_neg {t d : Int} (h : d < 0) : low t d = (t.fdiv (-((Nat.gcd t.natAbs d.natAbs : Nat) : Int)), d.fdiv (-((Nat.gcd t.natAbs d.natAbs : Nat) : Int))) := by
  have hg := gcd_pos (t := t) (d := d) (by omega)
  have d1 : ((Nat.gcd t.natAbs d.natAbs : Nat) : Int) ∣ t := Int.ofNat_dvd_left.mpr (Nat.gcd_dvd_left _ _)
  have d2 : ((Nat.gcd t.natAbs d.natAbs : Nat) : Int) ∣ d := Int.ofNat_dvd_left.mpr (Nat.gcd_dvd_right _ _)
  unfold low
  rw [if_pos h, Int.fdiv_eq_ediv_of_dvd (Int.neg_dvd.mpr d1), Int.fdiv_eq_ediv_of_dvd (Int.neg_dvd.mpr d2), Int.ediv_neg, Int.ediv_neg, Int.neg_ediv_of_dvd d1, Int.neg_ediv_of_dvd d2]
abbrev N_law_frac : List Str := ["high", "low", "cut"]
theorem sc_law_frac : FnScope N_law_frac ["high", "low"] (defScope st_law_frac) := ⟨rfl, rfl, rfl, by decide +kernel, rfl, by decide +kernel, by decide +kernel⟩
theorem b_law_frac (T : Txt P K mg) : Binds K (fdOf K "_law_frac") ["high", "low"] [] := T.F_law_frac.bindsN fun _ _ _ _ _ _ us hl => match us, hl with | [_, _], _ => rfl
theorem ok_law_frac (T : Txt P K mg) : Ok P w K mg base 3 "_law_frac" ["high", "low"] sp_law_frac := by
  have G_law_gcd := ok_law_gcd (P := P) (w := w) (base := base) T
  refine T.F_law_frac.ok sc_law_frac sp2_len (fun cdv A outer s H vs Q E hr h => ?_)
  obtain ⟨a0, a1, rfl, h⟩ := h
  refine ⟨_, (pss_cons (ps_set (i := 2) sc_law_frac.nd rfl (Or.inl rfl) (pe_callS G_law_gcd (hr.mono (by decide)) rfl T.g_law_gcd T.k_law_gcd (b_law_gcd T) (fun σ => L2N.passAt (L2N.takes_of rfl rfl rfl rfl) σ) (pa_cons (pv 0) (pa_cons (pv 1) pa_nil))))
  (pss_cons (ps_if (pt_cmpR op_lt (pv 1) pe_int (nomark _)) (pss_one (ps_set (i := 2) sc_law_frac.nd rfl (Or.inl rfl) (pe_un un_neg (pv 2)))) pss_nil)
  (pss_one (ps_ret (pe_tup (pa_cons (pe_op op_fdivA (pv 0) (pv 2)) (pa_cons (pe_op op_fdivA (pv 1) (pv 2)) pa_nil))))))), ?_⟩
  try dsimp only [cxOf, List.map]
  obtain ⟨t, d, rfl, rfl, hd, hb, k⟩ := h
  walk_at "s"
  refine sp2_i ⟨t, d, rfl, rfl, ?_⟩
  walk_at "s"
  have hdv := gcd_div (t := t) hd hb (by decide) (by decide)
  refine x_if _ (fun e => ?_) (fun e => ?_)
  · have e := of_decide_eq_true e
    walk_at "s"
    · rw [low_neg e] at k
      exact k
    all_goals exact ⟨by have := hdv.1; omega, by rw [Int.natAbs_neg]; exact hdv.2⟩
  · have e := of_decide_eq_false e
    walk_at "s"
    · rw [low_pos (by omega)] at k
      exact k
    all_goals exact hdv
/-! ### the draws -/
/-- the law's jar: cells, place, rest of a great one, digits left, a mixed number, a count -/
def JarL (H : Hp) (j : Addr) (xs : List V) : Prop := ∃ (c : Addr) (ns : List Int) (i1 i2 i3 i4 i5 : Int), xs = [.ref c, .int i1, .int i2, .int i3, .int i4, .int i5] ∧ c ≠ j ∧ H c = some (.lst (ns.map V.int)) ∧ 0 ≤ i1 ∧ 0 ≤ i2 ∧ 0 ≤ i4 ∧ i4 < 2147483647 ∧ ∀ ys, H j = some (.lst ys) → ys.head? = some (.ref c)
def Jar (H : Hp) (j : Addr) : Prop := ∃ xs, H j = some (.lst xs) ∧ JarL H j xs
def sp_law_draw : Sp := sp2 fun a b H Q _ => ∃ (j : Addr) (n : Int), a = .ref j ∧ b = .int n ∧ 0 < n ∧ n.natAbs.log2 < 9000 ∧ Jar H j ∧
  ∀ (d : Int) (xs : List V), 0 ≤ d → d < n → JarL H j xs → Q (.int d) (upd H j (.lst xs))
abbrev N_law_draw : List Str := ["jar", "many", "cell", "digit"]
theorem sc_law_draw : FnScope N_law_draw ["jar", "many"] (defScope st_law_draw) := ⟨rfl, rfl, rfl, by decide +kernel, rfl, by decide +kernel, by decide +kernel⟩
theorem b_law_draw (T : Txt P K mg) : Binds K (fdOf K "_law_draw") ["jar", "many"] [] := T.F_law_draw.bindsN fun _ _ _ _ _ _ us hl => match us, hl with | [_, _], _ => rfl
theorem ok_law_draw (T : Txt P K mg) : Ok P w K mg base 2 "_law_draw" ["jar", "many"] sp_law_draw := by
  refine T.F_law_draw.ok sc_law_draw sp2_len (fun cdv A outer s H vs Q E hr h => ?_)
  obtain ⟨a0, a1, rfl, h⟩ := h
  refine ⟨_, (pss_cons (ps_asg (pe_op opA_add (pe_ix (ixK (K := K) rfl) (pv 0) pe_int (fun _ _ => rfl)) pe_int) (pg_sub (pv 0) pe_int set_list))
  (C8.pss_cut (ps_if (PW.pt (pw_and (pt_cmpR (opK_eq (K := K) rfl hr.units) (pe_ix (ixK (K := K) rfl) (pv 0) pe_int (fun _ _ => rfl)) pe_int (nomark _)) (pw_and1 (pt_cmpR op_lt (pe_ix (ixK (K := K) rfl) (pv 0) pe_int (fun _ _ => rfl)) (pe_callB (callK_len (K := K) rfl) rfl T.f_len (by decide +kernel) (pa_cons (pe_ix (ixK (K := K) rfl) (pv 0) pe_int (fun _ _ => rfl)) pa_nil)) (nomark _))))) (pss_cons (ps_set (i := 2) sc_law_draw.nd rfl (Or.inl rfl) (pe_callTy (callL_int T.dig) rfl T.f_int (by decide +kernel) (pa_cons (pe_ix (ixK (K := K) rfl) (pe_ix (ixK (K := K) rfl) (pv 0) pe_int (fun _ _ => rfl)) (pe_ix (ixK (K := K) rfl) (pv 0) pe_int (fun _ _ => rfl)) (fun _ _ => rfl)) pa_nil)))
  (pss_cons (ps_asg (pe_op opA_add (pe_ix (ixK (K := K) rfl) (pv 0) pe_int (fun _ _ => rfl)) pe_int) (pg_sub (pv 0) pe_int set_list))
  (pss_one (ps_if (pt_cmpR op_ge (pv 2) (pe_op op_pow pe_int pe_int) (nomark _)) (pss_cons (ps_asg (pv 2) (pg_sub (pv 0) pe_int set_list))
  (pss_one (ps_asg pe_int (pg_sub (pv 0) pe_int set_list)))) (pss_one (ps_asg (pe_op op_modN (pe_callTy (callL_int T.dig) rfl T.f_int (by decide +kernel) (pa_cons (pe_op opA_add (pe_op opA_add (pe_op opA_mul (pe_ix (ixK (K := K) rfl) (pv 0) pe_int (fun _ _ => rfl)) pe_int) (pe_op op_modN (pe_callTy (callL_int T.dig) rfl T.f_int (by decide +kernel) (pa_cons (pv 2) pa_nil)) pe_int)) pe_int) pa_nil)) pe_int) (pg_sub (pv 0) pe_int set_list))))))) pss_nil)
  (pss_cons (ps_if (pt_cmpR op_gt (pe_ix (ixK (K := K) rfl) (pv 0) pe_int (fun _ _ => rfl)) pe_int (nomark _)) (pss_cons (ps_set (i := 3) sc_law_draw.nd rfl (Or.inl rfl) (pe_op op_modN (pe_callTy (callL_int T.dig) rfl T.f_int (by decide +kernel) (pa_cons (pe_ix (ixK (K := K) rfl) (pv 0) pe_int (fun _ _ => rfl)) pa_nil)) (pv 1)))
  (pss_cons (ps_asg (pe_op op_sub (pe_ix (ixK (K := K) rfl) (pv 0) pe_int (fun _ _ => rfl)) pe_int) (pg_sub (pv 0) pe_int set_list))
  (pss_cons (ps_asg (pe_ifExp (pt_cmpR op_gt (pe_ix (ixK (K := K) rfl) (pv 0) pe_int (fun _ _ => rfl)) pe_int (nomark _)) (pe_op op_fdivA (pe_ix (ixK (K := K) rfl) (pv 0) pe_int (fun _ _ => rfl)) (pv 1)) pe_int) (pg_sub (pv 0) pe_int set_list))
  (pss_one (ps_ret (pv 3)))))) pss_nil)
  (pss_cons (ps_asg (pe_op op_modN (pe_callTy (callL_int T.dig) rfl T.f_int (by decide +kernel) (pa_cons (pe_op opA_add (pe_op opA_add (pe_op opA_add (pe_op opA_mul (pe_op opA_mul (pe_ix (ixK (K := K) rfl) (pv 0) pe_int (fun _ _ => rfl)) (pe_ix (ixK (K := K) rfl) (pv 0) pe_int (fun _ _ => rfl))) pe_int) (pe_op opA_mul (pe_ix (ixK (K := K) rfl) (pv 0) pe_int (fun _ _ => rfl)) pe_int)) (pe_op opA_mul (pe_ix (ixK (K := K) rfl) (pv 0) pe_int (fun _ _ => rfl)) pe_int)) pe_int) pa_nil)) pe_int) (pg_sub (pv 0) pe_int set_list))
  (pss_one (ps_ret (pe_op op_modN (pe_callTy (callL_int T.dig) rfl T.f_int (by decide +kernel) (pa_cons (pe_op opA_add (pe_op op_fdivA (pe_ix (ixK (K := K) rfl) (pv 0) pe_int (fun _ _ => rfl)) pe_int) (pe_op opA_mul (pe_op op_modN (pe_callTy (callL_int T.dig) rfl T.f_int (by decide +kernel) (pa_cons (pe_ix (ixK (K := K) rfl) (pv 0) pe_int (fun _ _ => rfl)) pa_nil)) pe_int) pe_int)) pa_nil)) (pv 1)))))))), ?_⟩
  try dsimp only [cxOf, List.map]
  obtain ⟨j, n, rfl, rfl, hn, hb, ⟨xs, hj, c, ns, i1, i2, i3, i4, i5, rfl, hcj, hc, h1, h2, h4, h4', _⟩, k⟩ := h
  have hh : ∀ ys, H j = some (.lst ys) → ys.head? = some (.ref c) := fun ys e => by rw [hj] at e; cases e; rfl
  have hcu : ∀ ys : List V, SqL K (upd H j (.lst ys)) c (ns.map V.int) := fun ys => SqL.of ((upd_ne hcj).trans hc)
  walk_at "s"
  refine x_ixA (SqL.of hj) rfl ?_
  walk_at "s"
  refine x_setA hj rfl ?_
  refine ⟨fun σ' H' => ∃ (i1 i2 i3 i4 : Int) (x y : Option V), 0 ≤ i1 ∧ 0 ≤ i2 ∧ 0 ≤ i4 ∧ i4 < 2147483647 ∧ σ' = [some (.ref j), some (.int n), x, y] ∧ H' = upd H j (.lst [.ref c, .int i1, .int i2, .int i3, .int i4, .int (i5 + 1)]), ?_, ?_⟩
  · walk_at "s"
    refine x_if _ (fun e1 => ?_) (fun e1 => ?_)
    · walk_at "s"
      refine x_lenL ?_ (hcu _)
      walk_at "s"
      refine x_if _ (fun e2 => ?_) (fun e2 => ?_)
      · have e2 := of_decide_eq_true e2
        rw [List.length_map] at e2
        walk_at "s"
        obtain ⟨m, rfl⟩ : ∃ m : Nat, i1 = (m : Int) := ⟨i1.toNat, by omega⟩
        have hm : m < ns.length := by omega
        refine x_ixL (v := .int ns[m]) ?_ (hcu _) (by simp [hm])
        walk_at "s"
        · refine x_if _ (fun e3 => ?_) (fun e3 => ?_)
          · have e3 := of_decide_eq_true e3
            walk_at "s"
            exact ⟨_, _, _, _, _, _, by omega, Int.le_trans (by decide) e3, h4, h4', rfl, rfl⟩
          · walk_at "s"
            · exact ⟨_, _, _, _, _, _, by omega, h2, fmod_lo (by decide), fmod_hi (by decide), rfl, rfl⟩
            all_goals walk_at "side"
        · exact ⟨by decide, by decide, by decide⟩
      · walk_at "s"
        exact ⟨_, _, _, _, _, _, h1, h2, h4, h4', rfl, rfl⟩
    · refine x_ifF rfl ?_
      walk_at "s"
      exact ⟨_, _, _, _, _, _, h1, h2, h4, h4', rfl, rfl⟩
  · rintro σ' H' ⟨i1, i2, i3, i4, x, y, h1, h2, h4, h4', rfl, rfl⟩
    walk_at "s"
    refine x_if _ (fun e1 => ?_) (fun e1 => ?_)
    · walk_at "s"
      · refine x_if _ (fun e2 => ?_) (fun e2 => ?_)
        · walk_at "s"
          · exact k _ _ (fmod_lo hn) (fmod_hi hn) ⟨c, ns, _, _, _, _, _, rfl, hcj, hc, h1, Int.fdiv_nonneg h2 (by omega), h4, h4', hh⟩
          all_goals walk_at "side"
        · walk_at "s"
          exact k _ _ (fmod_lo hn) (fmod_hi hn) ⟨c, ns, _, _, _, _, _, rfl, hcj, hc, h1, Int.le_refl 0, h4, h4', hh⟩
      all_goals walk_at "side"
    · walk_at "s"
      · exact k _ _ (fmod_lo hn) (fmod_hi hn) ⟨c, ns, _, _, _, _, _, rfl, hcj, hc, h1, h2, fmod_lo (by decide), fmod_hi (by decide), hh⟩
      all_goals walk_at "side"
end
end K00

set_option maxHeartbeats 4000000
namespace K00
open PySem PySem.Spec PyProof.Rows L2 EL
local macro_rules | `(tactic| walk_at "s1") => `(tactic| with_reducible first
  | refine x_seq ?_ | refine x_asg ?_ | refine x_op ?_ | refine x_c ?_ | refine x_gName ?_ | refine x_ifS ?_ | refine x_ret ?_ | refine x_test ?_ | refine x_bl ?_
  | refine x_I0 ?_ | refine x_addI ?_ | refine x_mulI ?_ ?_ | refine x_fdiv ?_ ?_ | refine x_mod ?_ ?_ | refine x_un ?_ | refine x_rU ?_ | refine x_pow ?_ ?_
  | refine x_eqI' ?_ | refine x_neI' ?_ | refine x_eqS' ?_ | refine x_neS' ?_
  | refine x_cons ?_ | refine x_nil ?_ | refine x_tup ?_ | refine x_lst ?_ | refine x_callS ?_ | refine x_CB ?_ | refine x_par ?_ | refine x_two ?_
  | refine x_next ?_ | refine x_and ?_ | refine x_or ?_ | refine x_not ?_ | refine x_andV ?_ | refine x_orV ?_ | refine x_notV ?_ | refine x_ex ?_ | refine x_ifE ?_ | refine x_tB ?_ | refine x_retN ?_ | refine x_drop ?_ | refine x_brk ?_ | refine x_cont ?_
  | refine x_intI ?_ | refine x_abs ?_ | refine x_gcd ?_ | refine x_str ?_ ?_ | refine x_sz ?_ | refine x_isN ?_ | refine x_notN ?_ | refine x_sl ?_ | refine x_noPart ?_ | refine x_part ?_ | refine x_exI ?_ | refine x_slS ?_ ?_ | refine x_gSub ?_ | refine x_inS ?_ | refine x_notinS ?_ | refine x_yes ?_ | refine x_m1 ?_ | refine x_m1' ?_ | refine x_ms ?_ | refine x_chain ?_ | refine x_callK ?_ | refine x_callSD ?_ | refine x_ifT' ?_ | refine x_newE ?_ | refine x_gCons ?_ | refine x_gNil ?_ | refine x_gTupU rfl ?_ | refine x_ifX ?_)
local macro_rules | `(tactic| walk_at "side") => `(tactic| with_reducible first | decide | (refine mul_left ?_ ?_ <;> omega) | (refine mul_right ?_ ?_ <;> omega) | (refine div_of ?_ ?_ <;> first | omega | assumption | decide +kernel) | omega | assumption)
local macro_rules | `(tactic| walk_at "s") => `(tactic| repeat (first | walk_at "s1" | ((with_reducible apply x_var); (· exact rfl)) | ((with_reducible apply x_ixU); (· exact rfl)) | ((with_reducible apply x_ixTU); (· exact rfl)) | ((with_reducible apply x_setU); (· exact rfl)) | ((with_reducible apply x_all); (· exact SqL.of upd_same))))
def tyL : List String := ["NoneType", "bool", "int", "str", "list", "tuple", "dict"]
theorem ty_int : ∀ t ∈ tyL, kitB t "int" = some (t == "int" || t == "bool") := by decide +kernel
theorem ty_bool : ∀ t ∈ tyL, kitB t "bool" = some (t == "bool") := by decide +kernel
theorem ty_str : ∀ t ∈ tyL, kitB t "str" = some (t == "str") := by decide +kernel
theorem ty_list : ∀ t ∈ tyL, kitB t "list" = some (t == "list") := by decide +kernel
theorem ty_tuple : ∀ t ∈ tyL, kitB t "tuple" = some (t == "tuple") := by decide +kernel
/-- the type's name of a plain value -/
def TyP (K : PySem.W.Frag) (H : Hp) (v : V) (t : String) : Prop := TyX K H v (.type t) ∧ t ∈ tyL
section
variable {P : Program} {w : World} {K : PySem.W.Frag} {mg : Str → Option Value} {base : Heap}
def sp_is_whole (K : PySem.W.Frag) : Sp := sp1 fun a H Q _ => ∃ t, TyP K H a t ∧ Q (.bl (t == "int")) H
abbrev N_is_whole : List Str := ["thing"]
theorem sc_is_whole : FnScope N_is_whole ["thing"] (defScope st_is_whole) := ⟨rfl, rfl, rfl, by decide +kernel, rfl, by decide +kernel, by decide +kernel⟩
theorem b_is_whole (T : Txt P K mg) : Binds K (fdOf K "is_whole") ["thing"] [] := T.F_is_whole.bindsN fun _ _ _ _ _ _ us hl => match us, hl with | [_], _ => rfl
theorem ok_is_whole (T : Txt P K mg) : Ok P w K mg base 2 "is_whole" ["thing"] (sp_is_whole K) := by
  refine T.F_is_whole.ok sc_is_whole sp1_len (fun cdv A outer s H vs Q E hr h => ?_)
  obtain ⟨a0, rfl, h⟩ := h
  refine ⟨_, (pss_one (ps_ret (pe_and (pe_callB (callK_isi (K := K) rfl) rfl T.f_isinstance (by decide +kernel) (pa_cons (pv 0) (pa_cons (pe_bltn (v := .ty "int") (u := .type "int") rfl T.f_int (by decide +kernel) rfl) pa_nil))) (pe_one (pe_not (pe_callB (callK_isi (K := K) rfl) rfl T.f_isinstance (by decide +kernel) (pa_cons (pv 0) (pa_cons (pe_bltn (v := .ty "bool") (u := .type "bool") rfl T.f_bool (by decide +kernel) rfl) pa_nil)))))))), ?_⟩
  try dsimp only [cxOf, List.map]
  obtain ⟨t, ⟨ht, hm⟩, k⟩ := h
  walk_at "s"
  refine x_isi ?_ ht (ty_int t hm)
  walk_at "s"
  refine x_if _ (fun e => ?_) (fun e => ?_)
  · walk_at "s"
    refine x_isi ?_ ht (ty_bool t hm)
    walk_at "s"
    have z : (!t == "bool") = (t == "int") := (by decide : ∀ t ∈ tyL, (t == "int" || t == "bool") = true → (!t == "bool") = (t == "int")) t hm e
    rw [z]
    exact k
  · have z : (t == "int") = false := (by decide : ∀ t ∈ tyL, (t == "int" || t == "bool") = false → (t == "int") = false) t hm e
    rw [z] at k
    exact k
/-! ### figures -/
def isFig (c : Nat) : Bool := 48 ≤ c && c ≤ 57
def figs (l : List Nat) : Bool := !l.isEmpty && l.all isFig
theorem fig_mem (c : Nat) : decide (c ∈ (Str.ofString "0123456789").cps.toList) = isFig c := by
  have e : (Str.ofString "0123456789").cps.toList = [48, 49, 50, 51, 52, 53, 54, 55, 56, 57] := by decide +kernel
  rw [e]
  unfold isFig
  by_cases h : 48 ≤ c ∧ c ≤ 57
  · rw [decide_eq_true h.1, decide_eq_true h.2, Bool.and_self]
    refine decide_eq_true ?_
    simp
    omega
  · have : ¬ (c ∈ [48, 49, 50, 51, 52, 53, 54, 55, 56, 57]) := by simp; omega
    rw [decide_eq_false this]
    symm
    rw [Bool.and_eq_false_iff]
    simp
    omega
def sp_is_figures : Sp := sp1 fun a H Q _ => ∃ z : Str, a = .str z ∧ z.length < 2000000 ∧ ∀ H', Same H H' → Q (.bl (figs z.cps.toList)) H'
abbrev N_is_figures : List Str := ["word", "sign"]
theorem sc_is_figures : FnScope N_is_figures ["word"] (defScope st_is_figures) := ⟨rfl, rfl, rfl, by decide +kernel, rfl, by decide +kernel, by decide +kernel⟩
theorem b_is_figures (T : Txt P K mg) : Binds K (fdOf K "is_figures") ["word"] [] := T.F_is_figures.bindsN fun _ _ _ _ _ _ us hl => match us, hl with | [_], _ => rfl
theorem ok_is_figures (T : Txt P K mg) : Ok P w K mg base 2 "is_figures" ["word"] sp_is_figures := by
  refine T.F_is_figures.ok sc_is_figures sp1_len (fun cdv A outer s H vs Q E hr h => ?_)
  obtain ⟨a0, rfl, h⟩ := h
  refine ⟨_, (pss_one (ps_ret (pe_and (pe_cmpR (opK_ne (K := K) rfl hr.units) (pv 0) pe_str (nomark _)) (pe_one (pe_callB (cK_all (K := K) rfl rfl) rfl T.f_all (by decide +kernel) (pa_cons (pe_lc (own := [("sign", 1)]) rfl sc_is_figures.nd (pi_str (pv 0)) (blkOk_by (own := [("sign", 1)]) (N := N_is_figures) (sc := defScope st_is_figures) (by decide +kernel)) (fun _ _ _ _ _ => pg_name (i := 1) sc_is_figures.nd rfl (Or.inl rfl)) (fun _ _ _ _ _ => pts_nil) (fun _ _ _ _ _ => (pe_cmpR (opK_in (K := K) rfl) (pv 1) pe_str rfl))) pa_nil)))))), ?_⟩
  try dsimp only [cxOf, List.map]
  obtain ⟨z, rfl, hz, k⟩ := h
  walk_at "s"
  refine x_if _ (fun e => ?_) (fun e => ?_)
  · walk_at "s"
    refine x_lcS (fun _ => true) (fun c => .bl (isFig c)) (fun R q => x_var rfl q) (Nat.lt_of_lt_of_le hz (by rw [sizeLine_eq]; decide)) (fun c _ H' R q => ?_) (fun c _ _ H' R q => ?_) fun D hD => ?_
    · walk_at "s"
      exact q
    · walk_at "s"
      rw [fig_mem]
      exact q
    have eL : (z.cps.toList.filter fun _ => true).map (fun c => V.bl (isFig c)) = (z.cps.toList.map isFig).map V.bl := by
      rw [List.filter_eq_self.mpr (fun _ _ => rfl), List.map_map]
      rfl
    rw [eL]
    walk_at "s"
    have e2 : (z.cps.toList.map isFig).all id = figs z.cps.toList := by
      unfold figs
      have hn : z.cps.toList ≠ [] := fun h0 => by
        have : z = Str.ofString "" := TL.ext_tl h0
        rw [this] at e
        exact absurd e (by decide)
      cases hc : z.cps.toList with
      | nil => exact absurd hc hn
      | cons c l => simp [List.all_map, Function.comp_def]
    rw [e2]
    exact k _ (Same.new hD)
  · have : z = Str.ofString "" := by simpa using e
    rw [this] at k
    exact k H (fun _ _ h => h)
/-! ### long runs of figures -/
def isDig (c : Nat) : Bool := Txt.isdigit ⟨#[c]⟩
def longRun : Nat → List Nat → Nat
  | _, [] => 0
  | r, c :: l => if isDig c = true then longRun (r + 1) l else if 4000 < r then r else longRun 0 l
def sp_long_run : Sp := sp1 fun a H Q _ => ∃ z : Str, a = .str z ∧ z.length < 2000000 ∧ Q (.int (longRun 0 (z.cps.toList ++ [32]) : Nat)) H
abbrev N_long_run : List Str := ["word", "run", "sign"]
theorem sc_long_run : FnScope N_long_run ["word"] (defScope st_long_run) := ⟨rfl, rfl, rfl, by decide +kernel, rfl, by decide +kernel, by decide +kernel⟩
theorem b_long_run (T : Txt P K mg) : Binds K (fdOf K "long_run") ["word"] [] := T.F_long_run.bindsN fun _ _ _ _ _ _ us hl => match us, hl with | [_], _ => rfl
theorem ok_long_run (T : Txt P K mg) : Ok P w K mg base 2 "long_run" ["word"] sp_long_run := by
  refine T.F_long_run.ok sc_long_run sp1_len (fun cdv A outer s H vs Q E hr h => ?_)
  obtain ⟨a0, rfl, h⟩ := h
  refine ⟨_, (pss_cons (ps_set (i := 1) sc_long_run.nd rfl (Or.inl rfl) pe_int)
  (pss_cons (ps_for (passes_of rfl) rfl (pi_str (pe_op opA_add (pv 0) pe_str)) (pg_name (i := 2) sc_long_run.nd rfl (Or.inl rfl))
  (pss_one (ps_if (pt_val (pe_m0 PySem.F.slot_str_isdigit PySem.F.type_str_isdigit mt_isdigit (pv 2))) (pss_one (ps_set (i := 1) sc_long_run.nd rfl (Or.inl rfl) (pe_op opA_add (pv 1) pe_int))) (pss_one (ps_if (pt_cmpR op_gt (pv 1) (pe_glob (v := .int 4000) rfl T.c_MOST_FIGURES ⟨_, rfl⟩) (nomark _)) (pss_one (ps_ret (pv 1))) (pss_one (ps_set (i := 1) sc_long_run.nd rfl (Or.inl rfl) pe_int)))))))
  (pss_one (ps_ret pe_int)))), ?_⟩
  try dsimp only [cxOf, List.map]
  obtain ⟨z, rfl, hz, k⟩ := h
  walk_at "s"
  have ez : (z ++ Str.ofString " ").cps.toList = z.cps.toList ++ [32] := by
    show (z.cps ++ (Str.ofString " ").cps).toList = _
    rw [Array.toList_append]
    rfl
  refine x_forS (z := z ++ Str.ofString " ") (fun l σ H' => H' = H ∧ ∃ (r : Nat) (x : Option V), σ = [some (.str z), some (.int (r : Int)), x] ∧ longRun r l = longRun 0 (z.cps.toList ++ [32])) (fun R q => ?_) ?_ ?_ ?_
  · walk_at "s"
    refine x_addS ?_ q
    show z.length + 1 ≤ sizeLine
    rw [sizeLine_eq]
    omega
  · exact ⟨rfl, 0, none, rfl, by rw [ez]⟩
  · rintro c l σ H' ⟨rfl, r, x, rfl, hr⟩
    walk_at "s"
    refine ⟨_, rfl, rfl, True.intro, ?_⟩
    walk_at "s"
    refine x_if _ (fun e => ?_) (fun e => ?_)
    · walk_at "s"
      refine ⟨rfl, r + 1, _, rfl, ?_⟩
      rw [← hr]
      exact (if_pos (show isDig c = true from e)).symm
    · have hl : longRun r (c :: l) = if 4000 < r then r else longRun 0 l := by
        show (if isDig c = true then longRun (r + 1) l else _) = _
        rw [if_neg (by unfold isDig; rw [e]; exact Bool.false_ne_true)]
      rw [hl] at hr
      walk_at "s"
      refine x_if _ (fun e => ?_) (fun e => ?_)
      · have e := of_decide_eq_true e
        rw [if_pos (by omega)] at hr
        walk_at "s"
        rw [← hr] at k
        exact k
      · have e := of_decide_eq_false e
        rw [if_neg (by omega)] at hr
        walk_at "s"
        exact ⟨rfl, 0, _, rfl, hr⟩
  · rintro σ H' ⟨rfl, r, x, rfl, hr⟩
    walk_at "s"
    rw [← hr] at k
    exact k
end
end K00

set_option maxHeartbeats 4000000
namespace K00
open PySem PySem.Spec PyProof.Rows L2 EL
local macro_rules | `(tactic| walk_at "s1") => `(tactic| with_reducible first
  | refine x_seq ?_ | refine x_asg ?_ | refine x_op ?_ | refine x_c ?_ | refine x_gName ?_ | refine x_ifS ?_ | refine x_ret ?_ | refine x_test ?_ | refine x_bl ?_
  | refine x_I0 ?_ | refine x_addI ?_ | refine x_mulI ?_ ?_ | refine x_fdiv ?_ ?_ | refine x_mod ?_ ?_ | refine x_un ?_ | refine x_rU ?_ | refine x_pow ?_ ?_
  | refine x_eqI' ?_ | refine x_neI' ?_ | refine x_eqS' ?_ | refine x_neS' ?_
  | refine x_cons ?_ | refine x_nil ?_ | refine x_tup ?_ | refine x_lst ?_ | refine x_callS ?_ | refine x_CB ?_ | refine x_par ?_ | refine x_two ?_
  | refine x_next ?_ | refine x_and ?_ | refine x_or ?_ | refine x_not ?_ | refine x_andV ?_ | refine x_orV ?_ | refine x_notV ?_ | refine x_ex ?_ | refine x_ifE ?_ | refine x_tB ?_ | refine x_retN ?_ | refine x_drop ?_ | refine x_brk ?_ | refine x_cont ?_
  | refine x_intI ?_ | refine x_abs ?_ | refine x_gcd ?_ | refine x_str ?_ ?_ | refine x_sz ?_ | refine x_isN ?_ | refine x_notN ?_ | refine x_sl ?_ | refine x_noPart ?_ | refine x_part ?_ | refine x_exI ?_ | refine x_slS ?_ ?_ | refine x_gSub ?_ | refine x_inS ?_ | refine x_notinS ?_ | refine x_yes ?_ | refine x_m1 ?_ | refine x_m1' ?_ | refine x_ms ?_ | refine x_chain ?_ | refine x_callK ?_ | refine x_callSD ?_ | refine x_ifT' ?_ | refine x_newE ?_ | refine x_gCons ?_ | refine x_gNil ?_ | refine x_gTupU rfl ?_ | refine x_ifX ?_)
local macro_rules | `(tactic| walk_at "side") => `(tactic| with_reducible first | decide | (refine mul_left ?_ ?_ <;> omega) | (refine mul_right ?_ ?_ <;> omega) | (refine div_of ?_ ?_ <;> first | omega | assumption | decide +kernel) | omega | assumption)
local macro_rules | `(tactic| walk_at "s") => `(tactic| repeat (first | walk_at "s1" | ((with_reducible apply x_var); (· exact rfl)) | ((with_reducible apply x_ixU); (· exact rfl)) | ((with_reducible apply x_ixTU); (· exact rfl)) | ((with_reducible apply x_setU); (· exact rfl)) | ((with_reducible apply x_all); (· exact SqL.of upd_same))))
/-! ### words and names -/
def wordB (l : List Nat) : Bool := decide (1 ≤ l.length) && (decide (l.length ≤ 16) && (decide (l.headD 0 ∈ s_FIRST_SIGNS.cps.toList) && l.all fun c => decide (c ∈ s_WORD_SIGNS.cps.toList)))
def wordV : V → Bool
  | .str z => wordB z.cps.toList
  | _ => false
def txtV : V → Prop
  | .str z => z.length < 2000000
  | _ => True
def nameV (v : V) : Bool := wordV v && !inV v (l_KEPT_WORDS.map V.str)
/-- a plain value that is passed for a name -/
def Pln (K : PySem.W.Frag) (H : Hp) (v : V) : Prop := txtV v ∧ ∃ t, TyP K H v t ∧ (t = "str" ↔ ∃ z, v = .str z)
section
variable {P : Program} {w : World} {K : PySem.W.Frag} {mg : Str → Option Value} {base : Heap}
def sp_is_word (K : PySem.W.Frag) : Sp := sp1 fun a H Q _ => Pln K H a ∧ ∀ H', Same H H' → Q (.bl (wordV a)) H'
abbrev N_is_word : List Str := ["thing", "sign"]
theorem sc_is_word : FnScope N_is_word ["thing"] (defScope st_is_word) := ⟨rfl, rfl, rfl, by decide +kernel, rfl, by decide +kernel, by decide +kernel⟩
theorem b_is_word (T : Txt P K mg) : Binds K (fdOf K "is_word") ["thing"] [] := T.F_is_word.bindsN fun _ _ _ _ _ _ us hl => match us, hl with | [_], _ => rfl
theorem ok_is_word (T : Txt P K mg) : Ok P w K mg base 2 "is_word" ["thing"] (sp_is_word K) := by
  refine T.F_is_word.ok sc_is_word sp1_len (fun cdv A outer s H vs Q E hr h => ?_)
  obtain ⟨a0, rfl, h⟩ := h
  refine ⟨_, (pss_cons (ps_if (PW.pt (pw_or (pt_not (pt_val (pe_callB (callK_isi (K := K) rfl) rfl T.f_isinstance (by decide +kernel) (pa_cons (pv 0) (pa_cons (pe_bltn (v := .ty "str") (u := .type "str") rfl T.f_str (by decide +kernel) rfl) pa_nil))))) (pw_or1 (pt_not (pt_chain op_le op_le pe_int (pe_callB (callK_len (K := K) rfl) rfl T.f_len (by decide +kernel) (pa_cons (pv 0) pa_nil)) (pe_glob (v := .int 16) rfl T.c_LONGEST ⟨_, rfl⟩)))))) (pss_one (ps_ret pe_bl)) pss_nil)
  (pss_one (ps_ret (pe_and (pe_cmpR (opK_in (K := K) rfl) (pe_ix (ixK (K := K) rfl) (pv 0) pe_int (fun _ _ => rfl)) (pe_glob (v := .str s_FIRST_SIGNS) rfl T.c_FIRST_SIGNS ⟨_, rfl⟩) rfl) (pe_one (pe_callB (cK_all (K := K) rfl rfl) rfl T.f_all (by decide +kernel) (pa_cons (pe_lc (own := [("sign", 1)]) rfl sc_is_word.nd (pi_str (pv 0)) (blkOk_by (own := [("sign", 1)]) (N := N_is_word) (sc := defScope st_is_word) (by decide +kernel)) (fun _ _ _ _ _ => pg_name (i := 1) sc_is_word.nd rfl (Or.inl rfl)) (fun _ _ _ _ _ => pts_nil) (fun _ _ _ _ _ => (pe_cmpR (opK_in (K := K) rfl) (pv 1) (pe_glob (v := .str s_WORD_SIGNS) rfl T.c_WORD_SIGNS ⟨_, rfl⟩) rfl))) pa_nil))))))), ?_⟩
  try dsimp only [cxOf, List.map]
  obtain ⟨⟨hx, t, ⟨ht, hm⟩, hs⟩, k⟩ := h
  walk_at "s"
  refine x_isi ?_ ht (ty_str t hm)
  walk_at "s"
  refine x_if _ (fun e => ?_) (fun e => ?_)
  · have hn : wordV a0 = false := by
      have hne : ¬ t = "str" := by simpa using e
      cases a0 with
      | str z => exact absurd (hs.mpr ⟨z, rfl⟩) hne
      | _ => rfl
    rw [hn] at k
    refine x_ifT rfl ?_
    walk_at "s"
    exact k H (fun _ _ h => h)
  obtain ⟨z, rfl⟩ := hs.mp (by simpa using e)
  have hx : z.length < 2000000 := hx
  have hsz : z.length ≤ sizeLine := by rw [sizeLine_eq]; omega
  have hlen : z.cps.toList.length = z.length := by simp [Str.length]
  walk_at "s"
  refine x_lenS ?_ hsz
  walk_at "s"
  have bad : wordB z.cps.toList = false → tRet (tC (V.bl false)) { nx := fun x H' => Q V.non H', rt := Q } [some (V.str z), none] H := fun h0 => by
    walk_at "s"
    have q := k H (fun _ _ h => h)
    have e2 : wordV (.str z) = false := h0
    rw [e2] at q
    exact q
  refine x_if _ (fun e1 => ?_) (fun e1 => ?_)
  · have e1 := of_decide_eq_true e1
    walk_at "s"
    refine x_if _ (fun e2 => ?_) (fun e2 => ?_)
    · have e2 : ¬ (z.length : Int) ≤ 16 := by simpa using e2
      refine bad ?_
      unfold wordB
      rw [hlen, decide_eq_false (show ¬ z.length ≤ 16 by omega), Bool.false_and, Bool.and_false]
    · have e2 : (z.length : Int) ≤ 16 := by simpa using e2
      walk_at "s"
      cases hz : z.cps.toList with
      | nil => rw [hz] at hlen; simp at hlen; omega
      | cons c l =>
        refine x_ixS (n := 0) (c := c) ?_ hsz (by rw [hz]; rfl)
        walk_at "s"
        have hw : wordV (.str z) = (decide (c ∈ s_FIRST_SIGNS.cps.toList) && (z.cps.toList.all fun c => decide (c ∈ s_WORD_SIGNS.cps.toList))) := by
          show wordB z.cps.toList = _
          unfold wordB
          rw [hlen, decide_eq_true (show 1 ≤ z.length by omega), decide_eq_true (show z.length ≤ 16 by omega), Bool.true_and, Bool.true_and, hz]
          rfl
        refine x_if _ (fun e3 => ?_) (fun e3 => ?_)
        · walk_at "s"
          refine x_lcS (fun _ => true) (fun c => .bl (decide (c ∈ s_WORD_SIGNS.cps.toList))) (fun R q => x_var rfl q) (by rw [sizeLine_eq]; omega) (fun c _ H' R q => ?_) (fun c _ _ H' R q => ?_) fun D hD => ?_
          · walk_at "s"
            exact q
          · walk_at "s"
            exact q
          have eL : (z.cps.toList.filter fun _ => true).map (fun c => V.bl (decide (c ∈ s_WORD_SIGNS.cps.toList))) = (z.cps.toList.map fun c => decide (c ∈ s_WORD_SIGNS.cps.toList)).map V.bl := by
            rw [List.filter_eq_self.mpr (fun _ _ => rfl), List.map_map]
            rfl
          rw [eL]
          walk_at "s"
          rw [hw, e3, Bool.true_and] at k
          rw [List.all_map]
          exact k _ (Same.new hD)
        · have q := k H (fun _ _ h => h)
          rw [hw, e3, Bool.false_and] at q
          exact q
  · have e1 := of_decide_eq_false e1
    walk_at "s"
    refine x_ifT rfl ?_
    refine bad ?_
    unfold wordB
    rw [hlen, decide_eq_false (show ¬ 1 ≤ z.length by omega), Bool.false_and]
theorem kept_flat : (l_KEPT_WORDS.map V.str).all flatV = true := by
  rw [List.all_map]
  exact List.all_eq_true.mpr fun _ _ => rfl
theorem word_flat {v : V} (h : wordV v = true) : flatV v = true := by
  cases v with
  | str z => rfl
  | _ => cases h
def sp_is_name (K : PySem.W.Frag) : Sp := sp1 fun a H Q _ => Pln K H a ∧ ∀ H', Same H H' → Q (.bl (nameV a)) H'
abbrev N_is_name : List Str := ["thing"]
theorem sc_is_name : FnScope N_is_name ["thing"] (defScope st_is_name) := ⟨rfl, rfl, rfl, by decide +kernel, rfl, by decide +kernel, by decide +kernel⟩
theorem b_is_name (T : Txt P K mg) : Binds K (fdOf K "is_name") ["thing"] [] := T.F_is_name.bindsN fun _ _ _ _ _ _ us hl => match us, hl with | [_], _ => rfl
theorem ok_is_name (T : Txt P K mg) : Ok P w K mg base 3 "is_name" ["thing"] (sp_is_name K) := by
  have G_is_word := ok_is_word (P := P) (w := w) (base := base) T
  refine T.F_is_name.ok sc_is_name sp1_len (fun cdv A outer s H vs Q E hr h => ?_)
  obtain ⟨a0, rfl, h⟩ := h
  refine ⟨_, (pss_one (ps_ret (pe_and (pe_callS G_is_word (hr.mono (by decide)) rfl T.g_is_word T.k_is_word (b_is_word T) (fun σ => L2N.passAt (L2N.takes_of rfl rfl rfl rfl) σ) (pa_cons (pv 0) pa_nil)) (pe_one (pe_cmpR (opK_notin (K := K) rfl) (pv 0) (pe_glob (v := .ref (He.ga K "KEPT_WORDS")) rfl T.c_KEPT_WORDS rfl) rfl))))), ?_⟩
  try dsimp only [cxOf, List.map]
  obtain ⟨hp, k⟩ := h
  walk_at "s"
  refine sp1_i ⟨hp, fun H' e => ?_⟩
  walk_at "s"
  refine x_if _ (fun e1 => ?_) (fun e1 => ?_)
  · walk_at "s"
    refine x_notinL ?_ (.inr (T.t_KEPT_WORDS _)) (word_flat e1) kept_flat
    have q := k H' e
    unfold nameV at q
    rw [e1, Bool.true_and] at q
    exact q
  · have q := k H' e
    unfold nameV at q
    rw [e1, Bool.false_and] at q
    exact q
end
end K00

set_option maxHeartbeats 4000000
namespace K00
open PySem PySem.Spec PyProof.Rows L2 EL
local macro_rules | `(tactic| walk_at "s1") => `(tactic| with_reducible first
  | refine x_seq ?_ | refine x_asg ?_ | refine x_op ?_ | refine x_c ?_ | refine x_gName ?_ | refine x_ifS ?_ | refine x_ret ?_ | refine x_test ?_ | refine x_bl ?_
  | refine x_I0 ?_ | refine x_addI ?_ | refine x_mulI ?_ ?_ | refine x_fdiv ?_ ?_ | refine x_mod ?_ ?_ | refine x_un ?_ | refine x_rU ?_ | refine x_pow ?_ ?_
  | refine x_eqI' ?_ | refine x_neI' ?_ | refine x_eqS' ?_ | refine x_neS' ?_
  | refine x_cons ?_ | refine x_nil ?_ | refine x_tup ?_ | refine x_lst ?_ | refine x_callS ?_ | refine x_CB ?_ | refine x_par ?_ | refine x_two ?_
  | refine x_next ?_ | refine x_and ?_ | refine x_or ?_ | refine x_not ?_ | refine x_andV ?_ | refine x_orV ?_ | refine x_notV ?_ | refine x_ex ?_ | refine x_ifE ?_ | refine x_tB ?_ | refine x_retN ?_ | refine x_drop ?_ | refine x_brk ?_ | refine x_cont ?_
  | refine x_intI ?_ | refine x_abs ?_ | refine x_gcd ?_ | refine x_str ?_ ?_ | refine x_sz ?_ | refine x_isN ?_ | refine x_notN ?_ | refine x_sl ?_ | refine x_noPart ?_ | refine x_part ?_ | refine x_exI ?_ | refine x_slS ?_ ?_ | refine x_gSub ?_ | refine x_inS ?_ | refine x_notinS ?_ | refine x_yes ?_ | refine x_m1 ?_ | refine x_m1' ?_ | refine x_ms ?_ | refine x_chain ?_ | refine x_callK ?_ | refine x_callSD ?_ | refine x_ifT' ?_ | refine x_newE ?_ | refine x_gCons ?_ | refine x_gNil ?_ | refine x_gTupU rfl ?_ | refine x_ifX ?_)
local macro_rules | `(tactic| walk_at "side") => `(tactic| with_reducible first | decide | (refine mul_left ?_ ?_ <;> omega) | (refine mul_right ?_ ?_ <;> omega) | (refine div_of ?_ ?_ <;> first | omega | assumption | decide +kernel) | omega | assumption)
local macro_rules | `(tactic| walk_at "s") => `(tactic| repeat (first | walk_at "s1" | ((with_reducible apply x_var); (· exact rfl)) | ((with_reducible apply x_ixU); (· exact rfl)) | ((with_reducible apply x_ixTU); (· exact rfl)) | ((with_reducible apply x_setU); (· exact rfl)) | ((with_reducible apply x_all); (· exact SqL.of upd_same))))
section
variable {P : Program} {w : World} {K : PySem.W.Frag} {mg : Str → Option Value} {base : Heap}
def sp_all_unlike (K : PySem.W.Frag) : Sp := sp1 fun a H Q _ => ∃ (l : Addr) (ys : List Str), a = .ref l ∧ (SqL K H l (ys.map V.str) ∨ SqT K H l (ys.map V.str)) ∧ ys.length < 100000 ∧ ∀ H', Same H H' → Q (.bl (decide ys.Nodup)) H'
abbrev N_all_unlike : List Str := ["things", "thing"]
theorem sc_all_unlike : FnScope N_all_unlike ["things"] (defScope st_all_unlike) := ⟨rfl, rfl, rfl, by decide +kernel, rfl, by decide +kernel, by decide +kernel⟩
theorem b_all_unlike (T : Txt P K mg) : Binds K (fdOf K "all_unlike") ["things"] [] := T.F_all_unlike.bindsN fun _ _ _ _ _ _ us hl => match us, hl with | [_], _ => rfl
theorem ok_all_unlike (T : Txt P K mg) : Ok P w K mg base 2 "all_unlike" ["things"] (sp_all_unlike K) := by
  refine T.F_all_unlike.ok sc_all_unlike sp1_len (fun cdv A outer s H vs Q E hr h => ?_)
  obtain ⟨a0, rfl, h⟩ := h
  refine ⟨_, (pss_one (ps_ret (pe_cmpR (opK_eq (K := K) rfl hr.units) (pe_callB (callK_len (K := K) rfl) rfl T.f_len (by decide +kernel) (pa_cons (pe_dc (own := [("thing", 1)]) rfl sc_all_unlike.nd (pi_or (pi_list (pv 0)) (pi_tup (pv 0))) (blkOk_by (own := [("thing", 1)]) (N := N_all_unlike) (sc := defScope st_all_unlike) (by decide +kernel)) (fun _ _ _ _ _ => pg_name (i := 1) sc_all_unlike.nd rfl (Or.inl rfl)) (fun _ _ _ _ _ => pts_nil) (fun _ _ _ _ _ => (pv 1)) (fun _ _ _ _ _ => pe_bl)) pa_nil)) (pe_callB (callK_len (K := K) rfl) rfl T.f_len (by decide +kernel) (pa_cons (pv 0) pa_nil)) (nomark _)))), ?_⟩
  try dsimp only [cxOf, List.map]
  obtain ⟨l, ys, rfl, hS, hl, k⟩ := h
  walk_at "s"
  refine x_dcA (fun R q => x_var rfl q) hS (by rw [sizeLine_eq]; omega) (Nat.le_of_ble_eq_true rfl) fun D hD => ?_
  walk_at "s"
  refine x_lenD ?_ upd_same
  walk_at "s"
  have len : ∀ {Q'}, Q' (V.int ys.length) (upd H D (.dK (dk ys []))) → rLenA K [.ref l] (upd H D (.dK (dk ys []))) Q' := fun {Q'} q => by
    rcases hS with hS | hS
    · exact x_lenL (by rw [List.length_map]; exact q) ((Same.new hD).seq hS)
    · exact x_lenT (by rw [List.length_map]; exact q) (seqT (Same.new hD) hS)
  refine len ?_
  walk_at "s"
  have e : decide (((dk ys []).length : Int) = (ys.length : Int)) = decide ys.Nodup := by
    have := dk_nodup ys
    by_cases h : ys.Nodup
    · rw [decide_eq_true h, decide_eq_true (by rw [this.mpr h])]
    · rw [decide_eq_false h, decide_eq_false (fun z => h (this.mp (by omega)))]
  rw [e]
  exact k _ (Same.new hD)
theorem txt_of : ∀ xs : List V, xs.all nameV = true → ∃ ys : List Str, xs = ys.map V.str
  | [], _ => ⟨[], rfl⟩
  | v :: xs, h => by
    rw [List.all_cons, Bool.and_eq_true] at h
    obtain ⟨ys, e⟩ := txt_of xs h.2
    cases v with
    | str z => exact ⟨z :: ys, by rw [e]; rfl⟩
    | _ => cases h.1
theorem nodup_str : ∀ ys : List Str, (ys.map V.str).Nodup ↔ ys.Nodup
  | [] => ⟨fun _ => List.nodup_nil, fun _ => List.nodup_nil⟩
  | y :: ys => by
    rw [List.map_cons, List.nodup_cons, List.nodup_cons, nodup_str ys]
    refine and_congr_left fun _ => not_congr ⟨fun h => ?_, fun h => List.mem_map_of_mem h⟩
    obtain ⟨z, hz, e⟩ := List.mem_map.mp h
    cases e
    exact hz
/-- lists and tuples of plain values -/
def PlnL (K : PySem.W.Frag) (H : Hp) (l : Addr) (xs : List V) : Prop := (SqL K H l xs ∨ SqT K H l xs) ∧ xs.length < 100000 ∧ ∀ x ∈ xs, Pln K H x
theorem Pln.same {K : PySem.W.Frag} {H H' : Hp} {v : V} (h : Pln K H v) (e : Same H H') : Pln K H' v := by
  obtain ⟨h1, t, ⟨h2, h3⟩, h4⟩ := h
  exact ⟨h1, t, ⟨tyX_same e h2, h3⟩, h4⟩
def sp_names_of (K : PySem.W.Frag) : Sp := sp1 fun a H Q _ =>
  (∃ (t : String), TyP K H a t ∧ (t == "list") = false ∧ (t == "tuple") = false ∧ ∀ H', Same H H' → Q .non H') ∨
  (∃ (l : Addr) (xs : List V) (t : String), a = .ref l ∧ TyP K H a t ∧ ((t = "list" ∧ SqL K H l xs) ∨ (t = "tuple" ∧ SqT K H l xs)) ∧ xs.length < 100000 ∧ (∀ x ∈ xs, Pln K H x) ∧
    (¬ (xs.all nameV = true ∧ xs.Nodup) → ∀ H', Same H H' → Q .non H') ∧ (xs.all nameV = true ∧ xs.Nodup → ∀ H' p, Same H H' → SqT K H' p xs → Q (.ref p) H'))
abbrev N_names_of : List Str := ["things", "thing"]
theorem sc_names_of : FnScope N_names_of ["things"] (defScope st_names_of) := ⟨rfl, rfl, rfl, by decide +kernel, rfl, by decide +kernel, by decide +kernel⟩
theorem b_names_of (T : Txt P K mg) : Binds K (fdOf K "names_of") ["things"] [] := T.F_names_of.bindsN fun _ _ _ _ _ _ us hl => match us, hl with | [_], _ => rfl
theorem ok_names_of (T : Txt P K mg) : Ok P w K mg base 4 "names_of" ["things"] (sp_names_of K) := by
  have G_all_unlike := ok_all_unlike (P := P) (w := w) (base := base) T
  have G_is_name := ok_is_name (P := P) (w := w) (base := base) T
  refine T.F_names_of.ok sc_names_of sp1_len (fun cdv A outer s H vs Q E hr h => ?_)
  obtain ⟨a0, rfl, h⟩ := h
  refine ⟨_, (pss_cons (ps_if (PW.pt (pw_or (pt_not (pt_val (pe_callB (callK_isi (K := K) rfl) rfl T.f_isinstance (by decide +kernel) (pa_cons (pv 0) (pa_cons (pe_tup (pa_cons (pe_bltn (v := .ty "list") (u := .type "list") rfl T.f_list (by decide +kernel) rfl) (pa_cons (pe_bltn (v := .ty "tuple") (u := .type "tuple") rfl T.f_tuple (by decide +kernel) rfl) pa_nil))) pa_nil))))) (pw_or1 (pt_not (pt_val (pe_callB (cK_all (K := K) rfl rfl) rfl T.f_all (by decide +kernel) (pa_cons (pe_lc (own := [("thing", 1)]) rfl sc_names_of.nd (pi_or (pi_list (pv 0)) (pi_tup (pv 0))) (blkOk_by (own := [("thing", 1)]) (N := N_names_of) (sc := defScope st_names_of) (by decide +kernel)) (fun _ _ _ _ _ => pg_name (i := 1) sc_names_of.nd rfl (Or.inl rfl)) (fun _ _ _ _ _ => pts_nil) (fun _ _ _ _ _ => (pe_callS G_is_name (hr.mono (by decide)) rfl T.g_is_name T.k_is_name (b_is_name T) (fun σ => L2N.passAt takesF σ) (pa_cons (pv 1) pa_nil)))) pa_nil))))))) (pss_one (ps_ret pe_non)) pss_nil)
  (pss_one (ps_ret (pe_ifExp (pt_val (pe_callS G_all_unlike (hr.mono (by decide)) rfl T.g_all_unlike T.k_all_unlike (b_all_unlike T) (fun σ => L2N.passAt (L2N.takes_of rfl rfl rfl rfl) σ) (pa_cons (pv 0) pa_nil))) (pe_callTy (callK_tuple (K := K) rfl) rfl T.f_tuple (by decide +kernel) (pa_cons (pv 0) pa_nil)) pe_non)))), ?_⟩
  try dsimp only [cxOf, List.map]
  rcases h with ⟨t, ⟨ht, hm⟩, h1, h2, k⟩ | ⟨l, xs, t, rfl, ⟨ht, hm⟩, hS, hl, hp, k1, k2⟩
  · walk_at "s"
    intro tp htp
    refine x_isi2 ?_ upd_same (tyX_same (Same.new htp) ht) (ty_list t hm) (ty_tuple t hm)
    walk_at "s"
    rw [h1, h2]
    refine x_ifT rfl ?_
    walk_at "s"
    exact k _ (Same.new htp)
  · have hA : SqL K H l xs ∨ SqT K H l xs := hS.imp And.right And.right
    have ht2 : (t == "list" || t == "tuple") = true := by rcases hS with ⟨e, _⟩ | ⟨e, _⟩ <;> rw [e] <;> rfl
    walk_at "s"
    intro tp htp
    have e1 := Same.new (o := .tup [V.ty "list", V.ty "tuple"]) htp
    refine x_isi2 ?_ upd_same (tyX_same e1 ht) (ty_list t hm) (ty_tuple t hm)
    walk_at "s"
    rw [ht2]
    walk_at "s"
    refine x_ifF rfl ?_
    walk_at "s"
    refine x_lcAm (fun _ => true) (fun v => .bl (nameV v)) (fun R q => x_var rfl q) (Same.seqA e1 hA) (by rw [sizeLine_eq]; omega) (fun x hx H' R s q => ?_) (fun x hx _ H' R s q => ?_) fun D H1 s1 hD => ?_
    · walk_at "s"
      exact q _ (fun _ _ h => h)
    · walk_at "s"
      exact sp1_i ⟨(hp x hx).same (Same.tr e1 s), fun H'' s2 => q _ s2⟩
    have eL : (xs.filter fun _ => true).map (fun v => V.bl (nameV v)) = (xs.map nameV).map V.bl := by
      rw [List.filter_eq_self.mpr (fun _ _ => rfl), List.map_map]
      rfl
    rw [eL] at hD
    have s2 : Same H H1 := Same.tr e1 s1
    walk_at "s"
    refine x_all (SqL.of hD) ?_
    walk_at "s"
    have ea : (xs.map nameV).all id = xs.all nameV := by rw [List.all_map]; rfl
    rw [ea]
    refine x_if _ (fun e => ?_) (fun e => ?_)
    · walk_at "s"
      have e : xs.all nameV = false := by simpa using e
      exact k1 (fun h => by rw [h.1] at e; cases e) _ s2
    · have e : xs.all nameV = true := by simpa using e
      walk_at "s"
      obtain ⟨ys, rfl⟩ := txt_of xs e
      have hnd := nodup_str ys
      refine sp1_i ⟨l, ys, rfl, Same.seqA s2 hA, by rw [List.length_map] at hl; exact hl, fun H2 s3 => ?_⟩
      walk_at "s"
      refine x_if _ (fun e3 => ?_) (fun e3 => ?_)
      · have e3 := of_decide_eq_true e3
        walk_at "s"
        rcases hS with ⟨_, hS⟩ | ⟨_, hS⟩
        · exact x_tupL ((Same.tr s2 s3).seq hS) fun p hpn => k2 ⟨e, hnd.mpr e3⟩ _ p (Same.tr (Same.tr s2 s3) (Same.new hpn)) (SqT.of upd_same)
        · exact x_tupT (seqT (Same.tr s2 s3) hS) (k2 ⟨e, hnd.mpr e3⟩ _ l (Same.tr s2 s3) (seqT (Same.tr s2 s3) hS))
      · have e3 := of_decide_eq_false e3
        walk_at "s"
        exact k1 (fun h => e3 (hnd.mp h.2)) _ (Same.tr s2 s3)
def whyL : List Str := ["not a word", "not a name", "not a list of unlike names", "not a number"]
def sp_a_name (K : PySem.W.Frag) : Sp := sp2 fun a b H Q E => ∃ kp : Bool, b = .bl kp ∧ Pln K H a ∧ ((if kp = true then wordV a else nameV a) = true → ∀ H', Same H H' → Q a H') ∧
  ((if kp = true then wordV a else nameV a) = false → ∀ H' d z, Same H H' → H' d = none → z ∈ whyL → E (.ref (He.ga K "BadName")) (some d) (upd H' d (.xd [("why", .str z)])))
abbrev N_a_name : List Str := ["thing", "kept"]
theorem sc_a_name : FnScope N_a_name ["thing", "kept"] (defScope st_a_name) := ⟨rfl, rfl, rfl, by decide +kernel, rfl, by decide +kernel, by decide +kernel⟩
theorem bd_a_name (T : Txt P K mg) : ∃ ds, Vals [V.bl false] ds ∧ Binds K (fdOf K "a_name") ["thing", "kept"] ds := T.F_a_name.binds0 1 (by simp) rfl fun _ _ _ _ _ _ us ks h1 h2 => match us, ks, h1, h2 with | [_], [_], _, _ => ⟨_, _, _, _, _, _, rfl, rfl, rfl⟩
theorem ok_a_name (T : Txt P K mg) : Ok P w K mg base 4 "a_name" ["thing", "kept"] (sp_a_name K) := by
  have G_is_word := ok_is_word (P := P) (w := w) (base := base) T
  have G_is_name := ok_is_name (P := P) (w := w) (base := base) T
  refine T.F_a_name.ok sc_a_name sp2_len (fun cdv A outer s H vs Q E hr h => ?_)
  obtain ⟨a0, a1, rfl, h⟩ := h
  refine ⟨_, (pss_cons (ps_if (pt_ifE (pt_val (pv 1)) (pt_val (pe_callS G_is_word (hr.mono (by decide)) rfl T.g_is_word T.k_is_word (b_is_word T) (fun σ => L2N.passAt (L2N.takes_of rfl rfl rfl rfl) σ) (pa_cons (pv 0) pa_nil))) (pt_val (pe_callS G_is_name (hr.mono (by decide)) rfl T.g_is_name T.k_is_name (b_is_name T) (fun σ => L2N.passAt (L2N.takes_of rfl rfl rfl rfl) σ) (pa_cons (pv 0) pa_nil)))) (pss_one (ps_ret (pv 0))) pss_nil)
  (pss_one (L2N.ps_raise rfl (L2N.takes_of rfl rfl rfl rfl) (pmk_BadName T (hr.mono (by decide)) (pa_cons (pe_ifExp (pt_val (pv 1)) pe_str pe_str) pa_nil))))), ?_⟩
  try dsimp only [cxOf, List.map]
  obtain ⟨kp, rfl, hp, k1, k2⟩ := h
  walk_at "s"
  have fin : (if kp = true then wordV a0 else nameV a0) = false → ∀ H1, Same H H1 → ∀ z, z ∈ whyL → okWhy [.str z] ∧ ∀ d, H1 d = none → E (.ref (He.ga K "BadName")) (some d) (upd H1 d (.xd (flWhy [.str z]))) := fun hf H1 s1 z hz =>
    ⟨⟨z, rfl, (by decide : ∀ z ∈ whyL, z.length ≤ 1000) z hz⟩, fun d hd => k2 hf H1 d z s1 hd hz⟩
  cases kp with
  | true =>
    refine x_ifT rfl ?_
    walk_at "s"
    refine sp1_i ⟨hp, fun H1 s1 => ?_⟩
    walk_at "s"
    refine x_if _ (fun e => ?_) (fun e => ?_)
    · walk_at "s"
      exact k1 e H1 s1
    · walk_at "s"
      refine x_ifT rfl ?_
      walk_at "s"
      exact fin e H1 s1 _ (by decide)
  | false =>
    refine x_ifF rfl ?_
    walk_at "s"
    refine sp1_i ⟨hp, fun H1 s1 => ?_⟩
    walk_at "s"
    refine x_if _ (fun e => ?_) (fun e => ?_)
    · walk_at "s"
      exact k1 e H1 s1
    · walk_at "s"
      refine x_ifF rfl ?_
      walk_at "s"
      exact fin e H1 s1 _ (by decide)
/-- unlike_names: of a list or a tuple of plain values; of any other plain value -/
def sp_unlike_names (K : PySem.W.Frag) : Sp := sp1 fun a H Q E =>
  (∃ (t : String), TyP K H a t ∧ (t == "list") = false ∧ (t == "tuple") = false ∧ ∀ H' d z, Same H H' → H' d = none → z ∈ whyL → E (.ref (He.ga K "BadName")) (some d) (upd H' d (.xd [("why", .str z)]))) ∨
  (∃ (l : Addr) (xs : List V) (t : String), a = .ref l ∧ TyP K H a t ∧ ((t = "list" ∧ SqL K H l xs) ∨ (t = "tuple" ∧ SqT K H l xs)) ∧ xs.length < 100000 ∧ (∀ x ∈ xs, Pln K H x) ∧
    (¬ (xs.all nameV = true ∧ xs.Nodup) → ∀ H' d z, Same H H' → H' d = none → z ∈ whyL → E (.ref (He.ga K "BadName")) (some d) (upd H' d (.xd [("why", .str z)]))) ∧ (xs.all nameV = true ∧ xs.Nodup → ∀ H' p, Same H H' → SqT K H' p xs → Q (.ref p) H'))
abbrev N_unlike_names : List Str := ["things", "found"]
theorem sc_unlike_names : FnScope N_unlike_names ["things"] (defScope st_unlike_names) := ⟨rfl, rfl, rfl, by decide +kernel, rfl, by decide +kernel, by decide +kernel⟩
theorem b_unlike_names (T : Txt P K mg) : Binds K (fdOf K "unlike_names") ["things"] [] := T.F_unlike_names.bindsN fun _ _ _ _ _ _ us hl => match us, hl with | [_], _ => rfl
theorem ok_unlike_names (T : Txt P K mg) : Ok P w K mg base 5 "unlike_names" ["things"] (sp_unlike_names K) := by
  have G_names_of := ok_names_of (P := P) (w := w) (base := base) T
  refine T.F_unlike_names.ok sc_unlike_names sp1_len (fun cdv A outer s H vs Q E hr h => ?_)
  obtain ⟨a0, rfl, h⟩ := h
  refine ⟨_, (pss_cons (ps_set (i := 1) sc_unlike_names.nd rfl (Or.inl rfl) (pe_callS G_names_of (hr.mono (by decide)) rfl T.g_names_of T.k_names_of (b_names_of T) (fun σ => L2N.passAt (L2N.takes_of rfl rfl rfl rfl) σ) (pa_cons (pv 0) pa_nil)))
  (pss_cons (ps_if (pt_cmpR opA_isN (pv 1) pe_non (nomark _)) (pss_one (L2N.ps_raise rfl (L2N.takes_of rfl rfl rfl rfl) (pmk_BadName T (hr.mono (by decide)) (pa_cons pe_str pa_nil)))) pss_nil)
  (pss_one (ps_ret (pv 1))))), ?_⟩
  try dsimp only [cxOf, List.map]
  have bad : ∀ H1, Same H H1 → (∀ H' d z, Same H H' → H' d = none → z ∈ whyL → E (.ref (He.ga K "BadName")) (some d) (upd H' d (.xd [("why", .str z)]))) → okWhy [.str "not a list of unlike names"] ∧ ∀ d, H1 d = none → E (.ref (He.ga K "BadName")) (some d) (upd H1 d (.xd (flWhy [.str "not a list of unlike names"]))) := fun H1 s1 k =>
    ⟨⟨_, rfl, by decide⟩, fun d hd => k H1 d _ s1 hd (by decide)⟩
  walk_at "s"
  rcases h with ⟨t, ht, h1, h2, k⟩ | ⟨l, xs, t, rfl, ht, hS, hl, hp, k1, k2⟩
  · refine sp1_i (.inl ⟨t, ht, h1, h2, fun H1 s1 => ?_⟩)
    walk_at "s"
    refine x_ifT rfl ?_
    walk_at "s"
    exact bad H1 s1 k
  · refine sp1_i (.inr ⟨l, xs, t, rfl, ht, hS, hl, hp, fun hn H1 s1 => ?_, fun hy H1 p s1 hT => ?_⟩)
    · walk_at "s"
      refine x_ifT rfl ?_
      walk_at "s"
      exact bad H1 s1 (k1 hn)
    · walk_at "s"
      refine x_ifF rfl ?_
      walk_at "s"
      exact k2 hy H1 p s1 hT
end
end K00

set_option maxHeartbeats 4000000
namespace K00
open PySem PySem.Spec PyProof.Rows L2 EL
open SX (S)
open PySem.NumText (digitsVal AllDigits)
local macro_rules | `(tactic| walk_at "s1") => `(tactic| with_reducible first
  | refine x_seq ?_ | refine x_asg ?_ | refine x_op ?_ | refine x_c ?_ | refine x_gName ?_ | refine x_ifS ?_ | refine x_ret ?_ | refine x_test ?_ | refine x_bl ?_
  | refine x_I0 ?_ | refine x_addI ?_ | refine x_mulI ?_ ?_ | refine x_fdiv ?_ ?_ | refine x_mod ?_ ?_ | refine x_un ?_ | refine x_rU ?_ | refine x_pow ?_ ?_
  | refine x_eqI' ?_ | refine x_neI' ?_ | refine x_eqS' ?_ | refine x_neS' ?_
  | refine x_cons ?_ | refine x_nil ?_ | refine x_tup ?_ | refine x_lst ?_ | refine x_callS ?_ | refine x_CB ?_ | refine x_par ?_ | refine x_two ?_
  | refine x_next ?_ | refine x_and ?_ | refine x_or ?_ | refine x_not ?_ | refine x_andV ?_ | refine x_orV ?_ | refine x_notV ?_ | refine x_ex ?_ | refine x_ifE ?_ | refine x_tB ?_ | refine x_retN ?_ | refine x_drop ?_ | refine x_brk ?_ | refine x_cont ?_
  | refine x_intI ?_ | refine x_abs ?_ | refine x_gcd ?_ | refine x_str ?_ ?_ | refine x_sz ?_ | refine x_isN ?_ | refine x_notN ?_ | refine x_sl ?_ | refine x_noPart ?_ | refine x_part ?_ | refine x_exI ?_ | refine x_slS ?_ ?_ | refine x_gSub ?_ | refine x_inS ?_ | refine x_notinS ?_ | refine x_yes ?_ | refine x_m1 ?_ | refine x_m1' ?_ | refine x_ms ?_ | refine x_chain ?_ | refine x_callK ?_ | refine x_callSD ?_ | refine x_ifT' ?_ | refine x_newE ?_ | refine x_gCons ?_ | refine x_gNil ?_ | refine x_gTupU rfl ?_ | refine x_ifX ?_)
local macro_rules | `(tactic| walk_at "side") => `(tactic| with_reducible first | decide | (refine mul_left ?_ ?_ <;> omega) | (refine mul_right ?_ ?_ <;> omega) | (refine div_of ?_ ?_ <;> first | omega | assumption | decide +kernel) | omega | assumption)
local macro_rules | `(tactic| walk_at "s") => `(tactic| repeat (first | walk_at "s1" | ((with_reducible apply x_var); (· exact rfl)) | ((with_reducible apply x_ixU); (· exact rfl)) | ((with_reducible apply x_ixTU); (· exact rfl)) | ((with_reducible apply x_setU); (· exact rfl)) | ((with_reducible apply x_all); (· exact SqL.of upd_same))))
/-! ### texts of numbers -/
def heedW : List (List Nat) → Nat
  | [] => 0
  | x :: r => if 4000 < x.length then (if 0 < longRun 0 (x ++ [32]) then longRun 0 (x ++ [32]) else heedW r) else heedW r
def heedR (l : List Nat) : Nat := if l.length ≤ 4000 then 0 else heedW (TL.spl [32] 0 [] (l.map fun c => if c = 10 then 32 else c))
def sgnFig : List Nat → Option Int
  | 45 :: r => if figs r then some (-((digitsVal r : Nat) : Int)) else none
  | l => if figs l then some ((digitsVal l : Nat) : Int) else none
def numT (l : List Nat) : Option (Int × Int) := match TL.par [47] [] l with
  | none => (sgnFig l).map fun v => low v 1
  | some (p, q) => match sgnFig p with
    | none => none
    | some v => if figs q then (if digitsVal q = 0 then none else some (low v ((digitsVal q : Nat) : Int))) else none
theorem sgnFig_eq (l : List Nat) : sgnFig l = if figs (if (l.head? == some 45) = true then l.tail else l) = true then some (if (l.head? == some 45) = true then -((digitsVal l.tail : Nat) : Int) else ((digitsVal l : Nat) : Int)) else none := by
  cases l with
  | nil => rfl
  | cons c r =>
    by_cases h : c = 45
    · subst h
      rfl
    · have h1 : ((c :: r).head? == some 45) = false := by simp [h]
      rw [h1]
      show (match c :: r with | 45 :: r => _ | l => _) = _
      split
      · rename_i e
        cases e
        exact absurd rfl h
      · rfl
theorem figs_all {l : List Nat} (h : figs l = true) : AllDigits l ∧ l ≠ [] := by
  unfold figs at h
  rw [Bool.and_eq_true] at h
  refine ⟨fun c hc => ?_, fun e => by rw [e] at h; exact absurd h.1 (by decide)⟩
  have := List.all_eq_true.mp h.2 c hc
  unfold isFig at this
  rw [Bool.and_eq_true] at this
  exact ⟨of_decide_eq_true this.1, of_decide_eq_true this.2⟩
theorem par_len : ∀ (l acc : List Nat) {p q : List Nat}, TL.par [47] acc l = some (p, q) → p.length ≤ acc.length + l.length ∧ q.length ≤ l.length
  | [], acc, p, q, h => by cases h
  | c :: r, acc, p, q, h => by
    have h2 : (if TL.pre [47] (c :: r) = true then some (acc, (c :: r).drop 1) else TL.par [47] (acc ++ [c]) r) = some (p, q) := h
    by_cases hp : TL.pre [47] (c :: r) = true
    · rw [if_pos hp] at h2
      cases h2
      exact ⟨Nat.le_add_right _ _, by rw [List.length_drop]; omega⟩
    · rw [if_neg hp] at h2
      have := par_len r (acc ++ [c]) h2
      rw [List.length_append, List.length_singleton] at this
      rw [List.length_cons]
      omega
section
variable {P : Program} {w : World} {K : PySem.W.Frag} {mg : Str → Option Value} {base : Heap}
def EMany (K : PySem.W.Frag) (H : Hp) (E : XK) (r : Nat) : Prop := ∀ H' d, Same H H' → H' d = none → E (.ref (He.ga K "TooMany")) (some d) (upd H' d (.xd [("count", .int (r : Nat)), ("what", .str "figures")]))
def sp_heed (K : PySem.W.Frag) : Sp := sp1 fun a H Q E => ∃ l : List Nat, a = .str (S l) ∧ l.length < 1999999 ∧ (heedR l = 0 → ∀ H', Same H H' → Q .non H') ∧ (heedR l ≠ 0 → EMany K H E (heedR l))
abbrev N_heed : List Str := ["text", "word", "run"]
theorem sc_heed : FnScope N_heed ["text"] (defScope st_heed) := ⟨rfl, rfl, rfl, by decide +kernel, rfl, by decide +kernel, by decide +kernel⟩
theorem b_heed (T : Txt P K mg) : Binds K (fdOf K "heed") ["text"] [] := T.F_heed.bindsN fun _ _ _ _ _ _ us hl => match us, hl with | [_], _ => rfl
theorem ok_heed (T : Txt P K mg) : Ok P w K mg base 4 "heed" ["text"] (sp_heed K) := by
  have G_long_run := ok_long_run (P := P) (w := w) (base := base) T
  refine okT T.F_heed sc_heed (by decide +kernel) (by decide) sp1_len (fun cdv A outer s H vs Q E hr h => ?_)
  obtain ⟨a0, rfl, h⟩ := h
  refine ⟨_, (psst_cons (PST.of (ps_if (pt_cmpR op_gt (pe_callB (callK_len (K := K) rfl) rfl T.f_len (by decide +kernel) (pa_cons (pv 0) pa_nil)) (pe_glob (v := .int 2000000) rfl T.c_MOST_TEXT ⟨_, rfl⟩) (nomark _)) (pss_one (L2N.ps_raise rfl (L2N.takes_of rfl rfl rfl rfl) (pmk_TooMany T (hr.mono (by decide)) (pa_cons pe_str (pa_cons (pe_callB (callK_len (K := K) rfl) rfl T.f_len (by decide +kernel) (pa_cons (pv 0) pa_nil)) pa_nil))))) pss_nil))
  (psst_cons (PST.of (ps_if (pt_cmpR op_le (pe_callB (callK_len (K := K) rfl) rfl T.f_len (by decide +kernel) (pa_cons (pv 0) pa_nil)) (pe_glob (v := .int 4000) rfl T.c_MOST_FIGURES ⟨_, rfl⟩) (nomark _)) (pss_one ps_retN) pss_nil))
  (CwR.psst_one (pst_for (passes_of rfl) rfl (pit_list (pet_split (CwR.pet_replC (pv 0)) pe_str)) (pg_name (i := 1) sc_heed.nd rfl (Or.inl rfl))
  (pss_one (ps_if (pt_cmpR op_gt (pe_callB (callK_len (K := K) rfl) rfl T.f_len (by decide +kernel) (pa_cons (pv 1) pa_nil)) (pe_glob (v := .int 4000) rfl T.c_MOST_FIGURES ⟨_, rfl⟩) (nomark _)) (pss_cons (ps_set (i := 2) sc_heed.nd rfl (Or.inl rfl) (pe_callS G_long_run (hr.mono (by decide)) rfl T.g_long_run T.k_long_run (b_long_run T) (fun σ => L2N.passAt (L2N.takes_of rfl rfl rfl rfl) σ) (pa_cons (pv 1) pa_nil)))
  (pss_one (ps_if (pt_cmpR op_gt (pv 2) pe_int (nomark _)) (pss_one (L2N.ps_raise rfl (L2N.takes_of rfl rfl rfl rfl) (pmk_TooMany T (hr.mono (by decide)) (pa_cons pe_str (pa_cons (pv 2) pa_nil))))) pss_nil))) pss_nil)))))), ?_⟩
  try dsimp only [cxOf, List.map]
  obtain ⟨l, rfl, hl, k0, kE⟩ := h
  have hsz : (S l).length ≤ sizeLine := by rw [S_length, sizeLine_eq]; omega
  walk_at "s"
  refine x_lenS ?_ hsz
  walk_at "s"
  rw [S_length]
  refine x_ifF (decide_eq_false (by omega)) ?_
  walk_at "s"
  refine x_lenS ?_ hsz
  walk_at "s"
  rw [S_length]
  refine x_if _ (fun e => ?_) (fun e => ?_)
  · have e := of_decide_eq_true e
    walk_at "s"
    exact k0 (by unfold heedR; rw [if_pos (by omega)]) H (fun _ _ h => h)
  have e := of_decide_eq_false e
  have hR : heedR l = heedW (TL.spl [32] 0 [] (l.map fun c => if c = 10 then 32 else c)) := by unfold heedR; rw [if_neg (by omega)]
  have hln : ∀ p ∈ TL.spl [32] 0 [] (l.map fun c => if c = 10 then 32 else c), p.length < 2000000 := fun p hp => by
    have := spl_len 32 _ _ p hp
    rw [List.length_map, List.length_nil] at this
    omega
  walk_at "s"
  dsimp only
  refine x_forN (fun v H1 => ∃ D, v = .ref D ∧ H D = none ∧ H1 = upd H D (.lst (((TL.spl [32] 0 [] (l.map fun c => if c = 10 then 32 else c)).map S).map V.str))) (fun R r => ?_) ?_
  · refine x_m1 (x_var rfl ⟨S l, rfl, ?_, ?_⟩)
    · rw [S_length]
      show l.length + (l.length + 1) * 1 ≤ _
      omega
    refine ⟨⟨_, rfl⟩, ?_⟩
    refine x_c ⟨_, _, rfl, rfl, by decide, ?_, fun D hD => ?_⟩
    · rw [show Str.ofString "\n" = S [10] from rfl, show Str.ofString " " = S [32] from rfl, replace_sign, S_length, List.length_map, sizeLine_eq]
      omega
    · refine r _ _ ⟨D, rfl, hD, ?_⟩
      rw [show Str.ofString "\n" = S [10] from rfl, show Str.ofString " " = S [32] from rfl, replace_sign, SX.split_S (by decide) (by decide)]
  rintro v H1 ⟨D, rfl, hD, rfl⟩
  generalize TL.spl [32] 0 [] (l.map fun c => if c = 10 then 32 else c) = ws at hR hln ⊢
  refine ⟨D, _, rfl, SqL.of upd_same, fun r σ H' => Same H H' ∧ H' D = some (.lst ((ws.map S).map V.str)) ∧ ∃ (x y : Option V) (us : List (List Nat)), r = (us.map S).map V.str ∧ σ = [some (.str (S l)), x, y] ∧ heedW us = heedR l ∧ ∀ u ∈ us, u.length < 2000000, ?_, ?_, ?_, ?_⟩
  · exact ⟨Same.new hD, upd_same, none, none, ws, rfl, rfl, hR.symm, hln⟩
  · rintro r σ H' ⟨_, h, _⟩
    exact SqL.of h
  · rintro x r σ H' hx ⟨s1, hD1, y, z, us, hr, rfl, hw, hu⟩
    cases us with
    | nil => cases hr
    | cons u us =>
      obtain ⟨rfl, rfl⟩ := List.cons.inj hr
      have hu0 := hu u List.mem_cons_self
      have hsu : (S u).length ≤ sizeLine := by rw [S_length, sizeLine_eq]; omega
      have hu' : ∀ u ∈ us, u.length < 2000000 := fun v hv => hu v (List.mem_cons_of_mem _ hv)
      have hW : heedW (u :: us) = if 4000 < u.length then (if 0 < longRun 0 (u ++ [32]) then longRun 0 (u ++ [32]) else heedW us) else heedW us := rfl
      rw [hW] at hw
      walk_at "s"
      refine x_lenS ?_ hsu
      walk_at "s"
      rw [S_length]
      refine x_if _ (fun e1 => ?_) (fun e1 => ?_)
      · have e1 := of_decide_eq_true e1
        rw [if_pos (by omega)] at hw
        walk_at "s"
        refine sp1_i ⟨S u, rfl, by rw [S_length]; exact hu0, ?_⟩
        rw [S_list]
        walk_at "s"
        refine x_if _ (fun e2 => ?_) (fun e2 => ?_)
        · have e2 := of_decide_eq_true e2
          rw [if_pos (by omega)] at hw
          walk_at "s"
          refine ⟨⟨_, _, rfl, by decide⟩, fun d hd => ?_⟩
          have k := kE (by rw [← hw]; omega) H' d s1 hd
          rw [← hw] at k
          exact k
        · have e2 := of_decide_eq_false e2
          rw [if_neg (by omega)] at hw
          walk_at "s"
          exact ⟨s1, hD1, _, _, us, rfl, rfl, hw, hu'⟩
      · have e1 := of_decide_eq_false e1
        rw [if_neg (by omega)] at hw
        walk_at "s"
        exact ⟨s1, hD1, _, _, us, rfl, rfl, hw, hu'⟩
  · rintro σ H' ⟨s1, _, y, z, us, hr, rfl, hw, _⟩
    cases us with
    | nil =>
      walk_at "s"
      exact k0 hw.symm H' s1
    | cons u us => cases hr
def sp_read_text (K : PySem.W.Frag) : Sp := sp1 fun a H Q E => ∃ l : List Nat, a = .str (S l) ∧ l.length < 1999999 ∧ (heedR l ≠ 0 → EMany K H E (heedR l)) ∧
  (heedR l = 0 → l.length ≤ 4300 ∧ (∀ p q, TL.par [47] [] l = some (p, q) → digitsVal q < 2 ^ 8000) ∧ (numT l = none → ∀ H', Same H H' → Q .non H') ∧ ∀ r, numT l = some r → ∀ H' p, Same H H' → H' p = some (.tup [.int r.1, .int r.2]) → Q (.ref p) H')
abbrev N_read_text : List Str := ["word", "top", "stroke", "bottom", "figures", "under"]
theorem sc_read_text : FnScope N_read_text ["word"] (defScope st_read_text) := ⟨rfl, rfl, rfl, by decide +kernel, rfl, by decide +kernel, by decide +kernel⟩
theorem b_read_text (T : Txt P K mg) : Binds K (fdOf K "read_text") ["word"] [] := T.F_read_text.bindsN fun _ _ _ _ _ _ us hl => match us, hl with | [_], _ => rfl
theorem ok_read_text (T : Txt P K mg) : Ok P w K mg base 5 "read_text" ["word"] (sp_read_text K) := by
  have G_lowest := ok_lowest (P := P) (w := w) (base := base) T
  have G_is_figures := ok_is_figures (P := P) (w := w) (base := base) T
  have G_heed := ok_heed (P := P) (w := w) (base := base) T
  refine T.F_read_text.ok sc_read_text sp1_len (fun cdv A outer s H vs Q E hr h => ?_)
  obtain ⟨a0, rfl, h⟩ := h
  refine ⟨_, (pss_cons (ps_expr (pe_callS G_heed (hr.mono (by decide)) rfl T.g_heed T.k_heed (b_heed T) (fun σ => L2N.passAt (L2N.takes_of rfl rfl rfl rfl) σ) (pa_cons (pv 0) pa_nil)))
  (pss_cons (ps_asg (pe_partition (pv 0) pe_str) (pg_tup (n := 3) rfl (pgs_cons (pg_name (i := 1) sc_read_text.nd rfl (Or.inl rfl)) (pgs_cons (pg_name (i := 2) sc_read_text.nd rfl (Or.inl rfl)) (pgs_cons (pg_name (i := 3) sc_read_text.nd rfl (Or.inl rfl)) pgs_nil)))))
  (C8.pss_cut (ps_set (i := 4) sc_read_text.nd rfl (Or.inl rfl) (pe_ifExp (pt_cmpR (opK_eq (K := K) rfl hr.units) (pe_slice (slK (K := K) rfl) (pv 1) po_none (po_some pe_int)) pe_str (nomark _)) (pe_slice (slK (K := K) rfl) (pv 1) (po_some pe_int) po_none) (pv 1)))
  (C8.pss_cut (ps_if (PW.pt (pw_or (pt_not (pt_val (pe_callS G_is_figures (hr.mono (by decide)) rfl T.g_is_figures T.k_is_figures (b_is_figures T) (fun σ => L2N.passAt (L2N.takes_of rfl rfl rfl rfl) σ) (pa_cons (pv 4) pa_nil)))) (pw_or1 (PW.pt (pw_and (pt_cmpR (opK_ne (K := K) rfl hr.units) (pv 2) pe_str (nomark _)) (pw_and1 (pt_not (pt_val (pe_callS G_is_figures (hr.mono (by decide)) rfl T.g_is_figures T.k_is_figures (b_is_figures T) (fun σ => L2N.passAt (L2N.takes_of rfl rfl rfl rfl) σ) (pa_cons (pv 3) pa_nil)))))))))) (pss_one (ps_ret pe_non)) pss_nil)
  (C8.pss_cut (ps_set (i := 5) sc_read_text.nd rfl (Or.inl rfl) (pe_ifExp (pt_cmpR (opK_ne (K := K) rfl hr.units) (pv 2) pe_str (nomark _)) (pe_callTy (callL_int T.dig) rfl T.f_int (by decide +kernel) (pa_cons (pv 3) pa_nil)) pe_int))
  (pss_cons (ps_if (pt_cmpR (opK_eq (K := K) rfl hr.units) (pv 5) pe_int (nomark _)) (pss_one (ps_ret pe_non)) pss_nil)
  (pss_one (ps_ret (pe_callS G_lowest (hr.mono (by decide)) rfl T.g_lowest T.k_lowest (b_lowest T) (fun σ => L2N.passAt (L2N.takes_of rfl rfl rfl rfl) σ) (pa_cons (pe_ifExp (pt_cmpR (opK_eq (K := K) rfl hr.units) (pe_slice (slK (K := K) rfl) (pv 1) po_none (po_some pe_int)) pe_str (nomark _)) (pe_un un_neg (pe_callTy (callL_int T.dig) rfl T.f_int (by decide +kernel) (pa_cons (pv 4) pa_nil))) (pe_callTy (callL_int T.dig) rfl T.f_int (by decide +kernel) (pa_cons (pv 4) pa_nil))) (pa_cons (pv 5) pa_nil))))))))))), ?_⟩
  try dsimp only [cxOf, List.map]
  obtain ⟨l, rfl, hl, kE, kQ⟩ := h
  walk_at "s"
  refine sp1_i ⟨l, rfl, hl, fun h0 H1 s1 => ?_, kE⟩
  obtain ⟨h43, hb, kN, kS⟩ := kQ h0
  walk_at "s"
  have hsz : (S l).length ≤ sizeLine := by rw [S_length, sizeLine_eq]; omega
  refine ⟨S l, Str.ofString "/", rfl, rfl, by decide, hsz, fun p hp => ?_⟩
  obtain ⟨top, bot, st, hpt, hlt, hlb, hbot, hN⟩ : ∃ (top bot : List Nat) (st : Bool), Txt.partition (S l) (Str.ofString "/") = (S top, S (if st = true then [47] else []), S bot) ∧ top.length ≤ l.length ∧ bot.length ≤ l.length ∧ (st = true → digitsVal bot < 2 ^ 8000) ∧
      numT l = (match sgnFig top with
        | none => none
        | some v => if st = true then (if figs bot then (if digitsVal bot = 0 then none else some (low v ((digitsVal bot : Nat) : Int))) else none) else some (low v 1)) := by
    have e0 : Str.ofString "/" = S [47] := rfl
    cases hp : TL.par [47] [] l with
    | none =>
      refine ⟨l, [], false, by rw [e0, SX.partition_none (by decide) hp]; rfl, Nat.le_refl _, Nat.zero_le _, (fun z => by cases z), ?_⟩
      unfold numT
      rw [hp]
      dsimp only
      cases sgnFig l <;> rfl
    | some pq =>
      obtain ⟨p, q⟩ := pq
      have hlen := par_len l [] hp
      rw [List.length_nil, Nat.zero_add] at hlen
      refine ⟨p, q, true, by rw [e0, SX.partition_some (by decide) hp]; rfl, hlen.1, hlen.2, fun _ => hb p q hp, ?_⟩
      unfold numT
      rw [hp]
      dsimp only
      cases sgnFig p <;> rfl
  rw [hpt]
  dsimp only
  have hl2 : ∀ {m : List Nat}, m.length ≤ l.length → (S m).length ≤ sizeLine := fun {m} h => by rw [S_length, sizeLine_eq]; omega
  have em : Str.ofString "-" = S [45] := rfl
  have es : decide (S (if st = true then [47] else []) = Str.ofString "") = !st := by cases st <;> decide +kernel
  obtain ⟨fg, hfg, hfl⟩ : ∃ fg, fg = (if (top.head? == some 45) = true then top.tail else top) ∧ fg.length ≤ l.length := ⟨_, rfl, by
    split
    · rw [List.length_tail]; omega
    · exact hlt⟩
  have hsg := sgnFig_eq top
  rw [← hfg] at hsg
  walk_at "s"
  refine ⟨fun σ' H' => Same H H' ∧ σ' = [some (.str (S l)), some (.str (S top)), some (.str (S (if st = true then [47] else []))), some (.str (S bot)), some (.str (S fg)), none], ?_, ?_⟩
  · have s2 := Same.tr s1 (Same.new (o := .tup [V.str (S top), V.str (S (if st = true then [47] else [])), V.str (S bot)]) hp)
    walk_at "s"
    rotate_left
    · exact hl2 hlt
    rw [cut_head, em, head_is]
    refine x_if _ (fun e => ?_) (fun e => ?_)
    · walk_at "s"
      rotate_left
      · exact hl2 hlt
      rw [cut_tail]
      refine ⟨s2, ?_⟩
      have hfg' : fg = top.tail := by rw [hfg, if_pos e]
      rw [hfg']
      rfl
    · walk_at "s"
      refine ⟨s2, ?_⟩
      have hfg' : fg = top := by rw [hfg, if_neg (by rw [e]; exact Bool.false_ne_true)]
      rw [hfg']
      rfl
  rintro σ' H' ⟨s2, rfl⟩
  refine ⟨fun σ' H' => Same H H' ∧ figs fg = true ∧ (st = true → figs bot = true) ∧ σ' = [some (.str (S l)), some (.str (S top)), some (.str (S (if st = true then [47] else []))), some (.str (S bot)), some (.str (S fg)), none], ?_, ?_⟩
  · walk_at "s"
    refine sp1_i ⟨S fg, rfl, by rw [S_length]; omega, fun H2 s3 => ?_⟩
    have s4 := Same.tr s2 s3
    walk_at "s"
    rw [S_list]
    refine x_if _ (fun e => ?_) (fun e => ?_)
    · refine x_ifT rfl ?_
      walk_at "s"
      refine kN ?_ _ s4
      have e : figs fg = false := by simpa using e
      rw [hN, hsg, e]
      rfl
    · have e : figs fg = true := by simpa using e
      walk_at "s"
      rw [es]
      cases st with
      | false =>
        refine x_ifF rfl (x_ifF rfl ?_)
        walk_at "s"
        exact ⟨s4, e, (fun z => by cases z), rfl⟩
      | true =>
        refine x_ifT rfl ?_
        walk_at "s"
        refine sp1_i ⟨S bot, rfl, by rw [S_length]; omega, fun H3 s5 => ?_⟩
        walk_at "s"
        rw [S_list]
        refine x_if _ (fun e2 => ?_) (fun e2 => ?_)
        · walk_at "s"
          refine kN ?_ _ (Same.tr s4 s5)
          have e2 : figs bot = false := by simpa using e2
          rw [hN, hsg, e, e2]
          rfl
        · walk_at "s"
          exact ⟨Same.tr s4 s5, e, fun _ => by simpa using e2, rfl⟩
  rintro σ' H' ⟨s3, ef, eb, rfl⟩
  refine ⟨fun σ' H' => Same H H' ∧ σ' = [some (.str (S l)), some (.str (S top)), some (.str (S (if st = true then [47] else []))), some (.str (S bot)), some (.str (S fg)), some (.int (if st = true then ((digitsVal bot : Nat) : Int) else 1))], ?_, ?_⟩
  · walk_at "s"
    rw [es]
    cases st with
    | false =>
      refine x_ifF rfl ?_
      walk_at "s"
      exact ⟨s3, rfl⟩
    | true =>
      refine x_ifT rfl ?_
      walk_at "s"
      have h := figs_all (eb rfl)
      refine x_intL (x := S bot) h.1 h.2 (by rw [S_length]; omega) ?_
      walk_at "s"
      exact ⟨s3, rfl⟩
  rintro σ' H' ⟨s4, rfl⟩
  walk_at "s"
  refine x_if _ (fun e => ?_) (fun e => ?_)
  · have e := of_decide_eq_true e
    walk_at "s"
    refine kN ?_ _ s4
    cases st with
    | false => exact absurd (show (1 : Int) = 0 from e) (by decide)
    | true =>
      have e : ((digitsVal bot : Nat) : Int) = 0 := e
      rw [hN, hsg, ef, eb rfl]
      show (if digitsVal bot = 0 then _ else _) = _
      rw [if_pos (by omega)]
  · have e := of_decide_eq_false e
    have h := figs_all ef
    have hv : numT l = some (low (if (top.head? == some 45) = true then -((digitsVal fg : Nat) : Int) else ((digitsVal fg : Nat) : Int)) (if st = true then ((digitsVal bot : Nat) : Int) else 1)) := by
      have hval : (if (top.head? == some 45) = true then -((digitsVal top.tail : Nat) : Int) else ((digitsVal top : Nat) : Int)) = (if (top.head? == some 45) = true then -((digitsVal fg : Nat) : Int) else ((digitsVal fg : Nat) : Int)) := by
        rw [hfg]
        cases (top.head? == some 45) <;> rfl
      rw [hN, hsg, ef, if_pos rfl, hval]
      cases st with
      | false => rfl
      | true =>
        show (if figs bot = true then _ else _) = _
        rw [if_pos (eb rfl), if_neg (fun z => e (by show ((digitsVal bot : Nat) : Int) = 0; rw [z]; rfl))]
        rfl
    have hd : (if st = true then ((digitsVal bot : Nat) : Int) else 1).natAbs < 2 ^ 8000 := by
      cases st with
      | false => exact (by decide : (1 : Int).natAbs < 2 ^ 8000)
      | true => exact hbot rfl
    walk_at "s"
    rotate_left
    · exact hl2 hlt
    rw [cut_head, em, head_is]
    refine x_if _ (fun e2 => ?_) (fun e2 => ?_)
    · rw [if_pos e2] at hv
      walk_at "s"
      refine x_intL (x := S fg) h.1 h.2 (by rw [S_length]; omega) ?_
      walk_at "s"
      exact sp2_i ⟨_, _, rfl, rfl, e, hd, fun p hp => kS _ hv _ p (Same.tr s4 (Same.new hp)) upd_same⟩
    · rw [if_neg (by rw [e2]; exact Bool.false_ne_true)] at hv
      walk_at "s"
      refine x_intL (x := S fg) h.1 h.2 (by rw [S_length]; omega) ?_
      walk_at "s"
      exact sp2_i ⟨_, _, rfl, rfl, e, hd, fun p hp => kS _ hv _ p (Same.tr s4 (Same.new hp)) upd_same⟩
end
end K00

set_option maxHeartbeats 4000000
namespace K00
open PySem PySem.Spec PyProof.Rows L2 EL
open SX (S)
open PySem.NumText (digitsVal AllDigits)
local macro_rules | `(tactic| walk_at "s1") => `(tactic| with_reducible first
  | refine x_seq ?_ | refine x_asg ?_ | refine x_op ?_ | refine x_c ?_ | refine x_gName ?_ | refine x_ifS ?_ | refine x_ret ?_ | refine x_test ?_ | refine x_bl ?_
  | refine x_I0 ?_ | refine x_addI ?_ | refine x_mulI ?_ ?_ | refine x_fdiv ?_ ?_ | refine x_mod ?_ ?_ | refine x_un ?_ | refine x_rU ?_ | refine x_pow ?_ ?_
  | refine x_eqI' ?_ | refine x_neI' ?_ | refine x_eqS' ?_ | refine x_neS' ?_
  | refine x_cons ?_ | refine x_nil ?_ | refine x_tup ?_ | refine x_lst ?_ | refine x_callS ?_ | refine x_CB ?_ | refine x_par ?_ | refine x_two ?_
  | refine x_next ?_ | refine x_and ?_ | refine x_or ?_ | refine x_not ?_ | refine x_andV ?_ | refine x_orV ?_ | refine x_notV ?_ | refine x_ex ?_ | refine x_ifE ?_ | refine x_tB ?_ | refine x_retN ?_ | refine x_drop ?_ | refine x_brk ?_ | refine x_cont ?_
  | refine x_intI ?_ | refine x_abs ?_ | refine x_gcd ?_ | refine x_str ?_ ?_ | refine x_sz ?_ | refine x_isN ?_ | refine x_notN ?_ | refine x_sl ?_ | refine x_noPart ?_ | refine x_part ?_ | refine x_exI ?_ | refine x_slS ?_ ?_ | refine x_gSub ?_ | refine x_inS ?_ | refine x_notinS ?_ | refine x_yes ?_ | refine x_m1 ?_ | refine x_m1' ?_ | refine x_ms ?_ | refine x_chain ?_ | refine x_callK ?_ | refine x_callSD ?_ | refine x_ifT' ?_ | refine x_newE ?_ | refine x_gCons ?_ | refine x_gNil ?_ | refine x_gTupU rfl ?_ | refine x_ifX ?_)
local macro_rules | `(tactic| walk_at "side") => `(tactic| with_reducible first | decide | (refine mul_left ?_ ?_ <;> omega) | (refine mul_right ?_ ?_ <;> omega) | (refine div_of ?_ ?_ <;> first | omega | assumption | decide +kernel) | omega | assumption)
local macro_rules | `(tactic| walk_at "s") => `(tactic| repeat (first | walk_at "s1" | ((with_reducible apply x_var); (· exact rfl)) | ((with_reducible apply x_ixU); (· exact rfl)) | ((with_reducible apply x_ixTU); (· exact rfl)) | ((with_reducible apply x_setU); (· exact rfl)) | ((with_reducible apply x_all); (· exact SqL.of upd_same))))
section
variable {P : Program} {w : World} {K : PySem.W.Frag} {mg : Str → Option Value} {base : Heap}
/-- a value that is no number -/
def BadN (K : PySem.W.Frag) (H : Hp) (a : V) : Prop := (∃ t, TyP K H a t ∧ (t == "int") = false ∧ (t == "str") = false ∧ (t == "tuple") = false) ∨
  ∃ q xs, a = .ref q ∧ H q = some (.tup xs) ∧ xs.length ≤ 100 ∧ (xs.length ≠ 2 ∨ ∃ x y t t', xs = [x, y] ∧ TyP K H x t ∧ TyP K H y t' ∧ ((t == "int") = false ∨ (t' == "int") = false ∨ (y = .int 0)))
/-- a value that is passed for a number: what it is worth -/
def Num (K : PySem.W.Frag) (H : Hp) (a : V) : Option (Int × Int) → Prop
  | some r => (∃ i : Int, a = .int i ∧ r = (i, 1)) ∨ (∃ l, a = .str (S l) ∧ heedR l = 0 ∧ l.length ≤ 4300 ∧ (∀ p q, TL.par [47] [] l = some (p, q) → digitsVal q < 2 ^ 8000) ∧ numT l = some r) ∨
    (∃ (x y : Int) (q : Addr), a = .ref q ∧ H q = some (.tup [.int x, .int y]) ∧ y ≠ 0 ∧ y.natAbs < 2 ^ 8000 ∧ r = low x y)
  | none => (∃ l, a = .str (S l) ∧ heedR l = 0 ∧ l.length ≤ 4300 ∧ (∀ p q, TL.par [47] [] l = some (p, q) → digitsVal q < 2 ^ 8000) ∧ numT l = none) ∨ BadN K H a
def RNum (H : Hp) (Q : VK) (r : Int × Int) : Prop := ∀ H' p, Same H H' → H' p = some (.tup [.int r.1, .int r.2]) → Q (.ref p) H'
def Long (K : PySem.W.Frag) (a : V) (H : Hp) (E : XK) : Prop := ∃ l, a = .str (S l) ∧ l.length < 1999999 ∧ heedR l ≠ 0 ∧ EMany K H E (heedR l)
def sp_read_number (K : PySem.W.Frag) : Sp := sp1 fun a H Q E => (∃ r, Num K H a (some r) ∧ RNum H Q r) ∨ (Num K H a none ∧ ∀ H', Same H H' → Q .non H') ∨ Long K a H E
abbrev N_read_number : List Str := ["thing", "top", "bottom"]
theorem sc_read_number : FnScope N_read_number ["thing"] (defScope st_read_number) := ⟨rfl, rfl, rfl, by decide +kernel, rfl, by decide +kernel, by decide +kernel⟩
theorem b_read_number (T : Txt P K mg) : Binds K (fdOf K "read_number") ["thing"] [] := T.F_read_number.bindsN fun _ _ _ _ _ _ us hl => match us, hl with | [_], _ => rfl
theorem ok_read_number (T : Txt P K mg) : Ok P w K mg base 6 "read_number" ["thing"] (sp_read_number K) := by
  have G_lowest := ok_lowest (P := P) (w := w) (base := base) T
  have G_is_whole := ok_is_whole (P := P) (w := w) (base := base) T
  have G_read_text := ok_read_text (P := P) (w := w) (base := base) T
  refine T.F_read_number.ok sc_read_number sp1_len (fun cdv A outer s H vs Q E hr h => ?_)
  obtain ⟨a0, rfl, h⟩ := h
  refine ⟨_, (pss_cons (ps_if (pt_val (pe_callS G_is_whole (hr.mono (by decide)) rfl T.g_is_whole T.k_is_whole (b_is_whole T) (fun σ => L2N.passAt (L2N.takes_of rfl rfl rfl rfl) σ) (pa_cons (pv 0) pa_nil))) (pss_one (ps_ret (pe_tup (pa_cons (pv 0) (pa_cons pe_int pa_nil))))) pss_nil)
  (pss_cons (ps_if (pt_val (pe_callB (callK_isi (K := K) rfl) rfl T.f_isinstance (by decide +kernel) (pa_cons (pv 0) (pa_cons (pe_bltn (v := .ty "str") (u := .type "str") rfl T.f_str (by decide +kernel) rfl) pa_nil)))) (pss_one (ps_ret (pe_callS G_read_text (hr.mono (by decide)) rfl T.g_read_text T.k_read_text (b_read_text T) (fun σ => L2N.passAt (L2N.takes_of rfl rfl rfl rfl) σ) (pa_cons (pv 0) pa_nil)))) pss_nil)
  (pss_cons (ps_if (PW.pt (pw_or (pt_not (pt_val (pe_callB (callK_isi (K := K) rfl) rfl T.f_isinstance (by decide +kernel) (pa_cons (pv 0) (pa_cons (pe_bltn (v := .ty "tuple") (u := .type "tuple") rfl T.f_tuple (by decide +kernel) rfl) pa_nil))))) (pw_or1 (pt_cmpR (opK_ne (K := K) rfl hr.units) (pe_callB (callK_len (K := K) rfl) rfl T.f_len (by decide +kernel) (pa_cons (pv 0) pa_nil)) pe_int (nomark _))))) (pss_one (ps_ret pe_non)) pss_nil)
  (pss_cons (ps_asg (pv 0) (pg_tup (n := 2) rfl (pgs_cons (pg_name (i := 1) sc_read_number.nd rfl (Or.inl rfl)) (pgs_cons (pg_name (i := 2) sc_read_number.nd rfl (Or.inl rfl)) pgs_nil))))
  (pss_cons (ps_if (PW.pt (pw_or (pt_not (pt_val (pe_callS G_is_whole (hr.mono (by decide)) rfl T.g_is_whole T.k_is_whole (b_is_whole T) (fun σ => L2N.passAt (L2N.takes_of rfl rfl rfl rfl) σ) (pa_cons (pv 1) pa_nil)))) (pw_or (pt_not (pt_val (pe_callS G_is_whole (hr.mono (by decide)) rfl T.g_is_whole T.k_is_whole (b_is_whole T) (fun σ => L2N.passAt (L2N.takes_of rfl rfl rfl rfl) σ) (pa_cons (pv 2) pa_nil)))) (pw_or1 (pt_cmpR (opK_eq (K := K) rfl hr.units) (pv 2) pe_int (nomark _)))))) (pss_one (ps_ret pe_non)) pss_nil)
  (pss_one (ps_ret (pe_callS G_lowest (hr.mono (by decide)) rfl T.g_lowest T.k_lowest (b_lowest T) (fun σ => L2N.passAt (L2N.takes_of rfl rfl rfl rfl) σ) (pa_cons (pv 1) (pa_cons (pv 2) pa_nil)))))))))), ?_⟩
  try dsimp only [cxOf, List.map]
  walk_at "s"
  have whole : ∀ {v : V} {t : String}, TyP K H v t → ∀ {Q' : VK} {E' : XK}, Q' (.bl (t == "int")) H → sp_is_whole K [v] H Q' E' := fun {v t} ht {Q' E'} q => sp1_i ⟨t, ht, q⟩
  have cs : (∃ l, a0 = .str (S l) ∧ l.length < 1999999 ∧ (heedR l ≠ 0 → EMany K H E (heedR l)) ∧ (heedR l = 0 → l.length ≤ 4300 ∧ (∀ p q, TL.par [47] [] l = some (p, q) → digitsVal q < 2 ^ 8000) ∧ (numT l = none → ∀ H', Same H H' → Q .non H') ∧ ∀ r, numT l = some r → RNum H Q r)) ∨
      (∃ i : Int, a0 = .int i ∧ RNum H Q (i, 1)) ∨ (∃ (x y : Int) (q : Addr), a0 = .ref q ∧ H q = some (.tup [.int x, .int y]) ∧ y ≠ 0 ∧ y.natAbs < 2 ^ 8000 ∧ RNum H Q (low x y)) ∨ (BadN K H a0 ∧ ∀ H', Same H H' → Q .non H') := by
    rcases h with ⟨r, hN, k⟩ | ⟨hN, k⟩ | ⟨l, rfl, hl, h0, kE⟩
    · rcases hN with ⟨i, rfl, rfl⟩ | ⟨l, rfl, h0, hl, hb, hn⟩ | ⟨x, y, q, rfl, hq, hy, hyb, rfl⟩
      · exact .inr (.inl ⟨i, rfl, k⟩)
      · exact .inl ⟨l, rfl, by omega, fun z => absurd h0 z, fun _ => ⟨hl, hb, (fun z => by rw [hn] at z; cases z), (fun r' hr => by rw [hn] at hr; cases hr; exact k)⟩⟩
      · exact .inr (.inr (.inl ⟨x, y, q, rfl, hq, hy, hyb, k⟩))
    · rcases hN with ⟨l, rfl, h0, hl, hb, hn⟩ | hB
      · exact .inl ⟨l, rfl, by omega, fun z => absurd h0 z, fun _ => ⟨hl, hb, fun _ => k, (fun r' hr => by rw [hn] at hr; cases hr)⟩⟩
      · exact .inr (.inr (.inr ⟨hB, k⟩))
    · exact .inl ⟨l, rfl, hl, fun _ => kE, fun z => absurd z h0⟩
  rcases cs with ⟨l, rfl, hl, kE, kQ⟩ | ⟨i, rfl, k⟩ | ⟨x, y, q, rfl, hq, hy, hyb, k⟩ | ⟨hB, k⟩
  · refine whole (t := "str") ⟨.base (.str _), by decide⟩ ?_
    walk_at "s"
    refine x_ifF rfl ?_
    walk_at "s"
    refine x_isi ?_ (.base (.str _)) (ty_str "str" (by decide))
    walk_at "s"
    refine x_ifT rfl ?_
    walk_at "s"
    exact sp1_i ⟨l, rfl, hl, kE, fun z => by
      obtain ⟨h1, h2, h3, h4⟩ := kQ z
      exact ⟨h1, h2, h3, fun r hr H' p s1 e => h4 r hr H' p s1 e⟩⟩
  · refine whole (t := "int") ⟨.base (.int _), by decide⟩ ?_
    walk_at "s"
    refine x_ifT rfl ?_
    walk_at "s"
    exact fun p hp => k _ p (Same.new hp) upd_same
  · refine whole (t := "tuple") ⟨.base (.tup hq), by decide⟩ ?_
    walk_at "s"
    refine x_ifF rfl ?_
    walk_at "s"
    refine x_isi ?_ (.base (.tup hq)) (ty_str "tuple" (by decide))
    walk_at "s"
    refine x_ifF rfl ?_
    walk_at "s"
    refine x_isi ?_ (.base (.tup hq)) (ty_tuple "tuple" (by decide))
    walk_at "s"
    refine x_ifF rfl ?_
    walk_at "s"
    refine x_lenT ?_ (SqT.of hq)
    walk_at "s"
    refine x_ifF rfl ?_
    walk_at "s"
    refine x_gTup (SqT.of hq) rfl ?_
    walk_at "s"
    refine sp1_i ⟨"int", ⟨.base (.int _), by decide⟩, ?_⟩
    walk_at "s"
    refine x_ifF rfl ?_
    walk_at "s"
    refine sp1_i ⟨"int", ⟨.base (.int _), by decide⟩, ?_⟩
    walk_at "s"
    refine x_ifF rfl ?_
    walk_at "s"
    refine x_ifF (decide_eq_false hy) ?_
    walk_at "s"
    exact sp2_i ⟨x, y, rfl, rfl, hy, hyb, fun p hp => k _ p (Same.new hp) upd_same⟩
  · rcases hB with ⟨t, ht, h1, h2, h3⟩ | ⟨q, xs, rfl, hq, hl, hx⟩
    · refine whole ht ?_
      walk_at "s"
      refine x_ifF h1 ?_
      walk_at "s"
      refine x_isi ?_ ht.1 (ty_str t ht.2)
      walk_at "s"
      refine x_ifF h2 ?_
      walk_at "s"
      refine x_isi ?_ ht.1 (ty_tuple t ht.2)
      walk_at "s"
      rw [h3]
      refine x_ifT rfl ?_
      walk_at "s"
      exact k H (fun _ _ h => h)
    · refine whole (t := "tuple") ⟨.base (.tup hq), by decide⟩ ?_
      walk_at "s"
      refine x_ifF rfl ?_
      walk_at "s"
      refine x_isi ?_ (.base (.tup hq)) (ty_str "tuple" (by decide))
      walk_at "s"
      refine x_ifF rfl ?_
      walk_at "s"
      refine x_isi ?_ (.base (.tup hq)) (ty_tuple "tuple" (by decide))
      walk_at "s"
      refine x_ifF rfl ?_
      walk_at "s"
      refine x_lenT ?_ (SqT.of hq)
      walk_at "s"
      rcases hx with hx | ⟨x, y, t, t', rfl, ht, ht', hb⟩
      · refine x_ifT (by simp; omega) ?_
        walk_at "s"
        exact k H (fun _ _ h => h)
      · refine x_ifF rfl ?_
        walk_at "s"
        refine x_gTup (SqT.of hq) rfl ?_
        walk_at "s"
        refine sp1_i ⟨t, ht, ?_⟩
        walk_at "s"
        refine x_if _ (fun e1 => ?_) (fun e1 => ?_)
        · walk_at "s"
          refine x_ifT rfl ?_
          walk_at "s"
          exact k H (fun _ _ h => h)
        · have e1 : (t == "int") = true := by simpa using e1
          walk_at "s"
          refine sp1_i ⟨t', ht', ?_⟩
          walk_at "s"
          refine x_if _ (fun e2 => ?_) (fun e2 => ?_)
          · walk_at "s"
            refine x_ifT rfl ?_
            walk_at "s"
            exact k H (fun _ _ h => h)
          · have e2 : (t' == "int") = true := by simpa using e2
            have hy : y = .int 0 := by
              rcases hb with z | z | z
              · rw [e1] at z; cases z
              · rw [e2] at z; cases z
              · exact z
            subst hy
            walk_at "s"
            refine x_ifT (by decide) ?_
            walk_at "s"
            exact k H (fun _ _ h => h)
end
end K00

set_option maxHeartbeats 4000000
namespace K00
open PySem PySem.Spec PyProof.Rows L2 EL
open SX (S)
local macro_rules | `(tactic| walk_at "s1") => `(tactic| with_reducible first
  | refine x_seq ?_ | refine x_asg ?_ | refine x_op ?_ | refine x_c ?_ | refine x_gName ?_ | refine x_ifS ?_ | refine x_ret ?_ | refine x_test ?_ | refine x_bl ?_
  | refine x_I0 ?_ | refine x_addI ?_ | refine x_mulI ?_ ?_ | refine x_fdiv ?_ ?_ | refine x_mod ?_ ?_ | refine x_un ?_ | refine x_rU ?_ | refine x_pow ?_ ?_
  | refine x_eqI' ?_ | refine x_neI' ?_ | refine x_eqS' ?_ | refine x_neS' ?_
  | refine x_cons ?_ | refine x_nil ?_ | refine x_tup ?_ | refine x_lst ?_ | refine x_callS ?_ | refine x_CB ?_ | refine x_par ?_ | refine x_two ?_
  | refine x_next ?_ | refine x_and ?_ | refine x_or ?_ | refine x_not ?_ | refine x_andV ?_ | refine x_orV ?_ | refine x_notV ?_ | refine x_ex ?_ | refine x_ifE ?_ | refine x_tB ?_ | refine x_retN ?_ | refine x_drop ?_ | refine x_brk ?_ | refine x_cont ?_
  | refine x_intI ?_ | refine x_abs ?_ | refine x_gcd ?_ | refine x_str ?_ ?_ | refine x_sz ?_ | refine x_isN ?_ | refine x_notN ?_ | refine x_sl ?_ | refine x_noPart ?_ | refine x_part ?_ | refine x_exI ?_ | refine x_slS ?_ ?_ | refine x_gSub ?_ | refine x_inS ?_ | refine x_notinS ?_ | refine x_yes ?_ | refine x_m1 ?_ | refine x_m1' ?_ | refine x_ms ?_ | refine x_chain ?_ | refine x_callK ?_ | refine x_callSD ?_ | refine x_ifT' ?_ | refine x_newE ?_ | refine x_gCons ?_ | refine x_gNil ?_ | refine x_gTupU rfl ?_ | refine x_ifX ?_)
local macro_rules | `(tactic| walk_at "side") => `(tactic| with_reducible first | decide | (refine mul_left ?_ ?_ <;> omega) | (refine mul_right ?_ ?_ <;> omega) | (refine div_of ?_ ?_ <;> first | omega | assumption | decide +kernel) | omega | assumption)
local macro_rules | `(tactic| walk_at "s") => `(tactic| repeat (first | walk_at "s1" | ((with_reducible apply x_var); (· exact rfl)) | ((with_reducible apply x_ixU); (· exact rfl)) | ((with_reducible apply x_ixTU); (· exact rfl)) | ((with_reducible apply x_setU); (· exact rfl)) | ((with_reducible apply x_all); (· exact SqL.of upd_same))))
section
variable {P : Program} {w : World} {K : PySem.W.Frag} {mg : Str → Option Value} {base : Heap}
/-- the text of an int -/
def txI (i : Int) : Str := Str.ofString (toString i)
def wordT (r : Int × Int) : Str := if r.2 = 1 then txI r.1 else txI r.1 ++ Str.ofString "/" ++ txI r.2
def sp_figures_of : Sp := sp1 fun a H Q _ => ∃ i : Int, a = .int i ∧ 0 ≤ i ∧ i.natAbs.log2 < 1900 ∧ Q (.str (txI i)) H
abbrev N_figures_of : List Str := ["number", "pieces", "piece"]
theorem sc_figures_of : FnScope N_figures_of ["number"] (defScope st_figures_of) := ⟨rfl, rfl, rfl, by decide +kernel, rfl, by decide +kernel, by decide +kernel⟩
theorem b_figures_of (T : Txt P K mg) : Binds K (fdOf K "figures_of") ["number"] [] := T.F_figures_of.bindsN fun _ _ _ _ _ _ us hl => match us, hl with | [_], _ => rfl
theorem ok_figures_of (T : Txt P K mg) : Ok P w K mg base 2 "figures_of" ["number"] sp_figures_of := by
  refine T.F_figures_of.ok sc_figures_of sp1_len (fun cdv A outer s H vs Q E hr h => ?_)
  obtain ⟨a0, rfl, h⟩ := h
  refine ⟨_, (pss_cons (ps_if (pt_cmpR op_le (pe_bits (pv 0)) (pe_glob (v := .int 12000) rfl T.c_SHORT_BITS ⟨_, rfl⟩) (nomark _)) (pss_one (ps_ret (pe_callTy callA_str rfl T.f_str (by decide +kernel) (pa_cons (pv 0) pa_nil)))) pss_nil)
  pss_never), ?_⟩
  try dsimp only [cxOf, List.map]
  obtain ⟨i, rfl, h0, hb, k⟩ := h
  walk_at "s"
  refine x_bits (x_var rfl ⟨i, rfl, ?_⟩)
  walk_at "s"
  have hbits : (Builtin.Int.intBits i : Nat) ≤ 12000 := by
    unfold Builtin.Int.intBits
    split
    · exact Nat.zero_le _
    · omega
  refine x_ifT (decide_eq_true (by omega)) ?_
  walk_at "s"
  · exact k
  · omega
theorem ofS_app (a b : String) : Str.ofString (a ++ b) = Str.ofString a ++ Str.ofString b := by
  rw [Str.ofString_eq_toList, Str.ofString_eq_toList, Str.ofString_eq_toList, String.toList_append, List.map_append]
  exact (SX.S_cat _ _).symm
theorem txI_neg {i : Int} (h : i < 0) : txI i = Str.ofString "-" ++ txI (-i) := by
  unfold txI
  rw [toString_neg h, ofS_app, show (0 : Int) - i = -i by omega]
theorem txI_len {i : Int} (h : i.natAbs.log2 < 1900) : (txI i).length ≤ 1921 := int_text_len_1921 (by omega)
def sp_number_text (K : PySem.W.Frag) : Sp := sp1 fun a H Q _ => ∃ (p : Addr) (t d : Int), a = .ref p ∧ SqT K H p [.int t, .int d] ∧ 0 < d ∧ t.natAbs.log2 < 1900 ∧ d.natAbs.log2 < 1900 ∧ Q (.str (wordT (t, d))) H
abbrev N_number_text : List Str := ["pair", "top", "bottom", "sign", "tail"]
theorem sc_number_text : FnScope N_number_text ["pair"] (defScope st_number_text) := ⟨rfl, rfl, rfl, by decide +kernel, rfl, by decide +kernel, by decide +kernel⟩
theorem b_number_text (T : Txt P K mg) : Binds K (fdOf K "number_text") ["pair"] [] := T.F_number_text.bindsN fun _ _ _ _ _ _ us hl => match us, hl with | [_], _ => rfl
theorem ok_number_text (T : Txt P K mg) : Ok P w K mg base 3 "number_text" ["pair"] (sp_number_text K) := by
  have G_figures_of := ok_figures_of (P := P) (w := w) (base := base) T
  refine T.F_number_text.ok sc_number_text sp1_len (fun cdv A outer s H vs Q E hr h => ?_)
  obtain ⟨a0, rfl, h⟩ := h
  refine ⟨_, (pss_cons (ps_asg (pv 0) (pg_tup (n := 2) rfl (pgs_cons (pg_name (i := 1) sc_number_text.nd rfl (Or.inl rfl)) (pgs_cons (pg_name (i := 2) sc_number_text.nd rfl (Or.inl rfl)) pgs_nil))))
  (C8.pss_cut (ps_set (i := 3) sc_number_text.nd rfl (Or.inl rfl) (pe_ifExp (pt_cmpR op_lt (pv 1) pe_int (nomark _)) pe_str pe_str))
  (C8.pss_cut (ps_set (i := 4) sc_number_text.nd rfl (Or.inl rfl) (pe_ifExp (pt_cmpR (opK_eq (K := K) rfl hr.units) (pv 2) pe_int (nomark _)) pe_str (pe_op opA_add pe_str (pe_callS G_figures_of (hr.mono (by decide)) rfl T.g_figures_of T.k_figures_of (b_figures_of T) (fun σ => L2N.passAt (L2N.takes_of rfl rfl rfl rfl) σ) (pa_cons (pv 2) pa_nil)))))
  (pss_one (ps_ret (pe_op opA_add (pe_op opA_add (pv 3) (pe_callS G_figures_of (hr.mono (by decide)) rfl T.g_figures_of T.k_figures_of (b_figures_of T) (fun σ => L2N.passAt (L2N.takes_of rfl rfl rfl rfl) σ) (pa_cons (pe_callB callA_abs rfl T.f_abs (by decide +kernel) (pa_cons (pv 1) pa_nil)) pa_nil))) (pv 4))))))), ?_⟩
  try dsimp only [cxOf, List.map]
  obtain ⟨p, t, d, rfl, hp, hd, hb, hbd, k⟩ := h
  walk_at "s"
  refine x_gTup hp rfl ?_
  walk_at "s"
  have hd1 : ∀ {n : Nat}, n ≤ 4000 → n ≤ sizeLine := fun h => short_line (by omega)
  refine ⟨fun σ' H' => H' = H ∧ σ' = [some (.ref p), some (.int t), some (.int d), some (.str (if t < 0 then Str.ofString "-" else Str.ofString "")), none], ?_, ?_⟩
  · walk_at "s"
    refine x_if _ (fun e => ?_) (fun e => ?_)
    · walk_at "s"
      refine ⟨rfl, ?_⟩
      rw [if_pos (of_decide_eq_true e)]
      rfl
    · walk_at "s"
      refine ⟨rfl, ?_⟩
      rw [if_neg (of_decide_eq_false e)]
      rfl
  rintro σ' H' ⟨rfl, rfl⟩
  refine ⟨fun σ' H2 => H2 = H' ∧ σ' = [some (.ref p), some (.int t), some (.int d), some (.str (if t < 0 then Str.ofString "-" else Str.ofString "")), some (.str (if d = 1 then Str.ofString "" else Str.ofString "/" ++ txI d))], ?_, ?_⟩
  · walk_at "s"
    refine x_if _ (fun e => ?_) (fun e => ?_)
    · walk_at "s"
      refine ⟨rfl, ?_⟩
      rw [if_pos (of_decide_eq_true e)]
      rfl
    · walk_at "s"
      refine sp1_i ⟨d, rfl, by omega, hbd, ?_⟩
      refine x_addS (hd1 ?_) ?_
      · have := txI_len hbd
        have h2 : (Str.ofString "/").length = 1 := rfl
        omega
      walk_at "s"
      refine ⟨rfl, ?_⟩
      rw [if_neg (of_decide_eq_false e)]
      rfl
  rintro σ' H2 ⟨rfl, rfl⟩
  walk_at "s"
  have habs : (if t < 0 then -t else t).natAbs = t.natAbs := by split <;> omega
  have hta : (if t < 0 then Str.ofString "-" else Str.ofString "") ++ txI (if t < 0 then -t else t) = txI t := by
    by_cases h : t < 0
    · rw [if_pos h, if_pos h, ← txI_neg h]
    · rw [if_neg h, if_neg h]
      exact str_len0
  have l1 : (if t < 0 then Str.ofString "-" else Str.ofString "").length ≤ 1 := by split <;> decide
  have l2 : (txI (if t < 0 then -t else t)).length ≤ 1921 := txI_len (by rw [habs]; exact hb)
  have l3 : (if d = 1 then Str.ofString "" else Str.ofString "/" ++ txI d).length ≤ 1922 := by
    split
    · decide
    · rw [str_app]
      have := txI_len hbd
      have h2 : (Str.ofString "/").length = 1 := rfl
      omega
  refine sp1_i ⟨_, rfl, by split <;> omega, by rw [habs]; exact hb, ?_⟩
  refine x_addS ?_ ?_
  · exact hd1 (by omega)
  walk_at "s"
  refine x_addS ?_ ?_
  · exact hd1 (by rw [str_app]; omega)
  rw [hta]
  have hw : txI t ++ (if d = 1 then Str.ofString "" else Str.ofString "/" ++ txI d) = wordT (t, d) := by
    unfold wordT
    by_cases h : d = 1
    · rw [if_pos h, if_pos h]
      refine TL.ext_tl ?_
      show ((txI t).cps ++ #[]).toList = _
      simp
    · rw [if_neg h, if_neg h]
      refine TL.ext_tl ?_
      rw [TL.tl_append, TL.tl_append, TL.tl_append, TL.tl_append, List.append_assoc]
  rw [hw]
  exact k
/-- what raises BadName or BadFraction -/
def EWhy (K : PySem.W.Frag) (H : Hp) (E : XK) (c : Str) : Prop := ∀ H' d z, Same H H' → H' d = none → z ∈ whyL → E (.ref (He.ga K c)) (some d) (upd H' d (.xd [("why", .str z)]))
theorem RNum.same {H H' : Hp} {Q : VK} {r : Int × Int} (h : RNum H Q r) (e : Same H H') : RNum H' Q r := fun H2 p s e2 => h H2 p (Same.tr e s) e2
def sp_fraction (K : PySem.W.Frag) : Sp := sp1 fun a H Q E => (∃ r, Num K H a (some r) ∧ RNum H Q r) ∨ (Num K H a none ∧ EWhy K H E "BadFraction") ∨ Long K a H E
abbrev N_fraction : List Str := ["thing", "pair"]
theorem sc_fraction : FnScope N_fraction ["thing"] (defScope st_fraction) := ⟨rfl, rfl, rfl, by decide +kernel, rfl, by decide +kernel, by decide +kernel⟩
theorem b_fraction (T : Txt P K mg) : Binds K (fdOf K "fraction") ["thing"] [] := T.F_fraction.bindsN fun _ _ _ _ _ _ us hl => match us, hl with | [_], _ => rfl
theorem ok_fraction (T : Txt P K mg) : Ok P w K mg base 7 "fraction" ["thing"] (sp_fraction K) := by
  have G_read_number := ok_read_number (P := P) (w := w) (base := base) T
  refine T.F_fraction.ok sc_fraction sp1_len (fun cdv A outer s H vs Q E hr h => ?_)
  obtain ⟨a0, rfl, h⟩ := h
  refine ⟨_, (pss_cons (ps_set (i := 1) sc_fraction.nd rfl (Or.inl rfl) (pe_callS G_read_number (hr.mono (by decide)) rfl T.g_read_number T.k_read_number (b_read_number T) (fun σ => L2N.passAt (L2N.takes_of rfl rfl rfl rfl) σ) (pa_cons (pv 0) pa_nil)))
  (pss_cons (ps_if (pt_cmpR opA_isN (pv 1) pe_non (nomark _)) (pss_one (L2N.ps_raise rfl (L2N.takes_of rfl rfl rfl rfl) (pmk_BadFraction T (hr.mono (by decide)) (pa_cons pe_str pa_nil)))) pss_nil)
  (pss_one (ps_ret (pv 1))))), ?_⟩
  try dsimp only [cxOf, List.map]
  walk_at "s"
  rcases h with ⟨r, hN, k⟩ | ⟨hN, k⟩ | hL
  · refine sp1_i (.inl ⟨r, hN, fun H1 p s1 hp => ?_⟩)
    walk_at "s"
    refine x_ifF rfl ?_
    walk_at "s"
    exact k H1 p s1 hp
  · refine sp1_i (.inr (.inl ⟨hN, fun H1 s1 => ?_⟩))
    walk_at "s"
    refine x_ifT rfl ?_
    walk_at "s"
    exact ⟨⟨_, rfl, by decide⟩, fun d hd => k H1 d _ s1 hd (by decide)⟩
  · exact sp1_i (.inr (.inr hL))
def sp_told (K : PySem.W.Frag) : Sp := sp1 fun a H Q E => (∃ r, Num K H a (some r) ∧ 0 < r.2 ∧ r.1.natAbs.log2 < 1900 ∧ r.2.natAbs.log2 < 1900 ∧ ∀ H', Same H H' → Q (.str (wordT r)) H') ∨ (Num K H a none ∧ EWhy K H E "BadFraction") ∨ Long K a H E
abbrev N_told : List Str := ["number"]
theorem sc_told : FnScope N_told ["number"] (defScope st_told) := ⟨rfl, rfl, rfl, by decide +kernel, rfl, by decide +kernel, by decide +kernel⟩
theorem b_told (T : Txt P K mg) : Binds K (fdOf K "told") ["number"] [] := T.F_told.bindsN fun _ _ _ _ _ _ us hl => match us, hl with | [_], _ => rfl
theorem ok_told (T : Txt P K mg) : Ok P w K mg base 8 "told" ["number"] (sp_told K) := by
  have G_number_text := ok_number_text (P := P) (w := w) (base := base) T
  have G_fraction := ok_fraction (P := P) (w := w) (base := base) T
  refine T.F_told.ok sc_told sp1_len (fun cdv A outer s H vs Q E hr h => ?_)
  obtain ⟨a0, rfl, h⟩ := h
  refine ⟨_, (pss_one (ps_ret (pe_callS G_number_text (hr.mono (by decide)) rfl T.g_number_text T.k_number_text (b_number_text T) (fun σ => L2N.passAt (L2N.takes_of rfl rfl rfl rfl) σ) (pa_cons (pe_callS G_fraction (hr.mono (by decide)) rfl T.g_fraction T.k_fraction (b_fraction T) (fun σ => L2N.passAt (L2N.takes_of rfl rfl rfl rfl) σ) (pa_cons (pv 0) pa_nil)) pa_nil)))), ?_⟩
  try dsimp only [cxOf, List.map]
  walk_at "s"
  rcases h with ⟨r, hN, h0, hb, hb2, k⟩ | hB | hL
  · refine sp1_i (.inl ⟨r, hN, fun H1 p s1 hp => ?_⟩)
    walk_at "s"
    exact sp1_i ⟨p, r.1, r.2, rfl, SqT.of hp, h0, hb, hb2, k H1 s1⟩
  · exact sp1_i (.inr (.inl hB))
  · exact sp1_i (.inr (.inr hL))
end
end K00

set_option maxHeartbeats 4000000
namespace K00
open PySem PySem.Spec PyProof.Rows L2 EL
open SX (S)
local macro_rules | `(tactic| walk_at "s1") => `(tactic| with_reducible first
  | refine x_seq ?_ | refine x_asg ?_ | refine x_op ?_ | refine x_c ?_ | refine x_gName ?_ | refine x_ifS ?_ | refine x_ret ?_ | refine x_test ?_ | refine x_bl ?_
  | refine x_I0 ?_ | refine x_addI ?_ | refine x_mulI ?_ ?_ | refine x_fdiv ?_ ?_ | refine x_mod ?_ ?_ | refine x_un ?_ | refine x_rU ?_ | refine x_pow ?_ ?_
  | refine x_eqI' ?_ | refine x_neI' ?_ | refine x_eqS' ?_ | refine x_neS' ?_
  | refine x_cons ?_ | refine x_nil ?_ | refine x_tup ?_ | refine x_lst ?_ | refine x_callS ?_ | refine x_CB ?_ | refine x_par ?_ | refine x_two ?_
  | refine x_next ?_ | refine x_and ?_ | refine x_or ?_ | refine x_not ?_ | refine x_andV ?_ | refine x_orV ?_ | refine x_notV ?_ | refine x_ex ?_ | refine x_ifE ?_ | refine x_tB ?_ | refine x_retN ?_ | refine x_drop ?_ | refine x_brk ?_ | refine x_cont ?_
  | refine x_intI ?_ | refine x_abs ?_ | refine x_gcd ?_ | refine x_str ?_ ?_ | refine x_sz ?_ | refine x_isN ?_ | refine x_notN ?_ | refine x_sl ?_ | refine x_noPart ?_ | refine x_part ?_ | refine x_exI ?_ | refine x_slS ?_ ?_ | refine x_gSub ?_ | refine x_inS ?_ | refine x_notinS ?_ | refine x_yes ?_ | refine x_m1 ?_ | refine x_m1' ?_ | refine x_ms ?_ | refine x_chain ?_ | refine x_callK ?_ | refine x_callSD ?_ | refine x_ifT' ?_ | refine x_newE ?_ | refine x_gCons ?_ | refine x_gNil ?_ | refine x_gTupU rfl ?_ | refine x_ifX ?_)
local macro_rules | `(tactic| walk_at "side") => `(tactic| with_reducible first | decide | (refine mul_left ?_ ?_ <;> omega) | (refine mul_right ?_ ?_ <;> omega) | (refine div_of ?_ ?_ <;> first | omega | assumption | decide +kernel) | omega | assumption)
local macro_rules | `(tactic| walk_at "s") => `(tactic| repeat (first | walk_at "s1" | ((with_reducible apply x_var); (· exact rfl)) | ((with_reducible apply x_ixU); (· exact rfl)) | ((with_reducible apply x_ixTU); (· exact rfl)) | ((with_reducible apply x_setU); (· exact rfl)) | ((with_reducible apply x_all); (· exact SqL.of upd_same))))
section
variable {P : Program} {w : World} {K : PySem.W.Frag} {mg : Str → Option Value} {base : Heap}
theorem jar_self {H : Hp} {j c : Addr} {r : List V} (h : H j = some (.lst (.ref c :: r))) : ∀ ys, H j = some (.lst ys) → ys.head? = some (.ref c) := fun ys e => by
  rw [h] at e
  cases e
  rfl
theorem jar_next {H : Hp} {j : Addr} {xs : List V} (h : JarL H j xs) : Jar (upd H j (.lst xs)) j := by
  obtain ⟨c, ns, i1, i2, i3, i4, i5, e, h1, h2, h3, h4, h5, h6, _⟩ := h
  subst e
  exact ⟨_, upd_same, c, ns, i1, i2, i3, i4, i5, rfl, h1, (upd_ne h1).trans h2, h3, h4, h5, h6, jar_self upd_same⟩
def sp_law_pick : Sp := sp2 fun a b H Q _ => ∃ (j m : Addr) (menu : List V), a = .ref j ∧ b = .ref m ∧ Jar H j ∧ H m = some (.lst menu) ∧ m ≠ j ∧ menu ≠ [] ∧ menu.length ≤ 1000 ∧ ∀ v xs, v ∈ menu → JarL H j xs → Q v (upd H j (.lst xs))
abbrev N_law_pick : List Str := ["jar", "menu"]
theorem sc_law_pick : FnScope N_law_pick ["jar", "menu"] (defScope st_law_pick) := ⟨rfl, rfl, rfl, by decide +kernel, rfl, by decide +kernel, by decide +kernel⟩
theorem b_law_pick (T : Txt P K mg) : Binds K (fdOf K "_law_pick") ["jar", "menu"] [] := T.F_law_pick.bindsN fun _ _ _ _ _ _ us hl => match us, hl with | [_, _], _ => rfl
theorem ok_law_pick (T : Txt P K mg) : Ok P w K mg base 3 "_law_pick" ["jar", "menu"] sp_law_pick := by
  have G_law_draw := ok_law_draw (P := P) (w := w) (base := base) T
  refine T.F_law_pick.ok sc_law_pick sp2_len (fun cdv A outer s H vs Q E hr h => ?_)
  obtain ⟨a0, a1, rfl, h⟩ := h
  refine ⟨_, (pss_one (ps_ret (pe_ix (ixK (K := K) rfl) (pv 1) (pe_callS G_law_draw (hr.mono (by decide)) rfl T.g_law_draw T.k_law_draw (b_law_draw T) (fun σ => L2N.passAt (L2N.takes_of rfl rfl rfl rfl) σ) (pa_cons (pv 0) (pa_cons (pe_callB (callK_len (K := K) rfl) rfl T.f_len (by decide +kernel) (pa_cons (pv 1) pa_nil)) pa_nil))) (fun _ _ => rfl)))), ?_⟩
  try dsimp only [cxOf, List.map]
  obtain ⟨j, m, menu, rfl, rfl, hj, hm, hne, h0, hl, k⟩ := h
  walk_at "s"
  refine x_lenL ?_ (SqL.of hm)
  walk_at "s"
  have hpos : 0 < menu.length := List.length_pos_iff.mpr h0
  refine sp2_i ⟨j, _, rfl, rfl, by omega, ?_, hj, fun d xs h1 h2 hx => ?_⟩
  · have : ((menu.length : Int)).natAbs.log2 < 9000 := by
      rw [Int.natAbs_natCast]
      exact Nat.lt_of_le_of_lt (Nat.log2_le_self _) (by omega)
    exact this
  obtain ⟨n, rfl⟩ : ∃ n : Nat, d = (n : Int) := ⟨d.toNat, by omega⟩
  have hn : n < menu.length := by omega
  refine x_ixL (n := n) (v := menu[n]) ?_ (SqL.of ((upd_ne hne).trans hm)) (by simp [hn])
  exact k _ xs (List.getElem_mem hn) hx
def sp_law_alphabet : Sp := sp0 fun H Q _ => Q (.str s_WORD_SIGNS) H
abbrev N_law_alphabet : List Str := []
theorem sc_law_alphabet : FnScope N_law_alphabet [] (defScope st_law_alphabet) := ⟨rfl, rfl, rfl, by decide +kernel, rfl, by decide +kernel, by decide +kernel⟩
theorem b_law_alphabet (T : Txt P K mg) : Binds K (fdOf K "_law_alphabet") [] [] := T.F_law_alphabet.bindsN fun _ _ _ _ _ _ us hl => match us, hl with | [], _ => rfl
theorem ok_law_alphabet (T : Txt P K mg) : Ok P w K mg base 2 "_law_alphabet" [] sp_law_alphabet := by
  refine T.F_law_alphabet.ok sc_law_alphabet sp0_len (fun cdv A outer s H vs Q E hr h => ?_)
  obtain ⟨rfl, h⟩ := h
  refine ⟨_, (pss_one (ps_ret pe_str)), ?_⟩
  try dsimp only [cxOf, List.map]
  walk_at "s"
  exact h
theorem kept_split : Txt.split (Str.ofString "letters deed done paper root slow blind still strong twin weak wall on climb heard deaf one two foe along step rounds number chooser note go plan at mix row" ++ Str.ofString " offers offer as log take pack model") (Str.ofString " ") = l_KEPT_WORDS := by decide +kernel
def sp_law_words_kept : Sp := sp0 fun H Q _ => ∀ p, H p = none → Q (.ref p) (upd H p (.lst (l_KEPT_WORDS.map V.str)))
abbrev N_law_words_kept : List Str := ["made"]
theorem sc_law_words_kept : FnScope N_law_words_kept [] (defScope st_law_words_kept) := ⟨rfl, rfl, rfl, by decide +kernel, rfl, by decide +kernel, by decide +kernel⟩
theorem b_law_words_kept (T : Txt P K mg) : Binds K (fdOf K "_law_words_kept") [] [] := T.F_law_words_kept.bindsN fun _ _ _ _ _ _ us hl => match us, hl with | [], _ => rfl
theorem ok_law_words_kept (T : Txt P K mg) : Ok P w K mg base 2 "_law_words_kept" [] sp_law_words_kept := by
  refine T.F_law_words_kept.ok sc_law_words_kept sp0_len (fun cdv A outer s H vs Q E hr h => ?_)
  obtain ⟨rfl, h⟩ := h
  refine ⟨_, (pss_cons (ps_set (i := 0) sc_law_words_kept.nd rfl (Or.inl rfl) pe_str)
  (pss_one (ps_ret (pe_split (pe_op opA_add (pv 0) pe_str) pe_str)))), ?_⟩
  try dsimp only [cxOf, List.map]
  walk_at "s"
  refine x_addS (short_line (by decide)) ?_
  walk_at "s"
  refine ⟨_, _, rfl, rfl, by decide, short_line (by decide), fun p hp => ?_⟩
  rw [kept_split]
  exact h p hp
/-- the law's own look at a word -/
theorem word_law (l : List Nat) : wordB l = (decide (1 ≤ l.length) && (decide (l.length ≤ 16) && (!decide (l.headD 0 ∈ (Str.ofString "_-'").cps.toList) && (l.filter fun c => !decide (c ∈ s_WORD_SIGNS.cps.toList)).isEmpty))) := by
  have e1 : s_FIRST_SIGNS.cps.toList = [97, 98, 99, 100, 101, 102, 103, 104, 105, 106, 107, 108, 109, 110, 111, 112, 113, 114, 115, 116, 117, 118, 119, 120, 121, 122, 65, 66, 67, 68, 69, 70, 71, 72, 73, 74, 75, 76, 77, 78, 79, 80, 81, 82, 83, 84, 85, 86, 87, 88, 89, 90, 48, 49, 50, 51, 52, 53, 54, 55, 56, 57] := by decide +kernel
  have e2 : s_WORD_SIGNS.cps.toList = s_FIRST_SIGNS.cps.toList ++ (Str.ofString "_-'").cps.toList := by decide +kernel
  have e3 : ∀ c ∈ s_FIRST_SIGNS.cps.toList, c ∉ (Str.ofString "_-'").cps.toList := by decide +kernel
  have e4 : (l.filter fun c => !decide (c ∈ s_WORD_SIGNS.cps.toList)).isEmpty = l.all fun c => decide (c ∈ s_WORD_SIGNS.cps.toList) := by
    rw [Bool.eq_iff_iff, List.isEmpty_iff, List.filter_eq_nil_iff, List.all_eq_true]
    simp
  unfold wordB
  rw [e4]
  cases l with
  | nil => rfl
  | cons c l =>
    have hh : (c :: l).headD 0 = c := rfl
    rw [hh]
    cases ha : (c :: l).all fun c => decide (c ∈ s_WORD_SIGNS.cps.toList) with
    | false => simp only [Bool.and_false]
    | true =>
      have hc := List.all_eq_true.mp ha c List.mem_cons_self
      have hc : c ∈ s_WORD_SIGNS.cps.toList := of_decide_eq_true hc
      rw [e2] at hc
      have : decide (c ∈ s_FIRST_SIGNS.cps.toList) = !decide (c ∈ (Str.ofString "_-'").cps.toList) := by
        rcases List.mem_append.mp hc with h | h
        · rw [decide_eq_true h, decide_eq_false (e3 c h)]
          rfl
        · rw [decide_eq_true h, decide_eq_false (fun z => e3 c z h)]
          rfl
      rw [this]
def sp_law_is_word (K : PySem.W.Frag) : Sp := sp1 fun a H Q _ => Pln K H a ∧ (∀ z, a = .str z → PyData.strOk z = true) ∧ ∀ H', Same H H' → Q (.bl (wordV a)) H'
abbrev N_law_is_word : List Str := ["some", "sign"]
theorem sc_law_is_word : FnScope N_law_is_word ["some"] (defScope st_law_is_word) := ⟨rfl, rfl, rfl, by decide +kernel, rfl, by decide +kernel, by decide +kernel⟩
theorem b_law_is_word (T : Txt P K mg) : Binds K (fdOf K "_law_is_word") ["some"] [] := T.F_law_is_word.bindsN fun _ _ _ _ _ _ us hl => match us, hl with | [_], _ => rfl
theorem ok_law_is_word (T : Txt P K mg) : Ok P w K mg base 3 "_law_is_word" ["some"] (sp_law_is_word K) := by
  have G_law_alphabet := ok_law_alphabet (P := P) (w := w) (base := base) T
  refine T.F_law_is_word.ok sc_law_is_word sp1_len (fun cdv A outer s H vs Q E hr h => ?_)
  obtain ⟨a0, rfl, h⟩ := h
  refine ⟨_, (pss_cons (ps_if (PW.pt (pw_or (pt_not (pt_val (pe_callB (callK_isi (K := K) rfl) rfl T.f_isinstance (by decide +kernel) (pa_cons (pv 0) (pa_cons (pe_bltn (v := .ty "str") (u := .type "str") rfl T.f_str (by decide +kernel) rfl) pa_nil))))) (pw_or (pt_cmpR op_lt (pe_callB (callK_len (K := K) rfl) rfl T.f_len (by decide +kernel) (pa_cons (pv 0) pa_nil)) pe_int (nomark _)) (pw_or (pt_cmpR op_gt (pe_callB (callK_len (K := K) rfl) rfl T.f_len (by decide +kernel) (pa_cons (pv 0) pa_nil)) pe_int (nomark _)) (pw_or1 (pt_cmpR (opK_in (K := K) rfl) (pe_ix (ixK (K := K) rfl) (pv 0) pe_int (fun _ _ => rfl)) pe_str rfl)))))) (pss_one (ps_ret pe_bl)) pss_nil)
  (pss_one (ps_ret (pe_cmpR (opK_eq (K := K) rfl hr.units) (pe_lc (own := [("sign", 1)]) rfl sc_law_is_word.nd (pi_str (pv 0)) (blkOk_by (own := [("sign", 1)]) (N := N_law_is_word) (sc := defScope st_law_is_word) (by decide +kernel)) (fun _ _ _ _ _ => pg_name (i := 1) sc_law_is_word.nd rfl (Or.inl rfl)) (fun _ _ _ _ _ => pts_one (pt_cmpR (opK_notin (K := K) rfl) (pv 1) (pe_call0 G_law_alphabet (hr.mono (by decide)) rfl T.g_law_alphabet T.k_law_alphabet (b_law_alphabet T) (fun σ => L2N.passAt takesF σ)) rfl)) (fun _ _ _ _ _ => (pv 1))) (pe_lst pa_nil) (nomark _))))), ?_⟩
  try dsimp only [cxOf, List.map]
  obtain ⟨⟨hx, t, ⟨ht, hm⟩, hs⟩, hok, k⟩ := h
  walk_at "s"
  refine x_isi ?_ ht (ty_str t hm)
  walk_at "s"
  refine x_if _ (fun e => ?_) (fun e => ?_)
  · have hn : wordV a0 = false := by
      have hne : ¬ t = "str" := by simpa using e
      cases a0 with
      | str z => exact absurd (hs.mpr ⟨z, rfl⟩) hne
      | _ => rfl
    rw [hn] at k
    refine x_ifT rfl ?_
    walk_at "s"
    exact k H (fun _ _ h => h)
  obtain ⟨z, rfl⟩ := hs.mp (by simpa using e)
  obtain ⟨l, rfl⟩ := isS z
  have hx : (S l).length < 2000000 := hx
  rw [S_length] at hx
  have hsz : (S l).length ≤ sizeLine := by rw [S_length, sizeLine_eq]; omega
  have hw : wordV (.str (S l)) = wordB l := rfl
  rw [hw, word_law] at k
  walk_at "s"
  refine x_lenS ?_ hsz
  walk_at "s"
  rw [S_length]
  refine x_if _ (fun e1 => ?_) (fun e1 => ?_)
  · have e1 := of_decide_eq_true e1
    refine x_ifT rfl ?_
    walk_at "s"
    rw [decide_eq_false (show ¬ 1 ≤ l.length by omega), Bool.false_and] at k
    exact k H (fun _ _ h => h)
  have e1 := of_decide_eq_false e1
  rw [decide_eq_true (show 1 ≤ l.length by omega), Bool.true_and] at k
  walk_at "s"
  refine x_lenS ?_ hsz
  walk_at "s"
  rw [S_length]
  refine x_if _ (fun e2 => ?_) (fun e2 => ?_)
  · have e2 := of_decide_eq_true e2
    refine x_ifT rfl ?_
    walk_at "s"
    rw [decide_eq_false (show ¬ l.length ≤ 16 by omega), Bool.false_and] at k
    exact k H (fun _ _ h => h)
  have e2 := of_decide_eq_false e2
  rw [decide_eq_true (show l.length ≤ 16 by omega), Bool.true_and] at k
  walk_at "s"
  cases l with
  | nil => exact absurd rfl (fun h : ([] : List Nat) = [] => by simp at e1)
  | cons c l =>
    refine x_ixS (n := 0) (c := c) ?_ hsz rfl
    walk_at "s"
    refine x_if _ (fun e3 => ?_) (fun e3 => ?_)
    · walk_at "s"
      rw [show decide ((c :: l).headD 0 ∈ (Str.ofString "_-'").cps.toList) = true from e3, Bool.not_true, Bool.false_and] at k
      exact k H (fun _ _ h => h)
    rw [show decide ((c :: l).headD 0 ∈ (Str.ofString "_-'").cps.toList) = false from e3, Bool.not_false, Bool.true_and] at k
    walk_at "s"
    refine x_lcS (z := S (c :: l)) (fun c => !decide (c ∈ s_WORD_SIGNS.cps.toList)) (fun c => .str ⟨#[c]⟩) (fun R r => ?_) ?_ (fun c hc H' R r => ?_) (fun c hc hb H' R r => ?_) (fun D hD => ?_)
    · exact x_var rfl r
    · rw [S_length, sizeLine_eq]
      rw [S_length, sizeLine_eq] at hsz
      have := hx
      omega
    · walk_at "s"
      refine sp0_i ?_
      refine x_notinS ?_
      exact ⟨_, rfl, r⟩
    · walk_at "s"
      exact r
    walk_at "s"
    intro e he
    have hz : ((S (c :: l)).cps.toList.filter fun c => !decide (c ∈ s_WORD_SIGNS.cps.toList)).map (fun c => V.str ⟨#[c]⟩) = (((c :: l).filter fun c => !decide (c ∈ s_WORD_SIGNS.cps.toList)).map fun c => (⟨#[c]⟩ : Str)).map V.str := by
      rw [List.map_map]
      rfl
    have ok := hok _ rfl
    refine x_eqNil (zs := ((c :: l).filter fun c => !decide (c ∈ s_WORD_SIGNS.cps.toList)).map fun c => (⟨#[c]⟩ : Str)) ?_ (SqL.of ?_) (SqL.of upd_same) ?_
    · rw [List.isEmpty_map]
      exact k _ (Same.tr (Same.new hD) (Same.new he))
    · rw [upd_ne (fun z => by subst z; rw [upd_same] at he; cases he), upd_same, hz]
    · rw [List.all_eq_true]
      intro z hz
      obtain ⟨d, hd, rfl⟩ := List.mem_map.mp hz
      have hd := (List.mem_filter.mp hd).1
      have := ok
      unfold PyData.strOk at this ⊢
      rw [Array.all_eq_true'] at this
      simpa using this d (by simpa using hd)
end
end K00

set_option maxHeartbeats 4000000
namespace K00
open PySem PySem.Spec PyProof.Rows L2 EL
open SX (S)
local macro_rules | `(tactic| walk_at "s1") => `(tactic| with_reducible first
  | refine x_seq ?_ | refine x_asg ?_ | refine x_op ?_ | refine x_c ?_ | refine x_gName ?_ | refine x_ifS ?_ | refine x_ret ?_ | refine x_test ?_ | refine x_bl ?_
  | refine x_I0 ?_ | refine x_addI ?_ | refine x_mulI ?_ ?_ | refine x_fdiv ?_ ?_ | refine x_mod ?_ ?_ | refine x_un ?_ | refine x_rU ?_ | refine x_pow ?_ ?_
  | refine x_eqI' ?_ | refine x_neI' ?_ | refine x_eqS' ?_ | refine x_neS' ?_
  | refine x_cons ?_ | refine x_nil ?_ | refine x_tup ?_ | refine x_lst ?_ | refine x_callS ?_ | refine x_CB ?_ | refine x_par ?_ | refine x_two ?_
  | refine x_next ?_ | refine x_and ?_ | refine x_or ?_ | refine x_not ?_ | refine x_andV ?_ | refine x_orV ?_ | refine x_notV ?_ | refine x_ex ?_ | refine x_ifE ?_ | refine x_tB ?_ | refine x_retN ?_ | refine x_drop ?_ | refine x_brk ?_ | refine x_cont ?_
  | refine x_intI ?_ | refine x_abs ?_ | refine x_gcd ?_ | refine x_str ?_ ?_ | refine x_sz ?_ | refine x_isN ?_ | refine x_notN ?_ | refine x_sl ?_ | refine x_noPart ?_ | refine x_part ?_ | refine x_exI ?_ | refine x_slS ?_ ?_ | refine x_gSub ?_ | refine x_inS ?_ | refine x_notinS ?_ | refine x_yes ?_ | refine x_m1 ?_ | refine x_m1' ?_ | refine x_ms ?_ | refine x_chain ?_ | refine x_callK ?_ | refine x_callSD ?_ | refine x_ifT' ?_ | refine x_newE ?_ | refine x_gCons ?_ | refine x_gNil ?_ | refine x_gTupU rfl ?_ | refine x_ifX ?_)
local macro_rules | `(tactic| walk_at "side") => `(tactic| with_reducible first | decide | (refine mul_left ?_ ?_ <;> omega) | (refine mul_right ?_ ?_ <;> omega) | (refine div_of ?_ ?_ <;> first | omega | assumption | decide +kernel) | omega | assumption)
local macro_rules | `(tactic| walk_at "s") => `(tactic| repeat (first | walk_at "s1" | ((with_reducible apply x_var); (· exact rfl)) | ((with_reducible apply x_ixU); (· exact rfl)) | ((with_reducible apply x_ixTU); (· exact rfl)) | ((with_reducible apply x_setU); (· exact rfl)) | ((with_reducible apply x_all); (· exact SqL.of upd_same))))
section
variable {P : Program} {w : World} {K : PySem.W.Frag} {mg : Str → Option Value} {base : Heap}
theorem cut_map (ns : List Int) (lo hi : Option Int) : ∃ ms : List Int, cutV (ns.map V.int) lo hi = ms.map V.int := by
  unfold cutV
  exact ⟨_, by rw [List.map_take, List.map_drop]⟩
def sp_law_jar (K : PySem.W.Frag) : Sp := sp1 fun a H Q _ => ∃ (l : Addr) (ns : List Int), a = .ref l ∧ SqL K H l (ns.map V.int) ∧
  ∀ (j : Addr) (H' : Hp), Same H H' → H j = none → Jar H' j → Q (.ref j) H'
abbrev N_law_jar : List Str := ["script", "mixed", "cell"]
theorem sc_law_jar : FnScope N_law_jar ["script"] (defScope st_law_jar) := ⟨rfl, rfl, rfl, by decide +kernel, rfl, by decide +kernel, by decide +kernel⟩
theorem b_law_jar (T : Txt P K mg) : Binds K (fdOf K "_law_jar") ["script"] [] := T.F_law_jar.bindsN fun _ _ _ _ _ _ us hl => match us, hl with | [_], _ => rfl
theorem ok_law_jar (T : Txt P K mg) : Ok P w K mg base 2 "_law_jar" ["script"] (sp_law_jar K) := by
  refine T.F_law_jar.ok sc_law_jar sp1_len (fun cdv A outer s H vs Q E hr h => ?_)
  obtain ⟨a0, rfl, h⟩ := h
  refine ⟨_, (pss_cons (ps_set (i := 1) sc_law_jar.nd rfl (Or.inl rfl) pe_int)
  (pss_cons (ps_for (passes_of rfl) rfl (pi_list (pe_slice (slK (K := K) rfl) (pv 0) po_none (po_some pe_int))) (pg_name (i := 2) sc_law_jar.nd rfl (Or.inl rfl))
  (pss_one (ps_set (i := 1) sc_law_jar.nd rfl (Or.inl rfl) (pe_op op_modN (pe_callTy (callL_int T.dig) rfl T.f_int (by decide +kernel) (pa_cons (pe_op opA_add (pe_op opA_add (pe_op opA_mul (pv 1) pe_int) (pe_op op_modN (pe_callTy (callL_int T.dig) rfl T.f_int (by decide +kernel) (pa_cons (pv 2) pa_nil)) pe_int)) pe_int) pa_nil)) pe_int))))
  (pss_one (ps_ret (pe_lst (pa_cons (pe_callTy (callK_list (K := K) rfl) rfl T.f_list (by decide +kernel) (pa_cons (pe_slice (slK (K := K) rfl) (pv 0) po_none (po_some pe_int)) pa_nil)) (pa_cons pe_int (pa_cons pe_int (pa_cons pe_int (pa_cons (pv 1) (pa_cons pe_int pa_nil))))))))))), ?_⟩
  try dsimp only [cxOf, List.map]
  obtain ⟨l, ns, rfl, hl, k⟩ := h
  obtain ⟨ms, hms⟩ := cut_map ns none (some 63)
  walk_at "s"
  refine x_forN (fun v H1 => ∃ D, v = .ref D ∧ H D = none ∧ H1 = upd H D (.lst (ms.map V.int))) (fun R r => ?_) ?_
  · walk_at "s"
    refine x_slL hl fun D hD => ?_
    rw [hms]
    exact r _ _ ⟨D, rfl, hD, rfl⟩
  rintro v H1 ⟨D, rfl, hD, rfl⟩
  refine ⟨D, ms.map V.int, rfl, SqL.of upd_same, fun r σ H' => H' = upd H D (.lst (ms.map V.int)) ∧ ∃ (m : Int) (y : Option V), σ = [some (.ref l), some (.int m), y] ∧ 0 ≤ m ∧ m < 2147483647, ?_, ?_, ?_, ?_⟩
  · exact ⟨rfl, 40087, none, rfl, by decide, by decide⟩
  · rintro r σ H' ⟨rfl, _⟩
    exact SqL.of upd_same
  · rintro x r σ H' hx ⟨rfl, m, y, rfl, h1, h2⟩
    obtain ⟨i, hi, rfl⟩ := List.mem_map.mp hx
    walk_at "s"
    · exact ⟨rfl, _, _, rfl, fmod_lo (by decide), fmod_hi (by decide)⟩
    · decide
    · decide
    · exact mul_right (by decide) (by decide)
  · rintro σ H' ⟨rfl, m, y, rfl, h1, h2⟩
    walk_at "s"
    refine x_slL ((Same.new hD).seq hl) fun D2 hD2 => ?_
    rw [hms]
    walk_at "s"
    refine x_list (.inl (SqL.of upd_same)) fun D3 hD3 => ?_
    walk_at "s"
    intro j hj
    have f3 := upd_none hj
    refine k j _ (Same.tr (Same.new hD) (Same.tr (Same.new hD2) (Same.tr (Same.new hD3) (Same.new hj)))) (upd_none (upd_none f3.2).2).2 ⟨_, upd_same, D3, ms, _, _, _, _, _, rfl, f3.1.symm, (upd_ne f3.1.symm).trans upd_same, by decide, by decide, h1, h2, jar_self upd_same⟩
/-! ### like -/
/-- like trees, at most n deep -/
def Lk (K : PySem.W.Frag) (H : Hp) : Nat → V → V → Prop
  | 0, _, _ => False
  | n + 1, a, b => (a = .non ∧ b = .non) ∨ (∃ i : Int, a = .int i ∧ b = .int i) ∨ (∃ z : Str, a = .str z ∧ b = .str z) ∨
    ∃ (p q : Addr) (xs ys : List V), a = .ref p ∧ b = .ref q ∧ ((SqL K H p xs ∧ SqL K H q ys) ∨ (SqT K H p xs ∧ SqT K H q ys)) ∧ xs.length < 1000 ∧ xs.length = ys.length ∧ ∀ (j : Nat) (x y : V), xs[j]? = some x → ys[j]? = some y → Lk K H n x y
theorem Lk.same {K : PySem.W.Frag} {H H' : Hp} (e : Same H H') : ∀ {n : Nat} {a b : V}, Lk K H n a b → Lk K H' n a b
  | 0, _, _, h => h
  | n + 1, a, b, h => by
    rcases h with h | h | h | ⟨p, q, xs, ys, rfl, rfl, hS, h1, h2, h3⟩
    · exact .inl h
    · exact .inr (.inl h)
    · exact .inr (.inr (.inl h))
    · exact .inr (.inr (.inr ⟨p, q, xs, ys, rfl, rfl, hS.imp (fun h => ⟨e.seq h.1, e.seq h.2⟩) (fun h => ⟨seqT e h.1, seqT e h.2⟩), h1, h2, fun j x y hx hy => Lk.same e (h3 j x y hx hy)⟩))
def sp_law_like (K : PySem.W.Frag) (n : Nat) : Sp := sp2 fun a b H Q _ => Lk K H n a b ∧ ∀ H', Same H H' → Q (.bl true) H'
abbrev N_law_like : List Str := ["got", "due", "kinds", "pair", "pos"]
theorem sc_law_like : FnScope N_law_like ["got", "due"] (defScope st_law_like) := ⟨rfl, rfl, rfl, by decide +kernel, rfl, by decide +kernel, by decide +kernel⟩
theorem b_law_like (T : Txt P K mg) : Binds K (fdOf K "_law_like") ["got", "due"] [] := T.F_law_like.bindsN fun _ _ _ _ _ _ us hl => match us, hl with | [_, _], _ => rfl
theorem step_law_like (T : Txt P K mg) {n : Nat} (G_law_like : Ok P w K mg base (n + 2) "_law_like" ["got", "due"] (sp_law_like K n)) : Ok P w K mg base (n + 3) "_law_like" ["got", "due"] (sp_law_like K (n + 1)) := by
  refine T.F_law_like.ok sc_law_like sp2_len (fun cdv A outer s H vs Q E hr h => ?_)
  obtain ⟨a0, a1, rfl, h⟩ := h
  refine ⟨_, (pss_cons (ps_if (PW.pt (pw_or (pt_cmpR opA_isN (pv 1) pe_non (nomark _)) (pw_or1 (pt_val (pe_callB (callK_isi (K := K) rfl) rfl T.f_isinstance (by decide +kernel) (pa_cons (pv 1) (pa_cons (pe_tup (pa_cons (pe_bltn (v := .ty "int") (u := .type "int") rfl T.f_int (by decide +kernel) rfl) (pa_cons (pe_bltn (v := .ty "str") (u := .type "str") rfl T.f_str (by decide +kernel) rfl) pa_nil))) pa_nil))))))) (pss_cons (ps_set (i := 2) sc_law_like.nd rfl (Or.inl rfl) (pe_lst (pa_cons (pe_cmpR opA_isN (pv 1) pe_non (nomark _)) (pa_cons (pe_callB (callK_isi (K := K) rfl) rfl T.f_isinstance (by decide +kernel) (pa_cons (pv 1) (pa_cons (pe_bltn (v := .ty "bool") (u := .type "bool") rfl T.f_bool (by decide +kernel) rfl) pa_nil))) (pa_cons (pe_callB (callK_isi (K := K) rfl) rfl T.f_isinstance (by decide +kernel) (pa_cons (pv 1) (pa_cons (pe_bltn (v := .ty "int") (u := .type "int") rfl T.f_int (by decide +kernel) rfl) pa_nil))) (pa_cons (pe_callB (callK_isi (K := K) rfl) rfl T.f_isinstance (by decide +kernel) (pa_cons (pv 1) (pa_cons (pe_bltn (v := .ty "str") (u := .type "str") rfl T.f_str (by decide +kernel) rfl) pa_nil))) pa_nil))))))
  (pss_one (ps_ret (pe_and (pe_cmpR (opK_eq (K := K) rfl hr.units) (pe_lst (pa_cons (pe_cmpR opA_isN (pv 0) pe_non (nomark _)) (pa_cons (pe_callB (callK_isi (K := K) rfl) rfl T.f_isinstance (by decide +kernel) (pa_cons (pv 0) (pa_cons (pe_bltn (v := .ty "bool") (u := .type "bool") rfl T.f_bool (by decide +kernel) rfl) pa_nil))) (pa_cons (pe_callB (callK_isi (K := K) rfl) rfl T.f_isinstance (by decide +kernel) (pa_cons (pv 0) (pa_cons (pe_bltn (v := .ty "int") (u := .type "int") rfl T.f_int (by decide +kernel) rfl) pa_nil))) (pa_cons (pe_callB (callK_isi (K := K) rfl) rfl T.f_isinstance (by decide +kernel) (pa_cons (pv 0) (pa_cons (pe_bltn (v := .ty "str") (u := .type "str") rfl T.f_str (by decide +kernel) rfl) pa_nil))) pa_nil))))) (pv 2) (nomark _)) (pe_one (pe_cmpR (opK_eq (K := K) rfl hr.units) (pv 0) (pv 1) (nomark _))))))) pss_nil)
  (pss_cons (ps_if (pt_val (pe_callB (callK_isi (K := K) rfl) rfl T.f_isinstance (by decide +kernel) (pa_cons (pv 1) (pa_cons (pe_bltn (v := .ty "dict") (u := .type "dict") rfl T.f_dict (by decide +kernel) rfl) pa_nil)))) pss_never pss_nil)
  (pss_cons (ps_if (PW.pt (pw_or (pt_cmpR (opK_ne (K := K) rfl hr.units) (pe_callB (callK_isi (K := K) rfl) rfl T.f_isinstance (by decide +kernel) (pa_cons (pv 0) (pa_cons (pe_bltn (v := .ty "list") (u := .type "list") rfl T.f_list (by decide +kernel) rfl) pa_nil))) (pe_callB (callK_isi (K := K) rfl) rfl T.f_isinstance (by decide +kernel) (pa_cons (pv 1) (pa_cons (pe_bltn (v := .ty "list") (u := .type "list") rfl T.f_list (by decide +kernel) rfl) pa_nil))) (nomark _)) (pw_or (pt_cmpR (opK_ne (K := K) rfl hr.units) (pe_callB (callK_isi (K := K) rfl) rfl T.f_isinstance (by decide +kernel) (pa_cons (pv 0) (pa_cons (pe_bltn (v := .ty "tuple") (u := .type "tuple") rfl T.f_tuple (by decide +kernel) rfl) pa_nil))) (pe_callB (callK_isi (K := K) rfl) rfl T.f_isinstance (by decide +kernel) (pa_cons (pv 1) (pa_cons (pe_bltn (v := .ty "tuple") (u := .type "tuple") rfl T.f_tuple (by decide +kernel) rfl) pa_nil))) (nomark _)) (pw_or1 (pt_not (pt_val (pe_callB (callK_isi (K := K) rfl) rfl T.f_isinstance (by decide +kernel) (pa_cons (pv 0) (pa_cons (pe_tup (pa_cons (pe_bltn (v := .ty "list") (u := .type "list") rfl T.f_list (by decide +kernel) rfl) (pa_cons (pe_bltn (v := .ty "tuple") (u := .type "tuple") rfl T.f_tuple (by decide +kernel) rfl) pa_nil))) pa_nil))))))))) (pss_one (ps_ret pe_bl)) pss_nil)
  (pss_one (ps_ret (pe_and (pe_cmpR (opK_eq (K := K) rfl hr.units) (pe_callB (callK_len (K := K) rfl) rfl T.f_len (by decide +kernel) (pa_cons (pv 0) pa_nil)) (pe_callB (callK_len (K := K) rfl) rfl T.f_len (by decide +kernel) (pa_cons (pv 1) pa_nil)) (nomark _)) (pe_one (pe_cmpR (opK_eq (K := K) rfl hr.units) (pe_lc (own := [("pos", 4)]) rfl sc_law_like.nd (pi_range1 rfl T.f_range (pa_cons (pe_callB (callK_len (K := K) rfl) rfl T.f_len (by decide +kernel) (pa_cons (pv 1) pa_nil)) pa_nil)) (blkOk_by (own := [("pos", 4)]) (N := N_law_like) (sc := defScope st_law_like) (by decide +kernel)) (fun _ _ _ _ _ => pg_name (i := 4) sc_law_like.nd rfl (Or.inl rfl)) (fun _ _ _ _ _ => pts_one (pt_not (pt_val (pe_callS G_law_like (hr.mono (by omega)) rfl T.g_law_like T.k_law_like (b_law_like T) (fun σ => L2N.passAt takesF σ) (pa_cons (pe_ix (ixK (K := K) rfl) (pv 0) (pv 4) (fun _ _ => rfl)) (pa_cons (pe_ix (ixK (K := K) rfl) (pv 1) (pv 4) (fun _ _ => rfl)) pa_nil)))))) (fun _ _ _ _ _ => (pv 4))) (pe_lst pa_nil) (nomark _))))))))), ?_⟩
  try dsimp only [cxOf, List.map]
  obtain ⟨hl, k⟩ := h
  walk_at "s"
  rcases hl with ⟨rfl, rfl⟩ | ⟨i, rfl, rfl⟩ | ⟨z, rfl, rfl⟩ | ⟨p, q, xs, ys, rfl, rfl, hS, hlt, hlen, hc⟩
  · refine x_ifT (decide_eq_true rfl) (x_ifT rfl ?_)
    walk_at "s"
    refine x_isi (b := false) ?_ (.base .non) (by decide +kernel)
    walk_at "s"
    refine x_isi (b := false) ?_ (.base .non) (by decide +kernel)
    walk_at "s"
    refine x_isi (b := false) ?_ (.base .non) (by decide +kernel)
    walk_at "s"
    intro e he
    walk_at "s"
    refine x_isi (b := false) ?_ (.base .non) (by decide +kernel)
    walk_at "s"
    refine x_isi (b := false) ?_ (.base .non) (by decide +kernel)
    walk_at "s"
    refine x_isi (b := false) ?_ (.base .non) (by decide +kernel)
    walk_at "s"
    intro e2 he2
    walk_at "s"
    have f := upd_none he2
    refine x_eqD (d := .list [.bool true, .bool false, .bool false, .bool false]) (e := .list [.bool true, .bool false, .bool false, .bool false]) ?_ (.lst (SqL.of upd_same) (.cons (.bl true) (.cons (.bl false) (.cons (.bl false) (.cons (.bl false) .nil))))) (.lst (SqL.of ((upd_ne f.1.symm).trans upd_same)) (.cons (.bl true) (.cons (.bl false) (.cons (.bl false) (.cons (.bl false) .nil))))) rfl rfl
    refine ⟨true, rfl, x_ifT rfl ?_⟩
    walk_at "s"
    refine x_eqD (d := .none) (e := .none) ?_ .non .non rfl rfl
    exact k _ (Same.tr (Same.new he) (Same.new he2))
  · refine x_ifF (decide_eq_false (by simp)) ?_
    walk_at "s"
    intro p0 hp0
    refine x_isi2 (b := true) (b' := false) ?_ upd_same (.base (.int i)) (by decide +kernel) (by decide +kernel)
    walk_at "s"
    refine x_ifT rfl ?_
    walk_at "s"
    refine x_isi (b := false) ?_ (.base (.int i)) (by decide +kernel)
    walk_at "s"
    refine x_isi (b := true) ?_ (.base (.int i)) (by decide +kernel)
    walk_at "s"
    refine x_isi (b := false) ?_ (.base (.int i)) (by decide +kernel)
    walk_at "s"
    intro e he
    walk_at "s"
    refine x_isi (b := false) ?_ (.base (.int i)) (by decide +kernel)
    walk_at "s"
    refine x_isi (b := true) ?_ (.base (.int i)) (by decide +kernel)
    walk_at "s"
    refine x_isi (b := false) ?_ (.base (.int i)) (by decide +kernel)
    walk_at "s"
    intro e2 he2
    walk_at "s"
    have f := upd_none he2
    refine x_eqD (d := .list [.bool false, .bool false, .bool true, .bool false]) (e := .list [.bool false, .bool false, .bool true, .bool false]) ?_ (.lst (SqL.of upd_same) (.cons (.bl false) (.cons (.bl false) (.cons (.bl true) (.cons (.bl false) .nil))))) (.lst (SqL.of ((upd_ne f.1.symm).trans upd_same)) (.cons (.bl false) (.cons (.bl false) (.cons (.bl true) (.cons (.bl false) .nil))))) rfl rfl
    refine ⟨true, rfl, x_ifT rfl ?_⟩
    walk_at "s"
    rw [decide_eq_true rfl]
    exact k _ (Same.tr (Same.new hp0) (Same.tr (Same.new he) (Same.new he2)))
  · refine x_ifF (decide_eq_false (by simp)) ?_
    walk_at "s"
    intro p0 hp0
    refine x_isi2 (b := false) (b' := true) ?_ upd_same (.base (.str z)) (by decide +kernel) (by decide +kernel)
    walk_at "s"
    refine x_ifT rfl ?_
    walk_at "s"
    refine x_isi (b := false) ?_ (.base (.str z)) (by decide +kernel)
    walk_at "s"
    refine x_isi (b := false) ?_ (.base (.str z)) (by decide +kernel)
    walk_at "s"
    refine x_isi (b := true) ?_ (.base (.str z)) (by decide +kernel)
    walk_at "s"
    intro e he
    walk_at "s"
    refine x_isi (b := false) ?_ (.base (.str z)) (by decide +kernel)
    walk_at "s"
    refine x_isi (b := false) ?_ (.base (.str z)) (by decide +kernel)
    walk_at "s"
    refine x_isi (b := true) ?_ (.base (.str z)) (by decide +kernel)
    walk_at "s"
    intro e2 he2
    walk_at "s"
    have f := upd_none he2
    refine x_eqD (d := .list [.bool false, .bool false, .bool false, .bool true]) (e := .list [.bool false, .bool false, .bool false, .bool true]) ?_ (.lst (SqL.of upd_same) (.cons (.bl false) (.cons (.bl false) (.cons (.bl false) (.cons (.bl true) .nil))))) (.lst (SqL.of ((upd_ne f.1.symm).trans upd_same)) (.cons (.bl false) (.cons (.bl false) (.cons (.bl false) (.cons (.bl true) .nil))))) rfl rfl
    refine ⟨true, rfl, x_ifT rfl ?_⟩
    walk_at "s"
    rw [decide_eq_true rfl]
    exact k _ (Same.tr (Same.new hp0) (Same.tr (Same.new he) (Same.new he2)))
  · refine x_ifF (decide_eq_false (by simp)) ?_
    walk_at "s"
    intro p0 hp0
    walk_at "s"
    rcases hS with ⟨h1, h2⟩ | ⟨h1, h2⟩
    · have s0 : Same H (upd H p0 (.tup [.ty "int", .ty "str"])) := Same.new hp0
      have t1 := tyX_same s0 (tyL_of h1)
      have t2 := tyX_same s0 (tyL_of h2)
      refine x_isi2 (b := false) (b' := false) ?_ upd_same t2 (by decide +kernel) (by decide +kernel)
      walk_at "s"
      refine x_ifF rfl ?_
      walk_at "s"
      refine x_isi (b := false) ?_ t2 (by decide +kernel)
      walk_at "s"
      refine x_ifF rfl ?_
      walk_at "s"
      refine x_isi (b := true) ?_ t1 (by decide +kernel)
      walk_at "s"
      refine x_isi (b := true) ?_ t2 (by decide +kernel)
      walk_at "s"
      refine x_neD (d := .bool true) (e := .bool true) ?_ (.bl _) (.bl _) rfl rfl
      refine ⟨_, rfl, x_ifF rfl ?_⟩
      walk_at "s"
      refine x_isi (b := false) ?_ t1 (by decide +kernel)
      walk_at "s"
      refine x_isi (b := false) ?_ t2 (by decide +kernel)
      walk_at "s"
      refine x_neD (d := .bool false) (e := .bool false) ?_ (.bl _) (.bl _) rfl rfl
      refine ⟨_, rfl, x_ifF rfl ?_⟩
      walk_at "s"
      intro p1 hp1
      walk_at "s"
      refine x_isi2 (b := true) (b' := false) ?_ upd_same (tyX_same (Same.new hp1) t1) (by decide +kernel) (by decide +kernel)
      walk_at "s"
      refine x_ifF rfl ?_
      walk_at "s"
      have s2 : Same H (upd (upd H p0 (.tup [.ty "int", .ty "str"])) p1 (.tup [.ty "list", .ty "tuple"])) := Same.tr s0 (Same.new hp1)
      have h1 := Same.seq s2 h1
      have h2 := Same.seq s2 h2
      refine x_lenL ?_ h1
      walk_at "s"
      refine x_lenL ?_ h2
      walk_at "s"
      refine x_ifT (decide_eq_true (by rw [hlen])) ?_
      walk_at "s"
      refine x_lcRm (n := ys.length) (fun _ => false) id (fun R r => ?_) ?_ ?_ (fun j hj H' R sm r => ?_) (fun j hj hb => by cases hb) (fun D H' hD sm hd => ?_)
      · walk_at "s"
        refine x_lenL ?_ h2
        walk_at "s"
        exact r
      · rw [sizeLine_eq]; omega
      · omega
      · have hx : xs[j]? = some xs[j] := List.getElem?_eq_getElem (by omega)
        have hy : ys[j]? = some ys[j] := List.getElem?_eq_getElem hj
        walk_at "s"
        refine x_ixL ?_ (Same.seq sm h1) hx
        walk_at "s"
        refine x_ixL ?_ (Same.seq sm h2) hy
        walk_at "s"
        refine sp2_i ⟨Lk.same (Same.tr s2 sm) (hc _ _ _ hx hy), fun H'' s3 => ⟨true, rfl, ?_⟩⟩
        exact r H'' s3
      · walk_at "s"
        intro e he
        have hd : H' D = some (.lst []) := by
          rw [hd]
          simp
        refine x_eqNil (zs := []) ?_ (SqL.of ((upd_ne (fun z => by subst z; rw [hd] at he; cases he)).trans hd)) (SqL.of upd_same) rfl
        exact k _ (Same.tr s2 (Same.tr sm (Same.new he)))
    · have s0 : Same H (upd H p0 (.tup [.ty "int", .ty "str"])) := Same.new hp0
      have t1 := tyX_same s0 (tyT_of h1)
      have t2 := tyX_same s0 (tyT_of h2)
      refine x_isi2 (b := false) (b' := false) ?_ upd_same t2 (by decide +kernel) (by decide +kernel)
      walk_at "s"
      refine x_ifF rfl ?_
      walk_at "s"
      refine x_isi (b := false) ?_ t2 (by decide +kernel)
      walk_at "s"
      refine x_ifF rfl ?_
      walk_at "s"
      refine x_isi (b := false) ?_ t1 (by decide +kernel)
      walk_at "s"
      refine x_isi (b := false) ?_ t2 (by decide +kernel)
      walk_at "s"
      refine x_neD (d := .bool false) (e := .bool false) ?_ (.bl _) (.bl _) rfl rfl
      refine ⟨_, rfl, x_ifF rfl ?_⟩
      walk_at "s"
      refine x_isi (b := true) ?_ t1 (by decide +kernel)
      walk_at "s"
      refine x_isi (b := true) ?_ t2 (by decide +kernel)
      walk_at "s"
      refine x_neD (d := .bool true) (e := .bool true) ?_ (.bl _) (.bl _) rfl rfl
      refine ⟨_, rfl, x_ifF rfl ?_⟩
      walk_at "s"
      intro p1 hp1
      walk_at "s"
      refine x_isi2 (b := false) (b' := true) ?_ upd_same (tyX_same (Same.new hp1) t1) (by decide +kernel) (by decide +kernel)
      walk_at "s"
      refine x_ifF rfl ?_
      walk_at "s"
      have s2 : Same H (upd (upd H p0 (.tup [.ty "int", .ty "str"])) p1 (.tup [.ty "list", .ty "tuple"])) := Same.tr s0 (Same.new hp1)
      have h1 := seqT s2 h1
      have h2 := seqT s2 h2
      refine x_lenT ?_ h1
      walk_at "s"
      refine x_lenT ?_ h2
      walk_at "s"
      refine x_ifT (decide_eq_true (by rw [hlen])) ?_
      walk_at "s"
      refine x_lcRm (n := ys.length) (fun _ => false) id (fun R r => ?_) ?_ ?_ (fun j hj H' R sm r => ?_) (fun j hj hb => by cases hb) (fun D H' hD sm hd => ?_)
      · walk_at "s"
        refine x_lenT ?_ h2
        walk_at "s"
        exact r
      · rw [sizeLine_eq]; omega
      · omega
      · have hx : xs[j]? = some xs[j] := List.getElem?_eq_getElem (by omega)
        have hy : ys[j]? = some ys[j] := List.getElem?_eq_getElem hj
        walk_at "s"
        refine x_ixT ?_ (seqT sm h1) hx
        walk_at "s"
        refine x_ixT ?_ (seqT sm h2) hy
        walk_at "s"
        refine sp2_i ⟨Lk.same (Same.tr s2 sm) (hc _ _ _ hx hy), fun H'' s3 => ⟨true, rfl, ?_⟩⟩
        exact r H'' s3
      · walk_at "s"
        intro e he
        have hd : H' D = some (.lst []) := by
          rw [hd]
          simp
        refine x_eqNil (zs := []) ?_ (SqL.of ((upd_ne (fun z => by subst z; rw [hd] at he; cases he)).trans hd)) (SqL.of upd_same) rfl
        exact k _ (Same.tr s2 (Same.tr sm (Same.new he)))
theorem lk_none {n : Nat} {vs : List V} {H : Hp} {Q : VK} {E : XK} (h : sp_law_like K 0 vs H Q E) : False := by
  obtain ⟨a, b, _, h, _⟩ := h
  exact h
theorem ok_law_like (T : Txt P K mg) : ∀ n, Ok P w K mg base (n + 2) "_law_like" ["got", "due"] (sp_law_like K n)
  | 0 => ⟨fun _ _ _ _ h => (lk_none (n := 0) h).elim, fun _ _ _ _ _ _ _ _ _ _ _ _ _ h => (lk_none (n := 0) h).elim⟩
  | n + 1 => step_law_like T (ok_law_like T n)
end
end K00

set_option maxHeartbeats 4000000
namespace K00
open PySem PySem.Spec PyProof.Rows L2 EL
open SX (S)
open TL (numL)
open PySem.NumText (digitsVal AllDigits)
/-! ### number texts, pure -/
theorem txI_nat (n : Nat) : txI (n : Int) = S (numL n) := TL.ext_tl (TL.tl_num n)
theorem val_zeros (z : Nat) (l : List Nat) : digitsVal (List.replicate z 48 ++ l) = digitsVal l := by
  induction z with
  | zero => rfl
  | succ z ih => exact ih
theorem figs_zeros (z n : Nat) : figs (List.replicate z 48 ++ numL n) = true := by
  unfold figs
  rw [Bool.and_eq_true]
  refine ⟨by simp [TL.numL_ne], ?_⟩
  rw [List.all_eq_true]
  intro c hc
  rcases List.mem_append.mp hc with h | h
  · rw [(List.mem_replicate.mp h).2]
    rfl
  · have := TL.numL_digits n c h
    unfold isFig
    rw [Bool.and_eq_true]
    exact ⟨decide_eq_true this.1, decide_eq_true this.2⟩
def mns (m : Bool) : List Nat := if m = true then [45] else []
theorem sgn_word (m : Bool) (z n : Nat) : sgnFig (mns m ++ (List.replicate z 48 ++ numL n)) = some (if m = true then -(n : Int) else (n : Int)) := by
  have hv : digitsVal (List.replicate z 48 ++ numL n) = n := by rw [val_zeros, TL.numL_val]
  have hf := figs_zeros z n
  cases m with
  | true =>
    show (if figs (List.replicate z 48 ++ numL n) = true then some (-((digitsVal (List.replicate z 48 ++ numL n) : Nat) : Int)) else none) = _
    rw [if_pos hf, hv]
    rfl
  | false =>
    show sgnFig (List.replicate z 48 ++ numL n) = _
    rw [sgnFig_eq]
    have hh : ((List.replicate z 48 ++ numL n).head? == some 45) = false := by
      have : ∀ l : List Nat, figs l = true → (l.head? == some 45) = false := by
        intro l hl
        have := figs_all hl
        cases l with
        | nil => rfl
        | cons c l =>
          have := this.1 c List.mem_cons_self
          simp
          omega
      exact this _ hf
    rw [hh]
    show (if figs (List.replicate z 48 ++ numL n) = true then some ((digitsVal (List.replicate z 48 ++ numL n) : Nat) : Int) else none) = _
    rw [if_pos hf, hv]
    rfl
theorem no47 (m : Bool) (z n : Nat) : 47 ∉ mns m ++ (List.replicate z 48 ++ numL n) := by
  intro h
  rcases List.mem_append.mp h with h | h
  · cases m with
    | true => exact absurd h (by decide)
    | false => cases h
  · rcases List.mem_append.mp h with h | h
    · exact absurd (List.mem_replicate.mp h).2 (by decide)
    · exact TL.numL_free (s := 47) (Or.inl (by decide)) h
theorem low_one (t : Int) : low t 1 = (t, 1) := by
  rw [low_pos (by decide)]
  have : Nat.gcd t.natAbs (1 : Int).natAbs = 1 := Nat.gcd_one_right _
  rw [this]
  simp
theorem low_mul (t d k : Int) (hk : 0 < k) (hd : 0 < d) : low (t * k) (d * k) = low t d := by
  rw [low_pos (Int.mul_pos hd hk), low_pos hd]
  have hg := gcd_pos (t := t) (d := d) (by omega)
  have e : ((Nat.gcd (t * k).natAbs (d * k).natAbs : Nat) : Int) = ((Nat.gcd t.natAbs d.natAbs : Nat) : Int) * k := by
    rw [Int.natAbs_mul, Int.natAbs_mul, Nat.gcd_mul_right, Int.natCast_mul, Int.natAbs_of_nonneg (by omega)]
  rw [e, Int.fdiv_eq_ediv_of_nonneg _ (by exact Int.le_of_lt (Int.mul_pos (by omega) hk)), Int.fdiv_eq_ediv_of_nonneg _ (by exact Int.le_of_lt (Int.mul_pos (by omega) hk)), Int.mul_ediv_mul_of_pos_left _ _ hk, Int.mul_ediv_mul_of_pos_left _ _ hk,
    Int.fdiv_eq_ediv_of_nonneg _ (by omega), Int.fdiv_eq_ediv_of_nonneg _ (by omega)]
theorem numT_int (m : Bool) (z n : Nat) : numT (mns m ++ (List.replicate z 48 ++ numL n)) = some (if m = true then -(n : Int) else (n : Int), 1) := by
  unfold numT
  rw [SX.par_head_none (no47 m z n)]
  show Option.map _ (sgnFig _) = _
  rw [sgn_word]
  exact congrArg some (low_one _)
theorem par_word (m : Bool) (z n : Nat) (q : List Nat) : TL.par [47] [] ((mns m ++ (List.replicate z 48 ++ numL n)) ++ 47 :: q) = some (mns m ++ (List.replicate z 48 ++ numL n), q) := SX.par_head q (no47 m z n)
theorem numT_frac (m : Bool) (z z' n k : Nat) (hk : k ≠ 0) : numT ((mns m ++ (List.replicate z 48 ++ numL n)) ++ 47 :: (List.replicate z' 48 ++ numL k)) = some (low (if m = true then -(n : Int) else (n : Int)) (k : Int)) := by
  unfold numT
  rw [par_word]
  show (match sgnFig _ with | none => none | some v => _) = _
  rw [sgn_word]
  have hv : digitsVal (List.replicate z' 48 ++ numL k) = k := by rw [val_zeros, TL.numL_val]
  show (if figs _ = true then (if digitsVal _ = 0 then none else some (low _ ((digitsVal _ : Nat) : Int))) else none) = _
  rw [if_pos (figs_zeros z' k), hv, if_neg hk]
theorem sgn_abs {m : Bool} {t : Int} (m1 : m = true → t ≤ 0) (m2 : m = false → 0 ≤ t) : (if m = true then -(t.natAbs : Int) else (t.natAbs : Int)) = t := by
  cases m with
  | true => have := m1 rfl; rw [if_pos rfl]; omega
  | false => have := m2 rfl; rw [if_neg Bool.false_ne_true]; omega
theorem worn_int {m : Bool} {t : Int} (z : Nat) (m1 : m = true → t ≤ 0) (m2 : m = false → 0 ≤ t) : numT (mns m ++ (List.replicate z 48 ++ numL t.natAbs)) = some (t, 1) := by
  rw [numT_int, sgn_abs m1 m2]
theorem worn_frac {m : Bool} {t d : Int} {k : Nat} (z z' : Nat) (m1 : m = true → t ≤ 0) (m2 : m = false → 0 ≤ t) (hd : 0 < d) (hk : 1 ≤ k) (hl : low t d = (t, d)) :
    numT ((mns m ++ (List.replicate z 48 ++ numL (t.natAbs * k))) ++ 47 :: (List.replicate z' 48 ++ numL (d.natAbs * k))) = some (t, d) := by
  rw [numT_frac _ _ _ _ _ (by
    have := Nat.mul_pos (show 0 < d.natAbs by omega) (show 0 < k by omega)
    omega)]
  have e1 : (if m = true then -((t.natAbs * k : Nat) : Int) else ((t.natAbs * k : Nat) : Int)) = t * (k : Int) := by
    have := sgn_abs m1 m2
    conv => rhs; rw [← this]
    rw [Int.natCast_mul]
    cases m with
    | true => rw [if_pos rfl, if_pos rfl, Int.neg_mul]
    | false => rw [if_neg Bool.false_ne_true, if_neg Bool.false_ne_true]
  have e2 : ((d.natAbs * k : Nat) : Int) = d * (k : Int) := by
    rw [Int.natCast_mul, Int.natAbs_of_nonneg (by omega)]
  rw [e1, e2, low_mul t d k (by omega) hd, hl]
theorem lt_of_log {a k : Nat} (h : a.log2 < k) : a < 2 ^ k := by
  by_cases h0 : a = 0
  · subst h0; exact Nat.two_pow_pos k
  · exact (Nat.log2_lt h0).mp h
theorem log_of_lt {a k : Nat} (hk : 0 < k) (h : a < 2 ^ k) : a.log2 < k := by
  by_cases h0 : a = 0
  · subst h0; exact hk
  · exact (Nat.log2_lt h0).mpr h
theorem mul3 {a k : Nat} (h : a.log2 < 1000) (hk : k ≤ 3) : a * k < 2 ^ 1002 := by
  have h1 := lt_of_log h
  have h2 : a * k ≤ a * 3 := Nat.mul_le_mul_left a hk
  have h3 : (2 : Nat) ^ 1002 = 2 ^ 1000 * 4 := by rw [show (1002 : Nat) = 1000 + 2 from rfl, Nat.pow_add]
  omega
theorem numL_short {a : Nat} (h : a < 2 ^ 1002) : (numL a).length ≤ 400 := TL.numL_len (by decide) (Nat.lt_trans h (by decide +kernel))
end K00

set_option maxHeartbeats 4000000
namespace K00
open PySem PySem.Spec PyProof.Rows L2 EL
open SX (S)
open TL (numL)
open PySem.NumText (digitsVal AllDigits)
local macro_rules | `(tactic| walk_at "s1") => `(tactic| with_reducible first
  | refine x_seq ?_ | refine x_asg ?_ | refine x_op ?_ | refine x_c ?_ | refine x_gName ?_ | refine x_ifS ?_ | refine x_ret ?_ | refine x_test ?_ | refine x_bl ?_
  | refine x_I0 ?_ | refine x_addI ?_ | refine x_mulI ?_ ?_ | refine x_fdiv ?_ ?_ | refine x_mod ?_ ?_ | refine x_un ?_ | refine x_rU ?_ | refine x_pow ?_ ?_
  | refine x_eqI' ?_ | refine x_neI' ?_ | refine x_eqS' ?_ | refine x_neS' ?_
  | refine x_cons ?_ | refine x_nil ?_ | refine x_tup ?_ | refine x_lst ?_ | refine x_callS ?_ | refine x_CB ?_ | refine x_par ?_ | refine x_two ?_
  | refine x_next ?_ | refine x_and ?_ | refine x_or ?_ | refine x_not ?_ | refine x_andV ?_ | refine x_orV ?_ | refine x_notV ?_ | refine x_ex ?_ | refine x_ifE ?_ | refine x_tB ?_ | refine x_retN ?_ | refine x_drop ?_ | refine x_brk ?_ | refine x_cont ?_
  | refine x_intI ?_ | refine x_abs ?_ | refine x_gcd ?_ | refine x_str ?_ ?_ | refine x_sz ?_ | refine x_isN ?_ | refine x_notN ?_ | refine x_sl ?_ | refine x_noPart ?_ | refine x_part ?_ | refine x_exI ?_ | refine x_slS ?_ ?_ | refine x_gSub ?_ | refine x_inS ?_ | refine x_notinS ?_ | refine x_yes ?_ | refine x_m1 ?_ | refine x_m1' ?_ | refine x_ms ?_ | refine x_chain ?_ | refine x_callK ?_ | refine x_callSD ?_ | refine x_ifT' ?_ | refine x_newE ?_ | refine x_gCons ?_ | refine x_gNil ?_ | refine x_gTupU rfl ?_ | refine x_ifX ?_)
local macro_rules | `(tactic| walk_at "side") => `(tactic| with_reducible first | decide | (refine mul_left ?_ ?_ <;> omega) | (refine mul_right ?_ ?_ <;> omega) | (refine div_of ?_ ?_ <;> first | omega | assumption | decide +kernel) | omega | assumption)
local macro_rules | `(tactic| walk_at "s") => `(tactic| repeat (first | walk_at "s1" | ((with_reducible apply x_var); (· exact rfl)) | ((with_reducible apply x_ixU); (· exact rfl)) | ((with_reducible apply x_ixTU); (· exact rfl)) | ((with_reducible apply x_setU); (· exact rfl)) | ((with_reducible apply x_all); (· exact SqL.of upd_same))))
/-! ### what the draws leave as it was -/
/-- the same but for the jar -/
def JAt (H : Hp) (j c : Addr) : Prop := ∃ ys, H j = some (.lst (.ref c :: ys))
def JS (j : Addr) (H H' : Hp) : Prop := (∀ b o, b ≠ j → H b = some o → H' b = some o) ∧ Jar H' j ∧ ∀ c, JAt H j c → JAt H' j c
theorem Jar.at {H : Hp} {j : Addr} (h : Jar H j) : ∃ (c : Addr) (ns : List Int), JAt H j c ∧ c ≠ j ∧ H c = some (.lst (ns.map V.int)) := by
  obtain ⟨xs, hj, c, ns, i1, i2, i3, i4, i5, e, h1, h2, _⟩ := h
  subst e
  exact ⟨c, ns, ⟨_, hj⟩, h1, h2⟩
theorem JAt.inj {H : Hp} {j c c' : Addr} (h : JAt H j c) (h' : JAt H j c') : c = c' := by
  obtain ⟨ys, h⟩ := h
  obtain ⟨zs, h'⟩ := h'
  rw [h] at h'
  cases h'
  rfl
/-- the jar stays where its two objects stay -/
theorem Jar.of {H H' : Hp} {j c : Addr} (h : Jar H j) (hc : JAt H j c) (e1 : ∀ o, H j = some o → H' j = some o) (e2 : ∀ o, H c = some o → H' c = some o) : Jar H' j := by
  obtain ⟨xs, hj, c', ns, i1, i2, i3, i4, i5, e, h1, h2, h3, h4, h5, h6, _⟩ := h
  subst e
  have : c = c' := JAt.inj hc ⟨_, hj⟩
  subst this
  exact ⟨_, e1 _ hj, c, ns, i1, i2, i3, i4, i5, rfl, h1, e2 _ h2, h3, h4, h5, h6, jar_self (e1 _ hj)⟩
theorem Jar.same {H H' : Hp} {j : Addr} (h : Jar H j) (e : Same H H') : Jar H' j := by
  obtain ⟨c, ns, hc, _⟩ := h.at
  exact h.of hc (fun o => e j o) (fun o => e c o)
theorem Jar.new {H : Hp} {j D : Addr} {o : HO} (h : Jar H j) (hD : H D = none) : Jar (upd H D o) j := h.same (Same.new hD)
theorem JS.tr {j : Addr} {H H1 H2 : Hp} (a : JS j H H1) (b : JS j H1 H2) : JS j H H2 := ⟨fun x o hx h => b.1 x o hx (a.1 x o hx h), b.2.1, fun c h => b.2.2 c (a.2.2 c h)⟩
theorem JAt.same {H H1 : Hp} {j c : Addr} (h : JAt H j c) (e : Same H H1) : JAt H1 j c := by
  obtain ⟨ys, h⟩ := h
  exact ⟨ys, e _ _ h⟩
theorem JS.same {j : Addr} {H H1 : Hp} (hj : Jar H j) (e : Same H H1) : JS j H H1 := ⟨fun x o _ h => e x o h, hj.same e, fun c h => h.same e⟩
theorem JS.sameR {j : Addr} {H H1 H2 : Hp} (a : JS j H H1) (e : Same H1 H2) : JS j H H2 := a.tr (JS.same a.2.1 e)
/-- an object that is new behind H changes -/
theorem JS.mut {j D : Addr} {H H1 : Hp} {o : HO} (hj : Jar H j) (a : JS j H H1) (hD : H D = none) : JS j H (upd H1 D o) := by
  obtain ⟨c, ns, hc, h1, h2⟩ := hj.at
  have nD : c ≠ D := ne_of_none h2 hD
  have nj : j ≠ D := by
    obtain ⟨ys, z⟩ := hc
    exact ne_of_none z hD
  have hc1 := a.2.2 c hc
  refine ⟨fun b u hb e => by rw [upd_ne (ne_of_none e hD)]; exact a.1 b u hb e, a.2.1.of hc1 (fun o e => by rw [upd_ne nj]; exact e) (fun o e => by rw [upd_ne nD]; exact e), fun c' h => ?_⟩
  obtain ⟨ys, z⟩ := a.2.2 c' h
  exact ⟨ys, by rw [upd_ne nj]; exact z⟩
theorem JS.new {j D : Addr} {H H1 : Hp} {o : HO} (a : JS j H H1) (hD : H1 D = none) : JS j H (upd H1 D o) := a.sameR (Same.new hD)
theorem JS.draw {j : Addr} {H : Hp} {xs : List V} (h : JarL H j xs) : JS j H (upd H j (.lst xs)) := ⟨fun b o hb h => (upd_ne hb).trans h, jar_next h, fun c' h' => by
  obtain ⟨c, ns, i1, i2, i3, i4, i5, e, h1, h2, h3, h4, h5, h6, hh⟩ := h
  obtain ⟨ys, z⟩ := h'
  have := hh _ z
  subst e
  have e : c' = c := by simpa using this
  subst e
  exact ⟨_, upd_same⟩⟩
theorem JS.at {j b : Addr} {H H1 : Hp} {o : HO} (a : JS j H H1) (h : H b = some o) (hb : b ≠ j) : H1 b = some o := a.1 b o hb h
theorem Jar.ne {j b : Addr} {H : Hp} {xs : List V} (h : Jar H j) (hb : H b = some (.tup xs)) : b ≠ j := by
  rintro rfl
  obtain ⟨ys, hj, _⟩ := h
  rw [hb] at hj
  cases hj
section
variable {P : Program} {w : World} {K : PySem.W.Frag} {mg : Str → Option Value} {base : Heap}
def sp_law_word : Sp := sp1 fun a H Q _ => ∃ (p : Addr) (t d : Int), a = .ref p ∧ H p = some (.tup [.int t, .int d]) ∧ t.natAbs.log2 < 1900 ∧ d.natAbs.log2 < 1900 ∧ Q (.str (wordT (t, d))) H
abbrev N_law_word : List Str := ["frac"]
theorem sc_law_word : FnScope N_law_word ["frac"] (defScope st_law_word) := ⟨rfl, rfl, rfl, by decide +kernel, rfl, by decide +kernel, by decide +kernel⟩
theorem b_law_word (T : Txt P K mg) : Binds K (fdOf K "_law_word") ["frac"] [] := T.F_law_word.bindsN fun _ _ _ _ _ _ us hl => match us, hl with | [_], _ => rfl
theorem ok_law_word (T : Txt P K mg) : Ok P w K mg base 2 "_law_word" ["frac"] sp_law_word := by
  refine T.F_law_word.ok sc_law_word sp1_len (fun cdv A outer s H vs Q E hr h => ?_)
  obtain ⟨a0, rfl, h⟩ := h
  refine ⟨_, (pss_one (ps_ret (pe_ifExp (pt_cmpR (opK_eq (K := K) rfl hr.units) (pe_ix (ixK (K := K) rfl) (pv 0) pe_int (fun _ _ => rfl)) pe_int (nomark _)) (pe_callTy callA_str rfl T.f_str (by decide +kernel) (pa_cons (pe_ix (ixK (K := K) rfl) (pv 0) pe_int (fun _ _ => rfl)) pa_nil)) (pe_op opA_add (pe_op opA_add (pe_callTy callA_str rfl T.f_str (by decide +kernel) (pa_cons (pe_ix (ixK (K := K) rfl) (pv 0) pe_int (fun _ _ => rfl)) pa_nil)) pe_str) (pe_callTy callA_str rfl T.f_str (by decide +kernel) (pa_cons (pe_ix (ixK (K := K) rfl) (pv 0) pe_int (fun _ _ => rfl)) pa_nil)))))), ?_⟩
  try dsimp only [cxOf, List.map]
  obtain ⟨p, t, d, rfl, hp, ht, hd, k⟩ := h
  walk_at "s"
  refine x_ixT (n := 1) (v := .int d) ?_ (SqT.of hp) rfl
  walk_at "s"
  have l1 := txI_len ht
  have l2 := txI_len hd
  have h2 : (Str.ofString "/").length = 1 := rfl
  refine x_if _ (fun e => ?_) (fun e => ?_)
  · have e := of_decide_eq_true e
    walk_at "s"
    refine x_ixT (n := 0) (v := .int t) ?_ (SqT.of hp) rfl
    walk_at "s"
    · unfold wordT at k
      rw [if_pos e] at k
      exact k
    · omega
  · have e := of_decide_eq_false e
    walk_at "s"
    refine x_ixT (n := 0) (v := .int t) ?_ (SqT.of hp) rfl
    walk_at "s"
    rotate_left
    · omega
    refine x_addS (short_line ?_) ?_
    · show (txI t).length + _ ≤ _
      omega
    walk_at "s"
    refine x_ixT (n := 1) (v := .int d) ?_ (SqT.of hp) rfl
    walk_at "s"
    rotate_left
    · omega
    refine x_addS (short_line ?_) ?_
    · rw [str_app]
      show (txI t).length + _ + (txI d).length ≤ _
      omega
    unfold wordT at k
    rw [if_neg e] at k
    exact k
theorem x_addT {H : Hp} {Q : VK} {a b : List Nat} (h : a.length + b.length ≤ 4000) (q : Q (.str (S (a ++ b))) H) : rAddA (.str (S a)) (.str (S b)) H Q := by
  refine x_addS (short_line ?_) ?_
  · rw [S_length, S_length]
    omega
  rw [SX.S_cat]
  exact q
theorem str_abs {t : Int} : (if t < 0 then -t else t) = (t.natAbs : Int) := by split <;> omega
theorem nat_txt (n : Nat) : Str.ofString (toString (n : Int)) = S (numL n) := txI_nat n
def sp_law_worn_word : Sp := sp2 fun a b H Q _ => ∃ (j p : Addr) (t d : Int), a = .ref j ∧ b = .ref p ∧ Jar H j ∧ H p = some (.tup [.int t, .int d]) ∧ low t d = (t, d) ∧ 0 < d ∧ t.natAbs.log2 < 1000 ∧ d.natAbs.log2 < 1000 ∧
  ∀ l H', JS j H H' → l.length ≤ 4000 → (∀ p q, TL.par [47] [] l = some (p, q) → digitsVal q < 2 ^ 8000) → numT l = some (t, d) → Q (.str (S l)) H'
abbrev N_law_worn_word : List Str := ["jar", "frac", "by", "zeros", "minus"]
theorem sc_law_worn_word : FnScope N_law_worn_word ["jar", "frac"] (defScope st_law_worn_word) := ⟨rfl, rfl, rfl, by decide +kernel, rfl, by decide +kernel, by decide +kernel⟩
theorem b_law_worn_word (T : Txt P K mg) : Binds K (fdOf K "_law_worn_word") ["jar", "frac"] [] := T.F_law_worn_word.bindsN fun _ _ _ _ _ _ us hl => match us, hl with | [_, _], _ => rfl
theorem ok_law_worn_word (T : Txt P K mg) : Ok P w K mg base 4 "_law_worn_word" ["jar", "frac"] sp_law_worn_word := by
  have G_law_pick := ok_law_pick (P := P) (w := w) (base := base) T
  have G_law_draw := ok_law_draw (P := P) (w := w) (base := base) T
  refine T.F_law_worn_word.ok sc_law_worn_word sp2_len (fun cdv A outer s H vs Q E hr h => ?_)
  obtain ⟨a0, a1, rfl, h⟩ := h
  refine ⟨_, (pss_cons (ps_set (i := 2) sc_law_worn_word.nd rfl (Or.inl rfl) (pe_callS G_law_pick (hr.mono (by decide)) rfl T.g_law_pick T.k_law_pick (b_law_pick T) (fun σ => L2N.passAt (L2N.takes_of rfl rfl rfl rfl) σ) (pa_cons (pv 0) (pa_cons (pe_lst (pa_cons pe_int (pa_cons pe_int (pa_cons pe_int (pa_cons pe_int pa_nil))))) pa_nil))))
  (pss_cons (ps_set (i := 3) sc_law_worn_word.nd rfl (Or.inl rfl) (pe_callS G_law_pick (hr.mono (by decide)) rfl T.g_law_pick T.k_law_pick (b_law_pick T) (fun σ => L2N.passAt (L2N.takes_of rfl rfl rfl rfl) σ) (pa_cons (pv 0) (pa_cons (pe_lst (pa_cons pe_str (pa_cons pe_str (pa_cons pe_str (pa_cons pe_str pa_nil))))) pa_nil))))
  (C8.pss_cut (ps_set (i := 4) sc_law_worn_word.nd rfl (Or.inl rfl) (pe_ifExp (PW.pt (pw_or (pt_cmpR op_lt (pe_ix (ixK (K := K) rfl) (pv 1) pe_int (fun _ _ => rfl)) pe_int (nomark _)) (pw_or1 (PW.pt (pw_and (pt_cmpR (opK_eq (K := K) rfl hr.units) (pe_ix (ixK (K := K) rfl) (pv 1) pe_int (fun _ _ => rfl)) pe_int (nomark _)) (pw_and1 (pt_cmpR (opK_eq (K := K) rfl hr.units) (pv 3) pe_str (nomark _)))))))) pe_str pe_str))
  (C8.pss_cut (ps_if (PW.pt (pw_and (pt_cmpR (opK_eq (K := K) rfl hr.units) (pe_ix (ixK (K := K) rfl) (pv 1) pe_int (fun _ _ => rfl)) pe_int (nomark _)) (pw_and1 (pt_cmpR op_gt (pe_callS G_law_draw (hr.mono (by decide)) rfl T.g_law_draw T.k_law_draw (b_law_draw T) (fun σ => L2N.passAt (L2N.takes_of rfl rfl rfl rfl) σ) (pa_cons (pv 0) (pa_cons pe_int pa_nil))) pe_int (nomark _))))) (pss_one (ps_ret (pe_op opA_add (pe_op opA_add (pv 4) (pv 3)) (pe_callTy callA_str rfl T.f_str (by decide +kernel) (pa_cons (pe_callB callA_abs rfl T.f_abs (by decide +kernel) (pa_cons (pe_ix (ixK (K := K) rfl) (pv 1) pe_int (fun _ _ => rfl)) pa_nil)) pa_nil))))) pss_nil)
  (pss_one (ps_ret (pe_op opA_add (pe_op opA_add (pe_op opA_add (pe_op opA_add (pe_op opA_add (pv 4) (pv 3)) (pe_callTy callA_str rfl T.f_str (by decide +kernel) (pa_cons (pe_op opA_mul (pe_callB callA_abs rfl T.f_abs (by decide +kernel) (pa_cons (pe_ix (ixK (K := K) rfl) (pv 1) pe_int (fun _ _ => rfl)) pa_nil)) (pv 2)) pa_nil))) pe_str) (pe_callS G_law_pick (hr.mono (by decide)) rfl T.g_law_pick T.k_law_pick (b_law_pick T) (fun σ => L2N.passAt (L2N.takes_of rfl rfl rfl rfl) σ) (pa_cons (pv 0) (pa_cons (pe_lst (pa_cons pe_str (pa_cons pe_str pa_nil))) pa_nil)))) (pe_callTy callA_str rfl T.f_str (by decide +kernel) (pa_cons (pe_op opA_mul (pe_ix (ixK (K := K) rfl) (pv 1) pe_int (fun _ _ => rfl)) (pv 2)) pa_nil))))))))), ?_⟩
  try dsimp only [cxOf, List.map]
  obtain ⟨j, p, t, d, rfl, rfl, hj, hp, hlow, hd, hbt, hbd, k⟩ := h
  have hpj := hj.ne hp
  walk_at "s"
  intro q1 hq1
  walk_at "s"
  refine sp2_i ⟨j, q1, _, rfl, rfl, hj.new hq1, upd_same, (fun z => by subst z; obtain ⟨_, z, _⟩ := hj; rw [z] at hq1; cases hq1), by simp, by simp, fun v xs hv hx => ?_⟩
  have s1 : JS j H _ := ((JS.same hj (fun _ _ h => h)).new hq1).tr (JS.draw hx)
  obtain ⟨by_, hby, h1, h3⟩ : ∃ k : Nat, v = .int (k : Int) ∧ 1 ≤ k ∧ k ≤ 3 := by
    rcases List.mem_cons.mp hv with rfl | hv
    · exact ⟨1, rfl, by decide, by decide⟩
    rcases List.mem_cons.mp hv with rfl | hv
    · exact ⟨1, rfl, by decide, by decide⟩
    rcases List.mem_cons.mp hv with rfl | hv
    · exact ⟨2, rfl, by decide, by decide⟩
    rcases List.mem_cons.mp hv with rfl | hv
    · exact ⟨3, rfl, by decide, by decide⟩
    · cases hv
  subst hby
  generalize hH1 : upd (upd H q1 _) j (.lst xs) = H1 at s1
  walk_at "s"
  intro q2 hq2
  walk_at "s"
  refine sp2_i ⟨j, q2, _, rfl, rfl, s1.2.1.new hq2, upd_same, (fun z => by subst z; obtain ⟨_, z, _⟩ := s1.2.1; rw [z] at hq2; cases hq2), by simp, by simp, fun v xs hv hx => ?_⟩
  have s2 : JS j H _ := (s1.new hq2).tr (JS.draw hx)
  obtain ⟨z, hz, hz3⟩ : ∃ z : Nat, v = .str (S (List.replicate z 48)) ∧ z ≤ 3 := by
    rcases List.mem_cons.mp hv with rfl | hv
    · exact ⟨0, rfl, by decide⟩
    rcases List.mem_cons.mp hv with rfl | hv
    · exact ⟨0, rfl, by decide⟩
    rcases List.mem_cons.mp hv with rfl | hv
    · exact ⟨1, rfl, by decide⟩
    rcases List.mem_cons.mp hv with rfl | hv
    · exact ⟨3, rfl, by decide⟩
    · cases hv
  subst hz
  generalize hH2 : upd (upd H1 q2 _) j (.lst xs) = H2 at s2
  have hp2 := s2.at hp hpj
  refine ⟨fun σ' H' => H' = H2 ∧ ∃ m : Bool, σ' = [some (.ref j), some (.ref p), some (.int (by_ : Int)), some (.str (S (List.replicate z 48))), some (.str (S (mns m)))] ∧ (m = true → t ≤ 0) ∧ (m = false → 0 ≤ t), ?_, ?_⟩
  · walk_at "s"
    refine x_ixT (n := 0) (v := .int t) ?_ (SqT.of hp2) rfl
    walk_at "s"
    refine x_if _ (fun e => ?_) (fun e => ?_)
    · refine x_ifT rfl ?_
      walk_at "s"
      exact ⟨rfl, true, rfl, fun _ => Int.le_of_lt (of_decide_eq_true e), fun z => by cases z⟩
    have e := of_decide_eq_false e
    walk_at "s"
    refine x_ixT (n := 0) (v := .int t) ?_ (SqT.of hp2) rfl
    walk_at "s"
    refine x_if _ (fun e2 => ?_) (fun e2 => ?_)
    · have e2 := of_decide_eq_true e2
      walk_at "s"
      refine x_if _ (fun e3 => ?_) (fun e3 => ?_)
      · walk_at "s"
        exact ⟨rfl, true, rfl, fun _ => by omega, fun z => by cases z⟩
      · walk_at "s"
        exact ⟨rfl, false, rfl, (fun z => by cases z), fun _ => by omega⟩
    · refine x_ifF rfl ?_
      walk_at "s"
      exact ⟨rfl, false, rfl, (fun z => by cases z), fun _ => by omega⟩
  rintro σ' H' ⟨rfl, m, rfl, m1, m2⟩
  clear hH2
  have l0 : (mns m).length ≤ 1 := by cases m <;> decide
  have l1 : (List.replicate z 48).length ≤ 3 := by rw [List.length_replicate]; exact hz3
  have bt := mul3 hbt h3
  have bd := mul3 hbd h3
  have bt1 : t.natAbs < 2 ^ 1002 := Nat.lt_of_le_of_lt (Nat.le_mul_of_pos_right _ (by omega)) bt
  have l2 := numL_short bt1
  have l3 := numL_short bt
  have l4 := numL_short bd
  have hsz : ∀ {l : List Nat}, l.length ≤ 3000 → (S l).length ≤ sizeLine := fun {l} h => by rw [S_length]; exact short_line (by omega)
  have ea : (if t < 0 then -t else t) = (t.natAbs : Int) := by split <;> omega
  refine ⟨fun σ' H3 => JS j H H3 ∧ σ' = [some (.ref j), some (.ref p), some (.int (by_ : Int)), some (.str (S (List.replicate z 48))), some (.str (S (mns m)))], ?_, ?_⟩
  · walk_at "s"
    refine x_ixT (n := 1) (v := .int d) ?_ (SqT.of hp2) rfl
    walk_at "s"
    refine x_if _ (fun e => ?_) (fun e => ?_)
    · have e := of_decide_eq_true e
      walk_at "s"
      refine sp2_i ⟨j, _, rfl, rfl, by decide, by decide, s2.2.1, fun dr xs _ _ hx => ?_⟩
      have s3 : JS j H _ := s2.tr (JS.draw hx)
      walk_at "s"
      refine x_if _ (fun e2 => ?_) (fun e2 => ?_)
      · walk_at "s"
        refine x_addT (by omega) ?_
        walk_at "s"
        refine x_ixT (n := 0) (v := .int t) ?_ (SqT.of (s3.at hp hpj)) rfl
        walk_at "s"
        rotate_left
        · rw [str_abs, Int.natAbs_natCast]
          exact log_of_lt (by decide) (Nat.lt_of_lt_of_le bt1 (Nat.pow_le_pow_right (by decide) (by decide)))
        rw [str_abs, nat_txt]
        refine x_addT (by rw [List.length_append]; omega) ?_
        rw [List.append_assoc]
        subst e
        exact k _ _ s3 (by rw [List.length_append, List.length_append]; omega) (fun p q hpq => by rw [SX.par_head_none (no47 m z _)] at hpq; cases hpq) (worn_int z m1 m2)
      · walk_at "s"
        exact ⟨s3, rfl⟩
    · refine x_ifF rfl ?_
      walk_at "s"
      exact ⟨s2, rfl⟩
  rintro σ' H3 ⟨s3, rfl⟩
  have hp3 := s3.at hp hpj
  walk_at "s"
  refine x_addT (by omega) ?_
  walk_at "s"
  refine x_ixT (n := 0) (v := .int t) ?_ (SqT.of hp3) rfl
  walk_at "s"
  rotate_left
  · rw [str_abs, ← Int.natCast_mul, Int.natAbs_natCast]
    exact log_of_lt (by decide) (Nat.lt_of_lt_of_le bt (Nat.pow_le_pow_right (by decide) (by decide)))
  · exact mul_right (by omega) (by omega)
  rw [str_abs, ← Int.natCast_mul, nat_txt]
  refine x_addT (by rw [List.length_append]; omega) ?_
  walk_at "s"
  refine x_addT (b := [47]) (by simp only [List.length_append, List.length_singleton]; omega) ?_
  walk_at "s"
  intro q3 hq3
  walk_at "s"
  refine sp2_i ⟨j, q3, _, rfl, rfl, s3.2.1.new hq3, upd_same, (fun z => by subst z; obtain ⟨_, z, _⟩ := s3.2.1; rw [z] at hq3; cases hq3), by simp, by simp, fun v xs hv hx => ?_⟩
  have s4 : JS j H _ := (s3.new hq3).tr (JS.draw hx)
  obtain ⟨z', hz', hz3'⟩ : ∃ z : Nat, v = .str (S (List.replicate z 48)) ∧ z ≤ 3 := by
    rcases List.mem_cons.mp hv with rfl | hv
    · exact ⟨0, rfl, by decide⟩
    rcases List.mem_cons.mp hv with rfl | hv
    · exact ⟨1, rfl, by decide⟩
    · cases hv
  subst hz'
  have l1' : (List.replicate z' 48).length ≤ 3 := by rw [List.length_replicate]; exact hz3'
  refine x_addT (by simp only [List.length_append, List.length_singleton]; omega) ?_
  walk_at "s"
  refine x_ixT (n := 1) (v := .int d) ?_ (SqT.of (s4.at hp hpj)) rfl
  have ed : d * (by_ : Int) = ((d.natAbs * by_ : Nat) : Int) := by rw [Int.natCast_mul, Int.natAbs_of_nonneg (by omega)]
  walk_at "s"
  rotate_left
  · rw [ed, Int.natAbs_natCast]
    exact log_of_lt (by decide) (Nat.lt_of_lt_of_le bd (Nat.pow_le_pow_right (by decide) (by decide)))
  · exact mul_right (by omega) (by omega)
  rw [ed, nat_txt]
  refine x_addT (by simp only [List.length_append, List.length_singleton]; omega) ?_
  have et : ((((mns m ++ List.replicate z 48) ++ numL (t.natAbs * by_)) ++ [47]) ++ List.replicate z' 48) ++ numL (d.natAbs * by_) = (mns m ++ (List.replicate z 48 ++ numL (t.natAbs * by_))) ++ 47 :: (List.replicate z' 48 ++ numL (d.natAbs * by_)) := by simp
  rw [et]
  refine k _ _ s4 (by simp only [List.length_append, List.length_cons]; omega) (fun p q hpq => ?_) (worn_frac z z' m1 m2 hd h1 hlow)
  rw [par_word] at hpq
  cases hpq
  rw [val_zeros, TL.numL_val]
  exact Nat.lt_of_lt_of_le bd (Nat.pow_le_pow_right (by decide) (by decide))
theorem low_negs {a b : Int} (h : 0 < b) : low (-a) (-b) = low a b := by
  unfold low
  rw [if_pos (by omega), if_neg (by omega), Int.neg_neg, Int.neg_neg, Int.natAbs_neg, Int.natAbs_neg]
def sp_law_worn (K : PySem.W.Frag) : Sp := sp2 fun a b H Q _ => ∃ (j p : Addr) (t d : Int), a = .ref j ∧ b = .ref p ∧ Jar H j ∧ H p = some (.tup [.int t, .int d]) ∧ low t d = (t, d) ∧ 0 < d ∧ t.natAbs.log2 < 1000 ∧ d.natAbs.log2 < 1000 ∧
  ∀ v H', JS j H H' → Num K H' v (some (t, d)) → Q v H'
abbrev N_law_worn : List Str := ["jar", "frac", "shape"]
theorem sc_law_worn : FnScope N_law_worn ["jar", "frac"] (defScope st_law_worn) := ⟨rfl, rfl, rfl, by decide +kernel, rfl, by decide +kernel, by decide +kernel⟩
theorem b_law_worn (T : Txt P K mg) : Binds K (fdOf K "_law_worn") ["jar", "frac"] [] := T.F_law_worn.bindsN fun _ _ _ _ _ _ us hl => match us, hl with | [_, _], _ => rfl
theorem ok_law_worn (T : Txt P K mg) : Ok P w K mg base 5 "_law_worn" ["jar", "frac"] (sp_law_worn K) := by
  have G_law_worn_word := ok_law_worn_word (P := P) (w := w) (base := base) T
  have G_law_draw := ok_law_draw (P := P) (w := w) (base := base) T
  refine T.F_law_worn.ok sc_law_worn sp2_len (fun cdv A outer s H vs Q E hr h => ?_)
  obtain ⟨a0, a1, rfl, h⟩ := h
  refine ⟨_, (pss_cons (ps_set (i := 2) sc_law_worn.nd rfl (Or.inl rfl) (pe_callS G_law_draw (hr.mono (by decide)) rfl T.g_law_draw T.k_law_draw (b_law_draw T) (fun σ => L2N.passAt (L2N.takes_of rfl rfl rfl rfl) σ) (pa_cons (pv 0) (pa_cons pe_int pa_nil))))
  (C8.pss_cut (ps_if (PW.pt (pw_and (pt_cmpR op_lt (pv 2) pe_int (nomark _)) (pw_and1 (pt_cmpR (opK_eq (K := K) rfl hr.units) (pe_ix (ixK (K := K) rfl) (pv 1) pe_int (fun _ _ => rfl)) pe_int (nomark _))))) (pss_one (ps_ret (pe_ix (ixK (K := K) rfl) (pv 1) pe_int (fun _ _ => rfl)))) pss_nil)
  (pss_cons (ps_if (pt_cmpR (opK_eq (K := K) rfl hr.units) (pv 2) pe_int (nomark _)) (pss_one (ps_ret (pe_tup (pa_cons (pe_op opA_mul (pe_ix (ixK (K := K) rfl) (pv 1) pe_int (fun _ _ => rfl)) pe_int) (pa_cons (pe_op opA_mul (pe_ix (ixK (K := K) rfl) (pv 1) pe_int (fun _ _ => rfl)) pe_int) pa_nil))))) pss_nil)
  (pss_cons (ps_if (pt_cmpR (opK_eq (K := K) rfl hr.units) (pv 2) pe_int (nomark _)) (pss_one (ps_ret (pe_tup (pa_cons (pe_op opA_mul (pe_un un_neg pe_int) (pe_ix (ixK (K := K) rfl) (pv 1) pe_int (fun _ _ => rfl))) (pa_cons (pe_op opA_mul (pe_un un_neg pe_int) (pe_ix (ixK (K := K) rfl) (pv 1) pe_int (fun _ _ => rfl))) pa_nil))))) pss_nil)
  (pss_one (ps_ret (pe_ifExp (pt_cmpR op_lt (pv 2) pe_int (nomark _)) (pv 1) (pe_callS G_law_worn_word (hr.mono (by decide)) rfl T.g_law_worn_word T.k_law_worn_word (b_law_worn_word T) (fun σ => L2N.passAt (L2N.takes_of rfl rfl rfl rfl) σ) (pa_cons (pv 0) (pa_cons (pv 1) pa_nil)))))))))), ?_⟩
  try dsimp only [cxOf, List.map]
  obtain ⟨j, p, t, d, rfl, rfl, hj, hp, hlow, hd, hbt, hbd, k⟩ := h
  have hpj := hj.ne hp
  have bt := mul3 hbt (Nat.le_refl 3)
  have bd := mul3 hbd (Nat.le_refl 3)
  have big : (2 : Nat) ^ 1002 < 2 ^ 8000 := Nat.pow_lt_pow_right (by decide) (by decide)
  walk_at "s"
  refine sp2_i ⟨j, _, rfl, rfl, by decide, by decide, hj, fun dr xs _ _ hx => ?_⟩
  have s1 : JS j H _ := JS.draw hx
  have hp1 := s1.at hp hpj
  generalize upd H j (.lst xs) = H1 at s1 hp1
  walk_at "s"
  refine ⟨fun σ' H' => H' = H1 ∧ σ' = [some (.ref j), some (.ref p), some (.int dr)], ?_, ?_⟩
  · walk_at "s"
    refine x_if _ (fun e => ?_) (fun e => ?_)
    · walk_at "s"
      refine x_ixT (n := 1) (v := .int d) ?_ (SqT.of hp1) rfl
      walk_at "s"
      refine x_if _ (fun e2 => ?_) (fun e2 => ?_)
      · have e2 := of_decide_eq_true e2
        subst e2
        walk_at "s"
        refine x_ixT (n := 0) (v := .int t) ?_ (SqT.of hp1) rfl
        exact k _ _ s1 (.inl ⟨t, rfl, rfl⟩)
      · walk_at "s"
        exact ⟨rfl, rfl⟩
    · refine x_ifF rfl ?_
      walk_at "s"
      exact ⟨rfl, rfl⟩
  rintro σ' H' ⟨rfl, rfl⟩
  walk_at "s"
  refine x_if _ (fun e => ?_) (fun e => ?_)
  · walk_at "s"
    refine x_ixT (n := 0) (v := .int t) ?_ (SqT.of hp1) rfl
    walk_at "s"
    · refine x_ixT (n := 1) (v := .int d) ?_ (SqT.of hp1) rfl
      walk_at "s"
      · intro q hq
        refine k _ _ (s1.new hq) (.inr (.inr ⟨_, _, q, rfl, upd_same, by omega, ?_, ?_⟩))
        · rw [Int.natAbs_mul]
          exact Nat.lt_trans bd big
        · rw [low_mul t d 3 (by decide) hd, hlow]
      · exact mul_right (by decide) (by decide)
    · exact mul_right (by decide) (by decide)
  walk_at "s"
  refine x_if _ (fun e2 => ?_) (fun e2 => ?_)
  · walk_at "s"
    refine x_ixT (n := 0) (v := .int t) ?_ (SqT.of hp1) rfl
    walk_at "s"
    · refine x_ixT (n := 1) (v := .int d) ?_ (SqT.of hp1) rfl
      walk_at "s"
      · intro q hq
        refine k _ _ (s1.new hq) (.inr (.inr ⟨_, _, q, rfl, upd_same, by omega, ?_, ?_⟩))
        · rw [Int.natAbs_mul]
          refine Nat.lt_trans (Nat.lt_of_le_of_lt ?_ bd) big
          rw [Nat.mul_comm]
          exact Nat.mul_le_mul_left _ (by decide)
        · have e1 : -2 * t = -(t * 2) := by omega
          have e2 : -2 * d = -(d * 2) := by omega
          rw [e1, e2, low_negs (by omega), low_mul t d 2 (by decide) hd, hlow]
      · exact mul_left (by decide) (by decide)
    · exact mul_left (by decide) (by decide)
  walk_at "s"
  refine x_if _ (fun e3 => ?_) (fun e3 => ?_)
  · walk_at "s"
    exact k _ _ s1 (.inr (.inr ⟨t, d, p, rfl, hp1, by omega, Nat.lt_trans (lt_of_log hbd) (Nat.pow_lt_pow_right (by decide) (by decide)), hlow.symm⟩))
  · walk_at "s"
    refine sp2_i ⟨j, p, t, d, rfl, rfl, s1.2.1, hp1, hlow, hd, hbt, hbd, fun l H' s2 hl hb hn => ?_⟩
    refine k _ _ (s1.tr s2) (.inr (.inl ⟨l, rfl, ?_, by omega, hb, hn⟩))
    unfold heedR
    rw [if_pos hl]
end
end K00

set_option maxHeartbeats 4000000
namespace K00
open PySem PySem.Spec PyProof.Rows L2 EL
open SX (S)
open PySem.NumText (digitsVal AllDigits)
local macro_rules | `(tactic| walk_at "s1") => `(tactic| with_reducible first
  | refine x_seq ?_ | refine x_asg ?_ | refine x_op ?_ | refine x_c ?_ | refine x_gName ?_ | refine x_ifS ?_ | refine x_ret ?_ | refine x_test ?_ | refine x_bl ?_
  | refine x_I0 ?_ | refine x_addI ?_ | refine x_mulI ?_ ?_ | refine x_fdiv ?_ ?_ | refine x_mod ?_ ?_ | refine x_un ?_ | refine x_rU ?_ | refine x_pow ?_ ?_
  | refine x_eqI' ?_ | refine x_neI' ?_ | refine x_eqS' ?_ | refine x_neS' ?_
  | refine x_cons ?_ | refine x_nil ?_ | refine x_tup ?_ | refine x_lst ?_ | refine x_callS ?_ | refine x_CB ?_ | refine x_par ?_ | refine x_two ?_
  | refine x_next ?_ | refine x_and ?_ | refine x_or ?_ | refine x_not ?_ | refine x_andV ?_ | refine x_orV ?_ | refine x_notV ?_ | refine x_ex ?_ | refine x_ifE ?_ | refine x_tB ?_ | refine x_retN ?_ | refine x_drop ?_ | refine x_brk ?_ | refine x_cont ?_
  | refine x_intI ?_ | refine x_abs ?_ | refine x_gcd ?_ | refine x_str ?_ ?_ | refine x_sz ?_ | refine x_isN ?_ | refine x_notN ?_ | refine x_sl ?_ | refine x_noPart ?_ | refine x_part ?_ | refine x_exI ?_ | refine x_slS ?_ ?_ | refine x_gSub ?_ | refine x_inS ?_ | refine x_notinS ?_ | refine x_yes ?_ | refine x_m1 ?_ | refine x_m1' ?_ | refine x_ms ?_ | refine x_chain ?_ | refine x_callK ?_ | refine x_callSD ?_ | refine x_ifT' ?_ | refine x_newE ?_ | refine x_gCons ?_ | refine x_gNil ?_ | refine x_gTupU rfl ?_ | refine x_ifX ?_)
local macro_rules | `(tactic| walk_at "side") => `(tactic| with_reducible first | decide | (refine mul_left ?_ ?_ <;> omega) | (refine mul_right ?_ ?_ <;> omega) | (refine div_of ?_ ?_ <;> first | omega | assumption | decide +kernel) | omega | assumption)
local macro_rules | `(tactic| walk_at "s") => `(tactic| repeat (first | walk_at "s1" | ((with_reducible apply x_var); (· exact rfl)) | ((with_reducible apply x_ixU); (· exact rfl)) | ((with_reducible apply x_ixTU); (· exact rfl)) | ((with_reducible apply x_setU); (· exact rfl)) | ((with_reducible apply x_all); (· exact SqL.of upd_same))))
section
variable {P : Program} {w : World} {K : PySem.W.Frag} {mg : Str → Option Value} {base : Heap}
/-- a short text that is no number -/
def badT (l : List Nat) : Bool := decide (l.length ≤ 100) && (match TL.par [47] [] l with | none => true | some (_, q) => decide (digitsVal q < 1000000)) && (numT l).isNone
theorem bad_text (l : List Nat) (h : badT l = true) : ∃ l', V.str (S l) = .str (S l') ∧ heedR l' = 0 ∧ l'.length ≤ 4300 ∧ (∀ p q, TL.par [47] [] l' = some (p, q) → digitsVal q < 2 ^ 8000) ∧ numT l' = none := by
  unfold badT at h
  rw [Bool.and_eq_true, Bool.and_eq_true] at h
  obtain ⟨⟨h1, h2⟩, h3⟩ := h
  have h1 := of_decide_eq_true h1
  refine ⟨l, rfl, ?_, by omega, fun p q hpq => ?_, ?_⟩
  · unfold heedR
    rw [if_pos (by omega)]
  · rw [hpq] at h2
    exact Nat.lt_trans (of_decide_eq_true h2) (Nat.lt_of_lt_of_le (show 1000000 < 2 ^ 20 by decide) (Nat.pow_le_pow_right (by decide) (by decide)))
  · cases h : numT l with
    | none => rfl
    | some r => rw [h] at h3; cases h3
def goodD (d : PyData) : Bool := d.showable && !d.hasDict && decide (d.depth ≤ 32) && decide (d.shown.length ≤ 1000)
/-- a value as repr shows it -/
def Rep (K : PySem.W.Frag) (H : Hp) (v : V) (d : PyData) : Prop := (Dp K H v d ∧ goodD d = true) ∨ (∃ a, v = .ref a ∧ H a = some (.dK []) ∧ d = .dict [])
def sp_law_bad_number (K : PySem.W.Frag) : Sp := sp1 fun a H Q _ => ∃ j : Addr, a = .ref j ∧ Jar H j ∧ ∀ v H', JS j H H' → Num K H' v none → (∃ d, Rep K H' v d) → Q v H'
abbrev N_law_bad_number : List Str := ["jar"]
theorem sc_law_bad_number : FnScope N_law_bad_number ["jar"] (defScope st_law_bad_number) := ⟨rfl, rfl, rfl, by decide +kernel, rfl, by decide +kernel, by decide +kernel⟩
theorem b_law_bad_number (T : Txt P K mg) : Binds K (fdOf K "_law_bad_number") ["jar"] [] := T.F_law_bad_number.bindsN fun _ _ _ _ _ _ us hl => match us, hl with | [_], _ => rfl
theorem ok_law_bad_number (T : Txt P K mg) : Ok P w K mg base 4 "_law_bad_number" ["jar"] (sp_law_bad_number K) := by
  have G_law_pick := ok_law_pick (P := P) (w := w) (base := base) T
  refine T.F_law_bad_number.ok sc_law_bad_number sp1_len (fun cdv A outer s H vs Q E hr h => ?_)
  obtain ⟨a0, rfl, h⟩ := h
  refine ⟨_, (pss_one (ps_ret (pe_callS G_law_pick (hr.mono (by decide)) rfl T.g_law_pick T.k_law_pick (b_law_pick T) (fun σ => L2N.passAt (L2N.takes_of rfl rfl rfl rfl) σ) (pa_cons (pv 0) (pa_cons (pe_lst (pa_cons pe_bl (pa_cons pe_bl (pa_cons pe_non (pa_cons (pe_tup (pa_cons pe_int (pa_cons pe_int pa_nil))) (pa_cons (pe_tup (pa_cons pe_int (pa_cons pe_int pa_nil))) (pa_cons (pe_tup (pa_cons pe_bl (pa_cons pe_int pa_nil))) (pa_cons (pe_tup (pa_cons pe_int (pa_cons pe_bl pa_nil))) (pa_cons (pe_tup (pa_cons pe_int pa_nil)) (pa_cons (pe_tup (pa_cons pe_int (pa_cons pe_int (pa_cons pe_int pa_nil)))) (pa_cons (pe_tup pa_nil) (pa_cons (pe_tup (pa_cons pe_str (pa_cons pe_int pa_nil))) (pa_cons (pe_tup (pa_cons pe_int (pa_cons pe_str pa_nil))) (pa_cons (pe_tup (pa_cons (pe_tup (pa_cons pe_int (pa_cons pe_int pa_nil))) (pa_cons pe_int pa_nil))) (pa_cons (pe_lst (pa_cons pe_int (pa_cons pe_int pa_nil))) (pa_cons (pe_lst (pa_cons pe_int pa_nil)) (pa_cons pe_dnewK (pa_cons pe_str (pa_cons pe_str (pa_cons pe_str (pa_cons pe_str (pa_cons pe_str (pa_cons pe_str (pa_cons pe_str (pa_cons pe_str (pa_cons pe_str (pa_cons pe_str (pa_cons pe_str (pa_cons pe_str (pa_cons pe_str (pa_cons pe_str (pa_cons pe_str (pa_cons pe_str (pa_cons pe_str (pa_cons pe_str (pa_cons pe_str pa_nil)))))))))))))))))))))))))))))))))))) pa_nil))))), ?_⟩
  try dsimp only [cxOf, List.map]
  obtain ⟨j, rfl, hj, k⟩ := h
  walk_at "s"
  intro p1 n1
  have s1 : Same H (upd H p1 (.tup [.int 1, .int 0])) := Same.new n1
  have e1 : upd H p1 (.tup [.int 1, .int 0]) p1 = some (.tup [.int 1, .int 0]) := upd_same
  have j1 : Jar (upd H p1 (.tup [.int 1, .int 0])) j := hj.new n1
  have d1 : p1 ≠ j := fun z => by subst z; obtain ⟨_, z, _⟩ := hj; rw [n1] at z; cases z
  generalize upd H p1 (.tup [.int 1, .int 0]) = H1 at s1 e1 j1 ⊢
  walk_at "s"
  intro p2 n2
  have s2 : Same H1 (upd H1 p2 (.tup [.int 0, .int 0])) := Same.new n2
  have e2 : upd H1 p2 (.tup [.int 0, .int 0]) p2 = some (.tup [.int 0, .int 0]) := upd_same
  have j2 : Jar (upd H1 p2 (.tup [.int 0, .int 0])) j := j1.new n2
  have d2 : p2 ≠ j := fun z => by subst z; obtain ⟨_, z, _⟩ := j1; rw [n2] at z; cases z
  generalize upd H1 p2 (.tup [.int 0, .int 0]) = H2 at s2 e2 j2 ⊢
  walk_at "s"
  intro p3 n3
  have s3 : Same H2 (upd H2 p3 (.tup [.bl true, .int 2])) := Same.new n3
  have e3 : upd H2 p3 (.tup [.bl true, .int 2]) p3 = some (.tup [.bl true, .int 2]) := upd_same
  have j3 : Jar (upd H2 p3 (.tup [.bl true, .int 2])) j := j2.new n3
  have d3 : p3 ≠ j := fun z => by subst z; obtain ⟨_, z, _⟩ := j2; rw [n3] at z; cases z
  generalize upd H2 p3 (.tup [.bl true, .int 2]) = H3 at s3 e3 j3 ⊢
  walk_at "s"
  intro p4 n4
  have s4 : Same H3 (upd H3 p4 (.tup [.int 1, .bl true])) := Same.new n4
  have e4 : upd H3 p4 (.tup [.int 1, .bl true]) p4 = some (.tup [.int 1, .bl true]) := upd_same
  have j4 : Jar (upd H3 p4 (.tup [.int 1, .bl true])) j := j3.new n4
  have d4 : p4 ≠ j := fun z => by subst z; obtain ⟨_, z, _⟩ := j3; rw [n4] at z; cases z
  generalize upd H3 p4 (.tup [.int 1, .bl true]) = H4 at s4 e4 j4 ⊢
  walk_at "s"
  intro p5 n5
  have s5 : Same H4 (upd H4 p5 (.tup [.int 1])) := Same.new n5
  have e5 : upd H4 p5 (.tup [.int 1]) p5 = some (.tup [.int 1]) := upd_same
  have j5 : Jar (upd H4 p5 (.tup [.int 1])) j := j4.new n5
  have d5 : p5 ≠ j := fun z => by subst z; obtain ⟨_, z, _⟩ := j4; rw [n5] at z; cases z
  generalize upd H4 p5 (.tup [.int 1]) = H5 at s5 e5 j5 ⊢
  walk_at "s"
  intro p6 n6
  have s6 : Same H5 (upd H5 p6 (.tup [.int 1, .int 2, .int 3])) := Same.new n6
  have e6 : upd H5 p6 (.tup [.int 1, .int 2, .int 3]) p6 = some (.tup [.int 1, .int 2, .int 3]) := upd_same
  have j6 : Jar (upd H5 p6 (.tup [.int 1, .int 2, .int 3])) j := j5.new n6
  have d6 : p6 ≠ j := fun z => by subst z; obtain ⟨_, z, _⟩ := j5; rw [n6] at z; cases z
  generalize upd H5 p6 (.tup [.int 1, .int 2, .int 3]) = H6 at s6 e6 j6 ⊢
  walk_at "s"
  intro p7 n7
  have s7 : Same H6 (upd H6 p7 (.tup [])) := Same.new n7
  have e7 : upd H6 p7 (.tup []) p7 = some (.tup []) := upd_same
  have j7 : Jar (upd H6 p7 (.tup [])) j := j6.new n7
  have d7 : p7 ≠ j := fun z => by subst z; obtain ⟨_, z, _⟩ := j6; rw [n7] at z; cases z
  generalize upd H6 p7 (.tup []) = H7 at s7 e7 j7 ⊢
  walk_at "s"
  intro p8 n8
  have s8 : Same H7 (upd H7 p8 (.tup [.str "1", .int 2])) := Same.new n8
  have e8 : upd H7 p8 (.tup [.str "1", .int 2]) p8 = some (.tup [.str "1", .int 2]) := upd_same
  have j8 : Jar (upd H7 p8 (.tup [.str "1", .int 2])) j := j7.new n8
  have d8 : p8 ≠ j := fun z => by subst z; obtain ⟨_, z, _⟩ := j7; rw [n8] at z; cases z
  generalize upd H7 p8 (.tup [.str "1", .int 2]) = H8 at s8 e8 j8 ⊢
  walk_at "s"
  intro p9 n9
  have s9 : Same H8 (upd H8 p9 (.tup [.int 1, .str "2"])) := Same.new n9
  have e9 : upd H8 p9 (.tup [.int 1, .str "2"]) p9 = some (.tup [.int 1, .str "2"]) := upd_same
  have j9 : Jar (upd H8 p9 (.tup [.int 1, .str "2"])) j := j8.new n9
  have d9 : p9 ≠ j := fun z => by subst z; obtain ⟨_, z, _⟩ := j8; rw [n9] at z; cases z
  generalize upd H8 p9 (.tup [.int 1, .str "2"]) = H9 at s9 e9 j9 ⊢
  walk_at "s"
  intro p10 n10
  have s10 : Same H9 (upd H9 p10 (.tup [.int 1, .int 2])) := Same.new n10
  have e10 : upd H9 p10 (.tup [.int 1, .int 2]) p10 = some (.tup [.int 1, .int 2]) := upd_same
  have j10 : Jar (upd H9 p10 (.tup [.int 1, .int 2])) j := j9.new n10
  have d10 : p10 ≠ j := fun z => by subst z; obtain ⟨_, z, _⟩ := j9; rw [n10] at z; cases z
  generalize upd H9 p10 (.tup [.int 1, .int 2]) = H10 at s10 e10 j10 ⊢
  walk_at "s"
  intro p11 n11
  have s11 : Same H10 (upd H10 p11 (.tup [.ref p10, .int 3])) := Same.new n11
  have e11 : upd H10 p11 (.tup [.ref p10, .int 3]) p11 = some (.tup [.ref p10, .int 3]) := upd_same
  have j11 : Jar (upd H10 p11 (.tup [.ref p10, .int 3])) j := j10.new n11
  have d11 : p11 ≠ j := fun z => by subst z; obtain ⟨_, z, _⟩ := j10; rw [n11] at z; cases z
  generalize upd H10 p11 (.tup [.ref p10, .int 3]) = H11 at s11 e11 j11 ⊢
  walk_at "s"
  intro p12 n12
  have s12 : Same H11 (upd H11 p12 (.lst [.int 1, .int 2])) := Same.new n12
  have e12 : upd H11 p12 (.lst [.int 1, .int 2]) p12 = some (.lst [.int 1, .int 2]) := upd_same
  have j12 : Jar (upd H11 p12 (.lst [.int 1, .int 2])) j := j11.new n12
  have d12 : p12 ≠ j := fun z => by subst z; obtain ⟨_, z, _⟩ := j11; rw [n12] at z; cases z
  generalize upd H11 p12 (.lst [.int 1, .int 2]) = H12 at s12 e12 j12 ⊢
  walk_at "s"
  intro p13 n13
  have s13 : Same H12 (upd H12 p13 (.lst [.int 1])) := Same.new n13
  have e13 : upd H12 p13 (.lst [.int 1]) p13 = some (.lst [.int 1]) := upd_same
  have j13 : Jar (upd H12 p13 (.lst [.int 1])) j := j12.new n13
  have d13 : p13 ≠ j := fun z => by subst z; obtain ⟨_, z, _⟩ := j12; rw [n13] at z; cases z
  generalize upd H12 p13 (.lst [.int 1]) = H13 at s13 e13 j13 ⊢
  walk_at "s"
  intro p14 n14
  have s14 : Same H13 (upd H13 p14 (.dK [])) := Same.new n14
  have e14 : upd H13 p14 (.dK []) p14 = some (.dK []) := upd_same
  have j14 : Jar (upd H13 p14 (.dK [])) j := j13.new n14
  have d14 : p14 ≠ j := fun z => by subst z; obtain ⟨_, z, _⟩ := j13; rw [n14] at z; cases z
  generalize upd H13 p14 (.dK []) = H14 at s14 e14 j14 ⊢
  walk_at "s"
  intro q hq
  walk_at "s"
  refine sp2_i ⟨j, q, _, rfl, rfl, j14.new hq, upd_same, (fun z => by subst z; obtain ⟨_, z, _⟩ := j14; rw [z] at hq; cases hq), by simp, by simp, fun v xs hv hx => ?_⟩
  have f14 : JS j H14 _ := ((JS.same j14 (fun _ _ h => h)).new hq).tr (JS.draw hx)
  generalize upd (upd H14 q _) j (.lst xs) = HF at f14 ⊢
  clear hx hq
  have f13 : JS j H13 _ := (JS.same j13 s14).tr f14
  have f12 : JS j H12 _ := (JS.same j12 s13).tr f13
  have f11 : JS j H11 _ := (JS.same j11 s12).tr f12
  have f10 : JS j H10 _ := (JS.same j10 s11).tr f11
  have f9 : JS j H9 _ := (JS.same j9 s10).tr f10
  have f8 : JS j H8 _ := (JS.same j8 s9).tr f9
  have f7 : JS j H7 _ := (JS.same j7 s8).tr f8
  have f6 : JS j H6 _ := (JS.same j6 s7).tr f7
  have f5 : JS j H5 _ := (JS.same j5 s6).tr f6
  have f4 : JS j H4 _ := (JS.same j4 s5).tr f5
  have f3 : JS j H3 _ := (JS.same j3 s4).tr f4
  have f2 : JS j H2 _ := (JS.same j2 s3).tr f3
  have f1 : JS j H1 _ := (JS.same j1 s2).tr f2
  have f0 : JS j H _ := (JS.same hj s1).tr f1
  suffices z : Num K HF v none ∧ ∃ d, Rep K HF v d from k _ _ f0 z.1 z.2
  have g1 := f1.at e1 d1
  have g2 := f2.at e2 d2
  have g3 := f3.at e3 d3
  have g4 := f4.at e4 d4
  have g5 := f5.at e5 d5
  have g6 := f6.at e6 d6
  have g7 := f7.at e7 d7
  have g8 := f8.at e8 d8
  have g9 := f9.at e9 d9
  have g10 := f10.at e10 d10
  have g11 := f11.at e11 d11
  have g12 := f12.at e12 d12
  have g13 := f13.at e13 d13
  have g14 := f14.at e14 d14
  clear f14 s14 e14 d14 j14 n14 f13 s13 e13 d13 j13 n13 f12 s12 e12 d12 j12 n12 f11 s11 e11 d11 j11 n11 f10 s10 e10 d10 j10 n10 f9 s9 e9 d9 j9 n9 f8 s8 e8 d8 j8 n8 f7 s7 e7 d7 j7 n7 f6 s6 e6 d6 j6 n6 f5 s5 e5 d5 j5 n5 f4 s4 e4 d4 j4 n4 f3 s3 e3 d3 j3 n3 f2 s2 e2 d2 j2 n2 f1 s1 e1 d1 j1 n1
  rcases List.mem_cons.mp hv with rfl | hv
  · exact ⟨.inr (.inl ⟨"bool", ⟨.base (.bl _), by decide⟩, by decide, by decide, by decide⟩), _, .inl ⟨.bl _, by decide +kernel⟩⟩
  rcases List.mem_cons.mp hv with rfl | hv
  · exact ⟨.inr (.inl ⟨"bool", ⟨.base (.bl _), by decide⟩, by decide, by decide, by decide⟩), _, .inl ⟨.bl _, by decide +kernel⟩⟩
  rcases List.mem_cons.mp hv with rfl | hv
  · exact ⟨.inr (.inl ⟨"NoneType", ⟨.base .non, by decide⟩, by decide, by decide, by decide⟩), _, .inl ⟨.non, by decide +kernel⟩⟩
  rcases List.mem_cons.mp hv with rfl | hv
  · exact ⟨.inr (.inr ⟨p1, _, rfl, g1, by simp, .inr ⟨_, _, "int", "int", rfl, ⟨.base (.int _), by decide⟩, ⟨.base (.int _), by decide⟩, .inr (.inr rfl)⟩⟩), _, .inl ⟨.tup (SqT.of g1) (.cons (.int _) (.cons (.int _) .nil)), by decide +kernel⟩⟩
  rcases List.mem_cons.mp hv with rfl | hv
  · exact ⟨.inr (.inr ⟨p2, _, rfl, g2, by simp, .inr ⟨_, _, "int", "int", rfl, ⟨.base (.int _), by decide⟩, ⟨.base (.int _), by decide⟩, .inr (.inr rfl)⟩⟩), _, .inl ⟨.tup (SqT.of g2) (.cons (.int _) (.cons (.int _) .nil)), by decide +kernel⟩⟩
  rcases List.mem_cons.mp hv with rfl | hv
  · exact ⟨.inr (.inr ⟨p3, _, rfl, g3, by simp, .inr ⟨_, _, "bool", "int", rfl, ⟨.base (.bl _), by decide⟩, ⟨.base (.int _), by decide⟩, .inl (by decide)⟩⟩), _, .inl ⟨.tup (SqT.of g3) (.cons (.bl _) (.cons (.int _) .nil)), by decide +kernel⟩⟩
  rcases List.mem_cons.mp hv with rfl | hv
  · exact ⟨.inr (.inr ⟨p4, _, rfl, g4, by simp, .inr ⟨_, _, "int", "bool", rfl, ⟨.base (.int _), by decide⟩, ⟨.base (.bl _), by decide⟩, .inr (.inl (by decide))⟩⟩), _, .inl ⟨.tup (SqT.of g4) (.cons (.int _) (.cons (.bl _) .nil)), by decide +kernel⟩⟩
  rcases List.mem_cons.mp hv with rfl | hv
  · exact ⟨.inr (.inr ⟨p5, _, rfl, g5, by simp, .inl (by simp)⟩), _, .inl ⟨.tup (SqT.of g5) (.cons (.int _) .nil), by decide +kernel⟩⟩
  rcases List.mem_cons.mp hv with rfl | hv
  · exact ⟨.inr (.inr ⟨p6, _, rfl, g6, by simp, .inl (by simp)⟩), _, .inl ⟨.tup (SqT.of g6) (.cons (.int _) (.cons (.int _) (.cons (.int _) .nil))), by decide +kernel⟩⟩
  rcases List.mem_cons.mp hv with rfl | hv
  · exact ⟨.inr (.inr ⟨p7, _, rfl, g7, by simp, .inl (by simp)⟩), _, .inl ⟨.tup (SqT.of g7) .nil, by decide +kernel⟩⟩
  rcases List.mem_cons.mp hv with rfl | hv
  · exact ⟨.inr (.inr ⟨p8, _, rfl, g8, by simp, .inr ⟨_, _, "str", "int", rfl, ⟨.base (.str _), by decide⟩, ⟨.base (.int _), by decide⟩, .inl (by decide)⟩⟩), _, .inl ⟨.tup (SqT.of g8) (.cons (.str _) (.cons (.int _) .nil)), by decide +kernel⟩⟩
  rcases List.mem_cons.mp hv with rfl | hv
  · exact ⟨.inr (.inr ⟨p9, _, rfl, g9, by simp, .inr ⟨_, _, "int", "str", rfl, ⟨.base (.int _), by decide⟩, ⟨.base (.str _), by decide⟩, .inr (.inl (by decide))⟩⟩), _, .inl ⟨.tup (SqT.of g9) (.cons (.int _) (.cons (.str _) .nil)), by decide +kernel⟩⟩
  rcases List.mem_cons.mp hv with rfl | hv
  · exact ⟨.inr (.inr ⟨p11, _, rfl, g11, by simp, .inr ⟨_, _, "tuple", "int", rfl, ⟨.base (.tup g10), by decide⟩, ⟨.base (.int _), by decide⟩, .inl (by decide)⟩⟩), _, .inl ⟨.tup (SqT.of g11) (.cons (.tup (SqT.of g10) (.cons (.int _) (.cons (.int _) .nil))) (.cons (.int _) .nil)), by decide +kernel⟩⟩
  rcases List.mem_cons.mp hv with rfl | hv
  · exact ⟨.inr (.inl ⟨"list", ⟨.base (.lst g12), by decide⟩, by decide, by decide, by decide⟩), _, .inl ⟨.lst (SqL.of g12) (.cons (.int _) (.cons (.int _) .nil)), by decide +kernel⟩⟩
  rcases List.mem_cons.mp hv with rfl | hv
  · exact ⟨.inr (.inl ⟨"list", ⟨.base (.lst g13), by decide⟩, by decide, by decide, by decide⟩), _, .inl ⟨.lst (SqL.of g13) (.cons (.int _) .nil), by decide +kernel⟩⟩
  rcases List.mem_cons.mp hv with rfl | hv
  · exact ⟨.inr (.inl ⟨"dict", ⟨.base (.dK g14), by decide⟩, by decide, by decide, by decide⟩), _, .inr ⟨_, rfl, g14, rfl⟩⟩
  rcases List.mem_cons.mp hv with rfl | hv
  · exact ⟨.inl (bad_text [] rfl), _, .inl ⟨.str _, by decide +kernel⟩⟩
  rcases List.mem_cons.mp hv with rfl | hv
  · exact ⟨.inl (bad_text [45] rfl), _, .inl ⟨.str _, by decide +kernel⟩⟩
  rcases List.mem_cons.mp hv with rfl | hv
  · exact ⟨.inl (bad_text [120] rfl), _, .inl ⟨.str _, by decide +kernel⟩⟩
  rcases List.mem_cons.mp hv with rfl | hv
  · exact ⟨.inl (bad_text [49, 32] rfl), _, .inl ⟨.str _, by decide +kernel⟩⟩
  rcases List.mem_cons.mp hv with rfl | hv
  · exact ⟨.inl (bad_text [32, 49] rfl), _, .inl ⟨.str _, by decide +kernel⟩⟩
  rcases List.mem_cons.mp hv with rfl | hv
  · exact ⟨.inl (bad_text [43, 49] rfl), _, .inl ⟨.str _, by decide +kernel⟩⟩
  rcases List.mem_cons.mp hv with rfl | hv
  · exact ⟨.inl (bad_text [49, 47, 48] rfl), _, .inl ⟨.str _, by decide +kernel⟩⟩
  rcases List.mem_cons.mp hv with rfl | hv
  · exact ⟨.inl (bad_text [50, 47, 48, 48] rfl), _, .inl ⟨.str _, by decide +kernel⟩⟩
  rcases List.mem_cons.mp hv with rfl | hv
  · exact ⟨.inl (bad_text [49, 47, 47, 50] rfl), _, .inl ⟨.str _, by decide +kernel⟩⟩
  rcases List.mem_cons.mp hv with rfl | hv
  · exact ⟨.inl (bad_text [49, 47, 45, 50] rfl), _, .inl ⟨.str _, by decide +kernel⟩⟩
  rcases List.mem_cons.mp hv with rfl | hv
  · exact ⟨.inl (bad_text [45, 45, 49] rfl), _, .inl ⟨.str _, by decide +kernel⟩⟩
  rcases List.mem_cons.mp hv with rfl | hv
  · exact ⟨.inl (bad_text [49, 95, 48] rfl), _, .inl ⟨.str _, by decide +kernel⟩⟩
  rcases List.mem_cons.mp hv with rfl | hv
  · exact ⟨.inl (bad_text [49, 46, 53] rfl), _, .inl ⟨.str _, by decide +kernel⟩⟩
  rcases List.mem_cons.mp hv with rfl | hv
  · exact ⟨.inl (bad_text [49, 101, 51] rfl), _, .inl ⟨.str _, by decide +kernel⟩⟩
  rcases List.mem_cons.mp hv with rfl | hv
  · exact ⟨.inl (bad_text [49, 47, 50, 47, 51] rfl), _, .inl ⟨.str _, by decide +kernel⟩⟩
  rcases List.mem_cons.mp hv with rfl | hv
  · exact ⟨.inl (bad_text [49, 10] rfl), _, .inl ⟨.str _, by decide +kernel⟩⟩
  rcases List.mem_cons.mp hv with rfl | hv
  · exact ⟨.inl (bad_text [49, 47] rfl), _, .inl ⟨.str _, by decide +kernel⟩⟩
  rcases List.mem_cons.mp hv with rfl | hv
  · exact ⟨.inl (bad_text [47, 50] rfl), _, .inl ⟨.str _, by decide +kernel⟩⟩
  rcases List.mem_cons.mp hv with rfl | hv
  · exact ⟨.inl (bad_text [45, 32, 49] rfl), _, .inl ⟨.str _, by decide +kernel⟩⟩
  cases hv
end
end K00

set_option maxHeartbeats 4000000
namespace K00
open PySem PySem.Spec PyProof.Rows L2 EL
open SX (S)
local macro_rules | `(tactic| walk_at "s1") => `(tactic| with_reducible first
  | refine x_seq ?_ | refine x_asg ?_ | refine x_op ?_ | refine x_c ?_ | refine x_gName ?_ | refine x_ifS ?_ | refine x_ret ?_ | refine x_test ?_ | refine x_bl ?_
  | refine x_I0 ?_ | refine x_addI ?_ | refine x_mulI ?_ ?_ | refine x_fdiv ?_ ?_ | refine x_mod ?_ ?_ | refine x_un ?_ | refine x_rU ?_ | refine x_pow ?_ ?_
  | refine x_eqI' ?_ | refine x_neI' ?_ | refine x_eqS' ?_ | refine x_neS' ?_
  | refine x_cons ?_ | refine x_nil ?_ | refine x_tup ?_ | refine x_lst ?_ | refine x_callS ?_ | refine x_CB ?_ | refine x_par ?_ | refine x_two ?_
  | refine x_next ?_ | refine x_and ?_ | refine x_or ?_ | refine x_not ?_ | refine x_andV ?_ | refine x_orV ?_ | refine x_notV ?_ | refine x_ex ?_ | refine x_ifE ?_ | refine x_tB ?_ | refine x_retN ?_ | refine x_drop ?_ | refine x_brk ?_ | refine x_cont ?_
  | refine x_intI ?_ | refine x_abs ?_ | refine x_gcd ?_ | refine x_str ?_ ?_ | refine x_sz ?_ | refine x_isN ?_ | refine x_notN ?_ | refine x_sl ?_ | refine x_noPart ?_ | refine x_part ?_ | refine x_exI ?_ | refine x_slS ?_ ?_ | refine x_gSub ?_ | refine x_inS ?_ | refine x_notinS ?_ | refine x_yes ?_ | refine x_m1 ?_ | refine x_m1' ?_ | refine x_ms ?_ | refine x_chain ?_ | refine x_callK ?_ | refine x_callSD ?_ | refine x_ifT' ?_ | refine x_newE ?_ | refine x_gCons ?_ | refine x_gNil ?_ | refine x_gTupU rfl ?_ | refine x_ifX ?_)
local macro_rules | `(tactic| walk_at "side") => `(tactic| with_reducible first | decide | (refine mul_left ?_ ?_ <;> omega) | (refine mul_right ?_ ?_ <;> omega) | (refine div_of ?_ ?_ <;> first | omega | assumption | decide +kernel) | omega | assumption)
local macro_rules | `(tactic| walk_at "s") => `(tactic| repeat (first | walk_at "s1" | ((with_reducible apply x_var); (· exact rfl)) | ((with_reducible apply x_ixU); (· exact rfl)) | ((with_reducible apply x_ixTU); (· exact rfl)) | ((with_reducible apply x_setU); (· exact rfl)) | ((with_reducible apply x_all); (· exact SqL.of upd_same))))
section
variable {P : Program} {w : World} {K : PySem.W.Frag} {mg : Str → Option Value} {base : Heap}
/-- the exception that is handled: one of the raised classes, with its fields -/
def PairL (H : Hp) : List V → List (Str × Bool) → Prop
  | [], [] => True
  | x :: xs, z :: zs => (∃ p, x = .ref p ∧ H p = some (.tup [.str z.1, .bl z.2])) ∧ PairL H xs zs
  | _, _ => False
def pairB (H : Hp) : V → Bool
  | .ref p => match H p with
    | some (.tup [_, .bl b]) => b
    | _ => false
  | _ => false
def pairF (H : Hp) : V → V
  | .ref p => match H p with
    | some (.tup [x, _]) => x
    | _ => .non
  | _ => .non
theorem pairB_of {H : Hp} {p : Addr} {z : Str} {b : Bool} (h : H p = some (.tup [.str z, .bl b])) : pairB H (.ref p) = b := by unfold pairB; dsimp only; rw [h]
theorem pairF_of {H : Hp} {p : Addr} {z : Str} {b : Bool} (h : H p = some (.tup [.str z, .bl b])) : pairF H (.ref p) = .str z := by unfold pairF; dsimp only; rw [h]
theorem pair_at {H : Hp} : ∀ {xs : List V} {zs : List (Str × Bool)}, PairL H xs zs → ∀ x ∈ xs, ∃ (p : Addr) (z : Str × Bool), x = .ref p ∧ H p = some (.tup [.str z.1, .bl z.2])
  | x :: xs, z :: zs, h, y, hy => by
    rcases List.mem_cons.mp hy with rfl | hy
    · obtain ⟨⟨p, e, hp⟩, _⟩ := h
      exact ⟨p, z, e, hp⟩
    · exact pair_at h.2 y hy
theorem pair_list {H : Hp} : ∀ {xs : List V} {zs : List (Str × Bool)}, PairL H xs zs → (xs.filter (pairB H)).map (pairF H) = (zs.filter fun z => z.2).map fun z => V.str z.1
  | [], [], _ => rfl
  | x :: xs, z :: zs, h => by
    obtain ⟨⟨p, rfl, hp⟩, h⟩ := h
    have ih := pair_list h
    rw [List.filter_cons, List.filter_cons, pairB_of hp]
    cases hz : z.2 with
    | true => rw [if_pos rfl, if_pos rfl, List.map_cons, List.map_cons, ih, pairF_of hp]
    | false => rw [if_neg Bool.false_ne_true, if_neg Bool.false_ne_true, ih]
theorem exf (T : Txt P K mg) {c : Str} (hc : c ∈ raisedL) : ∃ fl, ExF K (He.ga K c) fl := by
  rcases List.mem_cons.mp hc with rfl | hc
  · exact ⟨_, T.x_BadName⟩
  rcases List.mem_cons.mp hc with rfl | hc
  · exact ⟨_, T.x_BadFraction⟩
  rcases List.mem_cons.mp hc with rfl | hc
  · exact ⟨_, T.x_TooMany⟩
  cases hc
def sp_law_class (K : PySem.W.Frag) : Addr → Value → Option Addr → Sp := fun x cls d => sp1 fun v H Q _ => v = .ref x ∧ ∃ (c : Str) (dd : Addr) (fs : List (Str × V)), c ∈ raisedL ∧ cls = .ref (He.ga K c) ∧ d = some dd ∧ H dd = some (.xd fs) ∧
  ∀ p H', Same H H' → H' p = some (.lst [.str c, .str "ValueError"]) → Q (.ref p) H'
abbrev N_law_class : List Str := ["e", "kinds", "each"]
theorem sc_law_class : FnScope N_law_class ["e"] (defScope st_law_class) := ⟨rfl, rfl, rfl, by decide +kernel, rfl, by decide +kernel, by decide +kernel⟩
theorem b_law_class (T : Txt P K mg) : Binds K (fdOf K "_law_class") ["e"] [] := T.F_law_class.bindsN fun _ _ _ _ _ _ us hl => match us, hl with | [_], _ => rfl
theorem okh_law_class (T : Txt P K mg) : FnE P w K mg base (L2N.CX P w) 2 (He.ga K "_law_class") (fdOf K "_law_class") ["e"] (sp_law_class K) := by
  refine fnE_of T.F_law_class sc_law_class (fun _ _ _ => sp1_len) (fun cdv A outer s H vs Q E a oe cls d hr hot h => ?_)
  obtain ⟨a0, rfl, h⟩ := h
  refine ⟨_, (pss_cons (ps_set (i := 1) sc_law_class.nd rfl (Or.inl rfl) (pe_lst (pa_cons (pe_tup (pa_cons pe_str (pa_cons (pe_callB (callX_isiK (K := K) rfl hot) rfl T.f_isinstance (by decide +kernel) (pa_cons (pv 0) (pa_cons (pe_glob (v := .ref (He.ga K "BadName")) rfl T.g_BadName rfl) pa_nil))) pa_nil))) (pa_cons (pe_tup (pa_cons pe_str (pa_cons (pe_callB (callX_isiK (K := K) rfl hot) rfl T.f_isinstance (by decide +kernel) (pa_cons (pv 0) (pa_cons (pe_glob (v := .ref (He.ga K "BadFraction")) rfl T.g_BadFraction rfl) pa_nil))) pa_nil))) (pa_cons (pe_tup (pa_cons pe_str (pa_cons (pe_callB (callX_isiK (K := K) rfl hot) rfl T.f_isinstance (by decide +kernel) (pa_cons (pv 0) (pa_cons (pe_glob (v := .ref (He.ga K "BadTable")) rfl T.g_BadTable rfl) pa_nil))) pa_nil))) (pa_cons (pe_tup (pa_cons pe_str (pa_cons (pe_callB (callX_isiK (K := K) rfl hot) rfl T.f_isinstance (by decide +kernel) (pa_cons (pv 0) (pa_cons (pe_glob (v := .ref (He.ga K "BadBook")) rfl T.g_BadBook rfl) pa_nil))) pa_nil))) pa_nil))))))
  (pss_cons (ps_set (i := 1) sc_law_class.nd rfl (Or.inl rfl) (pe_op opA_add (pv 1) (pe_lst (pa_cons (pe_tup (pa_cons pe_str (pa_cons (pe_callB (callX_isiK (K := K) rfl hot) rfl T.f_isinstance (by decide +kernel) (pa_cons (pv 0) (pa_cons (pe_glob (v := .ref (He.ga K "BadWorld")) rfl T.g_BadWorld rfl) pa_nil))) pa_nil))) (pa_cons (pe_tup (pa_cons pe_str (pa_cons (pe_callB (callX_isiK (K := K) rfl hot) rfl T.f_isinstance (by decide +kernel) (pa_cons (pv 0) (pa_cons (pe_glob (v := .ref (He.ga K "BadRow")) rfl T.g_BadRow rfl) pa_nil))) pa_nil))) (pa_cons (pe_tup (pa_cons pe_str (pa_cons (pe_callB (callX_isiK (K := K) rfl hot) rfl T.f_isinstance (by decide +kernel) (pa_cons (pv 0) (pa_cons (pe_glob (v := .ref (He.ga K "BadPaper")) rfl T.g_BadPaper rfl) pa_nil))) pa_nil))) (pa_cons (pe_tup (pa_cons pe_str (pa_cons (pe_callB (callX_isiK (K := K) rfl hot) rfl T.f_isinstance (by decide +kernel) (pa_cons (pv 0) (pa_cons (pe_glob (v := .ref (He.ga K "BadFoe")) rfl T.g_BadFoe rfl) pa_nil))) pa_nil))) pa_nil)))))))
  (pss_cons (ps_set (i := 1) sc_law_class.nd rfl (Or.inl rfl) (pe_op opA_add (pv 1) (pe_lst (pa_cons (pe_tup (pa_cons pe_str (pa_cons (pe_callB (callX_isiK (K := K) rfl hot) rfl T.f_isinstance (by decide +kernel) (pa_cons (pv 0) (pa_cons (pe_glob (v := .ref (He.ga K "BadChooser")) rfl T.g_BadChooser rfl) pa_nil))) pa_nil))) (pa_cons (pe_tup (pa_cons pe_str (pa_cons (pe_callB (callX_isiK (K := K) rfl hot) rfl T.f_isinstance (by decide +kernel) (pa_cons (pv 0) (pa_cons (pe_glob (v := .ref (He.ga K "BadPlan")) rfl T.g_BadPlan rfl) pa_nil))) pa_nil))) (pa_cons (pe_tup (pa_cons pe_str (pa_cons (pe_callB (callX_isiK (K := K) rfl hot) rfl T.f_isinstance (by decide +kernel) (pa_cons (pv 0) (pa_cons (pe_glob (v := .ref (He.ga K "BadOffers")) rfl T.g_BadOffers rfl) pa_nil))) pa_nil))) (pa_cons (pe_tup (pa_cons pe_str (pa_cons (pe_callB (callX_isiK (K := K) rfl hot) rfl T.f_isinstance (by decide +kernel) (pa_cons (pv 0) (pa_cons (pe_glob (v := .ref (He.ga K "BadLog")) rfl T.g_BadLog rfl) pa_nil))) pa_nil))) pa_nil)))))))
  (pss_cons (ps_set (i := 1) sc_law_class.nd rfl (Or.inl rfl) (pe_op opA_add (pv 1) (pe_lst (pa_cons (pe_tup (pa_cons pe_str (pa_cons (pe_callB (callX_isiK (K := K) rfl hot) rfl T.f_isinstance (by decide +kernel) (pa_cons (pv 0) (pa_cons (pe_glob (v := .ref (He.ga K "BadDraw")) rfl T.g_BadDraw rfl) pa_nil))) pa_nil))) (pa_cons (pe_tup (pa_cons pe_str (pa_cons (pe_callB (callX_isiK (K := K) rfl hot) rfl T.f_isinstance (by decide +kernel) (pa_cons (pv 0) (pa_cons (pe_glob (v := .ref (He.ga K "BadScript")) rfl T.g_BadScript rfl) pa_nil))) pa_nil))) (pa_cons (pe_tup (pa_cons pe_str (pa_cons (pe_callB (callX_isiK (K := K) rfl hot) rfl T.f_isinstance (by decide +kernel) (pa_cons (pv 0) (pa_cons (pe_glob (v := .ref (He.ga K "Unlike")) rfl T.g_Unlike rfl) pa_nil))) pa_nil))) (pa_cons (pe_tup (pa_cons pe_str (pa_cons (pe_callB (callX_isiK (K := K) rfl hot) rfl T.f_isinstance (by decide +kernel) (pa_cons (pv 0) (pa_cons (pe_glob (v := .ref (He.ga K "TooMany")) rfl T.g_TooMany rfl) pa_nil))) pa_nil))) pa_nil)))))))
  (pss_cons (ps_set (i := 1) sc_law_class.nd rfl (Or.inl rfl) (pe_op opA_add (pv 1) (pe_lst (pa_cons (pe_tup (pa_cons pe_str (pa_cons (pe_callB (callX_isiK (K := K) rfl hot) rfl T.f_isinstance (by decide +kernel) (pa_cons (pv 0) (pa_cons (pe_glob (v := .ref (He.ga K "NoSuch")) rfl T.g_NoSuch rfl) pa_nil))) pa_nil))) (pa_cons (pe_tup (pa_cons pe_str (pa_cons (pe_callB (callX_isiK (K := K) rfl hot) rfl T.f_isinstance (by decide +kernel) (pa_cons (pv 0) (pa_cons (pe_glob (v := .ref (He.ga K "Refused")) rfl T.g_Refused rfl) pa_nil))) pa_nil))) (pa_cons (pe_tup (pa_cons pe_str (pa_cons (pe_callB (callX_isiK (K := K) rfl hot) rfl T.f_isinstance (by decide +kernel) (pa_cons (pv 0) (pa_cons (pe_glob (v := .ref (He.ga K "OutOfTurn")) rfl T.g_OutOfTurn rfl) pa_nil))) pa_nil))) (pa_cons (pe_tup (pa_cons pe_str (pa_cons (pe_callB (callX_isiK (K := K) rfl hot) rfl T.f_isinstance (by decide +kernel) (pa_cons (pv 0) (pa_cons (pe_glob (v := .ref (He.ga K "Ended")) rfl T.g_Ended rfl) pa_nil))) pa_nil))) pa_nil)))))))
  (pss_cons (ps_set (i := 1) sc_law_class.nd rfl (Or.inl rfl) (pe_op opA_add (pv 1) (pe_lst (pa_cons (pe_tup (pa_cons pe_str (pa_cons (pe_callB (callX_isiK (K := K) rfl hot) rfl T.f_isinstance (by decide +kernel) (pa_cons (pv 0) (pa_cons (pe_bltn (v := .ty "ValueError") (u := .type "ValueError") rfl T.f_ValueError (by decide +kernel) rfl) pa_nil))) pa_nil))) (pa_cons (pe_tup (pa_cons pe_str (pa_cons (pe_callB (callX_isiK (K := K) rfl hot) rfl T.f_isinstance (by decide +kernel) (pa_cons (pv 0) (pa_cons (pe_bltn (v := .ty "LookupError") (u := .type "LookupError") rfl T.f_LookupError (by decide +kernel) rfl) pa_nil))) pa_nil))) (pa_cons (pe_tup (pa_cons pe_str (pa_cons (pe_callB (callX_isiK (K := K) rfl hot) rfl T.f_isinstance (by decide +kernel) (pa_cons (pv 0) (pa_cons (pe_bltn (v := .ty "RuntimeError") (u := .type "RuntimeError") rfl T.f_RuntimeError (by decide +kernel) rfl) pa_nil))) pa_nil))) pa_nil))))))
  (pss_one (ps_ret (pe_lcH (own := [("each", 2)]) hot.hot sc_law_class.nd (pv 1) (blkOk_by (own := [("each", 2)]) (N := N_law_class) (sc := defScope st_law_class) (by decide +kernel)) (fun _ _ _ _ _ => pg_name (i := 2) sc_law_class.nd rfl (Or.inl rfl)) (fun _ _ _ _ _ => pts_one (pt_val (pe_ix (ixK (K := K) rfl) (pv 2) pe_int (fun _ _ => rfl)))) (fun _ _ _ _ _ => (pe_ix (ixK (K := K) rfl) (pv 2) pe_int (fun _ _ => rfl)))))))))))), ?_⟩
  try dsimp only [cxH, List.map]
  obtain ⟨rfl, c, dd, fs, hc, rfl, rfl, hd, k⟩ := h
  obtain ⟨fl, X⟩ := exf T hc
  walk_at "s"
  refine x_isX (b := (decide (c = "BadName"))) ?_ (fun _ r => r) hd X.ic (T.kit c hc "BadName" (by decide))
  walk_at "s"
  intro p1 n_p1
  have s1 : Same H (upd H p1 (.tup [.str "BadName", .bl (decide (c = "BadName"))])) := Same.new n_p1
  have e_p1 : upd H p1 (.tup [.str "BadName", .bl (decide (c = "BadName"))]) p1 = some (.tup [.str "BadName", .bl (decide (c = "BadName"))]) := upd_same
  have d1 := s1 _ _ hd
  generalize upd H p1 (.tup [.str "BadName", .bl (decide (c = "BadName"))]) = H1 at s1 e_p1 d1 ⊢
  walk_at "s"
  refine x_isX (b := (decide (c = "BadFraction"))) ?_ (fun _ r => r) d1 X.ic (T.kit c hc "BadFraction" (by decide))
  walk_at "s"
  intro p2 n_p2
  have s2 : Same H1 (upd H1 p2 (.tup [.str "BadFraction", .bl (decide (c = "BadFraction"))])) := Same.new n_p2
  have e_p2 : upd H1 p2 (.tup [.str "BadFraction", .bl (decide (c = "BadFraction"))]) p2 = some (.tup [.str "BadFraction", .bl (decide (c = "BadFraction"))]) := upd_same
  have d2 := s2 _ _ d1
  generalize upd H1 p2 (.tup [.str "BadFraction", .bl (decide (c = "BadFraction"))]) = H2 at s2 e_p2 d2 ⊢
  walk_at "s"
  refine x_isX (b := (decide (c = "BadTable"))) ?_ (fun _ r => r) d2 X.ic (T.kit c hc "BadTable" (by decide))
  walk_at "s"
  intro p3 n_p3
  have s3 : Same H2 (upd H2 p3 (.tup [.str "BadTable", .bl (decide (c = "BadTable"))])) := Same.new n_p3
  have e_p3 : upd H2 p3 (.tup [.str "BadTable", .bl (decide (c = "BadTable"))]) p3 = some (.tup [.str "BadTable", .bl (decide (c = "BadTable"))]) := upd_same
  have d3 := s3 _ _ d2
  generalize upd H2 p3 (.tup [.str "BadTable", .bl (decide (c = "BadTable"))]) = H3 at s3 e_p3 d3 ⊢
  walk_at "s"
  refine x_isX (b := (decide (c = "BadBook"))) ?_ (fun _ r => r) d3 X.ic (T.kit c hc "BadBook" (by decide))
  walk_at "s"
  intro p4 n_p4
  have s4 : Same H3 (upd H3 p4 (.tup [.str "BadBook", .bl (decide (c = "BadBook"))])) := Same.new n_p4
  have e_p4 : upd H3 p4 (.tup [.str "BadBook", .bl (decide (c = "BadBook"))]) p4 = some (.tup [.str "BadBook", .bl (decide (c = "BadBook"))]) := upd_same
  have d4 := s4 _ _ d3
  generalize upd H3 p4 (.tup [.str "BadBook", .bl (decide (c = "BadBook"))]) = H4 at s4 e_p4 d4 ⊢
  walk_at "s"
  intro q0 n_q0
  have s5 : Same H4 (upd H4 q0 (.lst [.ref p1, .ref p2, .ref p3, .ref p4])) := Same.new n_q0
  have e_q0 : upd H4 q0 (.lst [.ref p1, .ref p2, .ref p3, .ref p4]) q0 = some (.lst [.ref p1, .ref p2, .ref p3, .ref p4]) := upd_same
  have d5 := s5 _ _ d4
  generalize upd H4 q0 (.lst [.ref p1, .ref p2, .ref p3, .ref p4]) = H5 at s5 e_q0 d5 ⊢
  walk_at "s"
  refine x_isX (b := (decide (c = "BadWorld"))) ?_ (fun _ r => r) d5 X.ic (T.kit c hc "BadWorld" (by decide))
  walk_at "s"
  intro p5 n_p5
  have s6 : Same H5 (upd H5 p5 (.tup [.str "BadWorld", .bl (decide (c = "BadWorld"))])) := Same.new n_p5
  have e_p5 : upd H5 p5 (.tup [.str "BadWorld", .bl (decide (c = "BadWorld"))]) p5 = some (.tup [.str "BadWorld", .bl (decide (c = "BadWorld"))]) := upd_same
  have d6 := s6 _ _ d5
  generalize upd H5 p5 (.tup [.str "BadWorld", .bl (decide (c = "BadWorld"))]) = H6 at s6 e_p5 d6 ⊢
  walk_at "s"
  refine x_isX (b := (decide (c = "BadRow"))) ?_ (fun _ r => r) d6 X.ic (T.kit c hc "BadRow" (by decide))
  walk_at "s"
  intro p6 n_p6
  have s7 : Same H6 (upd H6 p6 (.tup [.str "BadRow", .bl (decide (c = "BadRow"))])) := Same.new n_p6
  have e_p6 : upd H6 p6 (.tup [.str "BadRow", .bl (decide (c = "BadRow"))]) p6 = some (.tup [.str "BadRow", .bl (decide (c = "BadRow"))]) := upd_same
  have d7 := s7 _ _ d6
  generalize upd H6 p6 (.tup [.str "BadRow", .bl (decide (c = "BadRow"))]) = H7 at s7 e_p6 d7 ⊢
  walk_at "s"
  refine x_isX (b := (decide (c = "BadPaper"))) ?_ (fun _ r => r) d7 X.ic (T.kit c hc "BadPaper" (by decide))
  walk_at "s"
  intro p7 n_p7
  have s8 : Same H7 (upd H7 p7 (.tup [.str "BadPaper", .bl (decide (c = "BadPaper"))])) := Same.new n_p7
  have e_p7 : upd H7 p7 (.tup [.str "BadPaper", .bl (decide (c = "BadPaper"))]) p7 = some (.tup [.str "BadPaper", .bl (decide (c = "BadPaper"))]) := upd_same
  have d8 := s8 _ _ d7
  generalize upd H7 p7 (.tup [.str "BadPaper", .bl (decide (c = "BadPaper"))]) = H8 at s8 e_p7 d8 ⊢
  walk_at "s"
  refine x_isX (b := (decide (c = "BadFoe"))) ?_ (fun _ r => r) d8 X.ic (T.kit c hc "BadFoe" (by decide))
  walk_at "s"
  intro p8 n_p8
  have s9 : Same H8 (upd H8 p8 (.tup [.str "BadFoe", .bl (decide (c = "BadFoe"))])) := Same.new n_p8
  have e_p8 : upd H8 p8 (.tup [.str "BadFoe", .bl (decide (c = "BadFoe"))]) p8 = some (.tup [.str "BadFoe", .bl (decide (c = "BadFoe"))]) := upd_same
  have d9 := s9 _ _ d8
  generalize upd H8 p8 (.tup [.str "BadFoe", .bl (decide (c = "BadFoe"))]) = H9 at s9 e_p8 d9 ⊢
  walk_at "s"
  intro q1 n_q1
  have s10 : Same H9 (upd H9 q1 (.lst [.ref p5, .ref p6, .ref p7, .ref p8])) := Same.new n_q1
  have e_q1 : upd H9 q1 (.lst [.ref p5, .ref p6, .ref p7, .ref p8]) q1 = some (.lst [.ref p5, .ref p6, .ref p7, .ref p8]) := upd_same
  have d10 := s10 _ _ d9
  generalize upd H9 q1 (.lst [.ref p5, .ref p6, .ref p7, .ref p8]) = H10 at s10 e_q1 d10 ⊢
  walk_at "s"
  refine x_addL (xs := [.ref p1, .ref p2, .ref p3, .ref p4]) (zs := [.ref p5, .ref p6, .ref p7, .ref p8]) (s10 _ _ (s9 _ _ (s8 _ _ (s7 _ _ (s6 _ _ e_q0))))) e_q1 (short_line (by simp)) fun r1 n_r1 => ?_
  dsimp only [List.cons_append, List.nil_append]
  have s11 : Same H10 (upd H10 r1 (.lst [.ref p1, .ref p2, .ref p3, .ref p4, .ref p5, .ref p6, .ref p7, .ref p8])) := Same.new n_r1
  have e_r1 : upd H10 r1 (.lst [.ref p1, .ref p2, .ref p3, .ref p4, .ref p5, .ref p6, .ref p7, .ref p8]) r1 = some (.lst [.ref p1, .ref p2, .ref p3, .ref p4, .ref p5, .ref p6, .ref p7, .ref p8]) := upd_same
  have d11 := s11 _ _ d10
  generalize upd H10 r1 (.lst [.ref p1, .ref p2, .ref p3, .ref p4, .ref p5, .ref p6, .ref p7, .ref p8]) = H11 at s11 e_r1 d11 ⊢
  walk_at "s"
  refine x_isX (b := (decide (c = "BadChooser"))) ?_ (fun _ r => r) d11 X.ic (T.kit c hc "BadChooser" (by decide))
  walk_at "s"
  intro p9 n_p9
  have s12 : Same H11 (upd H11 p9 (.tup [.str "BadChooser", .bl (decide (c = "BadChooser"))])) := Same.new n_p9
  have e_p9 : upd H11 p9 (.tup [.str "BadChooser", .bl (decide (c = "BadChooser"))]) p9 = some (.tup [.str "BadChooser", .bl (decide (c = "BadChooser"))]) := upd_same
  have d12 := s12 _ _ d11
  generalize upd H11 p9 (.tup [.str "BadChooser", .bl (decide (c = "BadChooser"))]) = H12 at s12 e_p9 d12 ⊢
  walk_at "s"
  refine x_isX (b := (decide (c = "BadPlan"))) ?_ (fun _ r => r) d12 X.ic (T.kit c hc "BadPlan" (by decide))
  walk_at "s"
  intro p10 n_p10
  have s13 : Same H12 (upd H12 p10 (.tup [.str "BadPlan", .bl (decide (c = "BadPlan"))])) := Same.new n_p10
  have e_p10 : upd H12 p10 (.tup [.str "BadPlan", .bl (decide (c = "BadPlan"))]) p10 = some (.tup [.str "BadPlan", .bl (decide (c = "BadPlan"))]) := upd_same
  have d13 := s13 _ _ d12
  generalize upd H12 p10 (.tup [.str "BadPlan", .bl (decide (c = "BadPlan"))]) = H13 at s13 e_p10 d13 ⊢
  walk_at "s"
  refine x_isX (b := (decide (c = "BadOffers"))) ?_ (fun _ r => r) d13 X.ic (T.kit c hc "BadOffers" (by decide))
  walk_at "s"
  intro p11 n_p11
  have s14 : Same H13 (upd H13 p11 (.tup [.str "BadOffers", .bl (decide (c = "BadOffers"))])) := Same.new n_p11
  have e_p11 : upd H13 p11 (.tup [.str "BadOffers", .bl (decide (c = "BadOffers"))]) p11 = some (.tup [.str "BadOffers", .bl (decide (c = "BadOffers"))]) := upd_same
  have d14 := s14 _ _ d13
  generalize upd H13 p11 (.tup [.str "BadOffers", .bl (decide (c = "BadOffers"))]) = H14 at s14 e_p11 d14 ⊢
  walk_at "s"
  refine x_isX (b := (decide (c = "BadLog"))) ?_ (fun _ r => r) d14 X.ic (T.kit c hc "BadLog" (by decide))
  walk_at "s"
  intro p12 n_p12
  have s15 : Same H14 (upd H14 p12 (.tup [.str "BadLog", .bl (decide (c = "BadLog"))])) := Same.new n_p12
  have e_p12 : upd H14 p12 (.tup [.str "BadLog", .bl (decide (c = "BadLog"))]) p12 = some (.tup [.str "BadLog", .bl (decide (c = "BadLog"))]) := upd_same
  have d15 := s15 _ _ d14
  generalize upd H14 p12 (.tup [.str "BadLog", .bl (decide (c = "BadLog"))]) = H15 at s15 e_p12 d15 ⊢
  walk_at "s"
  intro q2 n_q2
  have s16 : Same H15 (upd H15 q2 (.lst [.ref p9, .ref p10, .ref p11, .ref p12])) := Same.new n_q2
  have e_q2 : upd H15 q2 (.lst [.ref p9, .ref p10, .ref p11, .ref p12]) q2 = some (.lst [.ref p9, .ref p10, .ref p11, .ref p12]) := upd_same
  have d16 := s16 _ _ d15
  generalize upd H15 q2 (.lst [.ref p9, .ref p10, .ref p11, .ref p12]) = H16 at s16 e_q2 d16 ⊢
  walk_at "s"
  refine x_addL (xs := [.ref p1, .ref p2, .ref p3, .ref p4, .ref p5, .ref p6, .ref p7, .ref p8]) (zs := [.ref p9, .ref p10, .ref p11, .ref p12]) (s16 _ _ (s15 _ _ (s14 _ _ (s13 _ _ (s12 _ _ e_r1))))) e_q2 (short_line (by simp)) fun r2 n_r2 => ?_
  dsimp only [List.cons_append, List.nil_append]
  have s17 : Same H16 (upd H16 r2 (.lst [.ref p1, .ref p2, .ref p3, .ref p4, .ref p5, .ref p6, .ref p7, .ref p8, .ref p9, .ref p10, .ref p11, .ref p12])) := Same.new n_r2
  have e_r2 : upd H16 r2 (.lst [.ref p1, .ref p2, .ref p3, .ref p4, .ref p5, .ref p6, .ref p7, .ref p8, .ref p9, .ref p10, .ref p11, .ref p12]) r2 = some (.lst [.ref p1, .ref p2, .ref p3, .ref p4, .ref p5, .ref p6, .ref p7, .ref p8, .ref p9, .ref p10, .ref p11, .ref p12]) := upd_same
  have d17 := s17 _ _ d16
  generalize upd H16 r2 (.lst [.ref p1, .ref p2, .ref p3, .ref p4, .ref p5, .ref p6, .ref p7, .ref p8, .ref p9, .ref p10, .ref p11, .ref p12]) = H17 at s17 e_r2 d17 ⊢
  walk_at "s"
  refine x_isX (b := (decide (c = "BadDraw"))) ?_ (fun _ r => r) d17 X.ic (T.kit c hc "BadDraw" (by decide))
  walk_at "s"
  intro p13 n_p13
  have s18 : Same H17 (upd H17 p13 (.tup [.str "BadDraw", .bl (decide (c = "BadDraw"))])) := Same.new n_p13
  have e_p13 : upd H17 p13 (.tup [.str "BadDraw", .bl (decide (c = "BadDraw"))]) p13 = some (.tup [.str "BadDraw", .bl (decide (c = "BadDraw"))]) := upd_same
  have d18 := s18 _ _ d17
  generalize upd H17 p13 (.tup [.str "BadDraw", .bl (decide (c = "BadDraw"))]) = H18 at s18 e_p13 d18 ⊢
  walk_at "s"
  refine x_isX (b := (decide (c = "BadScript"))) ?_ (fun _ r => r) d18 X.ic (T.kit c hc "BadScript" (by decide))
  walk_at "s"
  intro p14 n_p14
  have s19 : Same H18 (upd H18 p14 (.tup [.str "BadScript", .bl (decide (c = "BadScript"))])) := Same.new n_p14
  have e_p14 : upd H18 p14 (.tup [.str "BadScript", .bl (decide (c = "BadScript"))]) p14 = some (.tup [.str "BadScript", .bl (decide (c = "BadScript"))]) := upd_same
  have d19 := s19 _ _ d18
  generalize upd H18 p14 (.tup [.str "BadScript", .bl (decide (c = "BadScript"))]) = H19 at s19 e_p14 d19 ⊢
  walk_at "s"
  refine x_isX (b := (decide (c = "Unlike"))) ?_ (fun _ r => r) d19 X.ic (T.kit c hc "Unlike" (by decide))
  walk_at "s"
  intro p15 n_p15
  have s20 : Same H19 (upd H19 p15 (.tup [.str "Unlike", .bl (decide (c = "Unlike"))])) := Same.new n_p15
  have e_p15 : upd H19 p15 (.tup [.str "Unlike", .bl (decide (c = "Unlike"))]) p15 = some (.tup [.str "Unlike", .bl (decide (c = "Unlike"))]) := upd_same
  have d20 := s20 _ _ d19
  generalize upd H19 p15 (.tup [.str "Unlike", .bl (decide (c = "Unlike"))]) = H20 at s20 e_p15 d20 ⊢
  walk_at "s"
  refine x_isX (b := (decide (c = "TooMany"))) ?_ (fun _ r => r) d20 X.ic (T.kit c hc "TooMany" (by decide))
  walk_at "s"
  intro p16 n_p16
  have s21 : Same H20 (upd H20 p16 (.tup [.str "TooMany", .bl (decide (c = "TooMany"))])) := Same.new n_p16
  have e_p16 : upd H20 p16 (.tup [.str "TooMany", .bl (decide (c = "TooMany"))]) p16 = some (.tup [.str "TooMany", .bl (decide (c = "TooMany"))]) := upd_same
  have d21 := s21 _ _ d20
  generalize upd H20 p16 (.tup [.str "TooMany", .bl (decide (c = "TooMany"))]) = H21 at s21 e_p16 d21 ⊢
  walk_at "s"
  intro q3 n_q3
  have s22 : Same H21 (upd H21 q3 (.lst [.ref p13, .ref p14, .ref p15, .ref p16])) := Same.new n_q3
  have e_q3 : upd H21 q3 (.lst [.ref p13, .ref p14, .ref p15, .ref p16]) q3 = some (.lst [.ref p13, .ref p14, .ref p15, .ref p16]) := upd_same
  have d22 := s22 _ _ d21
  generalize upd H21 q3 (.lst [.ref p13, .ref p14, .ref p15, .ref p16]) = H22 at s22 e_q3 d22 ⊢
  walk_at "s"
  refine x_addL (xs := [.ref p1, .ref p2, .ref p3, .ref p4, .ref p5, .ref p6, .ref p7, .ref p8, .ref p9, .ref p10, .ref p11, .ref p12]) (zs := [.ref p13, .ref p14, .ref p15, .ref p16]) (s22 _ _ (s21 _ _ (s20 _ _ (s19 _ _ (s18 _ _ e_r2))))) e_q3 (short_line (by simp)) fun r3 n_r3 => ?_
  dsimp only [List.cons_append, List.nil_append]
  have s23 : Same H22 (upd H22 r3 (.lst [.ref p1, .ref p2, .ref p3, .ref p4, .ref p5, .ref p6, .ref p7, .ref p8, .ref p9, .ref p10, .ref p11, .ref p12, .ref p13, .ref p14, .ref p15, .ref p16])) := Same.new n_r3
  have e_r3 : upd H22 r3 (.lst [.ref p1, .ref p2, .ref p3, .ref p4, .ref p5, .ref p6, .ref p7, .ref p8, .ref p9, .ref p10, .ref p11, .ref p12, .ref p13, .ref p14, .ref p15, .ref p16]) r3 = some (.lst [.ref p1, .ref p2, .ref p3, .ref p4, .ref p5, .ref p6, .ref p7, .ref p8, .ref p9, .ref p10, .ref p11, .ref p12, .ref p13, .ref p14, .ref p15, .ref p16]) := upd_same
  have d23 := s23 _ _ d22
  generalize upd H22 r3 (.lst [.ref p1, .ref p2, .ref p3, .ref p4, .ref p5, .ref p6, .ref p7, .ref p8, .ref p9, .ref p10, .ref p11, .ref p12, .ref p13, .ref p14, .ref p15, .ref p16]) = H23 at s23 e_r3 d23 ⊢
  walk_at "s"
  refine x_isX (b := (decide (c = "NoSuch"))) ?_ (fun _ r => r) d23 X.ic (T.kit c hc "NoSuch" (by decide))
  walk_at "s"
  intro p17 n_p17
  have s24 : Same H23 (upd H23 p17 (.tup [.str "NoSuch", .bl (decide (c = "NoSuch"))])) := Same.new n_p17
  have e_p17 : upd H23 p17 (.tup [.str "NoSuch", .bl (decide (c = "NoSuch"))]) p17 = some (.tup [.str "NoSuch", .bl (decide (c = "NoSuch"))]) := upd_same
  have d24 := s24 _ _ d23
  generalize upd H23 p17 (.tup [.str "NoSuch", .bl (decide (c = "NoSuch"))]) = H24 at s24 e_p17 d24 ⊢
  walk_at "s"
  refine x_isX (b := (decide (c = "Refused"))) ?_ (fun _ r => r) d24 X.ic (T.kit c hc "Refused" (by decide))
  walk_at "s"
  intro p18 n_p18
  have s25 : Same H24 (upd H24 p18 (.tup [.str "Refused", .bl (decide (c = "Refused"))])) := Same.new n_p18
  have e_p18 : upd H24 p18 (.tup [.str "Refused", .bl (decide (c = "Refused"))]) p18 = some (.tup [.str "Refused", .bl (decide (c = "Refused"))]) := upd_same
  have d25 := s25 _ _ d24
  generalize upd H24 p18 (.tup [.str "Refused", .bl (decide (c = "Refused"))]) = H25 at s25 e_p18 d25 ⊢
  walk_at "s"
  refine x_isX (b := (decide (c = "OutOfTurn"))) ?_ (fun _ r => r) d25 X.ic (T.kit c hc "OutOfTurn" (by decide))
  walk_at "s"
  intro p19 n_p19
  have s26 : Same H25 (upd H25 p19 (.tup [.str "OutOfTurn", .bl (decide (c = "OutOfTurn"))])) := Same.new n_p19
  have e_p19 : upd H25 p19 (.tup [.str "OutOfTurn", .bl (decide (c = "OutOfTurn"))]) p19 = some (.tup [.str "OutOfTurn", .bl (decide (c = "OutOfTurn"))]) := upd_same
  have d26 := s26 _ _ d25
  generalize upd H25 p19 (.tup [.str "OutOfTurn", .bl (decide (c = "OutOfTurn"))]) = H26 at s26 e_p19 d26 ⊢
  walk_at "s"
  refine x_isX (b := (decide (c = "Ended"))) ?_ (fun _ r => r) d26 X.ic (T.kit c hc "Ended" (by decide))
  walk_at "s"
  intro p20 n_p20
  have s27 : Same H26 (upd H26 p20 (.tup [.str "Ended", .bl (decide (c = "Ended"))])) := Same.new n_p20
  have e_p20 : upd H26 p20 (.tup [.str "Ended", .bl (decide (c = "Ended"))]) p20 = some (.tup [.str "Ended", .bl (decide (c = "Ended"))]) := upd_same
  have d27 := s27 _ _ d26
  generalize upd H26 p20 (.tup [.str "Ended", .bl (decide (c = "Ended"))]) = H27 at s27 e_p20 d27 ⊢
  walk_at "s"
  intro q4 n_q4
  have s28 : Same H27 (upd H27 q4 (.lst [.ref p17, .ref p18, .ref p19, .ref p20])) := Same.new n_q4
  have e_q4 : upd H27 q4 (.lst [.ref p17, .ref p18, .ref p19, .ref p20]) q4 = some (.lst [.ref p17, .ref p18, .ref p19, .ref p20]) := upd_same
  have d28 := s28 _ _ d27
  generalize upd H27 q4 (.lst [.ref p17, .ref p18, .ref p19, .ref p20]) = H28 at s28 e_q4 d28 ⊢
  walk_at "s"
  refine x_addL (xs := [.ref p1, .ref p2, .ref p3, .ref p4, .ref p5, .ref p6, .ref p7, .ref p8, .ref p9, .ref p10, .ref p11, .ref p12, .ref p13, .ref p14, .ref p15, .ref p16]) (zs := [.ref p17, .ref p18, .ref p19, .ref p20]) (s28 _ _ (s27 _ _ (s26 _ _ (s25 _ _ (s24 _ _ e_r3))))) e_q4 (short_line (by simp)) fun r4 n_r4 => ?_
  dsimp only [List.cons_append, List.nil_append]
  have s29 : Same H28 (upd H28 r4 (.lst [.ref p1, .ref p2, .ref p3, .ref p4, .ref p5, .ref p6, .ref p7, .ref p8, .ref p9, .ref p10, .ref p11, .ref p12, .ref p13, .ref p14, .ref p15, .ref p16, .ref p17, .ref p18, .ref p19, .ref p20])) := Same.new n_r4
  have e_r4 : upd H28 r4 (.lst [.ref p1, .ref p2, .ref p3, .ref p4, .ref p5, .ref p6, .ref p7, .ref p8, .ref p9, .ref p10, .ref p11, .ref p12, .ref p13, .ref p14, .ref p15, .ref p16, .ref p17, .ref p18, .ref p19, .ref p20]) r4 = some (.lst [.ref p1, .ref p2, .ref p3, .ref p4, .ref p5, .ref p6, .ref p7, .ref p8, .ref p9, .ref p10, .ref p11, .ref p12, .ref p13, .ref p14, .ref p15, .ref p16, .ref p17, .ref p18, .ref p19, .ref p20]) := upd_same
  have d29 := s29 _ _ d28
  generalize upd H28 r4 (.lst [.ref p1, .ref p2, .ref p3, .ref p4, .ref p5, .ref p6, .ref p7, .ref p8, .ref p9, .ref p10, .ref p11, .ref p12, .ref p13, .ref p14, .ref p15, .ref p16, .ref p17, .ref p18, .ref p19, .ref p20]) = H29 at s29 e_r4 d29 ⊢
  walk_at "s"
  refine x_isX (b := true) ?_ (fun _ r => r) d29 X.ic X.ve
  walk_at "s"
  intro p21 n_p21
  have s30 : Same H29 (upd H29 p21 (.tup [.str "ValueError", .bl true])) := Same.new n_p21
  have e_p21 : upd H29 p21 (.tup [.str "ValueError", .bl true]) p21 = some (.tup [.str "ValueError", .bl true]) := upd_same
  have d30 := s30 _ _ d29
  generalize upd H29 p21 (.tup [.str "ValueError", .bl true]) = H30 at s30 e_p21 d30 ⊢
  walk_at "s"
  refine x_isX (b := false) ?_ (fun _ r => r) d30 X.ic X.le
  walk_at "s"
  intro p22 n_p22
  have s31 : Same H30 (upd H30 p22 (.tup [.str "LookupError", .bl false])) := Same.new n_p22
  have e_p22 : upd H30 p22 (.tup [.str "LookupError", .bl false]) p22 = some (.tup [.str "LookupError", .bl false]) := upd_same
  have d31 := s31 _ _ d30
  generalize upd H30 p22 (.tup [.str "LookupError", .bl false]) = H31 at s31 e_p22 d31 ⊢
  walk_at "s"
  refine x_isX (b := false) ?_ (fun _ r => r) d31 X.ic X.re
  walk_at "s"
  intro p23 n_p23
  have s32 : Same H31 (upd H31 p23 (.tup [.str "RuntimeError", .bl false])) := Same.new n_p23
  have e_p23 : upd H31 p23 (.tup [.str "RuntimeError", .bl false]) p23 = some (.tup [.str "RuntimeError", .bl false]) := upd_same
  have d32 := s32 _ _ d31
  generalize upd H31 p23 (.tup [.str "RuntimeError", .bl false]) = H32 at s32 e_p23 d32 ⊢
  walk_at "s"
  intro q5 n_q5
  have s33 : Same H32 (upd H32 q5 (.lst [.ref p21, .ref p22, .ref p23])) := Same.new n_q5
  have e_q5 : upd H32 q5 (.lst [.ref p21, .ref p22, .ref p23]) q5 = some (.lst [.ref p21, .ref p22, .ref p23]) := upd_same
  have d33 := s33 _ _ d32
  generalize upd H32 q5 (.lst [.ref p21, .ref p22, .ref p23]) = H33 at s33 e_q5 d33 ⊢
  walk_at "s"
  refine x_addL (xs := [.ref p1, .ref p2, .ref p3, .ref p4, .ref p5, .ref p6, .ref p7, .ref p8, .ref p9, .ref p10, .ref p11, .ref p12, .ref p13, .ref p14, .ref p15, .ref p16, .ref p17, .ref p18, .ref p19, .ref p20]) (zs := [.ref p21, .ref p22, .ref p23]) (s33 _ _ (s32 _ _ (s31 _ _ (s30 _ _ e_r4)))) e_q5 (short_line (by simp)) fun r5 n_r5 => ?_
  dsimp only [List.cons_append, List.nil_append]
  have s34 : Same H33 (upd H33 r5 (.lst [.ref p1, .ref p2, .ref p3, .ref p4, .ref p5, .ref p6, .ref p7, .ref p8, .ref p9, .ref p10, .ref p11, .ref p12, .ref p13, .ref p14, .ref p15, .ref p16, .ref p17, .ref p18, .ref p19, .ref p20, .ref p21, .ref p22, .ref p23])) := Same.new n_r5
  have e_r5 : upd H33 r5 (.lst [.ref p1, .ref p2, .ref p3, .ref p4, .ref p5, .ref p6, .ref p7, .ref p8, .ref p9, .ref p10, .ref p11, .ref p12, .ref p13, .ref p14, .ref p15, .ref p16, .ref p17, .ref p18, .ref p19, .ref p20, .ref p21, .ref p22, .ref p23]) r5 = some (.lst [.ref p1, .ref p2, .ref p3, .ref p4, .ref p5, .ref p6, .ref p7, .ref p8, .ref p9, .ref p10, .ref p11, .ref p12, .ref p13, .ref p14, .ref p15, .ref p16, .ref p17, .ref p18, .ref p19, .ref p20, .ref p21, .ref p22, .ref p23]) := upd_same
  have d34 := s34 _ _ d33
  generalize upd H33 r5 (.lst [.ref p1, .ref p2, .ref p3, .ref p4, .ref p5, .ref p6, .ref p7, .ref p8, .ref p9, .ref p10, .ref p11, .ref p12, .ref p13, .ref p14, .ref p15, .ref p16, .ref p17, .ref p18, .ref p19, .ref p20, .ref p21, .ref p22, .ref p23]) = H34 at s34 e_r5 d34 ⊢
  walk_at "s"
  have PL : PairL H34 [.ref p1, .ref p2, .ref p3, .ref p4, .ref p5, .ref p6, .ref p7, .ref p8, .ref p9, .ref p10, .ref p11, .ref p12, .ref p13, .ref p14, .ref p15, .ref p16, .ref p17, .ref p18, .ref p19, .ref p20, .ref p21, .ref p22, .ref p23] [("BadName", (decide (c = "BadName"))), ("BadFraction", (decide (c = "BadFraction"))), ("BadTable", (decide (c = "BadTable"))), ("BadBook", (decide (c = "BadBook"))), ("BadWorld", (decide (c = "BadWorld"))), ("BadRow", (decide (c = "BadRow"))), ("BadPaper", (decide (c = "BadPaper"))), ("BadFoe", (decide (c = "BadFoe"))), ("BadChooser", (decide (c = "BadChooser"))), ("BadPlan", (decide (c = "BadPlan"))), ("BadOffers", (decide (c = "BadOffers"))), ("BadLog", (decide (c = "BadLog"))), ("BadDraw", (decide (c = "BadDraw"))), ("BadScript", (decide (c = "BadScript"))), ("Unlike", (decide (c = "Unlike"))), ("TooMany", (decide (c = "TooMany"))), ("NoSuch", (decide (c = "NoSuch"))), ("Refused", (decide (c = "Refused"))), ("OutOfTurn", (decide (c = "OutOfTurn"))), ("Ended", (decide (c = "Ended"))), ("ValueError", true), ("LookupError", false), ("RuntimeError", false)] := ⟨⟨_, rfl, (s34 _ _ (s33 _ _ (s32 _ _ (s31 _ _ (s30 _ _ (s29 _ _ (s28 _ _ (s27 _ _ (s26 _ _ (s25 _ _ (s24 _ _ (s23 _ _ (s22 _ _ (s21 _ _ (s20 _ _ (s19 _ _ (s18 _ _ (s17 _ _ (s16 _ _ (s15 _ _ (s14 _ _ (s13 _ _ (s12 _ _ (s11 _ _ (s10 _ _ (s9 _ _ (s8 _ _ (s7 _ _ (s6 _ _ (s5 _ _ (s4 _ _ (s3 _ _ (s2 _ _ e_p1)))))))))))))))))))))))))))))))))⟩, ⟨⟨_, rfl, (s34 _ _ (s33 _ _ (s32 _ _ (s31 _ _ (s30 _ _ (s29 _ _ (s28 _ _ (s27 _ _ (s26 _ _ (s25 _ _ (s24 _ _ (s23 _ _ (s22 _ _ (s21 _ _ (s20 _ _ (s19 _ _ (s18 _ _ (s17 _ _ (s16 _ _ (s15 _ _ (s14 _ _ (s13 _ _ (s12 _ _ (s11 _ _ (s10 _ _ (s9 _ _ (s8 _ _ (s7 _ _ (s6 _ _ (s5 _ _ (s4 _ _ (s3 _ _ e_p2))))))))))))))))))))))))))))))))⟩, ⟨⟨_, rfl, (s34 _ _ (s33 _ _ (s32 _ _ (s31 _ _ (s30 _ _ (s29 _ _ (s28 _ _ (s27 _ _ (s26 _ _ (s25 _ _ (s24 _ _ (s23 _ _ (s22 _ _ (s21 _ _ (s20 _ _ (s19 _ _ (s18 _ _ (s17 _ _ (s16 _ _ (s15 _ _ (s14 _ _ (s13 _ _ (s12 _ _ (s11 _ _ (s10 _ _ (s9 _ _ (s8 _ _ (s7 _ _ (s6 _ _ (s5 _ _ (s4 _ _ e_p3)))))))))))))))))))))))))))))))⟩, ⟨⟨_, rfl, (s34 _ _ (s33 _ _ (s32 _ _ (s31 _ _ (s30 _ _ (s29 _ _ (s28 _ _ (s27 _ _ (s26 _ _ (s25 _ _ (s24 _ _ (s23 _ _ (s22 _ _ (s21 _ _ (s20 _ _ (s19 _ _ (s18 _ _ (s17 _ _ (s16 _ _ (s15 _ _ (s14 _ _ (s13 _ _ (s12 _ _ (s11 _ _ (s10 _ _ (s9 _ _ (s8 _ _ (s7 _ _ (s6 _ _ (s5 _ _ e_p4))))))))))))))))))))))))))))))⟩, ⟨⟨_, rfl, (s34 _ _ (s33 _ _ (s32 _ _ (s31 _ _ (s30 _ _ (s29 _ _ (s28 _ _ (s27 _ _ (s26 _ _ (s25 _ _ (s24 _ _ (s23 _ _ (s22 _ _ (s21 _ _ (s20 _ _ (s19 _ _ (s18 _ _ (s17 _ _ (s16 _ _ (s15 _ _ (s14 _ _ (s13 _ _ (s12 _ _ (s11 _ _ (s10 _ _ (s9 _ _ (s8 _ _ (s7 _ _ e_p5))))))))))))))))))))))))))))⟩, ⟨⟨_, rfl, (s34 _ _ (s33 _ _ (s32 _ _ (s31 _ _ (s30 _ _ (s29 _ _ (s28 _ _ (s27 _ _ (s26 _ _ (s25 _ _ (s24 _ _ (s23 _ _ (s22 _ _ (s21 _ _ (s20 _ _ (s19 _ _ (s18 _ _ (s17 _ _ (s16 _ _ (s15 _ _ (s14 _ _ (s13 _ _ (s12 _ _ (s11 _ _ (s10 _ _ (s9 _ _ (s8 _ _ e_p6)))))))))))))))))))))))))))⟩, ⟨⟨_, rfl, (s34 _ _ (s33 _ _ (s32 _ _ (s31 _ _ (s30 _ _ (s29 _ _ (s28 _ _ (s27 _ _ (s26 _ _ (s25 _ _ (s24 _ _ (s23 _ _ (s22 _ _ (s21 _ _ (s20 _ _ (s19 _ _ (s18 _ _ (s17 _ _ (s16 _ _ (s15 _ _ (s14 _ _ (s13 _ _ (s12 _ _ (s11 _ _ (s10 _ _ (s9 _ _ e_p7))))))))))))))))))))))))))⟩, ⟨⟨_, rfl, (s34 _ _ (s33 _ _ (s32 _ _ (s31 _ _ (s30 _ _ (s29 _ _ (s28 _ _ (s27 _ _ (s26 _ _ (s25 _ _ (s24 _ _ (s23 _ _ (s22 _ _ (s21 _ _ (s20 _ _ (s19 _ _ (s18 _ _ (s17 _ _ (s16 _ _ (s15 _ _ (s14 _ _ (s13 _ _ (s12 _ _ (s11 _ _ (s10 _ _ e_p8)))))))))))))))))))))))))⟩, ⟨⟨_, rfl, (s34 _ _ (s33 _ _ (s32 _ _ (s31 _ _ (s30 _ _ (s29 _ _ (s28 _ _ (s27 _ _ (s26 _ _ (s25 _ _ (s24 _ _ (s23 _ _ (s22 _ _ (s21 _ _ (s20 _ _ (s19 _ _ (s18 _ _ (s17 _ _ (s16 _ _ (s15 _ _ (s14 _ _ (s13 _ _ e_p9))))))))))))))))))))))⟩, ⟨⟨_, rfl, (s34 _ _ (s33 _ _ (s32 _ _ (s31 _ _ (s30 _ _ (s29 _ _ (s28 _ _ (s27 _ _ (s26 _ _ (s25 _ _ (s24 _ _ (s23 _ _ (s22 _ _ (s21 _ _ (s20 _ _ (s19 _ _ (s18 _ _ (s17 _ _ (s16 _ _ (s15 _ _ (s14 _ _ e_p10)))))))))))))))))))))⟩, ⟨⟨_, rfl, (s34 _ _ (s33 _ _ (s32 _ _ (s31 _ _ (s30 _ _ (s29 _ _ (s28 _ _ (s27 _ _ (s26 _ _ (s25 _ _ (s24 _ _ (s23 _ _ (s22 _ _ (s21 _ _ (s20 _ _ (s19 _ _ (s18 _ _ (s17 _ _ (s16 _ _ (s15 _ _ e_p11))))))))))))))))))))⟩, ⟨⟨_, rfl, (s34 _ _ (s33 _ _ (s32 _ _ (s31 _ _ (s30 _ _ (s29 _ _ (s28 _ _ (s27 _ _ (s26 _ _ (s25 _ _ (s24 _ _ (s23 _ _ (s22 _ _ (s21 _ _ (s20 _ _ (s19 _ _ (s18 _ _ (s17 _ _ (s16 _ _ e_p12)))))))))))))))))))⟩, ⟨⟨_, rfl, (s34 _ _ (s33 _ _ (s32 _ _ (s31 _ _ (s30 _ _ (s29 _ _ (s28 _ _ (s27 _ _ (s26 _ _ (s25 _ _ (s24 _ _ (s23 _ _ (s22 _ _ (s21 _ _ (s20 _ _ (s19 _ _ e_p13))))))))))))))))⟩, ⟨⟨_, rfl, (s34 _ _ (s33 _ _ (s32 _ _ (s31 _ _ (s30 _ _ (s29 _ _ (s28 _ _ (s27 _ _ (s26 _ _ (s25 _ _ (s24 _ _ (s23 _ _ (s22 _ _ (s21 _ _ (s20 _ _ e_p14)))))))))))))))⟩, ⟨⟨_, rfl, (s34 _ _ (s33 _ _ (s32 _ _ (s31 _ _ (s30 _ _ (s29 _ _ (s28 _ _ (s27 _ _ (s26 _ _ (s25 _ _ (s24 _ _ (s23 _ _ (s22 _ _ (s21 _ _ e_p15))))))))))))))⟩, ⟨⟨_, rfl, (s34 _ _ (s33 _ _ (s32 _ _ (s31 _ _ (s30 _ _ (s29 _ _ (s28 _ _ (s27 _ _ (s26 _ _ (s25 _ _ (s24 _ _ (s23 _ _ (s22 _ _ e_p16)))))))))))))⟩, ⟨⟨_, rfl, (s34 _ _ (s33 _ _ (s32 _ _ (s31 _ _ (s30 _ _ (s29 _ _ (s28 _ _ (s27 _ _ (s26 _ _ (s25 _ _ e_p17))))))))))⟩, ⟨⟨_, rfl, (s34 _ _ (s33 _ _ (s32 _ _ (s31 _ _ (s30 _ _ (s29 _ _ (s28 _ _ (s27 _ _ (s26 _ _ e_p18)))))))))⟩, ⟨⟨_, rfl, (s34 _ _ (s33 _ _ (s32 _ _ (s31 _ _ (s30 _ _ (s29 _ _ (s28 _ _ (s27 _ _ e_p19))))))))⟩, ⟨⟨_, rfl, (s34 _ _ (s33 _ _ (s32 _ _ (s31 _ _ (s30 _ _ (s29 _ _ (s28 _ _ e_p20)))))))⟩, ⟨⟨_, rfl, (s34 _ _ (s33 _ _ (s32 _ _ (s31 _ _ e_p21))))⟩, ⟨⟨_, rfl, (s34 _ _ (s33 _ _ (s32 _ _ e_p22)))⟩, ⟨⟨_, rfl, (s34 _ _ (s33 _ _ e_p23))⟩, True.intro⟩⟩⟩⟩⟩⟩⟩⟩⟩⟩⟩⟩⟩⟩⟩⟩⟩⟩⟩⟩⟩⟩⟩
  refine x_lcH (pairB H34) (pairF H34) (fun R r => x_var rfl r) (SqL.of e_r5) (by simp only [List.length_cons, List.length_nil]; rw [sizeLine_eq]; decide) (fun x hx H2 R s r => ?_) (fun x hx hb H2 R s r => ?_) (fun D hD => ?_)
  · obtain ⟨p, z, rfl, e⟩ := pair_at PL x hx
    walk_at "s"
    refine x_ixT (n := 1) (v := .bl z.2) ?_ (SqT.of (s _ _ e)) rfl
    refine ⟨_, rfl, ?_⟩
    rw [pairB_of e] at r
    exact r
  · obtain ⟨p, z, rfl, e⟩ := pair_at PL x hx
    walk_at "s"
    refine x_ixT (n := 0) (v := .str z.1) ?_ (SqT.of (s _ _ e)) rfl
    rw [pairF_of e] at r
    exact r
  rw [pair_list PL]
  refine k D _ (Same.tr s1 (Same.tr s2 (Same.tr s3 (Same.tr s4 (Same.tr s5 (Same.tr s6 (Same.tr s7 (Same.tr s8 (Same.tr s9 (Same.tr s10 (Same.tr s11 (Same.tr s12 (Same.tr s13 (Same.tr s14 (Same.tr s15 (Same.tr s16 (Same.tr s17 (Same.tr s18 (Same.tr s19 (Same.tr s20 (Same.tr s21 (Same.tr s22 (Same.tr s23 (Same.tr s24 (Same.tr s25 (Same.tr s26 (Same.tr s27 (Same.tr s28 (Same.tr s29 (Same.tr s30 (Same.tr s31 (Same.tr s32 (Same.tr s33 (Same.tr s34 (Same.new hD))))))))))))))))))))))))))))))))))) ?_
  rw [upd_same]
  congr 2
  clear PL
  rcases List.mem_cons.mp hc with rfl | hc
  · decide +kernel
  rcases List.mem_cons.mp hc with rfl | hc
  · decide +kernel
  rcases List.mem_cons.mp hc with rfl | hc
  · decide +kernel
  cases hc
end
end K00

set_option maxHeartbeats 4000000
namespace K00
open PySem PySem.Spec PyProof.Rows L2 EL
open SX (S)
local macro_rules | `(tactic| walk_at "s1") => `(tactic| with_reducible first
  | refine x_seq ?_ | refine x_asg ?_ | refine x_op ?_ | refine x_c ?_ | refine x_gName ?_ | refine x_ifS ?_ | refine x_ret ?_ | refine x_test ?_ | refine x_bl ?_
  | refine x_I0 ?_ | refine x_addI ?_ | refine x_mulI ?_ ?_ | refine x_fdiv ?_ ?_ | refine x_mod ?_ ?_ | refine x_un ?_ | refine x_rU ?_ | refine x_pow ?_ ?_
  | refine x_eqI' ?_ | refine x_neI' ?_ | refine x_eqS' ?_ | refine x_neS' ?_
  | refine x_cons ?_ | refine x_nil ?_ | refine x_tup ?_ | refine x_lst ?_ | refine x_callS ?_ | refine x_CB ?_ | refine x_par ?_ | refine x_two ?_
  | refine x_next ?_ | refine x_and ?_ | refine x_or ?_ | refine x_not ?_ | refine x_andV ?_ | refine x_orV ?_ | refine x_notV ?_ | refine x_ex ?_ | refine x_ifE ?_ | refine x_tB ?_ | refine x_retN ?_ | refine x_drop ?_ | refine x_brk ?_ | refine x_cont ?_
  | refine x_intI ?_ | refine x_abs ?_ | refine x_gcd ?_ | refine x_str ?_ ?_ | refine x_sz ?_ | refine x_isN ?_ | refine x_notN ?_ | refine x_sl ?_ | refine x_noPart ?_ | refine x_part ?_ | refine x_exI ?_ | refine x_slS ?_ ?_ | refine x_gSub ?_ | refine x_inS ?_ | refine x_notinS ?_ | refine x_yes ?_ | refine x_m1 ?_ | refine x_m1' ?_ | refine x_ms ?_ | refine x_chain ?_ | refine x_callK ?_ | refine x_callSD ?_ | refine x_ifT' ?_ | refine x_newE ?_ | refine x_gCons ?_ | refine x_gNil ?_ | refine x_gTupU rfl ?_ | refine x_ifX ?_)
local macro_rules | `(tactic| walk_at "side") => `(tactic| with_reducible first | decide | (refine mul_left ?_ ?_ <;> omega) | (refine mul_right ?_ ?_ <;> omega) | (refine div_of ?_ ?_ <;> first | omega | assumption | decide +kernel) | omega | assumption)
local macro_rules | `(tactic| walk_at "s") => `(tactic| repeat (first | walk_at "s1" | ((with_reducible apply x_var); (· exact rfl)) | ((with_reducible apply x_ixU); (· exact rfl)) | ((with_reducible apply x_ixTU); (· exact rfl)) | ((with_reducible apply x_setU); (· exact rfl)) | ((with_reducible apply x_all); (· exact SqL.of upd_same))))
section
variable {P : Program} {w : World} {K : PySem.W.Frag} {mg : Str → Option Value} {base : Heap}
def sp_law_named (K : PySem.W.Frag) : Addr → Value → Option Addr → Sp := fun x cls d => sp3 fun v f y H Q _ => v = .ref x ∧ ∃ (c z : Str) (dd fl : Addr) (fs : List (Str × V)) (xs : List V), c ∈ raisedL ∧ cls = .ref (He.ga K c) ∧ d = some dd ∧ H dd = some (.xd fs) ∧
  f = .ref fl ∧ H fl = some (.lst xs) ∧ xs.length ≤ 10 ∧ y = .str z ∧ z ≠ Str.ofString "" ∧ ∀ p H', Same H H' → H' p = some (.tup (.str c :: xs)) → Q (.ref p) H'
abbrev N_law_named : List Str := ["e", "fields", "why", "names", "base"]
theorem sc_law_named : FnScope N_law_named ["e", "fields", "why"] (defScope st_law_named) := ⟨rfl, rfl, rfl, by decide +kernel, rfl, by decide +kernel, by decide +kernel⟩
theorem b_law_named (T : Txt P K mg) : Binds K (fdOf K "_law_named") ["e", "fields", "why"] [] := T.F_law_named.bindsN fun _ _ _ _ _ _ us hl => match us, hl with | [_, _, _], _ => rfl
theorem okh_law_named (T : Txt P K mg) : FnE P w K mg base (L2N.CX P w) 3 (He.ga K "_law_named") (fdOf K "_law_named") ["e", "fields", "why"] (sp_law_named K) := by
  have G_law_class := okh_law_class (P := P) (w := w) (base := base) T
  refine fnE_of T.F_law_named sc_law_named (fun _ _ _ => sp3_len) (fun cdv A outer s H vs Q E a oe cls d hr hot h => ?_)
  obtain ⟨a0, a1, a2, rfl, h⟩ := h
  refine ⟨_, (pss_cons (ps_set (i := 3) sc_law_named.nd rfl (Or.inl rfl) (pe_callE G_law_class (hr.mono (by decide)) hot rfl T.g_law_class T.k_law_class (b_law_class T) (fun σ => L2N.passAt (L2N.takes_of rfl rfl rfl rfl) σ) (pa_cons (pv 0) pa_nil)))
  (pss_cons (ps_set (i := 4) sc_law_named.nd rfl (Or.inl rfl) (pe_ifExp (pt_cmpR (opK_eq (K := K) rfl hr.units) (pe_ix (ixK (K := K) rfl) (pv 3) pe_int (fun _ _ => rfl)) pe_str (nomark _)) pe_str (pe_ifExp (pt_cmpR (opK_in (K := K) rfl) (pe_ix (ixK (K := K) rfl) (pv 3) pe_int (fun _ _ => rfl)) (pe_lst (pa_cons pe_str (pa_cons pe_str (pa_cons pe_str pa_nil)))) rfl) pe_str pe_str)))
  (pss_cons (ps_if (PW.pt (pw_or (pt_cmpR (opK_ne (K := K) rfl hr.units) (pv 3) (pe_lst (pa_cons (pe_ix (ixK (K := K) rfl) (pv 3) pe_int (fun _ _ => rfl)) (pa_cons (pv 4) pa_nil))) (nomark _)) (pw_or (pt_not (pt_val (pe_callB (callK_isi (K := K) rfl) rfl T.f_isinstance (by decide +kernel) (pa_cons (pv 2) (pa_cons (pe_bltn (v := .ty "str") (u := .type "str") rfl T.f_str (by decide +kernel) rfl) pa_nil))))) (pw_or1 (pt_cmpR (opK_eq (K := K) rfl hr.units) (pv 2) pe_str (nomark _)))))) (pss_one (ps_ret (pe_tup (pa_cons pe_str pa_nil)))) pss_nil)
  (pss_one (ps_ret (pe_callTy (callK_tuple (K := K) rfl) rfl T.f_tuple (by decide +kernel) (pa_cons (pe_op opA_add (pe_lst (pa_cons (pe_ix (ixK (K := K) rfl) (pv 3) pe_int (fun _ _ => rfl)) pa_nil)) (pv 1)) pa_nil))))))), ?_⟩
  try dsimp only [cxH, List.map]
  obtain ⟨rfl, c, z, dd, fl, fs, xs, hc, rfl, rfl, hd, rfl, hf, hlen, rfl, hz, k⟩ := h
  walk_at "s"
  refine sp1_i ⟨rfl, c, dd, fs, hc, rfl, rfl, hd, fun p H1 s1 hp => ?_⟩
  walk_at "s"
  refine x_ixL (n := 0) (v := .str c) ?_ (SqL.of hp) rfl
  walk_at "s"
  have f1 : decide (c = Str.ofString "NoSuch") = false := (by decide +kernel : ∀ c ∈ raisedL, decide (c = Str.ofString "NoSuch") = false) c hc
  have f2 : inV (.str c) [.str "Refused", .str "OutOfTurn", .str "Ended"] = false := (by decide +kernel : ∀ c ∈ raisedL, inV (.str c) [.str "Refused", .str "OutOfTurn", .str "Ended"] = false) c hc
  have f3 : PyData.eqv (.list [.str c, .str "ValueError"]) (.list [.str c, .str "ValueError"]) = true := (by decide +kernel : ∀ c ∈ raisedL, PyData.eqv (.list [.str c, .str "ValueError"]) (.list [.str c, .str "ValueError"]) = true) c hc
  have f4 : SeqAt.shaped (.list [.str c, .str "ValueError"]) = true := (by decide +kernel : ∀ c ∈ raisedL, SeqAt.shaped (.list [.str c, .str "ValueError"]) = true) c hc
  refine x_ifF f1 ?_
  walk_at "s"
  refine x_ixL (n := 0) (v := .str c) ?_ (SqL.of hp) rfl
  walk_at "s"
  intro q1 hq1
  have s2 := Same.tr s1 (Same.new (o := .lst [.str "Refused", .str "OutOfTurn", .str "Ended"]) hq1)
  have hp := Same.new (o := .lst [.str "Refused", .str "OutOfTurn", .str "Ended"]) hq1 _ _ hp
  refine x_inL ?_ (.inl (SqL.of upd_same)) rfl rfl
  rw [f2]
  refine ⟨_, rfl, x_ifF rfl ?_⟩
  generalize upd H1 q1 _ = H2 at s2 hp ⊢
  walk_at "s"
  refine x_ixL (n := 0) (v := .str c) ?_ (SqL.of hp) rfl
  walk_at "s"
  intro q2 hq2
  have s3 := Same.tr s2 (Same.new (o := .lst [.str c, .str "ValueError"]) hq2)
  have hp := Same.new (o := .lst [.str c, .str "ValueError"]) hq2 _ _ hp
  refine x_neD (d := .list [.str c, .str "ValueError"]) (e := .list [.str c, .str "ValueError"]) ?_ (.lst (SqL.of hp) (.cons (.str _) (.cons (.str _) .nil))) (.lst (SqL.of upd_same) (.cons (.str _) (.cons (.str _) .nil))) f4 f4
  rw [f3]
  refine ⟨_, rfl, x_ifF rfl ?_⟩
  generalize upd H2 q2 _ = H3 at s3 hp ⊢
  walk_at "s"
  refine x_isi (b := true) ?_ (.base (.str z)) (by decide +kernel)
  walk_at "s"
  refine x_ifF rfl ?_
  walk_at "s"
  refine x_ifF (decide_eq_false hz) ?_
  walk_at "s"
  refine x_ixL (n := 0) (v := .str c) ?_ (SqL.of hp) rfl
  walk_at "s"
  intro q3 hq3
  have s4 := Same.tr s3 (Same.new (o := .lst [.str c]) hq3)
  walk_at "s"
  refine x_addL (xs := [.str c]) (zs := xs) upd_same (s4 _ _ hf) (short_line (by rw [List.length_singleton]; omega)) fun q4 hq4 => ?_
  walk_at "s"
  refine x_tupL (SqL.of upd_same) fun q5 hq5 => ?_
  exact k _ _ (Same.tr s4 (Same.tr (Same.new hq4) (Same.new hq5))) upd_same
end
end K00

set_option maxHeartbeats 4000000
namespace K00
open PySem PySem.Spec PyProof.Rows L2 EL
open SX (S)
local macro_rules | `(tactic| walk_at "s1") => `(tactic| with_reducible first
  | refine x_seq ?_ | refine x_asg ?_ | refine x_op ?_ | refine x_c ?_ | refine x_gName ?_ | refine x_ifS ?_ | refine x_ret ?_ | refine x_test ?_ | refine x_bl ?_
  | refine x_I0 ?_ | refine x_addI ?_ | refine x_mulI ?_ ?_ | refine x_fdiv ?_ ?_ | refine x_mod ?_ ?_ | refine x_un ?_ | refine x_rU ?_ | refine x_pow ?_ ?_
  | refine x_eqI' ?_ | refine x_neI' ?_ | refine x_eqS' ?_ | refine x_neS' ?_
  | refine x_cons ?_ | refine x_nil ?_ | refine x_tup ?_ | refine x_lst ?_ | refine x_callS ?_ | refine x_CB ?_ | refine x_par ?_ | refine x_two ?_
  | refine x_next ?_ | refine x_and ?_ | refine x_or ?_ | refine x_not ?_ | refine x_andV ?_ | refine x_orV ?_ | refine x_notV ?_ | refine x_ex ?_ | refine x_ifE ?_ | refine x_tB ?_ | refine x_retN ?_ | refine x_drop ?_ | refine x_brk ?_ | refine x_cont ?_
  | refine x_intI ?_ | refine x_abs ?_ | refine x_gcd ?_ | refine x_str ?_ ?_ | refine x_sz ?_ | refine x_isN ?_ | refine x_notN ?_ | refine x_sl ?_ | refine x_noPart ?_ | refine x_part ?_ | refine x_exI ?_ | refine x_slS ?_ ?_ | refine x_gSub ?_ | refine x_inS ?_ | refine x_notinS ?_ | refine x_yes ?_ | refine x_m1 ?_ | refine x_m1' ?_ | refine x_ms ?_ | refine x_chain ?_ | refine x_callK ?_ | refine x_callSD ?_ | refine x_ifT' ?_ | refine x_newE ?_ | refine x_gCons ?_ | refine x_gNil ?_ | refine x_gTupU rfl ?_ | refine x_ifX ?_)
local macro_rules | `(tactic| walk_at "side") => `(tactic| with_reducible first | decide | (refine mul_left ?_ ?_ <;> omega) | (refine mul_right ?_ ?_ <;> omega) | (refine div_of ?_ ?_ <;> first | omega | assumption | decide +kernel) | omega | assumption)
local macro_rules | `(tactic| walk_at "s") => `(tactic| repeat (first | walk_at "s1" | ((with_reducible apply x_var); (· exact rfl)) | ((with_reducible apply x_ixU); (· exact rfl)) | ((with_reducible apply x_ixTU); (· exact rfl)) | ((with_reducible apply x_setU); (· exact rfl)) | ((with_reducible apply x_all); (· exact SqL.of upd_same))))
section
variable {P : Program} {w : World} {K : PySem.W.Frag} {mg : Str → Option Value} {base : Heap}
theorem exm_of (T : Txt P K mg) {c : Str} (hc : c ∈ raisedL) : ∀ l : List Str, (∀ b ∈ l, b ∈ clsL) → PySem.W.exmAny K (.ref (He.ga K c)) (l.map fun b => Value.ref (He.ga K b)) = some (decide (c ∈ l))
  | [], _ => rfl
  | b :: l, h => by
    have h1 := T.exm c hc b (h b List.mem_cons_self)
    have h2 := exm_of T hc l fun x hx => h x (List.mem_cons_of_mem _ hx)
    rw [List.map_cons]
    unfold PySem.W.exmAny
    rw [h1, h2]
    simp only [List.mem_cons]
    rw [Bool.decide_or]
/-- the fields of a raised error, and what the law tells of them -/
def Fields (c : Str) (fs : List (Str × V)) (xs : List V) : Prop := ((c = "BadName" ∨ c = "BadFraction") ∧ xs = [] ∧ ∃ z : Str, z ≠ Str.ofString "" ∧ fs.lookup ("why" : Str) = some (.str z)) ∨ (c = "TooMany" ∧ ∃ u v, xs = [u, v] ∧ fs.lookup ("what" : Str) = some u ∧ fs.lookup ("count" : Str) = some v)
/-- such an error -/
def Err (K : PySem.W.Frag) (cls : Value) (d : Option Addr) (H : Hp) (c : Str) (xs : List V) : Prop := c ∈ raisedL ∧ cls = .ref (He.ga K c) ∧ ∃ (dd : Addr) (fs : List (Str × V)), d = some dd ∧ H dd = some (.xd fs) ∧ Fields c fs xs
/-- a function that raises such errors: G -/
def Raising (P : Program) (w : World) (K : PySem.W.Frag) (mg : Str → Option Value) (base : Heap) (v : V) (H : Hp) (G : Value → Option Addr → Hp → Prop) : Prop := ∃ (f : Addr) (tl : Hp → VK → XK → Prop), v = .ref f ∧ Thunk P w K mg base 9 f tl ∧ ∀ (Q : VK) (E : XK), (∀ cls d H', G cls d H' → E cls d H') → tl H Q E
def sp_law_fault (P : Program) (w : World) (K : PySem.W.Frag) (mg : Str → Option Value) (base : Heap) : Sp := sp1 fun v H Q _ => ∃ G, Raising P w K mg base v H G ∧ ∀ cls d H', G cls d H' → ∃ c xs, Err K cls d H' c xs ∧ ∀ p H'', Same H' H'' → H'' p = some (.tup (.str c :: xs)) → Q (.ref p) H''
abbrev N_law_fault : List Str := ["call", "e"]
theorem sc_law_fault : FnScope N_law_fault ["call"] (defScope st_law_fault) := ⟨rfl, rfl, rfl, by decide +kernel, rfl, by decide +kernel, by decide +kernel⟩
theorem b_law_fault (T : Txt P K mg) : Binds K (fdOf K "_law_fault") ["call"] [] := T.F_law_fault.bindsN fun _ _ _ _ _ _ us hl => match us, hl with | [_], _ => rfl
theorem ok_law_fault (T : Txt P K mg) : Ok P w K mg base 10 "_law_fault" ["call"] (sp_law_fault P w K mg base) := by
  have G_law_named := okh_law_named (P := P) (w := w) (base := base) T
  refine T.F_law_fault.ok sc_law_fault sp1_len (fun cdv A outer s H vs Q E hr h => ?_)
  obtain ⟨a0, rfl, h⟩ := h
  refine ⟨_, (pss_cons (ps_tryC (i := 1) rfl rfl sc_law_fault.nd rfl rfl (L2N.takes_of rfl rfl rfl rfl) (fun W pn xe tk hp => (pss_one (ps_expr (show PE _ _ (tThunk P w K mg base 9 0 (WE W)) from (pe_thunk (k := 9) (i := 0) rfl (.inl rfl) (hr.mono (by decide)) (fun σ => L2N.passAt tk σ))))))
  (CsOk.cons (cls_tup (.cons ⟨rfl, by decide, .inl T.g_BadName⟩ (.cons ⟨rfl, by decide, .inl T.g_BadFraction⟩ (.cons ⟨rfl, by decide, .inl T.g_BadTable⟩ (.cons ⟨rfl, by decide, .inl T.g_BadWorld⟩ (.cons ⟨rfl, by decide, .inl T.g_BadRow⟩ (.cons ⟨rfl, by decide, .inl T.g_BadDraw⟩ .nil)))))) (by simp)) (fun a oe cls d pn hz hf => (pss_one (ps_ret (pe_callE G_law_named (roomS hr (by decide)) (hotE_suite hz hf) rfl T.g_law_named T.k_law_named (b_law_named T) (fun σ => L2N.passAt takesF σ) (pa_cons (pv 1) (pa_cons (pe_lst pa_nil) (pa_cons (pe_xfA hz hf (pv 1)) pa_nil)))))))
  (CsOk.cons (cls_tup (.cons ⟨rfl, by decide, .inl T.g_BadBook⟩ (.cons ⟨rfl, by decide, .inl T.g_BadPaper⟩ (.cons ⟨rfl, by decide, .inl T.g_BadFoe⟩ (.cons ⟨rfl, by decide, .inl T.g_BadChooser⟩ (.cons ⟨rfl, by decide, .inl T.g_BadPlan⟩ (.cons ⟨rfl, by decide, .inl T.g_BadOffers⟩ (.cons ⟨rfl, by decide, .inl T.g_BadLog⟩ (.cons ⟨rfl, by decide, .inl T.g_BadScript⟩ .nil)))))))) (by simp)) (fun _ _ _ _ _ _ _ => pss_never)
  (CsOk.cons (cls_tup (.cons ⟨rfl, by decide, .inl T.g_Unlike⟩ (.cons ⟨rfl, by decide, .inl T.g_OutOfTurn⟩ (.cons ⟨rfl, by decide, .inl T.g_Ended⟩ .nil))) (by simp)) (fun _ _ _ _ _ _ _ => pss_never)
  (CsOk.cons (cls_one ⟨rfl, by decide, .inl T.g_TooMany⟩) (fun a oe cls d pn hz hf => (pss_one (ps_ret (pe_callE G_law_named (roomS hr (by decide)) (hotE_suite hz hf) rfl T.g_law_named T.k_law_named (b_law_named T) (fun σ => L2N.passAt takesF σ) (pa_cons (pv 1) (pa_cons (pe_lst (pa_cons (pe_xfA hz hf (pv 1)) (pa_cons (pe_xfA hz hf (pv 1)) pa_nil))) (pa_cons pe_str pa_nil)))))))
  (CsOk.cons (cls_one ⟨rfl, by decide, .inl T.g_NoSuch⟩) (fun _ _ _ _ _ _ _ => pss_never)
  (CsOk.cons (cls_one ⟨rfl, by decide, .inl T.g_Refused⟩) (fun _ _ _ _ _ _ _ => pss_never)
  .nil)))))))
  (pss_one (ps_ret (pe_tup pa_nil)))), ?_⟩
  try dsimp only [cxOf, List.map]
  obtain ⟨G, ⟨f, tl, rfl, th, hT⟩, k⟩ := h
  walk_at "s"
  refine ⟨f, tl, rfl, th, hT _ _ fun cls d H' g => ?_⟩
  obtain ⟨c, xs, ⟨hc, rfl, dd, fs, rfl, hd, hf⟩, q⟩ := k _ _ _ g
  have cl := fun (l : List Str) (h : ∀ b ∈ l, b ∈ clsL) (r : Bool) (e : decide (c ∈ l) = r) => (exm_of T hc l h).trans (congrArg some e)
  show wCl _ _ _ _ _ _ _ _ _
  rcases hf with ⟨hc2, rfl, z, hz, hw⟩ | ⟨rfl, u, v, rfl, hu, hv⟩
  · have hX : XfC K (He.ga K c) ∧ PySem.W.findIn K (.ref (He.ga K c)) "why" = some none := by
      rcases hc2 with rfl | rfl
      · exact ⟨T.x_BadName.xf, T.x_BadName.no _ (by simp)⟩
      · exact ⟨T.x_BadFraction.xf, T.x_BadFraction.no _ (by simp)⟩
    refine ⟨true, cl ["BadName", "BadFraction", "BadTable", "BadWorld", "BadRow", "BadDraw"] (by decide) _ (by rcases hc2 with rfl | rfl <;> decide), fun _ a ha => ?_, (fun h => by cases h)⟩
    walk_at "s"
    intro p1 hp1
    have s1 : Same H' _ := Same.new (o := .lst []) hp1
    refine x_xf hX.1 hX.2 rfl (s1 _ _ hd) hw ?_
    walk_at "s"
    exact sp3_i ⟨rfl, c, z, dd, p1, fs, [], hc, rfl, rfl, s1 _ _ hd, rfl, upd_same, Nat.zero_le _, rfl, hz, fun p H'' s2 hp => q p H'' (Same.tr s1 s2) hp⟩
  · have hX := T.x_TooMany
    refine ⟨false, cl ["BadName", "BadFraction", "BadTable", "BadWorld", "BadRow", "BadDraw"] (by decide) _ (by decide), (fun h => by cases h), fun _ => ?_⟩
    refine ⟨false, cl ["BadBook", "BadPaper", "BadFoe", "BadChooser", "BadPlan", "BadOffers", "BadLog", "BadScript"] (by decide) _ (by decide), (fun h => by cases h), fun _ => ?_⟩
    refine ⟨false, cl ["Unlike", "OutOfTurn", "Ended"] (by decide) _ (by decide), (fun h => by cases h), fun _ => ?_⟩
    refine ⟨true, cl ["TooMany"] (by decide) _ (by decide), fun _ a ha => ?_, (fun h => by cases h)⟩
    walk_at "s"
    refine x_xf hX.xf (hX.no _ (by simp)) rfl hd hu ?_
    walk_at "s"
    refine x_xf hX.xf (hX.no _ (by simp)) rfl hd hv ?_
    walk_at "s"
    intro p1 hp1
    have s1 : Same H' _ := Same.new (o := .lst [u, v]) hp1
    walk_at "s"
    exact sp3_i ⟨rfl, _, Str.ofString "told", dd, p1, fs, [u, v], hc, rfl, rfl, s1 _ _ hd, rfl, upd_same, by simp, rfl, by decide, fun p H'' s2 hp => q p H'' (Same.tr s1 s2) hp⟩
def sp_law_refused (P : Program) (w : World) (K : PySem.W.Frag) (mg : Str → Option Value) (base : Heap) : Sp := sp2 fun v due H Q _ => ∃ G, Raising P w K mg base v H G ∧ ∀ cls d H', G cls d H' → ∃ c xs, Err K cls d H' c xs ∧ ∀ p H'', Same H' H'' → H'' p = some (.tup (.str c :: xs)) → Lk K H'' 3 (.ref p) due ∧ ∀ H3, Same H'' H3 → Q (.bl true) H3
abbrev N_law_refused : List Str := ["call", "due"]
theorem sc_law_refused : FnScope N_law_refused ["call", "due"] (defScope st_law_refused) := ⟨rfl, rfl, rfl, by decide +kernel, rfl, by decide +kernel, by decide +kernel⟩
theorem b_law_refused (T : Txt P K mg) : Binds K (fdOf K "_law_refused") ["call", "due"] [] := T.F_law_refused.bindsN fun _ _ _ _ _ _ us hl => match us, hl with | [_, _], _ => rfl
theorem ok_law_refused (T : Txt P K mg) : Ok P w K mg base 11 "_law_refused" ["call", "due"] (sp_law_refused P w K mg base) := by
  have G_law_like := ok_law_like (P := P) (w := w) (base := base) T 3
  have G_law_fault := ok_law_fault (P := P) (w := w) (base := base) T
  refine T.F_law_refused.ok sc_law_refused sp2_len (fun cdv A outer s H vs Q E hr h => ?_)
  obtain ⟨a0, a1, rfl, h⟩ := h
  refine ⟨_, (pss_one (ps_ret (pe_callS G_law_like (hr.mono (by decide)) rfl T.g_law_like T.k_law_like (b_law_like T) (fun σ => L2N.passAt (L2N.takes_of rfl rfl rfl rfl) σ) (pa_cons (pe_callS G_law_fault (hr.mono (by decide)) rfl T.g_law_fault T.k_law_fault (b_law_fault T) (fun σ => L2N.passAt (L2N.takes_of rfl rfl rfl rfl) σ) (pa_cons (pv 0) pa_nil)) (pa_cons (pv 1) pa_nil))))), ?_⟩
  try dsimp only [cxOf, List.map]
  obtain ⟨G, hR, k⟩ := h
  walk_at "s"
  refine sp1_i ⟨G, hR, fun cls d H' g => ?_⟩
  obtain ⟨c, xs, he, q⟩ := k cls d H' g
  refine ⟨c, xs, he, fun p H'' s1 hp => ?_⟩
  obtain ⟨q1, q2⟩ := q p H'' s1 hp
  walk_at "s"
  exact sp2_i ⟨q1, q2⟩
/-! ### what the raising defs let out -/
def WhyG (K : PySem.W.Frag) (c : Str) (H0 : Hp) : Value → Option Addr → Hp → Prop := fun cls d H' => ∃ (H1 : Hp) (dd : Addr) (z : Str), Same H0 H1 ∧ H1 dd = none ∧ z ∈ whyL ∧ cls = .ref (He.ga K c) ∧ d = some dd ∧ H' = upd H1 dd (.xd [("why", .str z)])
theorem ewhy_of {c : Str} {H0 : Hp} {E : XK} (h : ∀ cls d H', WhyG K c H0 cls d H' → E cls d H') : EWhy K H0 E c := fun H' d z s1 hd hz => h _ _ _ ⟨H', d, z, s1, hd, hz, rfl, rfl, rfl⟩
def ManyG (K : PySem.W.Frag) (r : Nat) (H0 : Hp) : Value → Option Addr → Hp → Prop := fun cls d H' => ∃ (H1 : Hp) (dd : Addr), Same H0 H1 ∧ H1 dd = none ∧ cls = .ref (He.ga K "TooMany") ∧ d = some dd ∧ H' = upd H1 dd (.xd [("count", .int (r : Nat)), ("what", .str "figures")])
theorem emany_of {r : Nat} {H0 : Hp} {E : XK} (h : ∀ cls d H', ManyG K r H0 cls d H' → E cls d H') : EMany K H0 E r := fun H' d s1 hd => h _ _ _ ⟨H', d, s1, hd, rfl, rfl, rfl⟩
theorem refused_why {c : Str} {H0 : Hp} {q : Addr} {Q : VK} (hc : c = "BadName" ∨ c = "BadFraction") (hq : H0 q = some (.tup [.str c])) (k : ∀ H3, Same H0 H3 → Q (.bl true) H3) : ∀ cls d H', WhyG K c H0 cls d H' → ∃ c xs, Err K cls d H' c xs ∧
    ∀ p H'', Same H' H'' → H'' p = some (.tup (.str c :: xs)) → Lk K H'' 3 (.ref p) (.ref q) ∧ ∀ H3, Same H'' H3 → Q (.bl true) H3 := by
  rintro cls d H' ⟨H1, dd, z, s1, hd, hz, rfl, rfl, rfl⟩
  have s2 : Same H0 (upd H1 dd (.xd [("why", .str z)])) := Same.tr s1 (Same.new hd)
  refine ⟨c, [], ⟨by rcases hc with rfl | rfl <;> decide, rfl, dd, _, rfl, upd_same, .inl ⟨hc, rfl, z, (by decide : ∀ z ∈ whyL, z ≠ Str.ofString "") z hz, rfl⟩⟩, fun p H'' s3 hp => ⟨?_, fun H3 s4 => k _ (Same.tr s2 (Same.tr s3 s4))⟩⟩
  refine .inr (.inr (.inr ⟨p, q, [.str c], [.str c], rfl, rfl, .inr ⟨SqT.of hp, SqT.of (s3 _ _ (s2 _ _ hq))⟩, by simp, rfl, fun j x y hx hy => ?_⟩))
  rw [hx] at hy
  cases hy
  match j, hx with
  | 0, hx =>
    cases hx
    exact .inr (.inr (.inl ⟨c, rfl, rfl⟩))
theorem refused_many {r : Nat} {H0 : Hp} {q : Addr} {Q : VK} (hq : H0 q = some (.tup [.str "TooMany", .str "figures", .int (r : Nat)])) (k : ∀ H3, Same H0 H3 → Q (.bl true) H3) : ∀ cls d H', ManyG K r H0 cls d H' → ∃ c xs, Err K cls d H' c xs ∧
    ∀ p H'', Same H' H'' → H'' p = some (.tup (.str c :: xs)) → Lk K H'' 3 (.ref p) (.ref q) ∧ ∀ H3, Same H'' H3 → Q (.bl true) H3 := by
  rintro cls d H' ⟨H1, dd, s1, hd, rfl, rfl, rfl⟩
  have s2 : Same H0 (upd H1 dd (.xd [("count", .int (r : Nat)), ("what", .str "figures")])) := Same.tr s1 (Same.new hd)
  refine ⟨"TooMany", [.str "figures", .int (r : Nat)], ⟨by decide, rfl, dd, _, rfl, upd_same, .inr ⟨rfl, _, _, rfl, rfl, rfl⟩⟩, fun p H'' s3 hp => ⟨?_, fun H3 s4 => k _ (Same.tr s2 (Same.tr s3 s4))⟩⟩
  refine .inr (.inr (.inr ⟨p, q, [.str "TooMany", .str "figures", .int (r : Nat)], [.str "TooMany", .str "figures", .int (r : Nat)], rfl, rfl, .inr ⟨SqT.of hp, SqT.of (s3 _ _ (s2 _ _ hq))⟩, by simp, rfl, fun j x y hx hy => ?_⟩))
  rw [hx] at hy
  cases hy
  match j, hx with
  | 0, hx =>
    cases hx
    exact .inr (.inr (.inl ⟨_, rfl, rfl⟩))
  | 1, hx =>
    cases hx
    exact .inr (.inr (.inl ⟨_, rfl, rfl⟩))
  | 2, hx =>
    cases hx
    exact .inr (.inl ⟨_, rfl, rfl⟩)
def sp_law_answers (P : Program) (w : World) (K : PySem.W.Frag) (mg : Str → Option Value) (base : Heap) : Sp := sp3 fun v s due H Q _ => ∃ (f : Addr) (tl : Hp → VK → XK → Prop), v = .ref f ∧ Thunk P w K mg base 9 f tl ∧ (∀ H', Same H H' → Q (.bl true) H') ∧
  ((s = .bl true ∧ (∃ z, due = .str z) ∧ ∀ (H0 : Hp) (Q' : VK) (E' : XK), Same H H0 → (∀ H', Same H0 H' → Q' due H') → tl H0 Q' E') ∨ (s = .bl false ∧ ∀ (H0 : Hp) (Q' : VK) (E' : XK), Same H H0 → (∀ cls d H', WhyG K "BadName" H0 cls d H' → E' cls d H') → tl H0 Q' E'))
abbrev N_law_answers : List Str := ["call", "sure", "due"]
theorem sc_law_answers : FnScope N_law_answers ["call", "sure", "due"] (defScope st_law_answers) := ⟨rfl, rfl, rfl, by decide +kernel, rfl, by decide +kernel, by decide +kernel⟩
theorem b_law_answers (T : Txt P K mg) : Binds K (fdOf K "_law_answers") ["call", "sure", "due"] [] := T.F_law_answers.bindsN fun _ _ _ _ _ _ us hl => match us, hl with | [_, _, _], _ => rfl
theorem ok_law_answers (T : Txt P K mg) : Ok P w K mg base 12 "_law_answers" ["call", "sure", "due"] (sp_law_answers P w K mg base) := by
  have G_law_refused := ok_law_refused (P := P) (w := w) (base := base) T
  have G_law_like := ok_law_like (P := P) (w := w) (base := base) T 3
  refine T.F_law_answers.ok sc_law_answers sp3_len (fun cdv A outer s H vs Q E hr h => ?_)
  obtain ⟨a0, a1, a2, rfl, h⟩ := h
  refine ⟨_, (pss_cons (ps_if (pt_val (pv 1)) (pss_one (ps_ret (pe_callS G_law_like (hr.mono (by decide)) rfl T.g_law_like T.k_law_like (b_law_like T) (fun σ => L2N.passAt (L2N.takes_of rfl rfl rfl rfl) σ) (pa_cons (pe_thunk (k := 9) (i := 0) rfl (.inl rfl) (hr.mono (by decide)) (fun σ => L2N.passAt (L2N.takes_of rfl rfl rfl rfl) σ)) (pa_cons (pv 2) pa_nil))))) pss_nil)
  (pss_one (ps_ret (pe_callS G_law_refused (hr.mono (by decide)) rfl T.g_law_refused T.k_law_refused (b_law_refused T) (fun σ => L2N.passAt (L2N.takes_of rfl rfl rfl rfl) σ) (pa_cons (pv 0) (pa_cons (pe_tup (pa_cons pe_str pa_nil)) pa_nil)))))), ?_⟩
  try dsimp only [cxOf, List.map]
  obtain ⟨f, tl, rfl, th, k, h⟩ := h
  walk_at "s"
  rcases h with ⟨rfl, ⟨z, rfl⟩, h⟩ | ⟨rfl, h⟩
  · refine ⟨true, rfl, x_ifT rfl ?_⟩
    walk_at "s"
    refine ⟨f, tl, rfl, th, h H _ _ (fun _ _ h => h) fun H' s1 => ?_⟩
    walk_at "s"
    exact sp2_i ⟨.inr (.inr (.inl ⟨z, rfl, rfl⟩)), fun H'' s2 => k _ (Same.tr s1 s2)⟩
  · refine ⟨false, rfl, x_ifF rfl ?_⟩
    walk_at "s"
    intro q hq
    walk_at "s"
    have s1 : Same H (upd H q (.tup [.str "BadName"])) := Same.new hq
    exact sp2_i ⟨_, ⟨f, tl, rfl, th, fun Q' E' i => h _ Q' E' s1 i⟩, refused_why (.inl rfl) upd_same fun H3 s3 => k _ (Same.tr s1 s3)⟩
end
end K00

set_option maxHeartbeats 4000000
namespace K00
open PySem PySem.Spec PyProof.Rows L2 EL
open SX (S)
local macro_rules | `(tactic| walk_at "s1") => `(tactic| with_reducible first
  | refine x_seq ?_ | refine x_asg ?_ | refine x_op ?_ | refine x_c ?_ | refine x_gName ?_ | refine x_ifS ?_ | refine x_ret ?_ | refine x_test ?_ | refine x_bl ?_
  | refine x_I0 ?_ | refine x_addI ?_ | refine x_mulI ?_ ?_ | refine x_fdiv ?_ ?_ | refine x_mod ?_ ?_ | refine x_un ?_ | refine x_rU ?_ | refine x_pow ?_ ?_
  | refine x_eqI' ?_ | refine x_neI' ?_ | refine x_eqS' ?_ | refine x_neS' ?_
  | refine x_cons ?_ | refine x_nil ?_ | refine x_tup ?_ | refine x_lst ?_ | refine x_callS ?_ | refine x_CB ?_ | refine x_par ?_ | refine x_two ?_
  | refine x_next ?_ | refine x_and ?_ | refine x_or ?_ | refine x_not ?_ | refine x_andV ?_ | refine x_orV ?_ | refine x_notV ?_ | refine x_ex ?_ | refine x_ifE ?_ | refine x_tB ?_ | refine x_retN ?_ | refine x_drop ?_ | refine x_brk ?_ | refine x_cont ?_
  | refine x_intI ?_ | refine x_abs ?_ | refine x_gcd ?_ | refine x_str ?_ ?_ | refine x_sz ?_ | refine x_isN ?_ | refine x_notN ?_ | refine x_sl ?_ | refine x_noPart ?_ | refine x_part ?_ | refine x_exI ?_ | refine x_slS ?_ ?_ | refine x_gSub ?_ | refine x_inS ?_ | refine x_notinS ?_ | refine x_yes ?_ | refine x_m1 ?_ | refine x_m1' ?_ | refine x_ms ?_ | refine x_chain ?_ | refine x_callK ?_ | refine x_callSD ?_ | refine x_ifT' ?_ | refine x_newE ?_ | refine x_gCons ?_ | refine x_gNil ?_ | refine x_gTupU rfl ?_ | refine x_ifX ?_)
local macro_rules | `(tactic| walk_at "side") => `(tactic| with_reducible first | decide | (refine mul_left ?_ ?_ <;> omega) | (refine mul_right ?_ ?_ <;> omega) | (refine div_of ?_ ?_ <;> first | omega | assumption | decide +kernel) | omega | assumption)
local macro_rules | `(tactic| walk_at "s") => `(tactic| repeat (first | walk_at "s1" | ((with_reducible apply x_var); (· exact rfl)) | ((with_reducible apply x_ixU); (· exact rfl)) | ((with_reducible apply x_ixTU); (· exact rfl)) | ((with_reducible apply x_setU); (· exact rfl)) | ((with_reducible apply x_all); (· exact SqL.of upd_same))))
section
variable {P : Program} {w : World} {K : PySem.W.Frag} {mg : Str → Option Value} {base : Heap}
/-! ### drawn words -/
def short (z : Str) : Bool := decide (z.length ≤ 60) && PyData.strOk z
theorem short_of {z : Str} (h : short z = true) : z.length ≤ 60 ∧ PyData.strOk z = true := by
  unfold short at h
  rw [Bool.and_eq_true] at h
  exact ⟨of_decide_eq_true h.1, h.2⟩
def sevens (z : Str) : List Str := [z ++ Str.ofString "s", cutS z none (some (-1)), Txt.upper ⟨#[z.cps.toList.headD 0]⟩ ++ cutS z (some 1) none, Str.ofString "-" ++ z, z ++ Str.ofString " ", z ++ Str.ofString "\n", z ++ Str.ofString "_"]
def keptOk (z : Str) : Bool := short z && !z.cps.toList.isEmpty && decide (z.length ≤ 20) && decide ((Txt.upper ⟨#[z.cps.toList.headD 0]⟩).length ≤ 20) && decide ((cutS z (some 1) none).length ≤ 20) && (sevens z).all short
theorem kept_ok : l_KEPT_WORDS.all keptOk = true := by decide +kernel
def one (c : Nat) : Str := ⟨#[c]⟩
/-- the list at D holds the signs cs -/
def Sg (j : Addr) (H : Hp) (D : Addr) (cs : List Nat) (H' : Hp) : Prop := JS j H H' ∧ H D = none ∧ H' D = some (.lst ((cs.map one).map V.str)) ∧ ∀ c ∈ cs, PyData.strOk (one c) = true
theorem strOk_S (cs : List Nat) (h : ∀ c ∈ cs, PyData.strOk (one c) = true) : PyData.strOk (S cs) = true := by
  unfold PyData.strOk one at h
  unfold PyData.strOk
  rw [Array.all_eq_true']
  intro c hc
  have := h c (by simpa using hc)
  simpa using this
theorem joinL_nil : ∀ ys : List (List Nat), TL.joinL [] ys = ys.flatten
  | [] => rfl
  | [y] => by simp [TL.joinL]
  | y :: z :: r => by
    have ih := joinL_nil (z :: r)
    rw [List.flatten_cons, ← ih]
    simp [TL.joinL]
theorem join_signs (cs : List Nat) : Txt.join (Str.ofString "") (cs.map one) = S cs := by
  have e : cs.map one = (cs.map fun c => [c]).map S := by rw [List.map_map]; rfl
  rw [e, show Str.ofString "" = S [] from rfl, SX.join_S, joinL_nil]
  congr 1
  clear e
  induction cs with
  | nil => rfl
  | cons c cs ih => rw [List.map_cons, List.flatten_cons, ih]; rfl
theorem alpha_ok : s_WORD_SIGNS.cps.toList.all (fun c => PyData.strOk (one c)) = true := by decide +kernel
theorem alpha_len : s_WORD_SIGNS.cps.toList.length = 65 := by decide +kernel
def sp_law_drawn_word : Sp := sp1 fun a H Q _ => ∃ j : Addr, a = .ref j ∧ Jar H j ∧ ∀ z H', JS j H H' → short z = true → Q (.str z) H'
abbrev N_law_drawn_word : List Str := ["jar", "shape", "word", "signs", "pos"]
theorem sc_law_drawn_word : FnScope N_law_drawn_word ["jar"] (defScope st_law_drawn_word) := ⟨rfl, rfl, rfl, by decide +kernel, rfl, by decide +kernel, by decide +kernel⟩
theorem b_law_drawn_word (T : Txt P K mg) : Binds K (fdOf K "_law_drawn_word") ["jar"] [] := T.F_law_drawn_word.bindsN fun _ _ _ _ _ _ us hl => match us, hl with | [_], _ => rfl
theorem ok_law_drawn_word (T : Txt P K mg) : Ok P w K mg base 4 "_law_drawn_word" ["jar"] sp_law_drawn_word := by
  have G_law_draw := ok_law_draw (P := P) (w := w) (base := base) T
  have G_law_alphabet := ok_law_alphabet (P := P) (w := w) (base := base) T
  have G_law_pick := ok_law_pick (P := P) (w := w) (base := base) T
  have G_law_words_kept := ok_law_words_kept (P := P) (w := w) (base := base) T
  refine T.F_law_drawn_word.ok sc_law_drawn_word sp1_len (fun cdv A outer s H vs Q E hr h => ?_)
  obtain ⟨a0, rfl, h⟩ := h
  refine ⟨_, (pss_cons (ps_set (i := 1) sc_law_drawn_word.nd rfl (Or.inl rfl) (pe_callS G_law_draw (hr.mono (by decide)) rfl T.g_law_draw T.k_law_draw (b_law_draw T) (fun σ => L2N.passAt (L2N.takes_of rfl rfl rfl rfl) σ) (pa_cons (pv 0) (pa_cons pe_int pa_nil))))
  (pss_cons (ps_if (pt_cmpR (opK_eq (K := K) rfl hr.units) (pv 1) pe_int (nomark _)) (pss_one (ps_ret (pe_callS G_law_pick (hr.mono (by decide)) rfl T.g_law_pick T.k_law_pick (b_law_pick T) (fun σ => L2N.passAt (L2N.takes_of rfl rfl rfl rfl) σ) (pa_cons (pv 0) (pa_cons (pe_call0 G_law_words_kept (hr.mono (by decide)) rfl T.g_law_words_kept T.k_law_words_kept (b_law_words_kept T) (fun σ => L2N.passAt (L2N.takes_of rfl rfl rfl rfl) σ)) pa_nil))))) pss_nil)
  (pss_cons (ps_if (pt_cmpR (opK_eq (K := K) rfl hr.units) (pv 1) pe_int (nomark _)) (pss_cons (ps_set (i := 2) sc_law_drawn_word.nd rfl (Or.inl rfl) (pe_callS G_law_pick (hr.mono (by decide)) rfl T.g_law_pick T.k_law_pick (b_law_pick T) (fun σ => L2N.passAt (L2N.takes_of rfl rfl rfl rfl) σ) (pa_cons (pv 0) (pa_cons (pe_call0 G_law_words_kept (hr.mono (by decide)) rfl T.g_law_words_kept T.k_law_words_kept (b_law_words_kept T) (fun σ => L2N.passAt (L2N.takes_of rfl rfl rfl rfl) σ)) pa_nil))))
  (pss_one (ps_ret (pe_callS G_law_pick (hr.mono (by decide)) rfl T.g_law_pick T.k_law_pick (b_law_pick T) (fun σ => L2N.passAt (L2N.takes_of rfl rfl rfl rfl) σ) (pa_cons (pv 0) (pa_cons (pe_lst (pa_cons (pe_op opA_add (pv 2) pe_str) (pa_cons (pe_slice (slK (K := K) rfl) (pv 2) po_none (po_some (pe_un un_neg pe_int))) (pa_cons (pe_op opA_add (pe_upper (pe_ix (ixK (K := K) rfl) (pv 2) pe_int (fun _ _ => rfl))) (pe_slice (slK (K := K) rfl) (pv 2) (po_some pe_int) po_none)) (pa_cons (pe_op opA_add pe_str (pv 2)) (pa_cons (pe_op opA_add (pv 2) pe_str) (pa_cons (pe_op opA_add (pv 2) pe_str) (pa_cons (pe_op opA_add (pv 2) pe_str) pa_nil)))))))) pa_nil)))))) pss_nil)
  (pss_cons (ps_set (i := 3) sc_law_drawn_word.nd rfl (Or.inl rfl) (pe_lst pa_nil))
  (C8.pss_cut (ps_for (passes_of rfl) rfl (pi_range1 rfl T.f_range (pa_cons (pe_callS G_law_pick (hr.mono (by decide)) rfl T.g_law_pick T.k_law_pick (b_law_pick T) (fun σ => L2N.passAt (L2N.takes_of rfl rfl rfl rfl) σ) (pa_cons (pv 0) (pa_cons (pe_lst (pa_cons pe_int (pa_cons pe_int (pa_cons pe_int (pa_cons pe_int (pa_cons pe_int (pa_cons pe_int (pa_cons pe_int (pa_cons pe_int (pa_cons pe_int (pa_cons pe_int (pa_cons pe_int (pa_cons pe_int (pa_cons pe_int (pa_cons pe_int pa_nil))))))))))))))) pa_nil))) pa_nil)) (pg_name (i := 4) sc_law_drawn_word.nd rfl (Or.inl rfl))
  (pss_one (ps_expr (pe_bm PySem.F.plainAttrs_list PySem.F.slot_list_append PySem.F.type_list_append mt_append (pv 3) (pa_cons (pe_ix (ixK (K := K) rfl) (pe_call0 G_law_alphabet (hr.mono (by decide)) rfl T.g_law_alphabet T.k_law_alphabet (b_law_alphabet T) (fun σ => L2N.passAt (L2N.takes_of rfl rfl rfl rfl) σ)) (pe_callS G_law_draw (hr.mono (by decide)) rfl T.g_law_draw T.k_law_draw (b_law_draw T) (fun σ => L2N.passAt (L2N.takes_of rfl rfl rfl rfl) σ) (pa_cons (pv 0) (pa_cons pe_int pa_nil))) (fun _ _ => rfl)) pa_nil)))))
  (C8.pss_cut (ps_if (PW.pt (pw_and (pt_cmpR (opK_ne (K := K) rfl hr.units) (pv 3) (pe_lst pa_nil) (nomark _)) (pw_and1 (pt_cmpR op_lt (pv 1) pe_int (nomark _))))) (pss_one (ps_asg (pe_callS G_law_pick (hr.mono (by decide)) rfl T.g_law_pick T.k_law_pick (b_law_pick T) (fun σ => L2N.passAt (L2N.takes_of rfl rfl rfl rfl) σ) (pa_cons (pv 0) (pa_cons (pe_lst (pa_cons pe_str (pa_cons pe_str (pa_cons pe_str (pa_cons pe_str (pa_cons pe_str (pa_cons pe_str (pa_cons pe_str (pa_cons pe_str (pa_cons pe_str (pa_cons pe_str (pa_cons pe_str (pa_cons pe_str (pa_cons pe_str (pa_cons pe_str pa_nil))))))))))))))) pa_nil))) (pg_sub (pv 3) (pe_callS G_law_draw (hr.mono (by decide)) rfl T.g_law_draw T.k_law_draw (b_law_draw T) (fun σ => L2N.passAt (L2N.takes_of rfl rfl rfl rfl) σ) (pa_cons (pv 0) (pa_cons (pe_callB (callK_len (K := K) rfl) rfl T.f_len (by decide +kernel) (pa_cons (pv 3) pa_nil)) pa_nil))) set_list))) pss_nil)
  (C8.pss_cut (ps_if (PW.pt (pw_and (pt_cmpR (opK_ne (K := K) rfl hr.units) (pv 3) (pe_lst pa_nil) (nomark _)) (pw_and (pt_cmpR (opK_in (K := K) rfl) (pe_ix (ixK (K := K) rfl) (pv 3) pe_int (fun _ _ => rfl)) pe_str rfl) (pw_and1 (pt_cmpR op_gt (pe_callS G_law_draw (hr.mono (by decide)) rfl T.g_law_draw T.k_law_draw (b_law_draw T) (fun σ => L2N.passAt (L2N.takes_of rfl rfl rfl rfl) σ) (pa_cons (pv 0) (pa_cons pe_int pa_nil))) pe_int (nomark _)))))) (pss_one (ps_asg (pe_ix (ixK (K := K) rfl) (pe_call0 G_law_alphabet (hr.mono (by decide)) rfl T.g_law_alphabet T.k_law_alphabet (b_law_alphabet T) (fun σ => L2N.passAt (L2N.takes_of rfl rfl rfl rfl) σ)) (pe_callS G_law_draw (hr.mono (by decide)) rfl T.g_law_draw T.k_law_draw (b_law_draw T) (fun σ => L2N.passAt (L2N.takes_of rfl rfl rfl rfl) σ) (pa_cons (pv 0) (pa_cons pe_int pa_nil))) (fun _ _ => rfl)) (pg_sub (pv 3) pe_int set_list))) pss_nil)
  (pss_one (ps_ret (pe_join pe_str (pv 3))))))))))), ?_⟩
  try dsimp only [cxOf, List.map]
  obtain ⟨j, rfl, hj, k⟩ := h
  walk_at "s"
  refine sp2_i ⟨j, _, rfl, rfl, by decide, by decide, hj, fun d xs d0 d1 hx => ?_⟩
  have s1 : JS j H _ := JS.draw hx
  generalize upd H j (.lst xs) = H1 at s1
  have neJ : ∀ {H : Hp} {q : Addr}, Jar H j → H q = none → q ≠ j := fun {H q} h e z => by
    obtain ⟨_, z2, _⟩ := h
    rw [z, z2] at e
    cases e
  have kl : ∀ {z : Str}, z ∈ l_KEPT_WORDS → keptOk z = true := fun {z} hz => List.all_eq_true.mp kept_ok z hz
  walk_at "s"
  refine x_if _ (fun e => ?_) (fun e => ?_)
  · walk_at "s"
    refine sp0_i fun q hq => ?_
    walk_at "s"
    refine sp2_i ⟨j, q, _, rfl, rfl, s1.2.1.new hq, upd_same, neJ s1.2.1 hq, by decide, by decide, fun v xs hv hx => ?_⟩
    obtain ⟨z, hz, rfl⟩ := List.mem_map.mp hv
    have ko := kl hz
    unfold keptOk at ko
    simp only [Bool.and_eq_true] at ko
    exact k z _ ((s1.new hq).tr (JS.draw hx)) ko.1.1.1.1.1
  walk_at "s"
  refine x_if _ (fun e2 => ?_) (fun e2 => ?_)
  · walk_at "s"
    refine sp0_i fun q hq => ?_
    walk_at "s"
    refine sp2_i ⟨j, q, _, rfl, rfl, s1.2.1.new hq, upd_same, neJ s1.2.1 hq, by decide, by decide, fun v xs hv hx => ?_⟩
    obtain ⟨z, hz, rfl⟩ := List.mem_map.mp hv
    have s2 := (s1.new hq).tr (JS.draw hx)
    generalize upd (upd H1 q _) j _ = H2 at s2
    have ko := kl hz
    unfold keptOk at ko
    simp only [Bool.and_eq_true, decide_eq_true_eq, Bool.not_eq_true', List.isEmpty_eq_false_iff] at ko
    obtain ⟨⟨⟨⟨⟨_, k0⟩, k1⟩, k2⟩, k3⟩, k4⟩ := ko
    have ad : ∀ {a b : Str}, a.length ≤ 20 → b.length ≤ 20 → a.length + b.length ≤ sizeLine := fun {a b} h1 h2 => short_line (by omega)
    have sz : z.length ≤ sizeLine := short_line (by omega)
    walk_at "s"
    refine x_addS (ad k1 (by decide)) ?_
    walk_at "s"
    rotate_left
    · exact sz
    obtain ⟨c, l, hl⟩ : ∃ c l, z.cps.toList = c :: l := by
      cases hl : z.cps.toList with
      | nil => exact absurd hl k0
      | cons c l => exact ⟨c, l, rfl⟩
    refine x_ixS (n := 0) (c := c) ?_ sz (by rw [hl]; rfl)
    refine ⟨⟨_, rfl⟩, _, rfl, rfl, Nat.le_of_ble_eq_true rfl, ?_⟩
    walk_at "s"
    rotate_left
    · exact sz
    have hc : z.cps.toList.headD 0 = c := by rw [hl]; rfl
    rw [hc] at k2
    refine x_addS (ad k2 k3) ?_
    walk_at "s"
    refine x_addS (ad (by decide) k1) ?_
    walk_at "s"
    refine x_addS (ad k1 (by decide)) ?_
    walk_at "s"
    refine x_addS (ad k1 (by decide)) ?_
    walk_at "s"
    refine x_addS (ad k1 (by decide)) ?_
    walk_at "s"
    intro q2 hq2
    walk_at "s"
    refine sp2_i ⟨j, q2, (sevens z).map V.str, rfl, rfl, s2.2.1.new hq2, ?_, neJ s2.2.1 hq2, by simp [sevens], by simp [sevens], fun v xs hv hx => ?_⟩
    · rw [upd_same]
      unfold sevens
      rw [hc]
      rfl
    obtain ⟨y, hy, rfl⟩ := List.mem_map.mp hv
    refine k y _ ((s2.new hq2).tr (JS.draw hx)) ?_
    have k5 := List.all_eq_true.mp k4
    exact k5 y hy
  walk_at "s"
  intro D hD
  have nJ : D ≠ j := neJ s1.2.1 hD
  have hDn : H D = none := by
    cases q : H D with
    | none => rfl
    | some o =>
      rw [s1.1 D o nJ q] at hD
      cases hD
  have g0 : Sg j H D [] (upd H1 D (.lst [])) := ⟨s1.new hD, hDn, upd_same, fun c hc => by cases hc⟩
  generalize upd H1 D (.lst []) = H2 at g0
  clear hD s1 hx
  have gR : ∀ {cs : List Nat} {H1 H2 : Hp}, Sg j H D cs H1 → Same H1 H2 → Sg j H D cs H2 := fun {cs H1 H2} g e => ⟨g.1.sameR e, g.2.1, e _ _ g.2.2.1, g.2.2.2⟩
  have gD : ∀ {cs : List Nat} {H1 : Hp} {xs : List V}, Sg j H D cs H1 → JarL H1 j xs → Sg j H D cs (upd H1 j (.lst xs)) := fun {cs H1 xs} g e => ⟨g.1.tr (JS.draw e), g.2.1, (JS.draw e).1 _ _ nJ g.2.2.1, g.2.2.2⟩
  walk_at "s"
  refine ⟨fun σ' H' => ∃ (cs : List Nat) (y : Option V), Sg j H D cs H' ∧ cs.length ≤ 18 ∧ σ' = [some (.ref j), some (.int d), none, some (.ref D), y], ?_, ?_⟩
  · refine x_forRN (fun n H3 => Sg j H D [] H3 ∧ 0 ≤ n ∧ n ≤ 18) (fun R r => ?_) ?_
    · walk_at "s"
      intro q hq
      have g1 := gR g0 (Same.new (o := .lst (([0, 1, 1, 2, 2, 3, 5, 8, 12, 15, 16, 16, 17, 18] : List Int).map V.int)) hq)
      walk_at "s"
      refine sp2_i ⟨j, q, ([0, 1, 1, 2, 2, 3, 5, 8, 12, 15, 16, 16, 17, 18] : List Int).map V.int, rfl, rfl, g1.1.2.1, upd_same, neJ g0.1.2.1 hq, by decide, by decide, fun v xs hv hx => ?_⟩
      obtain ⟨n, hn, rfl⟩ := List.mem_map.mp hv
      walk_at "s"
      exact r _ _ ⟨gD g1 hx, (by decide : ∀ n ∈ ([0, 1, 1, 2, 2, 3, 5, 8, 12, 15, 16, 16, 17, 18] : List Int), 0 ≤ n ∧ n ≤ 18) n hn⟩
    rintro n H3 ⟨g1, n0, n1⟩
    refine ⟨by omega, by omega, fun i σ' H' => ∃ (cs : List Nat) (y : Option V), Sg j H D cs H' ∧ cs.length = i ∧ σ' = [some (.ref j), some (.int d), none, some (.ref D), y], ⟨[], none, g1, rfl, rfl⟩, ?_, ?_⟩
    · rintro i σ' H' hi ⟨cs, y, g2, hl, rfl⟩
      walk_at "s"
      refine x_var (n := 3) rfl ⟨x_tyL g2.2.2.1, ?_⟩
      walk_at "s"
      refine sp0_i ?_
      walk_at "s"
      refine sp2_i ⟨j, _, rfl, rfl, by decide, by decide, g2.1.2.1, fun e xs e0 e1 hx => ?_⟩
      have g3 := gD g2 hx
      obtain ⟨m, rfl⟩ : ∃ m : Nat, e = (m : Int) := ⟨e.toNat, by omega⟩
      have hm : m < s_WORD_SIGNS.cps.toList.length := by rw [alpha_len]; omega
      refine x_ixS (n := m) (c := s_WORD_SIGNS.cps.toList[m]) ?_ (short_line (by decide)) (List.getElem?_eq_getElem hm)
      walk_at "s"
      refine x_app g3.2.2.1 (by rw [List.length_map, List.length_map, sizeLine_eq]; omega) ?_
      refine ⟨cs ++ [s_WORD_SIGNS.cps.toList[m]], _, ⟨JS.mut hj g3.1 hDn, hDn, ?_, fun c hc => ?_⟩, by rw [List.length_append, hl]; rfl, rfl⟩
      · rw [upd_same, List.map_append, List.map_append]
        rfl
      · rcases List.mem_append.mp hc with hc | hc
        · exact g3.2.2.2 c hc
        · rw [List.mem_singleton.mp hc]
          exact List.all_eq_true.mp alpha_ok _ (List.getElem_mem hm)
    · rintro σ' H' ⟨cs, y, g2, hl, rfl⟩
      exact ⟨cs, y, g2, by omega, rfl⟩
  rintro σ' H' ⟨cs, y, g1, hl, rfl⟩
  clear g0 H2
  have okE : ∀ {cs : List Nat}, (∀ c ∈ cs, PyData.strOk (one c) = true) → (cs.map one).all PyData.strOk = true := fun {cs} h => by
    rw [List.all_eq_true]
    intro z hz
    obtain ⟨c, hc, rfl⟩ := List.mem_map.mp hz
    exact h c hc
  have set1 : ∀ {cs : List Nat} {H1 : Hp} {m c : Nat}, Sg j H D cs H1 → PyData.strOk (one c) = true → Sg j H D (cs.set m c) (upd H1 D (.lst (((cs.map one).map V.str).set m (.str (one c))))) := fun {cs H1 m c} g hc => by
    refine ⟨JS.mut hj g.1 hDn, hDn, ?_, fun x hx => ?_⟩
    · rw [upd_same, List.map_set, List.map_set]
    · rcases List.mem_or_eq_of_mem_set hx with h | rfl
      · exact g.2.2.2 x h
      · exact hc
  have lenS : ∀ cs : List Nat, ((cs.map one).map V.str).length = cs.length := fun cs => by rw [List.length_map, List.length_map]
  refine ⟨fun σ' H' => ∃ (cs : List Nat) (y : Option V), Sg j H D cs H' ∧ cs.length ≤ 18 ∧ σ' = [some (.ref j), some (.int d), none, some (.ref D), y], ?_, ?_⟩
  · walk_at "s"
    intro q hq
    have g2 := gR g1 (Same.new (o := .lst []) hq)
    refine x_neNil (zs := cs.map one) ?_ (SqL.of g2.2.2.1) (SqL.of upd_same) (okE g1.2.2.2)
    generalize upd H' q _ = H2 at g2
    refine ⟨_, rfl, ?_⟩
    refine x_if _ (fun e3 => ?_) (fun e3 => ?_)
    · walk_at "s"
      refine x_if _ (fun e4 => ?_) (fun e4 => ?_)
      · walk_at "s"
        intro q2 hq2
        have g3 := gR g2 (Same.new (o := .lst (([32, 46, 47, 43, 58, 44, 10, 126, 64, 91, 94, 123, 42, 33] : List Nat).map fun c => V.str (one c))) hq2)
        walk_at "s"
        refine sp2_i ⟨j, q2, ([32, 46, 47, 43, 58, 44, 10, 126, 64, 91, 94, 123, 42, 33] : List Nat).map fun c => V.str (one c), rfl, rfl, g3.1.2.1, upd_same, neJ g2.1.2.1 hq2, by decide, by decide, fun v xs hv hx => ?_⟩
        have g4 := gD g3 hx
        obtain ⟨c, hc, rfl⟩ := List.mem_map.mp hv
        have hc := (by decide +kernel : ∀ c ∈ ([32, 46, 47, 43, 58, 44, 10, 126, 64, 91, 94, 123, 42, 33] : List Nat), PyData.strOk (one c) = true) c hc
        walk_at "s"
        have hpos : 0 < cs.length := by
          cases cs with
          | nil => cases e3
          | cons c cs => exact Nat.succ_pos _
        refine x_lenL ?_ (SqL.of g4.2.2.1)
        walk_at "s"
        rw [lenS]
        refine sp2_i ⟨j, _, rfl, rfl, by omega, ?_, g4.1.2.1, fun e xs e0 e1 hx => ?_⟩
        · rw [Int.natAbs_natCast]
          exact Nat.lt_of_le_of_lt (Nat.log2_le_self _) (by omega)
        have g5 := gD g4 hx
        obtain ⟨m, rfl⟩ : ∃ m : Nat, e = (m : Int) := ⟨e.toNat, by omega⟩
        refine x_setA g5.2.2.1 (m := m) ?_ ⟨cs.set m c, y, set1 g5 hc, by rw [List.length_set]; exact hl, rfl⟩
        rw [lenS]
        exact ix_at (by omega)
      · walk_at "s"
        exact ⟨cs, y, g2, hl, rfl⟩
    · refine x_ifF rfl ?_
      walk_at "s"
      exact ⟨cs, y, g2, hl, rfl⟩
  rintro σ' H2 ⟨cs2, y2, g2, hl2, rfl⟩
  clear g1 hl cs y H'
  refine ⟨fun σ' H' => ∃ (cs : List Nat) (y : Option V), Sg j H D cs H' ∧ cs.length ≤ 18 ∧ σ' = [some (.ref j), some (.int d), none, some (.ref D), y], ?_, ?_⟩
  · walk_at "s"
    intro q hq
    have g3 := gR g2 (Same.new (o := .lst []) hq)
    refine x_neNil (zs := cs2.map one) ?_ (SqL.of g3.2.2.1) (SqL.of upd_same) (okE g2.2.2.2)
    generalize upd H2 q _ = H3 at g3
    refine ⟨_, rfl, ?_⟩
    refine x_if _ (fun e3 => ?_) (fun e3 => ?_)
    · obtain ⟨c, cs3, rfl⟩ : ∃ c cs3, cs2 = c :: cs3 := by
        cases cs2 with
        | nil => cases e3
        | cons c cs => exact ⟨c, cs, rfl⟩
      walk_at "s"
      refine x_ixL (n := 0) (v := .str (one c)) ?_ (SqL.of g3.2.2.1) rfl
      walk_at "s"
      refine x_inS ?_
      refine ⟨_, rfl, ?_⟩
      refine x_if _ (fun e4 => ?_) (fun e4 => ?_)
      · walk_at "s"
        refine sp2_i ⟨j, _, rfl, rfl, by decide, by decide, g3.1.2.1, fun e xs e0 e1 hx => ?_⟩
        have g4 := gD g3 hx
        generalize upd H3 j _ = H4 at g4
        walk_at "s"
        refine x_if _ (fun e5 => ?_) (fun e5 => ?_)
        · walk_at "s"
          refine sp0_i ?_
          walk_at "s"
          refine sp2_i ⟨j, _, rfl, rfl, by decide, by decide, g4.1.2.1, fun e xs e0 e1 hx => ?_⟩
          have g5 := gD g4 hx
          obtain ⟨m, rfl⟩ : ∃ m : Nat, e = (m : Int) := ⟨e.toNat, by omega⟩
          have hm : m < s_WORD_SIGNS.cps.toList.length := by rw [alpha_len]; omega
          refine x_ixS (n := m) (c := s_WORD_SIGNS.cps.toList[m]) ?_ (short_line (by decide)) (List.getElem?_eq_getElem hm)
          walk_at "s"
          refine x_setA g5.2.2.1 (m := 0) (ix_at (j := 0) (by simp)) ⟨(c :: cs3).set 0 s_WORD_SIGNS.cps.toList[m], y2, set1 g5 (List.all_eq_true.mp alpha_ok _ (List.getElem_mem hm)), by rw [List.length_set]; exact hl2, rfl⟩
        · walk_at "s"
          exact ⟨_, y2, g4, hl2, rfl⟩
      · refine x_ifF rfl ?_
        walk_at "s"
        exact ⟨_, y2, g3, hl2, rfl⟩
    · refine x_ifF rfl ?_
      walk_at "s"
      exact ⟨_, y2, g3, hl2, rfl⟩
  rintro σ' H3 ⟨cs3, y3, g3, hl3, rfl⟩
  walk_at "s"
  refine ⟨_, D, cs3.map one, rfl, rfl, .inl (SqL.of g3.2.2.1), ?_, ?_⟩
  · have : ((cs3.map one).map (·.length)).sum ≤ 18 := by
      have e : (cs3.map one).map (·.length) = cs3.map fun _ => 1 := by rw [List.map_map]; rfl
      rw [e, List.map_const', List.sum_replicate_nat]
      omega
    rw [List.length_map]
    have e2 : (Str.ofString "").length = 0 := rfl
    rw [e2]
    omega
  · rw [join_signs]
    refine k _ _ g3.1 ?_
    unfold short
    rw [strOk_S cs3 g3.2.2.2, Bool.and_true, S_length]
    exact decide_eq_true (by omega)
end
end K00

set_option maxHeartbeats 4000000
namespace K00
open PySem PySem.Spec PyProof.Rows L2 EL
open SX (S)
local macro_rules | `(tactic| walk_at "s1") => `(tactic| with_reducible first
  | refine x_seq ?_ | refine x_asg ?_ | refine x_op ?_ | refine x_c ?_ | refine x_gName ?_ | refine x_ifS ?_ | refine x_ret ?_ | refine x_test ?_ | refine x_bl ?_
  | refine x_I0 ?_ | refine x_addI ?_ | refine x_mulI ?_ ?_ | refine x_fdiv ?_ ?_ | refine x_mod ?_ ?_ | refine x_un ?_ | refine x_rU ?_ | refine x_pow ?_ ?_
  | refine x_eqI' ?_ | refine x_neI' ?_ | refine x_eqS' ?_ | refine x_neS' ?_
  | refine x_cons ?_ | refine x_nil ?_ | refine x_tup ?_ | refine x_lst ?_ | refine x_callS ?_ | refine x_CB ?_ | refine x_par ?_ | refine x_two ?_
  | refine x_next ?_ | refine x_and ?_ | refine x_or ?_ | refine x_not ?_ | refine x_andV ?_ | refine x_orV ?_ | refine x_notV ?_ | refine x_ex ?_ | refine x_ifE ?_ | refine x_tB ?_ | refine x_retN ?_ | refine x_drop ?_ | refine x_brk ?_ | refine x_cont ?_
  | refine x_intI ?_ | refine x_abs ?_ | refine x_gcd ?_ | refine x_str ?_ ?_ | refine x_sz ?_ | refine x_isN ?_ | refine x_notN ?_ | refine x_sl ?_ | refine x_noPart ?_ | refine x_part ?_ | refine x_exI ?_ | refine x_slS ?_ ?_ | refine x_gSub ?_ | refine x_inS ?_ | refine x_notinS ?_ | refine x_yes ?_ | refine x_m1 ?_ | refine x_m1' ?_ | refine x_ms ?_ | refine x_chain ?_ | refine x_callK ?_ | refine x_callSD ?_ | refine x_ifT' ?_ | refine x_newE ?_ | refine x_gCons ?_ | refine x_gNil ?_ | refine x_gTupU rfl ?_ | refine x_ifX ?_)
local macro_rules | `(tactic| walk_at "side") => `(tactic| with_reducible first | decide | (refine mul_left ?_ ?_ <;> omega) | (refine mul_right ?_ ?_ <;> omega) | (refine div_of ?_ ?_ <;> first | omega | assumption | decide +kernel) | omega | assumption)
local macro_rules | `(tactic| walk_at "s") => `(tactic| repeat (first | walk_at "s1" | ((with_reducible apply x_var); (· exact rfl)) | ((with_reducible apply x_ixU); (· exact rfl)) | ((with_reducible apply x_ixTU); (· exact rfl)) | ((with_reducible apply x_setU); (· exact rfl)) | ((with_reducible apply x_all); (· exact SqL.of upd_same))))
section
variable {P : Program} {w : World} {K : PySem.W.Frag} {mg : Str → Option Value} {base : Heap}
theorem jar_ne {H : Hp} {j q : Addr} (h : Jar H j) (e : H q = none) : q ≠ j := fun z => by
  obtain ⟨_, z2, _⟩ := h
  rw [z, z2] at e
  cases e
/-! ### great numbers -/
def sp_law_big : Sp := sp1 fun a H Q _ => ∃ j : Addr, a = .ref j ∧ Jar H j ∧ ∀ (n : Nat) H', JS j H H' → n < 1000 ^ 9 → Q (.int (n : Int)) H'
abbrev N_law_big : List Str := ["jar", "made", "step"]
theorem sc_law_big : FnScope N_law_big ["jar"] (defScope st_law_big) := ⟨rfl, rfl, rfl, by decide +kernel, rfl, by decide +kernel, by decide +kernel⟩
theorem b_law_big (T : Txt P K mg) : Binds K (fdOf K "_law_big") ["jar"] [] := T.F_law_big.bindsN fun _ _ _ _ _ _ us hl => match us, hl with | [_], _ => rfl
theorem ok_law_big (T : Txt P K mg) : Ok P w K mg base 4 "_law_big" ["jar"] sp_law_big := by
  have G_law_pick := ok_law_pick (P := P) (w := w) (base := base) T
  have G_law_draw := ok_law_draw (P := P) (w := w) (base := base) T
  refine T.F_law_big.ok sc_law_big sp1_len (fun cdv A outer s H vs Q E hr h => ?_)
  obtain ⟨a0, rfl, h⟩ := h
  refine ⟨_, (pss_cons (ps_set (i := 1) sc_law_big.nd rfl (Or.inl rfl) pe_int)
  (pss_cons (ps_for (passes_of rfl) rfl (pi_range1 rfl T.f_range (pa_cons (pe_callS G_law_pick (hr.mono (by decide)) rfl T.g_law_pick T.k_law_pick (b_law_pick T) (fun σ => L2N.passAt (L2N.takes_of rfl rfl rfl rfl) σ) (pa_cons (pv 0) (pa_cons (pe_lst (pa_cons pe_int (pa_cons pe_int (pa_cons pe_int (pa_cons pe_int (pa_cons pe_int pa_nil)))))) pa_nil))) pa_nil)) (pg_name (i := 2) sc_law_big.nd rfl (Or.inl rfl))
  (pss_one (ps_set (i := 1) sc_law_big.nd rfl (Or.inl rfl) (pe_op opA_add (pe_op opA_mul (pv 1) pe_int) (pe_callS G_law_draw (hr.mono (by decide)) rfl T.g_law_draw T.k_law_draw (b_law_draw T) (fun σ => L2N.passAt (L2N.takes_of rfl rfl rfl rfl) σ) (pa_cons (pv 0) (pa_cons pe_int pa_nil)))))))
  (pss_one (ps_ret (pv 1))))), ?_⟩
  try dsimp only [cxOf, List.map]
  obtain ⟨j, rfl, hj, k⟩ := h
  walk_at "s"
  refine x_forRN (fun n H1 => JS j H H1 ∧ 0 ≤ n ∧ n ≤ 9) (fun R r => ?_) ?_
  · walk_at "s"
    intro q hq
    walk_at "s"
    refine sp2_i ⟨j, q, ([1, 1, 2, 3, 9] : List Int).map V.int, rfl, rfl, hj.new hq, upd_same, jar_ne hj hq, by decide, by decide, fun v xs hv hx => ?_⟩
    obtain ⟨n, hn, rfl⟩ := List.mem_map.mp hv
    walk_at "s"
    exact r _ _ ⟨(JS.same hj (Same.new hq)).tr (JS.draw hx), (by decide : ∀ n ∈ ([1, 1, 2, 3, 9] : List Int), 0 ≤ n ∧ n ≤ 9) n hn⟩
  rintro n H1 ⟨s1, n0, n1⟩
  refine ⟨by omega, by omega, fun i σ' H' => ∃ (m : Nat) (y : Option V), JS j H H' ∧ m < 1000 ^ i ∧ σ' = [some (.ref j), some (.int (m : Int)), y], ⟨0, none, s1, by decide, rfl⟩, ?_, ?_⟩
  · rintro i σ' H' hi ⟨m, y, s2, hm, rfl⟩
    walk_at "s"
    · refine sp2_i ⟨j, _, rfl, rfl, by decide, by decide, s2.2.1, fun d xs d0 d1 hx => ?_⟩
      walk_at "s"
      refine ⟨(m : Nat) * 1000 + d.toNat, some (.int (i : Int)), s2.tr (JS.draw hx), ?_, ?_⟩
      · rw [Nat.pow_succ]
        omega
      · have e : (m : Int) * 1000 + d = ((m * 1000 + d.toNat : Nat) : Int) := by omega
        rw [e]
        rfl
    · exact mul_right (by decide) (by decide)
  · rintro σ' H' ⟨m, y, s2, hm, rfl⟩
    walk_at "s"
    refine k m _ s2 (Nat.lt_of_lt_of_le hm (Nat.pow_le_pow_right (by decide) (by omega)))
/-! ### names that are not used -/
theorem nodup_le : ∀ (l us : List Str), l.Nodup → (∀ x ∈ l, x ∈ us) → l.length ≤ us.length
  | [], _, _, _ => Nat.zero_le _
  | x :: l, us, hn, hs => by
    rw [List.nodup_cons] at hn
    have hx := hs x List.mem_cons_self
    have ih := nodup_le l (us.erase x) hn.2 fun y hy => (List.mem_erase_of_ne (fun z => hn.1 (by rw [← z]; exact hy))).mpr (hs y (List.mem_cons_of_mem _ hy))
    rw [List.length_erase_of_mem hx] at ih
    have := List.length_pos_of_mem hx
    rw [List.length_cons]
    omega
def cand (s : Nat) : Str := repS (one (s_WORD_SIGNS.cps.toList.getD (s * 7 % 62) 0)) (1 + s / 20)
theorem cand_short : (List.range 60).all (fun s => short (cand s)) = true := by decide +kernel
theorem cand_name : (List.range 20).all (fun s => nameV (.str (cand s))) = true := by decide +kernel
theorem cand_nodup : ((List.range 7).map cand).Nodup := by decide +kernel
theorem pln_short {H : Hp} {z : Str} (h : short z = true) : Pln K H (.str z) := by
  have := (short_of h).1
  exact ⟨by show z.length < 2000000; omega, "str", ⟨.base (.str z), by decide⟩, ⟨fun _ => ⟨z, rfl⟩, fun _ => rfl⟩⟩
def sp_law_good_name (K : PySem.W.Frag) : Sp := sp2 fun a b H Q _ => ∃ (j u : Addr) (us : List Str), a = .ref j ∧ b = .ref u ∧ Jar H j ∧ u ≠ j ∧ H u = some (.lst (us.map V.str)) ∧ us.length ≤ 6 ∧
  ∀ z H', JS j H H' → short z = true → nameV (.str z) = true → z ∉ us → Q (.str z) (upd H' u (.lst ((us ++ [z]).map V.str)))
abbrev N_law_good_name : List Str := ["jar", "used", "word", "step"]
theorem sc_law_good_name : FnScope N_law_good_name ["jar", "used"] (defScope st_law_good_name) := ⟨rfl, rfl, rfl, by decide +kernel, rfl, by decide +kernel, by decide +kernel⟩
theorem b_law_good_name (T : Txt P K mg) : Binds K (fdOf K "_law_good_name") ["jar", "used"] [] := T.F_law_good_name.bindsN fun _ _ _ _ _ _ us hl => match us, hl with | [_, _], _ => rfl
theorem ok_law_good_name (T : Txt P K mg) : Ok P w K mg base 5 "_law_good_name" ["jar", "used"] (sp_law_good_name K) := by
  have G_law_alphabet := ok_law_alphabet (P := P) (w := w) (base := base) T
  have G_law_words_kept := ok_law_words_kept (P := P) (w := w) (base := base) T
  have G_law_is_word := ok_law_is_word (P := P) (w := w) (base := base) T
  have G_law_drawn_word := ok_law_drawn_word (P := P) (w := w) (base := base) T
  refine T.F_law_good_name.ok sc_law_good_name sp2_len (fun cdv A outer s H vs Q E hr h => ?_)
  obtain ⟨a0, a1, rfl, h⟩ := h
  refine ⟨_, (pss_cons (ps_set (i := 2) sc_law_good_name.nd rfl (Or.inl rfl) (pe_callS G_law_drawn_word (hr.mono (by decide)) rfl T.g_law_drawn_word T.k_law_drawn_word (b_law_drawn_word T) (fun σ => L2N.passAt (L2N.takes_of rfl rfl rfl rfl) σ) (pa_cons (pv 0) pa_nil)))
  (C8.pss_cut (ps_for (passes_of rfl) rfl (pi_range1 rfl T.f_range (pa_cons pe_int pa_nil)) (pg_name (i := 3) sc_law_good_name.nd rfl (Or.inl rfl))
  (C8.pss_cut (ps_if (PW.pt (pw_and (pt_val (pe_callS G_law_is_word (hr.mono (by decide)) rfl T.g_law_is_word T.k_law_is_word (b_law_is_word T) (fun σ => L2N.passAt (L2N.takes_of rfl rfl rfl rfl) σ) (pa_cons (pv 2) pa_nil))) (pw_and (pt_cmpR (opK_notin (K := K) rfl) (pv 2) (pe_call0 G_law_words_kept (hr.mono (by decide)) rfl T.g_law_words_kept T.k_law_words_kept (b_law_words_kept T) (fun σ => L2N.passAt (L2N.takes_of rfl rfl rfl rfl) σ)) rfl) (pw_and1 (pt_cmpR (opK_notin (K := K) rfl) (pv 2) (pv 1) rfl))))) (pss_one ps_break) pss_nil)
  (pss_one (ps_set (i := 2) sc_law_good_name.nd rfl (Or.inl rfl) (pe_op opA_mul (pe_ix (ixK (K := K) rfl) (pe_call0 G_law_alphabet (hr.mono (by decide)) rfl T.g_law_alphabet T.k_law_alphabet (b_law_alphabet T) (fun σ => L2N.passAt (L2N.takes_of rfl rfl rfl rfl) σ)) (pe_op op_modN (pe_callTy (callL_int T.dig) rfl T.f_int (by decide +kernel) (pa_cons (pe_op opA_mul (pv 3) pe_int) pa_nil)) pe_int) (fun _ _ => rfl)) (pe_op opA_add pe_int (pe_op op_fdivA (pv 3) pe_int)))))))
  (pss_cons (ps_expr (pe_bm PySem.F.plainAttrs_list PySem.F.slot_list_append PySem.F.type_list_append mt_append (pv 1) (pa_cons (pv 2) pa_nil)))
  (pss_one (ps_ret (pv 2)))))), ?_⟩
  try dsimp only [cxOf, List.map]
  obtain ⟨j, u, us, rfl, rfl, hj, hu, hus, hl, k⟩ := h
  walk_at "s"
  refine sp1_i ⟨j, rfl, hj, fun z0 H1 s1 hz0 => ?_⟩
  walk_at "s"
  refine ⟨fun σ' H' => ∃ (z : Str) (y : Option V), JS j H H' ∧ short z = true ∧ nameV (.str z) = true ∧ z ∉ us ∧ σ' = [some (.ref j), some (.ref u), some (.str z), y], ?_, ?_⟩
  · refine x_forR (n := 60) (fun i σ' H' => ∃ (z : Str) (y : Option V), JS j H H' ∧ short z = true ∧ σ' = [some (.ref j), some (.ref u), some (.str z), y] ∧ (∀ s, s + 1 < i → s < 20 → cand s ∈ us) ∧ (0 < i → z = cand (i - 1))) (fun R r => ?_) (by decide) (by decide) ?_ ?_ ?_
    · walk_at "s"
      exact r
    · exact ⟨z0, none, s1, hz0, rfl, fun s h => absurd h (Nat.not_lt_zero _), fun h => absurd h (Nat.lt_irrefl _)⟩
    · rintro i σ' H' hi ⟨z, y, s2, hz, rfl, hc, hcz⟩
      have hi60 : i < 60 := by omega
      refine ⟨fun σ' H' => JS j H H' ∧ σ' = [some (.ref j), some (.ref u), some (.str z), some (.int (i : Int))] ∧ (nameV (.str z) = true → z ∈ us), ?_, ?_⟩
      · walk_at "s"
        refine sp1_i ⟨pln_short hz, fun y e => by cases e; exact (short_of hz).2, fun H2 s3 => ?_⟩
        have s3 := s2.sameR s3
        refine ⟨_, rfl, ?_⟩
        refine x_if _ (fun e1 => ?_) (fun e1 => ?_)
        · walk_at "s"
          refine sp0_i fun q hq => ?_
          have s4 := s3.new (o := .lst (l_KEPT_WORDS.map V.str)) hq
          refine x_notinL ?_ (.inl (SqL.of upd_same)) rfl kept_flat
          generalize upd H2 q _ = H3 at s4
          refine ⟨_, rfl, ?_⟩
          refine x_if _ (fun e2 => ?_) (fun e2 => ?_)
          · walk_at "s"
            refine x_notinL (xs := us.map V.str) ?_ (.inl (SqL.of (s4.at hus hu))) rfl (by rw [List.all_map]; exact List.all_eq_true.mpr fun _ _ => rfl)
            refine ⟨_, rfl, ?_⟩
            have hn : nameV (.str z) = true := by
              unfold nameV
              rw [e1, e2]
              rfl
            rw [inV_str]
            refine x_if _ (fun e3 => ?_) (fun e3 => ?_)
            · walk_at "s"
              exact ⟨z, _, s4, hz, hn, by simpa using e3, rfl⟩
            · walk_at "s"
              exact ⟨s4, rfl, fun _ => by simpa using e3⟩
          · refine x_ifF rfl ?_
            walk_at "s"
            refine ⟨s4, rfl, fun hn => ?_⟩
            unfold nameV at hn
            rw [e1, e2] at hn
            cases hn
        · refine x_ifF rfl ?_
          walk_at "s"
          refine ⟨s3, rfl, fun hn => ?_⟩
          unfold nameV at hn
          rw [e1] at hn
          cases hn
      · rintro σ' H2 ⟨s3, rfl, hin⟩
        walk_at "s"
        refine sp0_i ?_
        walk_at "s"
        rotate_left
        · decide
        · exact mul_right (by decide) (by decide)
        have em : ((i : Int) * 7).fmod 62 = ((i * 7 % 62 : Nat) : Int) := by
          rw [Int.fmod_eq_emod_of_nonneg _ (by decide)]
          omega
        rw [em]
        have hm : i * 7 % 62 < s_WORD_SIGNS.cps.toList.length := by rw [alpha_len]; omega
        refine x_ixS (c := s_WORD_SIGNS.cps.toList.getD (i * 7 % 62) 0) ?_ (short_line (by decide)) (by rw [List.getElem?_eq_getElem hm, List.getD_eq_getElem?_getD, List.getElem?_eq_getElem hm]; rfl)
        walk_at "s"
        rotate_left
        · exact ⟨by decide, by decide +kernel⟩
        have ed : (1 : Int) + (i : Int).fdiv 20 = ((1 + i / 20 : Nat) : Int) := by
          rw [Int.fdiv_eq_ediv_of_nonneg _ (by decide)]
          omega
        rw [ed]
        have l1 : (⟨#[s_WORD_SIGNS.cps.toList.getD (i * 7 % 62) 0]⟩ : Str).length = 1 := rfl
        refine x_mulS ?_ (by omega) (by rw [l1]; omega) (by omega) (by rw [l1]; decide)
        walk_at "s"
        rw [Int.toNat_natCast]
        refine ⟨cand i, some (.int (i : Int)), s3, List.all_eq_true.mp cand_short i (List.mem_range.mpr hi60), rfl, fun s h1 h2 => ?_, fun _ => rfl⟩
        by_cases h3 : s + 1 < i
        · exact hc s h3 h2
        · have e : s = i - 1 := by omega
          have ez := hcz (by omega)
          rw [← e] at ez
          rw [← ez]
          refine hin ?_
          rw [ez]
          exact List.all_eq_true.mp cand_name s (List.mem_range.mpr h2)
    · rintro σ' H' ⟨z, y, s2, hz, rfl, hc, hcz⟩
      have := nodup_le _ us cand_nodup fun x hx => by
        obtain ⟨s, hs, rfl⟩ := List.mem_map.mp hx
        have := List.mem_range.mp hs
        exact hc s (by show s + 1 < 60; omega) (by omega)
      rw [List.length_map, List.length_range] at this
      omega
  rintro σ' H' ⟨z, y, s2, hz, hn, hnu, rfl⟩
  walk_at "s"
  refine x_var (n := 1) rfl ⟨x_tyL (s2.at hus hu), ?_⟩
  walk_at "s"
  refine x_app (s2.at hus hu) (by rw [List.length_map, sizeLine_eq]; omega) ?_
  walk_at "s"
  have q := k z H' s2 hz hn hnu
  rw [List.map_append] at q
  exact q
end
end K00

set_option maxHeartbeats 4000000
namespace K00
open PySem PySem.Spec PyProof.Rows L2 EL
open SX (S)
open LamX (Tabs TabS TabB ExtN CodeO)
/-! ### the defs that make lambdas; tables -/
def TT (K : PySem.W.Frag) : List (Addr × Str) := TN.map fun x => ((He.cT K (x, none)).2, x ++ ".<locals>." ++ "<lambda>")
structure TBS (K : PySem.W.Frag) (mg : Str → Option Value) (base : Heap) : Prop where
  tb : ∀ x ∈ TN, TabB base mg (He.cT K (x, none)).1 (He.cT K (x, none)).2
  ne : ∀ x ∈ TN, ∀ y ∈ TN, (He.cT K (x, none)).2 = (He.cT K (y, none)).2 → x = y
theorem TBS.mem {K : PySem.W.Frag} {mg : Str → Option Value} {base : Heap} (T : TBS K mg base) (x : Str) (h : x ∈ TN) : ((He.cT K (x, none)).2, x ++ ".<locals>." ++ "<lambda>") ∈ TT K := List.mem_map.mpr ⟨x, h, rfl⟩
theorem TBS.uniq {K : PySem.W.Frag} {mg : Str → Option Value} {base : Heap} (T : TBS K mg base) (x : Str) (h : x ∈ TN) : ∀ p ∈ TT K, p.1 = (He.cT K (x, none)).2 → p.2 = x ++ ".<locals>." ++ "<lambda>" := fun p hp e => by
  obtain ⟨y, hy, rfl⟩ := List.mem_map.mp hp
  rw [T.ne y hy x h e]
/-- the same but for the jar and the tables -/
def JT (K : PySem.W.Frag) (j : Addr) (H H' : Hp) : Prop := (∀ b o, b ≠ j → (∀ ps, o ≠ .tbl ps) → H b = some o → H' b = some o) ∧ Jar H' j ∧ (∀ c, JAt H j c → JAt H' j c) ∧ Tabs (TT K) H'
theorem tabs_js {T : List (Addr × Str)} {j : Addr} {H H' : Hp} (hj : Jar H j) (t : Tabs T H) (a : ∀ b o, b ≠ j → H b = some o → H' b = some o) : Tabs T H' := fun p hp => by
  obtain ⟨ps, h1, h2, h3⟩ := t p hp
  obtain ⟨xs, h4, _⟩ := hj
  refine ⟨ps, a _ _ (fun z => by rw [z, h4] at h1; cases h1) h1, h2, fun pos cv hc => ?_⟩
  obtain ⟨c, e1, e2⟩ := h3 pos cv hc
  exact ⟨c, e1, a _ _ (fun z => by rw [z, h4] at e2; cases e2) e2⟩
section
variable {K : PySem.W.Frag} {j D : Addr} {H H1 H2 : Hp} {o : HO}
theorem JT.tr (a : JT K j H H1) (b : JT K j H1 H2) : JT K j H H2 := ⟨fun x o hx n h => b.1 x o hx n (a.1 x o hx n h), b.2.1, fun c h => b.2.2.1 c (a.2.2.1 c h), b.2.2.2⟩
theorem JT.js (hj : Jar H j) (t : Tabs (TT K) H) (a : JS j H H1) : JT K j H H1 := ⟨fun x o hx _ h => a.1 x o hx h, a.2.1, a.2.2, tabs_js hj t a.1⟩
theorem JT.refl (hj : Jar H j) (t : Tabs (TT K) H) : JT K j H H := JT.js hj t (JS.same hj fun _ _ h => h)
theorem JT.jsR (a : JT K j H H1) (b : JS j H1 H2) : JT K j H H2 := a.tr (JT.js a.2.1 a.2.2.2 b)
theorem JT.sameR (a : JT K j H H1) (e : Same H1 H2) : JT K j H H2 := a.jsR (JS.same a.2.1 e)
theorem JT.new (a : JT K j H H1) (hD : H1 D = none) : JT K j H (upd H1 D o) := a.sameR (Same.new hD)
theorem JT.ext (a : JT K j H H1) (e : ExtN H1 H2) (t : Tabs (TT K) H2) : JT K j H H2 := by
  obtain ⟨c, ns, hc, h1, h2⟩ := a.2.1.at
  have hc2 : ∀ c', JAt H1 j c' → JAt H2 j c' := fun c' h => by
    obtain ⟨ys, h⟩ := h
    exact ⟨ys, e _ _ h fun _ z => by cases z⟩
  refine ⟨fun b o hb n h => e _ _ (a.1 b o hb n h) n, a.2.1.of hc (fun o ho => e _ _ ho fun ps z => ?_) (fun o ho => e _ _ ho fun ps z => ?_), fun c' h => hc2 c' (a.2.2.1 c' h), t⟩
  · obtain ⟨ys, h⟩ := hc
    rw [h, z] at ho
    cases ho
  · rw [h2, z] at ho
    cases ho
theorem JT.at (a : JT K j H H1) {b : Addr} (h : H b = some o) (hb : b ≠ j) (n : ∀ ps, o ≠ .tbl ps) : H1 b = some o := a.1 b o hb n h
theorem JT.fresh (a : JT K j H H1) (hb : D ≠ j) (h : H1 D = none) (n : ∀ ps, H D ≠ some (.tbl ps)) : H D = none := by
  cases q : H D with
  | none => rfl
  | some u =>
    rw [a.1 D u hb (fun ps z => n ps (by rw [q, z])) q] at h
    cases h
/-- a list that is new behind H changes -/
theorem JT.mut {xs : List V} (hj : Jar H j) (a : JT K j H H1) (hD : H D = none) (hx : H1 D = some (.lst xs)) (ho : ∀ ps, o ≠ .tbl ps) : JT K j H (upd H1 D o) := by
  obtain ⟨c, ns, hc, h1, h2⟩ := hj.at
  have nD : c ≠ D := ne_of_none h2 hD
  have nj : j ≠ D := by
    obtain ⟨ys, z⟩ := hc
    exact ne_of_none z hD
  have hc1 := a.2.2.1 c hc
  refine ⟨fun b u hb n e => by rw [upd_ne (ne_of_none e hD)]; exact a.1 b u hb n e, a.2.1.of hc1 (fun o e => by rw [upd_ne nj]; exact e) (fun o e => by rw [upd_ne nD]; exact e), fun c' h => ?_, fun p hp => ?_⟩
  · obtain ⟨ys, z⟩ := a.2.2.1 c' h
    exact ⟨ys, by rw [upd_ne nj]; exact z⟩
  · obtain ⟨ps, g1, g2, g3⟩ := a.2.2.2 p hp
    refine ⟨ps, by rw [upd_ne (fun z => by rw [z, hx] at g1; cases g1)]; exact g1, g2, fun pos cv hcv => ?_⟩
    obtain ⟨c', e1, e2⟩ := g3 pos cv hcv
    exact ⟨c', e1, by rw [upd_ne (fun z => by rw [z, hx] at e2; cases e2)]; exact e2⟩
end
end K00

set_option maxHeartbeats 4000000
namespace K00
open PySem PySem.Spec PyProof.Rows L2 EL NdefX
open SX (S)
open TL (numL)
open PySem.NumText (digitsVal AllDigits)
/-! ### long texts, pure -/
theorem run_dig : ∀ (ds : List Nat) (r : Nat) (rest : List Nat), (∀ c ∈ ds, isDig c = true) → longRun r (ds ++ rest) = longRun (r + ds.length) rest
  | [], r, rest, _ => rfl
  | c :: ds, r, rest, h => by
    have h1 : longRun r (c :: (ds ++ rest)) = longRun (r + 1) (ds ++ rest) := if_pos (h c List.mem_cons_self)
    rw [List.cons_append, h1, run_dig ds (r + 1) rest (fun x hx => h x (List.mem_cons_of_mem _ hx)), List.length_cons]
    congr 1
    omega
theorem run_stop {c r : Nat} {rest : List Nat} (h : isDig c = false) : longRun r (c :: rest) = if 4000 < r then r else longRun 0 rest := if_neg (by rw [h]; exact Bool.false_ne_true)
theorem dig_fig : ∀ c, 48 ≤ c → c ≤ 57 → isDig c = true := by
  have h : (List.range 58).all (fun c => !decide (48 ≤ c) || isDig c) = true := by decide +kernel
  intro c h1 h2
  have := List.all_eq_true.mp h c (List.mem_range.mpr (by omega))
  simpa [h1] using this
theorem dig_47 : isDig 47 = false := by decide +kernel
theorem dig_45 : isDig 45 = false := by decide +kernel
theorem dig_120 : isDig 120 = false := by decide +kernel
theorem dig_32 : isDig 32 = false := by decide +kernel
/-- n zeros ahead of a figure -/
def zt (n c : Nat) : List Nat := List.replicate n 48 ++ numL c
theorem zt_len {n c : Nat} (h : c < 10) : (zt n c).length = n + 1 := by
  unfold zt
  rw [List.length_append, List.length_replicate, TL.numL_lt h]
  rfl
theorem zt_fig {n c : Nat} : ∀ x ∈ zt n c, 48 ≤ x ∧ x ≤ 57 := fun x hx => by
  rcases List.mem_append.mp hx with h | h
  · rw [(List.mem_replicate.mp h).2]
    exact ⟨Nat.le_refl _, by decide⟩
  · have := TL.numL_digits c x h
    exact ⟨this.1, this.2⟩
theorem zt_dig {n c : Nat} : ∀ x ∈ zt n c, isDig x = true := fun x hx => dig_fig x (zt_fig x hx).1 (zt_fig x hx).2
theorem zt_free {n c s : Nat} (h : s < 48 ∨ 57 < s) : s ∉ zt n c := fun hm => by
  have := zt_fig s hm
  omega
theorem zt_val (n c : Nat) : digitsVal (zt n c) = c := by
  unfold zt
  rw [val_zeros, TL.numL_val]
theorem zt_rep (n c : Nat) : repS (S [48]) n ++ Str.ofString (toString (c : Int)) = S (zt n c) := by
  rw [nat_txt]
  have e : repS (S [48]) n = S (List.replicate n 48) := by
    unfold repS
    refine TL.ext_tl ?_
    show (List.replicate n [48]).flatten = List.replicate n 48
    induction n with
    | zero => rfl
    | succ n ih => rw [List.replicate_succ, List.flatten_cons, ih]; rfl
  rw [e, SX.S_cat]
  rfl
/-- a text in one piece -/
theorem heed_one {l : List Nat} (h : 32 ∉ l) (h' : 10 ∉ l) (hl : 4000 < l.length) : heedR l = longRun 0 (l ++ [32]) := by
  have e : (l.map fun c => if c = 10 then 32 else c) = l := by
    have : ∀ l : List Nat, 10 ∉ l → (l.map fun c => if c = 10 then 32 else c) = l := by
      intro l
      induction l with
      | nil => intro _; rfl
      | cons c l ih =>
        intro h
        rw [List.map_cons, ih fun z => h (List.mem_cons_of_mem _ z), if_neg fun z => h (by rw [z]; exact List.mem_cons_self)]
    exact this l h'
  unfold heedR
  rw [if_neg (by omega), e, TL.spl_last1 h]
  show (if 4000 < ([] ++ l).length then _ else _) = _
  rw [List.nil_append, if_pos hl]
  by_cases h0 : 0 < longRun 0 (l ++ [32])
  · rw [if_pos h0]
  · rw [if_neg h0]
    show 0 = _
    omega
/-- runs -/
theorem run_zt {n c r : Nat} {rest : List Nat} (h : c < 10) : longRun r (zt n c ++ rest) = longRun (r + (n + 1)) rest := by rw [run_dig _ _ _ zt_dig, zt_len h]
theorem run_end {n c : Nat} (h : c < 10) : longRun 0 (zt n c ++ [32]) = if 4000 < n + 1 then n + 1 else 0 := by
  rw [run_zt h, run_stop dig_32, Nat.zero_add]
  rfl
theorem run_sep {n c s : Nat} {rest : List Nat} (h : c < 10) (hs : isDig s = false) : longRun 0 (zt n c ++ (s :: rest)) = if 4000 < n + 1 then n + 1 else longRun 0 rest := by rw [run_zt h, run_stop hs, Nat.zero_add]
section
variable {n c : Nat}
theorem heed_zt (h : c < 10) (hn : n + 1 ≤ 4000) : heedR (zt n c) = 0 := by
  unfold heedR
  rw [if_pos (by rw [zt_len h]; exact hn)]
theorem no_spc {l : List Nat} (h : ∀ x ∈ l, x ≠ 32 ∧ x ≠ 10) : 32 ∉ l ∧ 10 ∉ l := ⟨fun z => (h _ z).1 rfl, fun z => (h _ z).2 rfl⟩
theorem zt_nos : ∀ x ∈ zt n c, x ≠ 32 ∧ x ≠ 10 := fun x hx => by have := zt_fig x hx; omega
theorem heed_of {l : List Nat} (h : ∀ x ∈ l, x ≠ 32 ∧ x ≠ 10) (r : Nat) (e : longRun 0 (l ++ [32]) = r) (h0 : l.length ≤ 4000 → r = 0) : heedR l = r := by
  by_cases hl : 4000 < l.length
  · rw [heed_one (no_spc h).1 (no_spc h).2 hl, e]
  · unfold heedR
    rw [if_pos (by omega), h0 (by omega)]
theorem nos_cons {s : Nat} {l : List Nat} (hs : s ≠ 32 ∧ s ≠ 10) (h : ∀ x ∈ l, x ≠ 32 ∧ x ≠ 10) : ∀ x ∈ s :: l, x ≠ 32 ∧ x ≠ 10 := fun x hx => by
  rcases List.mem_cons.mp hx with rfl | hx
  · exact hs
  · exact h x hx
theorem nos_app {k l : List Nat} (hk : ∀ x ∈ k, x ≠ 32 ∧ x ≠ 10) (h : ∀ x ∈ l, x ≠ 32 ∧ x ≠ 10) : ∀ x ∈ k ++ l, x ≠ 32 ∧ x ≠ 10 := fun x hx => (List.mem_append.mp hx).elim (hk x) (h x)
/-- a sign ahead -/
theorem heed_sign {s : Nat} (h : c < 10) (hs : isDig s = false) (hs2 : s ≠ 32 ∧ s ≠ 10) : heedR (s :: zt n c) = if 4000 < n + 1 then n + 1 else 0 := by
  refine heed_of (nos_cons hs2 zt_nos) _ ?_ fun hl => ?_
  · rw [List.cons_append, run_stop hs, if_neg (by decide), run_end h]
  · rw [List.length_cons, zt_len h] at hl
    rw [if_neg (by omega)]
/-- a figure and a stroke ahead -/
theorem heed_over {d : Nat} (h : c < 10) (hd : 48 ≤ d ∧ d ≤ 57) : heedR (d :: 47 :: zt n c) = if 4000 < n + 1 then n + 1 else 0 := by
  refine heed_of (nos_cons (by omega) (nos_cons (by decide) zt_nos)) _ ?_ fun hl => ?_
  · have e : longRun 0 (d :: 47 :: (zt n c ++ [32])) = longRun 1 (47 :: (zt n c ++ [32])) := if_pos (dig_fig d hd.1 hd.2)
    rw [List.cons_append, List.cons_append, e, run_stop dig_47, if_neg (by decide), run_end h]
  · rw [List.length_cons, List.length_cons, zt_len h] at hl
    rw [if_neg (by omega)]
theorem heed_more (h : c < 10) (hn : 4000 < n + 1) : heedR (zt n c) = n + 1 := by
  refine heed_of zt_nos _ ?_ fun hl => ?_
  · rw [run_end h, if_pos hn]
  · rw [zt_len h] at hl
    omega
theorem heed_more_over {m d : Nat} (h : c < 10) (hn : 4000 < n + 1) : heedR (zt n c ++ (47 :: zt m d)) = n + 1 := by
  refine heed_of (nos_app zt_nos (nos_cons (by decide) zt_nos)) _ ?_ fun hl => ?_
  · rw [List.append_assoc, List.cons_append, run_sep h dig_47, if_pos hn]
  · rw [List.length_append, zt_len h] at hl
    omega
theorem heed_over_more {m d : Nat} (h : c < 10) (hd : d < 10) (hn : n + 1 ≤ 4000) (hm : 4000 < m + 1) : heedR (zt n c ++ (47 :: zt m d)) = m + 1 := by
  refine heed_of (nos_app zt_nos (nos_cons (by decide) zt_nos)) _ ?_ fun hl => ?_
  · rw [List.append_assoc, List.cons_append, run_sep h dig_47, if_neg (by omega), run_end hd, if_pos hm]
  · rw [List.length_append, List.length_cons, zt_len hd] at hl
    omega
theorem heed_more_two {m d : Nat} (h : c < 10) (hn : 4000 < n + 1) : heedR (zt n c ++ (32 :: zt m d)) = n + 1 := by
  have e : ((zt n c ++ (32 :: zt m d)).map fun c => if c = 10 then 32 else c) = zt n c ++ ([32] ++ zt m d) := by
    rw [List.map_append, List.map_cons]
    have : ∀ l : List Nat, (∀ x ∈ l, x ≠ 32 ∧ x ≠ 10) → (l.map fun c => if c = 10 then 32 else c) = l := fun l hl => by
      refine (List.map_congr_left fun x hx => if_neg (hl x hx).2).trans (List.map_id' l)
    rw [this _ zt_nos, this _ zt_nos]
    rfl
  have hlen := zt_len (n := n) h
  unfold heedR
  rw [if_neg (by rw [List.length_append, hlen]; omega), e, TL.spl_part1 (zt_free (.inl (by decide)))]
  show (if 4000 < ([] ++ zt n c).length then (if 0 < longRun 0 (([] ++ zt n c) ++ [32]) then longRun 0 (([] ++ zt n c) ++ [32]) else _) else _) = _
  rw [List.nil_append, if_pos (by omega), run_end h, if_pos hn, if_pos (by omega)]
theorem heed_mid (h : c < 10) (hn : 4000 < n + 1) : heedR (50 :: 47 :: (zt n c ++ [47, 49])) = n + 1 := by
  refine heed_of (nos_cons (by decide) (nos_cons (by decide) (nos_app zt_nos (by decide)))) _ ?_ fun hl => ?_
  · have e : longRun 0 (50 :: 47 :: (zt n c ++ [47, 49] ++ [32])) = longRun 1 (47 :: (zt n c ++ [47, 49] ++ [32])) := if_pos (dig_fig 50 (by decide) (by decide))
    rw [List.cons_append, List.cons_append, e, run_stop dig_47, if_neg (by decide), List.append_assoc]
    show longRun 0 (zt n c ++ (47 :: _)) = _
    rw [run_sep h dig_47, if_pos hn]
  · rw [List.length_cons, List.length_cons, List.length_append, zt_len h] at hl
    omega
end
/-! ### values next to values -/
section
variable {K : PySem.W.Frag} {H : Hp} {n : Nat} {p q : Addr} {x y : V} {xs ys : List V}
def LkA (K : PySem.W.Frag) (H : Hp) (n : Nat) (xs ys : List V) : Prop := xs.length = ys.length ∧ ∀ (j : Nat) (x y : V), xs[j]? = some x → ys[j]? = some y → Lk K H n x y
theorem LkA.nil : LkA K H n [] [] := ⟨rfl, fun j x y h => by cases h⟩
theorem LkA.cons (h : Lk K H n x y) (r : LkA K H n xs ys) : LkA K H n (x :: xs) (y :: ys) := ⟨by rw [List.length_cons, List.length_cons, r.1], fun j u v hu hv => by
  cases j with
  | zero =>
    cases hu
    cases hv
    exact h
  | succ j => exact r.2 j u v hu hv⟩
theorem lk_lst (hp : SqL K H p xs) (hq : SqL K H q ys) (hl : xs.length < 1000) (a : LkA K H n xs ys) : Lk K H (n + 1) (.ref p) (.ref q) := .inr (.inr (.inr ⟨p, q, xs, ys, rfl, rfl, .inl ⟨hp, hq⟩, hl, a.1, a.2⟩))
theorem lk_tup (hp : SqT K H p xs) (hq : SqT K H q ys) (hl : xs.length < 1000) (a : LkA K H n xs ys) : Lk K H (n + 1) (.ref p) (.ref q) := .inr (.inr (.inr ⟨p, q, xs, ys, rfl, rfl, .inr ⟨hp, hq⟩, hl, a.1, a.2⟩))
theorem lk_int (i : Int) : Lk K H (n + 1) (.int i) (.int i) := .inr (.inl ⟨i, rfl, rfl⟩)
theorem lk_str (z : Str) : Lk K H (n + 1) (.str z) (.str z) := .inr (.inr (.inl ⟨z, rfl, rfl⟩))
theorem lk_pair {a b : Int} (hp : H p = some (.tup [.int a, .int b])) (hq : H q = some (.tup [.int a, .int b])) : Lk K H (n + 2) (.ref p) (.ref q) := lk_tup (SqT.of hp) (SqT.of hq) (Nat.le_of_ble_eq_true rfl) ((LkA.nil.cons (lk_int b)).cons (lk_int a))
end
/-! ### the long numbers' worth -/
theorem big8000 {c : Nat} (h : c < 1000) : c < 2 ^ 8000 := Nat.lt_of_lt_of_le (show c < 2 ^ 10 by omega) (Nat.pow_le_pow_right (by decide) (by decide))
section
variable {K : PySem.W.Frag} {H : Hp} {n c : Nat}
theorem num_zt (h : c < 10) (hn : n + 1 ≤ 4000) : Num K H (.str (S (zt n c))) (some ((c : Int), 1)) :=
  .inr (.inl ⟨_, rfl, heed_zt h hn, by rw [zt_len h]; omega, fun p q e => (by rw [SX.par_head_none (zt_free (.inl (by decide)))] at e; cases e), numT_int false n c⟩)
theorem num_minus (h : c < 10) (hn : n + 1 ≤ 4000) : Num K H (.str (S (45 :: zt n c))) (some (-(c : Int), 1)) :=
  .inr (.inl ⟨_, rfl, by rw [heed_sign h dig_45 (by decide), if_neg (by omega)], by rw [List.length_cons, zt_len h]; omega, fun p q e => (by rw [SX.par_head_none (show 47 ∉ 45 :: zt n c from no47 true n c)] at e; cases e), numT_int true n c⟩)
theorem num_over (h : c < 10) (h0 : c ≠ 0) (hn : n + 1 ≤ 4000) : Num K H (.str (S (55 :: 47 :: zt n c))) (some (low 7 (c : Int))) := by
  refine .inr (.inl ⟨_, rfl, by rw [heed_over h (by decide), if_neg (by omega)], by rw [List.length_cons, List.length_cons, zt_len h]; omega, fun p q e => ?_, ?_⟩)
  · have e2 := par_word false 0 7 (zt n c)
    rw [show mns false ++ (List.replicate 0 48 ++ numL 7) = [55] from by decide +kernel] at e2
    rw [show (55 :: 47 :: zt n c) = [55] ++ 47 :: zt n c from rfl, e2] at e
    cases e
    rw [zt_val]
    exact big8000 (by omega)
  · have e2 := numT_frac false 0 n 7 c h0
    rw [show mns false ++ (List.replicate 0 48 ++ numL 7) = [55] from by decide +kernel] at e2
    exact e2
theorem num_x (h : c < 10) (hn : n + 1 ≤ 4000) : Num K H (.str (S (120 :: zt n c))) none := by
  have h47 : 47 ∉ 120 :: zt n c := fun z => by
    rcases List.mem_cons.mp z with z | z
    · cases z
    · exact zt_free (.inl (by decide)) z
  refine .inl ⟨_, rfl, by rw [heed_sign h dig_120 (by decide), if_neg (by omega)], by rw [List.length_cons, zt_len h]; omega, fun p q e => (by rw [SX.par_head_none h47] at e; cases e), ?_⟩
  unfold numT
  rw [SX.par_head_none h47]
  show Option.map _ (sgnFig _) = _
  rw [sgnFig_eq, show ((120 :: zt n c).head? == some 45) = false from rfl]
  show Option.map _ (if figs (120 :: zt n c) = true then _ else none) = _
  rw [show figs (120 :: zt n c) = false from rfl]
  rfl
end
end K00

set_option maxHeartbeats 4000000
namespace K00
open PySem PySem.Spec PyProof.Rows L2 EL NdefX
open SX (S)
open LamX (Tabs TabS TabB ExtN CodeO)
local macro_rules | `(tactic| walk_at "s1") => `(tactic| with_reducible first
  | refine x_seq ?_ | refine x_asg ?_ | refine x_op ?_ | refine x_c ?_ | refine x_gName ?_ | refine x_ifS ?_ | refine x_ret ?_ | refine x_test ?_ | refine x_bl ?_
  | refine x_I0 ?_ | refine x_addI ?_ | refine x_mulI ?_ ?_ | refine x_fdiv ?_ ?_ | refine x_mod ?_ ?_ | refine x_un ?_ | refine x_rU ?_ | refine x_pow ?_ ?_
  | refine x_eqI' ?_ | refine x_neI' ?_ | refine x_eqS' ?_ | refine x_neS' ?_
  | refine x_cons ?_ | refine x_nil ?_ | refine x_tup ?_ | refine x_lst ?_ | refine x_callS ?_ | refine x_CB ?_ | refine x_par ?_ | refine x_two ?_
  | refine x_next ?_ | refine x_and ?_ | refine x_or ?_ | refine x_not ?_ | refine x_andV ?_ | refine x_orV ?_ | refine x_notV ?_ | refine x_ex ?_ | refine x_ifE ?_ | refine x_tB ?_ | refine x_retN ?_ | refine x_drop ?_ | refine x_brk ?_ | refine x_cont ?_
  | refine x_intI ?_ | refine x_abs ?_ | refine x_gcd ?_ | refine x_str ?_ ?_ | refine x_sz ?_ | refine x_isN ?_ | refine x_notN ?_ | refine x_sl ?_ | refine x_noPart ?_ | refine x_part ?_ | refine x_exI ?_ | refine x_slS ?_ ?_ | refine x_gSub ?_ | refine x_inS ?_ | refine x_notinS ?_ | refine x_yes ?_ | refine x_m1 ?_ | refine x_m1' ?_ | refine x_ms ?_ | refine x_chain ?_ | refine x_callK ?_ | refine x_callSD ?_ | refine x_ifT' ?_ | refine x_newE ?_ | refine x_gCons ?_ | refine x_gNil ?_ | refine x_gTupU rfl ?_ | refine x_ifX ?_)
local macro_rules | `(tactic| walk_at "side") => `(tactic| with_reducible first | decide | (refine mul_left ?_ ?_ <;> omega) | (refine mul_right ?_ ?_ <;> omega) | (refine div_of ?_ ?_ <;> first | omega | assumption | decide +kernel) | omega | assumption)
local macro_rules | `(tactic| walk_at "s") => `(tactic| repeat (first | walk_at "s1" | ((with_reducible apply x_var); (· exact rfl)) | ((with_reducible apply x_ixU); (· exact rfl)) | ((with_reducible apply x_ixTU); (· exact rfl)) | ((with_reducible apply x_setU); (· exact rfl)) | ((with_reducible apply x_all); (· exact SqL.of upd_same))))
section
variable {P : Program} {w : World} {K : PySem.W.Frag} {mg : Str → Option Value} {base : Heap}
def sp_law_long_held (K : PySem.W.Frag) : Sp := sp1 fun a H Q _ => ∃ j : Addr, a = .ref j ∧ Jar H j ∧ Tabs (TT K) H ∧ ∀ H', JT K j H H' → Q (.bl true) H'
theorem f_minus : Str.ofString "-" = S [45] := rfl
theorem f_over : Str.ofString "7/" = S [55, 47] := rfl
theorem f_x : Str.ofString "x" = S [120] := rfl
theorem f_one : Str.ofString "1/" = S [49, 47] := rfl
theorem f_two : Str.ofString "2/" = S [50, 47] := rfl
theorem f_sl : Str.ofString "/" = S [47] := rfl
theorem f_sp : Str.ofString " " = S [32] := rfl
theorem f_end : Str.ofString "/1" = S [47, 49] := rfl
theorem x_cat {H : Hp} {Q : VK} {a b : List Nat} (q : Q (.str (S (a ++ b))) H) (h : a.length + b.length ≤ 20000) : rAddA (.str (S a)) (.str (S b)) H Q := by
  refine x_addS (short_line ?_) ?_
  · rw [S_length, S_length]
    omega
  rw [SX.S_cat]
  exact q
theorem x_zt {H : Hp} {Q : VK} {n c : Nat} (q : Q (.str (S (zt n c))) H) (h : n ≤ 20000) (hc : c < 10) : rAddA (.str (repS (Str.ofString "0") (n : Int).toNat)) (.str (Str.ofString (toString (c : Int)))) H Q := by
  have e := zt_rep n c
  rw [Int.toNat_natCast]
  refine x_addS (short_line ?_) ?_
  · rw [← str_app]
    have e2 : (repS (Str.ofString "0") n ++ Str.ofString (toString (c : Int))).length = (S (zt n c)).length := congrArg Str.length e
    rw [e2, S_length, zt_len hc]
    omega
  · rw [show repS (Str.ofString "0") n ++ Str.ofString (toString (c : Int)) = S (zt n c) from e]
    exact q
theorem small_log {c : Nat} (h : c < 1000) : ((c : Int)).natAbs.log2 < 1000 := by
  rw [Int.natAbs_natCast]
  exact Nat.lt_of_le_of_lt (Nat.log2_le_self _) h
theorem ref_why {c : Str} {H0 : Hp} {v : V} {q : Addr} {Q : VK} {E : XK} (hc : c = "BadName" ∨ c = "BadFraction") (R : Raising P w K mg base v H0 (WhyG K c H0)) (hq : H0 q = some (.tup [.str c])) (k : ∀ H3, Same H0 H3 → Q (.bl true) H3) : sp_law_refused P w K mg base [v, .ref q] H0 Q E := sp2_i ⟨_, R, refused_why hc hq k⟩
theorem ref_many {r : Nat} {H0 : Hp} {v : V} {q : Addr} {Q : VK} {E : XK} (R : Raising P w K mg base v H0 (ManyG K r H0)) (hq : H0 q = some (.tup [.str "TooMany", .str "figures", .int (r : Nat)])) (k : ∀ H3, Same H0 H3 → Q (.bl true) H3) : sp_law_refused P w K mg base [v, .ref q] H0 Q E := sp2_i ⟨_, R, refused_many hq k⟩
abbrev N_law_long_held : List Str := ["jar", "last", "low", "zeros", "high", "more", "even", "worst"]
theorem sc_law_long_held : FnScope N_law_long_held ["jar"] (defScope st_law_long_held) := ⟨rfl, rfl, rfl, by decide +kernel, rfl, by decide +kernel, by decide +kernel⟩
theorem b_law_long_held (T : Txt P K mg) : Binds K (fdOf K "_law_long_held") ["jar"] [] := T.F_law_long_held.bindsN fun _ _ _ _ _ _ us hl => match us, hl with | [_], _ => rfl
theorem ok_law_long_held (T : Txt P K mg) (TBs : TBS K mg base) : OkG P w K mg base 12 "_law_long_held" ["jar"] (sp_law_long_held K) := by
  have G_law_pick := ok_law_pick (P := P) (w := w) (base := base) T
  have G_law_like := ok_law_like (P := P) (w := w) (base := base) T 3
  have G_law_frac := ok_law_frac (P := P) (w := w) (base := base) T
  have G_fraction := ok_fraction (P := P) (w := w) (base := base) T
  have G_told := ok_told (P := P) (w := w) (base := base) T
  have G_law_draw := ok_law_draw (P := P) (w := w) (base := base) T
  have TB := TBs.tb "_law_long_held" (by decide)
  have hmT := TBs.mem "_law_long_held" (by decide)
  have hu := TBs.uniq "_law_long_held" (by decide)
  refine okG T.F_law_long_held sc_law_long_held sp1_len (fun cdv A outer s H vs Q E hr hg hcode h => ?_)
  obtain ⟨a0, rfl, h⟩ := h
  refine ⟨_, (pss_cons (ps_set (i := 1) sc_law_long_held.nd rfl (Or.inl rfl) (pe_op opA_add pe_int (pe_callS G_law_draw (hr.mono (by decide)) rfl T.g_law_draw T.k_law_draw (b_law_draw T) (fun σ => L2N.passAt (L2N.takes_of rfl rfl rfl rfl) σ) (pa_cons (pv 0) (pa_cons pe_int pa_nil)))))
  (pss_cons (ps_set (i := 2) sc_law_long_held.nd rfl (Or.inl rfl) (pe_callS G_law_pick (hr.mono (by decide)) rfl T.g_law_pick T.k_law_pick (b_law_pick T) (fun σ => L2N.passAt (L2N.takes_of rfl rfl rfl rfl) σ) (pa_cons (pv 0) (pa_cons (pe_lst (pa_cons pe_int (pa_cons pe_int pa_nil))) pa_nil))))
  (pss_cons (ps_set (i := 3) sc_law_long_held.nd rfl (Or.inr rfl) (pe_op opA_add (pe_op opA_mul pe_str (pe_op op_sub (pv 2) pe_int)) (pe_callTy callA_str rfl T.f_str (by decide +kernel) (pa_cons (pv 1) pa_nil))))
  (pss_cons (ps_if (pt_not (pt_val (pe_callS G_law_like (hr.mono (by decide)) rfl T.g_law_like T.k_law_like (b_law_like T) (fun σ => L2N.passAt (L2N.takes_of rfl rfl rfl rfl) σ) (pa_cons (pe_lst (pa_cons (pe_callS G_fraction (hr.mono (by decide)) rfl T.g_fraction T.k_fraction (b_fraction T) (fun σ => L2N.passAt (L2N.takes_of rfl rfl rfl rfl) σ) (pa_cons (pv 3) pa_nil)) (pa_cons (pe_callS G_told (hr.mono (by decide)) rfl T.g_told T.k_told (b_told T) (fun σ => L2N.passAt (L2N.takes_of rfl rfl rfl rfl) σ) (pa_cons (pe_op opA_add pe_str (pv 3)) pa_nil)) (pa_cons (pe_callS G_fraction (hr.mono (by decide)) rfl T.g_fraction T.k_fraction (b_fraction T) (fun σ => L2N.passAt (L2N.takes_of rfl rfl rfl rfl) σ) (pa_cons (pe_op opA_add pe_str (pv 3)) pa_nil)) pa_nil)))) (pa_cons (pe_lst (pa_cons (pe_tup (pa_cons (pv 1) (pa_cons pe_int pa_nil))) (pa_cons (pe_callTy callA_str rfl T.f_str (by decide +kernel) (pa_cons (pe_un un_neg (pv 1)) pa_nil)) (pa_cons (pe_callS G_law_frac (hr.mono (by decide)) rfl T.g_law_frac T.k_law_frac (b_law_frac T) (fun σ => L2N.passAt (L2N.takes_of rfl rfl rfl rfl) σ) (pa_cons pe_int (pa_cons (pv 1) pa_nil))) pa_nil)))) pa_nil))))) (pss_one (ps_ret pe_bl)) pss_nil)
  (pss_cons (ps_if (pt_not (pt_val (pe_callLam (T := (TT K)) (js := [3]) (fr := (["zeros"] : List Str)) (k := 8) (fun b => ok_law_refused (base := b) T) (hr.mono (by decide)) rfl T.g_law_refused T.k_law_refused (b_law_refused T) (fun σ => L2N.passAt (L2N.takes_of rfl rfl rfl rfl) σ) rfl rfl (fun _ => rfl) TB hcode hmT hu rfl (show ∀ y ∈ (_ : List (Str × NameKind)), y.2 = NameKind.free → (defScope st_law_long_held).names.lookup y.1 = some .cell ∨ (defScope st_law_long_held).names.lookup y.1 = some .free from by decide +kernel) (by decide +kernel) rfl (nscope_by (by decide +kernel)) (fun _ _ _ _ _ => rfl) (fun base A outer s H E f c hr => (pe_callS (ok_fraction T) (hr.mono (by decide)) rfl T.g_fraction T.k_fraction (b_fraction T) (fun σ => L2N.passAt (L2N.takes_of rfl rfl rfl rfl) σ) (pa_cons (pe_op opA_add pe_str (pv 0)) pa_nil))) (pa_cons (pe_tup (pa_cons pe_str pa_nil)) pa_nil)))) (pss_one (ps_ret pe_bl)) pss_nil)
  (pss_cons (ps_set (i := 4) sc_law_long_held.nd rfl (Or.inl rfl) (pe_callS G_law_pick (hr.mono (by decide)) rfl T.g_law_pick T.k_law_pick (b_law_pick T) (fun σ => L2N.passAt (L2N.takes_of rfl rfl rfl rfl) σ) (pa_cons (pv 0) (pa_cons (pe_lst (pa_cons pe_int (pa_cons pe_int (pa_cons pe_int pa_nil)))) pa_nil))))
  (pss_cons (ps_set (i := 5) sc_law_long_held.nd rfl (Or.inl rfl) (pe_op opA_add (pe_op opA_mul pe_str (pe_op op_sub (pv 4) pe_int)) (pe_callTy callA_str rfl T.f_str (by decide +kernel) (pa_cons (pv 1) pa_nil))))
  (pss_cons (ps_set (i := 6) sc_law_long_held.nd rfl (Or.inl rfl) (pe_op opA_add (pe_op opA_mul pe_str pe_int) pe_str))
  (pss_cons (ps_set (i := 7) sc_law_long_held.nd rfl (Or.inr rfl) (pe_callS G_law_pick (hr.mono (by decide)) rfl T.g_law_pick T.k_law_pick (b_law_pick T) (fun σ => L2N.passAt (L2N.takes_of rfl rfl rfl rfl) σ) (pa_cons (pv 0) (pa_cons (pe_lst (pa_cons (pv 5) (pa_cons (pe_op opA_add pe_str (pv 5)) (pa_cons (pe_op opA_add pe_str (pv 5)) (pa_cons (pe_op opA_add (pe_op opA_add (pv 5) pe_str) (pv 6)) (pa_cons (pe_op opA_add (pe_op opA_add (pv 3) pe_str) (pv 5)) (pa_cons (pe_op opA_add pe_str (pv 5)) (pa_cons (pe_op opA_add (pe_op opA_add (pv 5) pe_str) (pv 6)) (pa_cons (pe_op opA_add (pe_op opA_add pe_str (pv 5)) pe_str) pa_nil))))))))) pa_nil))))
  (pss_cons (ps_if (pt_not (pt_val (pe_callLam (T := (TT K)) (js := [7]) (fr := (["worst"] : List Str)) (k := 8) (fun b => ok_law_refused (base := b) T) (hr.mono (by decide)) rfl T.g_law_refused T.k_law_refused (b_law_refused T) (fun σ => L2N.passAt (L2N.takes_of rfl rfl rfl rfl) σ) rfl rfl (fun _ => rfl) TB hcode hmT hu rfl (show ∀ y ∈ (_ : List (Str × NameKind)), y.2 = NameKind.free → (defScope st_law_long_held).names.lookup y.1 = some .cell ∨ (defScope st_law_long_held).names.lookup y.1 = some .free from by decide +kernel) (by decide +kernel) rfl (nscope_by (by decide +kernel)) (fun _ _ _ _ _ => rfl) (fun base A outer s H E f c hr => (pe_callS (ok_fraction T) (hr.mono (by decide)) rfl T.g_fraction T.k_fraction (b_fraction T) (fun σ => L2N.passAt (L2N.takes_of rfl rfl rfl rfl) σ) (pa_cons (pv 0) pa_nil))) (pa_cons (pe_tup (pa_cons pe_str (pa_cons pe_str (pa_cons (pv 4) pa_nil)))) pa_nil)))) (pss_one (ps_ret pe_bl)) pss_nil)
  (pss_one (ps_ret (pe_callLam (T := (TT K)) (js := [7]) (fr := (["worst"] : List Str)) (k := 8) (fun b => ok_law_refused (base := b) T) (hr.mono (by decide)) rfl T.g_law_refused T.k_law_refused (b_law_refused T) (fun σ => L2N.passAt (L2N.takes_of rfl rfl rfl rfl) σ) rfl rfl (fun _ => rfl) TB hcode hmT hu rfl (show ∀ y ∈ (_ : List (Str × NameKind)), y.2 = NameKind.free → (defScope st_law_long_held).names.lookup y.1 = some .cell ∨ (defScope st_law_long_held).names.lookup y.1 = some .free from by decide +kernel) (by decide +kernel) rfl (nscope_by (by decide +kernel)) (fun _ _ _ _ _ => rfl) (fun base A outer s H E f c hr => (pe_callS (ok_told T) (hr.mono (by decide)) rfl T.g_told T.k_told (b_told T) (fun σ => L2N.passAt (L2N.takes_of rfl rfl rfl rfl) σ) (pa_cons (pv 0) pa_nil))) (pa_cons (pe_tup (pa_cons pe_str (pa_cons pe_str (pa_cons (pv 4) pa_nil)))) pa_nil)))))))))))))), ?_⟩
  try dsimp only [cxOf, List.map]
  obtain ⟨j, rfl, hj, ht, k⟩ := h
  walk_at "s"
  refine sp2_i ⟨j, _, rfl, rfl, by decide, by decide, hj, fun d xs d0 d1 hx => ?_⟩
  have s1 : JT K j H _ := JT.js hj ht (JS.draw hx)
  generalize upd H j (.lst xs) = H1 at s1
  obtain ⟨c, ec, hc0, hc⟩ : ∃ c : Nat, 1 + d = (c : Int) ∧ c ≠ 0 ∧ c < 10 := ⟨(1 + d).toNat, by omega, by omega, by omega⟩
  walk_at "s"
  rw [ec]
  intro q hq
  walk_at "s"
  refine sp2_i ⟨j, q, ([3999, 4000] : List Int).map V.int, rfl, rfl, s1.2.1.new hq, upd_same, jar_ne s1.2.1 hq, by decide, by decide, fun v xs hv hx => ?_⟩
  have s2 := (s1.new (o := .lst (([3999, 4000] : List Int).map V.int)) hq).jsR (JS.draw hx)
  obtain ⟨m, hm, rfl⟩ := List.mem_map.mp hv
  obtain ⟨n, en, hn⟩ : ∃ n : Nat, m = ((n + 1 : Nat) : Int) ∧ n + 1 ≤ 4000 := by
    have := (by decide : ∀ m ∈ ([3999, 4000] : List Int), 1 ≤ m ∧ m ≤ 4000) m hm
    exact ⟨(m - 1).toNat, by omega, by omega⟩
  subst en
  generalize hH2 : upd (upd H1 q _) j (.lst xs) = H2 at s2
  have hH2' : H2 = upd (upd H1 q (.lst [.int 3999, .int 4000])) j (.lst xs) := hH2.symm
  rw [← hH2']
  clear hH2 hH2' hx hv hm
  walk_at "s"
  have e1 : (((n + 1 : Nat) : Int) - 1) = (n : Int) := by omega
  rw [e1]
  have l0 : (Str.ofString "0").length = 1 := rfl
  refine x_mulS ?_ (by omega) (by rw [l0]; omega) (by omega) (by rw [l0]; decide)
  walk_at "s"
  rotate_left
  · have := small_log (c := c) (by omega)
    omega
  refine x_zt ?_ (by omega) hc
  walk_at "s"
  have lz := zt_len (n := n) hc
  refine sp1_i (.inl ⟨_, num_zt hc hn, fun H3 p1 e3 h1 => ?_⟩)
  walk_at "s"
  rw [f_minus]
  refine x_cat ?_ (by simp only [List.length_singleton]; omega)
  walk_at "s"
  refine sp1_i (.inl ⟨_, num_minus hc hn, (show (0 : Int) < 1 by decide), ?_, (show (1 : Int).natAbs.log2 < 1900 by decide +kernel), fun H4 e4 => ?_⟩)
  · have := small_log (c := c) (by omega)
    show (-(c : Int)).natAbs.log2 < 1900
    rw [Int.natAbs_neg]
    omega
  walk_at "s"
  rw [f_over]
  refine x_cat ?_ (by simp only [List.length_cons, List.length_nil]; omega)
  walk_at "s"
  refine sp1_i (.inl ⟨_, num_over hc hc0 hn, fun H5 p2 e5 h2 => ?_⟩)
  walk_at "s"
  intro q1 hq1
  walk_at "s"
  intro q2 hq2
  walk_at "s"
  rotate_left
  · have := small_log (c := c) (by omega)
    rw [Int.natAbs_neg]
    omega
  refine sp2_i ⟨7, (c : Int), rfl, rfl, by omega, ?_, fun q3 hq3 => ?_⟩
  · rw [Int.natAbs_natCast]
    exact big8000 (by omega)
  walk_at "s"
  intro q4 hq4
  walk_at "s"
  have g1 : Same H5 (upd H5 q1 (.lst [.ref p1, .str (wordT (-(c : Int), 1)), .ref p2])) := Same.new hq1
  have g2 := Same.tr g1 (Same.new (o := .tup [.int (c : Int), .int 1]) hq2)
  have g3 := Same.tr g2 (Same.new (o := .tup [.int (low 7 (c : Int)).1, .int (low 7 (c : Int)).2]) hq3)
  have g4 := Same.tr g3 (Same.new (o := .lst [.ref q2, .str (Str.ofString (toString (-(c : Int)))), .ref q3]) hq4)
  have r1 := Same.tr (Same.new (o := .tup [.int (low 7 (c : Int)).1, .int (low 7 (c : Int)).2]) hq3) (Same.new (o := .lst [.ref q2, .str (Str.ofString (toString (-(c : Int)))), .ref q3]) hq4)
  have r2 := Same.new (o := .lst [.ref q2, .str (Str.ofString (toString (-(c : Int)))), .ref q3]) hq4
  have r0 := Same.tr (Same.new (o := .tup [.int (c : Int), .int 1]) hq2) r1
  have s3 := s2.sameR (Same.tr (Same.tr e3 (Same.tr e4 e5)) g4)
  refine sp2_i ⟨?_, fun H6 e6 => ⟨true, rfl, x_ifF rfl ?_⟩⟩
  · refine lk_lst (SqL.of (r0 _ _ upd_same)) (SqL.of upd_same) (by simp) ?_
    have ew : wordT (-(c : Int), 1) = Str.ofString (toString (-(c : Int))) := if_pos rfl
    rw [ew]
    exact ((LkA.nil.cons (lk_pair (g4 _ _ h2) (r2 _ _ upd_same))).cons (lk_str _)).cons (lk_pair (g4 _ _ (e5 _ _ (e4 _ _ h1))) (r1 _ _ upd_same))
  have s4 := s3.sameR e6
  clear s3 r0 r1 r2 g1 g2 g3 g4 e6 hq1 hq2 hq3 hq4 h1 h2 e3 e4 e5 hq s1 s2
  walk_at "s"
  refine ⟨s4.2.2.2, fun f c' H7 n7 t7 hc7 => ?_⟩
  have s5 := s4.ext n7 t7
  walk_at "s"
  intro q1 hq1
  walk_at "s"
  intro base' th
  have s6 := s5.new (o := .tup [.str "BadFraction"]) hq1
  refine ref_why (.inr rfl) ⟨f, _, rfl, th, fun Q' E' i => ⟨Same.new hq1 _ _ hc7, ?_⟩⟩ upd_same fun H8 e8 => ⟨true, rfl, x_ifF rfl ?_⟩
  · walk_at "s"
    rw [f_x]
    refine x_cat ?_ (by simp only [List.length_singleton]; omega)
    walk_at "s"
    exact sp1_i (.inr (.inl ⟨num_x hc hn, ewhy_of i⟩))
  have s7 := s6.sameR e8
  clear s4 s5 s6 e8 hc7 n7 t7 th hq1
  walk_at "s"
  intro q hq
  walk_at "s"
  refine sp2_i ⟨j, q, ([4001, 4002, 4003] : List Int).map V.int, rfl, rfl, s7.2.1.new hq, upd_same, jar_ne s7.2.1 hq, by decide, by decide, fun v xs hv hx => ?_⟩
  have s2 := (s7.new (o := .lst (([4001, 4002, 4003] : List Int).map V.int)) hq).jsR (JS.draw hx)
  obtain ⟨m, hm, rfl⟩ := List.mem_map.mp hv
  obtain ⟨n2, en, hn2, hn3⟩ : ∃ n : Nat, m = ((n + 1 : Nat) : Int) ∧ 4000 < n + 1 ∧ n + 1 ≤ 4003 := by
    have := (by decide : ∀ m ∈ ([4001, 4002, 4003] : List Int), 4001 ≤ m ∧ m ≤ 4003) m hm
    exact ⟨(m - 1).toNat, by omega, by omega, by omega⟩
  subst en
  generalize hH2 : upd (upd H8 q _) j (.lst xs) = H2 at s2
  have hH2' : H2 = upd (upd H8 q (.lst [.int 4001, .int 4002, .int 4003])) j (.lst xs) := hH2.symm
  rw [← hH2']
  clear hH2 hH2' hx hv hm hq s7
  walk_at "s"
  have e2 : (((n2 + 1 : Nat) : Int) - 1) = (n2 : Int) := by omega
  rw [e2]
  refine x_mulS ?_ (by omega) (by rw [l0]; omega) (by omega) (by rw [l0]; decide)
  walk_at "s"
  rotate_left
  · have := small_log (c := c) (by omega)
    omega
  refine x_zt ?_ (by omega) hc
  walk_at "s"
  refine x_mulS ?_ (by decide) (by rw [l0]; decide) (by decide) (by rw [l0]; decide)
  walk_at "s"
  refine (show Str.ofString "3" = Str.ofString (toString ((3 : Nat) : Int)) by decide +kernel) ▸ x_zt (n := 4005) (c := 3) ?_ (by decide) (by decide)
  walk_at "s"
  rw [f_one, f_sl, f_x, f_sp, f_two, f_end]
  have lm := zt_len (n := n2) hc
  have le := zt_len (n := 4005) (c := 3) (by decide)
  refine x_cat ?_ (by simp only [List.length_singleton]; omega)
  walk_at "s"
  refine x_cat ?_ (by simp only [List.length_cons, List.length_nil]; omega)
  walk_at "s"
  refine x_cat ?_ (by simp only [List.length_cons, List.length_nil]; omega)
  walk_at "s"
  refine x_cat ?_ (by simp only [List.length_append, List.length_cons, List.length_nil]; omega)
  walk_at "s"
  refine x_cat ?_ (by simp only [List.length_cons, List.length_nil]; omega)
  walk_at "s"
  refine x_cat ?_ (by simp only [List.length_append, List.length_cons, List.length_nil]; omega)
  walk_at "s"
  refine x_cat ?_ (by simp only [List.length_cons, List.length_nil]; omega)
  walk_at "s"
  refine x_cat ?_ (by simp only [List.length_cons, List.length_nil]; omega)
  walk_at "s"
  refine x_cat ?_ (by simp only [List.length_append, List.length_cons, List.length_nil]; omega)
  walk_at "s"
  refine x_cat ?_ (by simp only [List.length_cons, List.length_nil]; omega)
  walk_at "s"
  refine x_cat ?_ (by simp only [List.length_append, List.length_cons, List.length_nil]; omega)
  walk_at "s"
  obtain ⟨LL, eL⟩ : ∃ LL : List (List Nat), LL = [zt n2 c, [45] ++ zt n2 c, [49, 47] ++ zt n2 c, zt n2 c ++ [47] ++ zt 4005 3, zt n c ++ [47] ++ zt n2 c, [120] ++ zt n2 c, zt n2 c ++ [32] ++ zt 4005 3, [50, 47] ++ zt n2 c ++ [47, 49]] := ⟨_, rfl⟩
  have hw : ∀ l ∈ LL, heedR l = n2 + 1 ∧ l.length < 20000 := by
    rw [eL]
    intro l hl
    rcases List.mem_cons.mp hl with rfl | hl
    · exact ⟨heed_more hc hn2, by omega⟩
    rcases List.mem_cons.mp hl with rfl | hl
    · exact ⟨(heed_sign hc dig_45 (by decide)).trans (if_pos hn2), by simp only [List.length_append, List.length_cons, List.length_nil]; omega⟩
    rcases List.mem_cons.mp hl with rfl | hl
    · exact ⟨(heed_over hc (by decide)).trans (if_pos hn2), by simp only [List.length_append, List.length_cons, List.length_nil]; omega⟩
    rcases List.mem_cons.mp hl with rfl | hl
    · exact ⟨by rw [List.append_assoc]; exact heed_more_over hc hn2, by simp only [List.length_append, List.length_cons, List.length_nil]; omega⟩
    rcases List.mem_cons.mp hl with rfl | hl
    · exact ⟨by rw [List.append_assoc]; exact heed_over_more hc hc hn hn2, by simp only [List.length_append, List.length_cons, List.length_nil]; omega⟩
    rcases List.mem_cons.mp hl with rfl | hl
    · exact ⟨(heed_sign hc dig_120 (by decide)).trans (if_pos hn2), by simp only [List.length_append, List.length_cons, List.length_nil]; omega⟩
    rcases List.mem_cons.mp hl with rfl | hl
    · exact ⟨by rw [List.append_assoc]; exact heed_more_two hc hn2, by simp only [List.length_append, List.length_cons, List.length_nil]; omega⟩
    rcases List.mem_cons.mp hl with rfl | hl
    · exact ⟨by rw [List.append_assoc]; exact heed_mid hc hn2, by simp only [List.length_append, List.length_cons, List.length_nil]; omega⟩
    · cases hl
  intro q hq
  walk_at "s"
  refine sp2_i ⟨j, q, LL.map fun l => V.str (S l), rfl, rfl, s2.2.1.new hq, by rw [upd_same, eL]; rfl, jar_ne s2.2.1 hq, by rw [eL]; simp, by rw [eL]; simp, fun v xs hv hx => ?_⟩
  have s3 := (s2.new hq).jsR (JS.draw hx)
  obtain ⟨l, hl, rfl⟩ := List.mem_map.mp hv
  obtain ⟨hr', hl'⟩ := hw l hl
  generalize upd (upd H2 q _) j (.lst xs) = H3 at s3 ⊢
  clear hx hv hl hw eL hq s2
  have lng : ∀ {Ha : Hp} {E' : XK}, (∀ cls d H', ManyG K (n2 + 1) Ha cls d H' → E' cls d H') → Long K (.str (S l)) Ha E' := fun {Ha E'} i => ⟨l, rfl, by omega, by omega, by rw [hr']; exact emany_of i⟩
  walk_at "s"
  refine ⟨s3.2.2.2, fun f c' H7 n7 t7 hc7 => ?_⟩
  have s5 := s3.ext n7 t7
  walk_at "s"
  intro q1 hq1
  walk_at "s"
  intro base' th
  have s6 := s5.new (o := .tup [.str "TooMany", .str "figures", .int ((n2 + 1 : Nat) : Int)]) hq1
  refine ref_many ⟨f, _, rfl, th, fun Q' E' i => ⟨Same.new hq1 _ _ hc7, ?_⟩⟩ upd_same fun H8 e8 => ⟨true, rfl, x_ifF rfl ?_⟩
  · walk_at "s"
    exact sp1_i (.inr (.inr (lng i)))
  have s7 := s6.sameR e8
  clear s3 s5 s6 e8 hc7 n7 t7 th hq1
  walk_at "s"
  refine ⟨s7.2.2.2, fun f c' H9 n9 t9 hc9 => ?_⟩
  have s8 := s7.ext n9 t9
  walk_at "s"
  intro q2 hq2
  walk_at "s"
  intro base' th
  have s9 := s8.new (o := .tup [.str "TooMany", .str "figures", .int ((n2 + 1 : Nat) : Int)]) hq2
  refine ref_many ⟨f, _, rfl, th, fun Q' E' i => ⟨Same.new hq2 _ _ hc9, ?_⟩⟩ upd_same fun H8 e8 => k _ (s9.sameR e8)
  walk_at "s"
  exact sp1_i (.inr (.inr (lng i)))
end
end K00

set_option maxHeartbeats 4000000
namespace K00
open PySem PySem.Spec PyProof.Rows L2 EL NdefX
open SX (S)
open TL (numL)
open PySem.NumText (digitsVal AllDigits)
open LamX (Tabs TabS TabB ExtN CodeO)
/-! ### lowest terms, number words -/
theorem low_red {t d : Int} (hd : 0 < d) : ∃ t' d' : Int, low t d = (t', d') ∧ 0 < d' ∧ low t' d' = (t', d') ∧ t'.natAbs ≤ t.natAbs ∧ d'.natAbs ≤ d.natAbs := by
  have hg := gcd_pos (t := t) (d := d) (by omega)
  obtain ⟨g, eg⟩ : ∃ g : Int, g = ((Nat.gcd t.natAbs d.natAbs : Nat) : Int) := ⟨_, rfl⟩
  have g0 : 0 < g := by rw [eg]; exact hg
  obtain ⟨t', ht⟩ : g ∣ t := by rw [eg]; exact Int.ofNat_dvd_left.mpr (Nat.gcd_dvd_left _ _)
  obtain ⟨d', hd'⟩ : g ∣ d := by rw [eg]; exact Int.ofNat_dvd_left.mpr (Nat.gcd_dvd_right _ _)
  have d0 : 0 < d' := by
    rcases Int.lt_or_le 0 d' with h | h
    · exact h
    · have := Int.mul_le_mul_of_nonneg_left h (Int.le_of_lt g0)
      rw [Int.mul_zero, ← hd'] at this
      omega
  have e1 : low t d = (t', d') := by
    rw [low_pos hd, ← eg, Int.fdiv_eq_ediv_of_nonneg _ (by omega), Int.fdiv_eq_ediv_of_nonneg _ (by omega)]
    rw [show t / g = t' by rw [ht]; exact Int.mul_ediv_cancel_left _ (by omega), show d / g = d' by rw [hd']; exact Int.mul_ediv_cancel_left _ (by omega)]
  have e2 : low t d = low t' d' := by
    rw [ht, hd', Int.mul_comm g t', Int.mul_comm g d']
    exact low_mul t' d' g g0 d0
  refine ⟨t', d', e1, d0, e2.symm.trans e1, ?_, ?_⟩
  · rw [ht, Int.natAbs_mul]
    exact Nat.le_mul_of_pos_left _ (by omega)
  · conv => rhs; rw [hd', Int.natAbs_mul]
    exact Nat.le_mul_of_pos_left _ (by omega)
theorem txI_mns (t : Int) : txI t = S (mns (decide (t < 0)) ++ (List.replicate 0 48 ++ numL t.natAbs)) := by
  by_cases h : t < 0
  · rw [decide_eq_true h, txI_neg h]
    have e : -t = (t.natAbs : Int) := by omega
    rw [e, txI_nat, show Str.ofString "-" = S [45] from rfl, SX.S_cat]
    rfl
  · rw [decide_eq_false h]
    have e : t = (t.natAbs : Int) := by omega
    conv => lhs; rw [e, txI_nat]
    rfl
theorem log_pow {a k : Nat} (h : a < 2 ^ k) (hk : 0 < k) : a.log2 < k := log_of_lt hk h
theorem num_word {K : PySem.W.Frag} {H : Hp} {t d : Int} (hl : low t d = (t, d)) (hd : 0 < d) (ht : t.natAbs < 2 ^ 1000) (hdb : d.natAbs < 2 ^ 1000) : Num K H (.str (wordT (t, d))) (some (t, d)) := by
  have big : (2 : Nat) ^ 1000 < 2 ^ 8000 := Nat.pow_lt_pow_right (by decide) (by decide)
  have b2 : (2 : Nat) ^ 1000 < 2 ^ 1002 := Nat.pow_lt_pow_right (by decide) (by decide)
  have l1 := numL_short (Nat.lt_trans ht b2)
  have l2 := numL_short (Nat.lt_trans hdb b2)
  have lm : (mns (decide (t < 0))).length ≤ 1 := by cases decide (t < 0) <;> decide
  have m1 : decide (t < 0) = true → t ≤ 0 := fun h => by have := of_decide_eq_true h; omega
  have m2 : decide (t < 0) = false → 0 ≤ t := fun h => by have := of_decide_eq_false h; omega
  unfold wordT
  by_cases h1 : d = 1
  · rw [if_pos h1, txI_mns]
    refine .inr (.inl ⟨_, rfl, ?_, ?_, fun p q e => (by rw [SX.par_head_none (no47 _ 0 _)] at e; cases e), ?_⟩)
    · unfold heedR
      rw [if_pos (by simp only [List.length_append, List.length_replicate]; omega)]
    · simp only [List.length_append, List.length_replicate]
      omega
    · rw [worn_int 0 m1 m2, h1]
  · rw [if_neg h1, txI_mns]
    have ed : txI d = S (List.replicate 0 48 ++ numL (d.natAbs * 1)) := by
      rw [txI_mns, decide_eq_false (by omega : ¬ d < 0), Nat.mul_one]
      rfl
    have e : S (mns (decide (t < 0)) ++ (List.replicate 0 48 ++ numL t.natAbs)) ++ Str.ofString "/" ++ txI d = S ((mns (decide (t < 0)) ++ (List.replicate 0 48 ++ numL (t.natAbs * 1))) ++ 47 :: (List.replicate 0 48 ++ numL (d.natAbs * 1))) := by
      rw [ed, show Str.ofString "/" = S [47] from rfl, SX.S_cat, SX.S_cat, List.append_assoc, Nat.mul_one, Nat.mul_one]
      rfl
    show Num K H (.str (S (mns (decide (t < 0)) ++ (List.replicate 0 48 ++ numL t.natAbs)) ++ Str.ofString "/" ++ txI d)) _
    rw [e]
    have l3 : (numL (d.natAbs * 1)).length ≤ 400 := by rw [Nat.mul_one]; exact l2
    have l4 : (numL (t.natAbs * 1)).length ≤ 400 := by rw [Nat.mul_one]; exact l1
    refine .inr (.inl ⟨_, rfl, ?_, ?_, fun p q e => ?_, worn_frac 0 0 m1 m2 hd (Nat.le_refl 1) hl⟩)
    · unfold heedR
      rw [if_pos (by simp only [List.length_append, List.length_cons, List.length_replicate]; omega)]
    · simp only [List.length_append, List.length_cons, List.length_replicate]
      omega
    · rw [par_word] at e
      cases e
      rw [val_zeros, TL.numL_val, Nat.mul_one]
      exact Nat.lt_trans hdb big
/-! ### what stays when all but the tables stays -/
section
variable {K : PySem.W.Frag} {H H' : Hp}
theorem tyX_ext {x : V} {t : Value} (e : ExtN H H') (h : TyX K H x t) : TyX K H' x t := by
  cases h with
  | base h => exact .base (by
      cases h with
      | non => exact .non
      | bl b => exact .bl b
      | int i => exact .int i
      | str x => exact .str x
      | flt b => exact .flt b
      | lst h => exact .lst (e _ _ h (fun _ z => by cases z))
      | frz h => exact .frz (e _ _ h (fun _ z => by cases z))
      | tup h => exact .tup (e _ _ h (fun _ z => by cases z))
      | dK h => exact .dK (e _ _ h (fun _ z => by cases z))
      | dT h => exact .dT (e _ _ h (fun _ z => by cases z))
      | ins h a b c d f => exact .ins (e _ _ h (fun _ z => by cases z)) a b c d f)
  | byt b => exact .byt b
  | set h => exact .set (e _ _ h (fun _ z => by cases z))
  | kList h c => exact .kList h c
  | kTuple h c => exact .kTuple h c
  | kDict h c => exact .kDict h c
  | fTuple h => exact .fTuple (e _ _ h (fun _ z => by cases z))
  | fDict h => exact .fDict (e _ _ h (fun _ z => by cases z))
theorem TyP.ext {x : V} {t : String} (h : TyP K H x t) (e : ExtN H H') : TyP K H' x t := ⟨tyX_ext e h.1, h.2⟩
theorem BadN.ext {a : V} (h : BadN K H a) (e : ExtN H H') : BadN K H' a := by
  rcases h with ⟨t, h1, h2⟩ | ⟨q, xs, rfl, h1, h2, h3⟩
  · exact .inl ⟨t, h1.ext e, h2⟩
  · refine .inr ⟨q, xs, rfl, e _ _ h1 (fun _ z => by cases z), h2, h3.imp id ?_⟩
    rintro ⟨x, y, t, t', hx, h4, h5, h6⟩
    exact ⟨x, y, t, t', hx, h4.ext e, h5.ext e, h6⟩
theorem Num.extN {a : V} (h : Num K H a none) (e : ExtN H H') : Num K H' a none := by
  rcases h with h | h
  · exact .inl h
  · exact .inr (h.ext e)
theorem Num.same {a : V} {r : Int × Int} (h : Num K H a (some r)) (e : Same H H') : Num K H' a (some r) := by
  rcases h with h | h | ⟨x, y, q, rfl, h1, h2⟩
  · exact .inl h
  · exact .inr (.inl h)
  · exact .inr (.inr ⟨x, y, q, rfl, e _ _ h1, h2⟩)
theorem Num.js {a : V} {r : Int × Int} {j : Addr} (h : Num K H a (some r)) (hj : Jar H j) (e : JS j H H') : Num K H' a (some r) := by
  rcases h with h | h | ⟨x, y, q, rfl, h1, h2⟩
  · exact .inl h
  · exact .inr (.inl h)
  · exact .inr (.inr ⟨x, y, q, rfl, e.1 _ _ (hj.ne h1) h1, h2⟩)
theorem sqL_ext {a : Addr} {xs : List V} (e : ExtN H H') (h : SqL K H a xs) : SqL K H' a xs := by
  rcases h with (h | ⟨o, h⟩) | h
  · exact .inl (.inl (e _ _ h (fun _ z => by cases z)))
  · exact .inl (.inr ⟨o, e _ _ h (fun _ z => by cases z)⟩)
  · exact .inr h
theorem sqT_ext {a : Addr} {xs : List V} (e : ExtN H H') (h : SqT K H a xs) : SqT K H' a xs := by
  rcases h with (h | ⟨o, h⟩) | h
  · exact .inl (.inl (e _ _ h (fun _ z => by cases z)))
  · exact .inl (.inr ⟨o, e _ _ h (fun _ z => by cases z)⟩)
  · exact .inr h
mutual
theorem dp_ext (e : ExtN H H') : ∀ (d : PyData) (v : V), Dp K H v d → Dp K H' v d
  | .none, _, h => by cases h; exact .non
  | .bool b, _, h => by cases h; exact .bl _
  | .int i, _, h => by cases h; exact .int _
  | .str x, _, h => by cases h; exact .str _
  | .list ds, _, h => by
    cases h with
    | lst h1 h2 => exact .lst (sqL_ext e h1) (dpAll_ext e ds _ h2)
  | .tuple ds, _, h => by
    cases h with
    | tup h1 h2 => exact .tup (sqT_ext e h1) (dpAll_ext e ds _ h2)
  | .dict kvs, _, h => by cases h
theorem dpAll_ext (e : ExtN H H') : ∀ (ds : List PyData) (vs : List V), DpAll K H vs ds → DpAll K H' vs ds
  | [], _, h => by cases h; exact .nil
  | d :: ds, _, h => by
    cases h with
    | cons h1 h2 => exact .cons (dp_ext e d _ h1) (dpAll_ext e ds _ h2)
end
theorem Rep.ext {v : V} {d : PyData} (h : Rep K H v d) (e : ExtN H H') : Rep K H' v d := by
  rcases h with ⟨h1, h2⟩ | ⟨a, rfl, h1, h2⟩
  · exact .inl ⟨dp_ext e d v h1, h2⟩
  · exact .inr ⟨a, rfl, e _ _ h1 (fun _ z => by cases z), h2⟩
theorem x_repr {v : V} {d : PyData} {Q : VK} (h : Rep K H v d) (q : Q (.str d.shown) H) : rRepr K [v] H Q := by
  rcases h with ⟨h1, h2⟩ | ⟨a, rfl, h1, rfl⟩
  · unfold goodD at h2
    simp only [Bool.and_eq_true, Bool.not_eq_true', decide_eq_true_eq] at h2
    obtain ⟨⟨⟨h3, h4⟩, h5⟩, h6⟩ := h2
    exact .inl ⟨v, d, rfl, h1, h3, h4, h5, short_line (by omega), q⟩
  · exact .inr ⟨a, rfl, h1, q⟩
end
end K00

set_option maxHeartbeats 4000000
namespace K00
open PySem PySem.Spec PyProof.Rows L2 EL NdefX
open SX (S)
open LamX (Tabs TabS TabB ExtN CodeO)
local macro_rules | `(tactic| walk_at "s1") => `(tactic| with_reducible first
  | refine x_seq ?_ | refine x_asg ?_ | refine x_op ?_ | refine x_c ?_ | refine x_gName ?_ | refine x_ifS ?_ | refine x_ret ?_ | refine x_test ?_ | refine x_bl ?_
  | refine x_I0 ?_ | refine x_addI ?_ | refine x_mulI ?_ ?_ | refine x_fdiv ?_ ?_ | refine x_mod ?_ ?_ | refine x_un ?_ | refine x_rU ?_ | refine x_pow ?_ ?_
  | refine x_eqI' ?_ | refine x_neI' ?_ | refine x_eqS' ?_ | refine x_neS' ?_
  | refine x_cons ?_ | refine x_nil ?_ | refine x_tup ?_ | refine x_lst ?_ | refine x_callS ?_ | refine x_CB ?_ | refine x_par ?_ | refine x_two ?_
  | refine x_next ?_ | refine x_and ?_ | refine x_or ?_ | refine x_not ?_ | refine x_andV ?_ | refine x_orV ?_ | refine x_notV ?_ | refine x_ex ?_ | refine x_ifE ?_ | refine x_tB ?_ | refine x_retN ?_ | refine x_drop ?_ | refine x_brk ?_ | refine x_cont ?_
  | refine x_intI ?_ | refine x_abs ?_ | refine x_gcd ?_ | refine x_str ?_ ?_ | refine x_sz ?_ | refine x_isN ?_ | refine x_notN ?_ | refine x_sl ?_ | refine x_noPart ?_ | refine x_part ?_ | refine x_exI ?_ | refine x_slS ?_ ?_ | refine x_gSub ?_ | refine x_inS ?_ | refine x_notinS ?_ | refine x_yes ?_ | refine x_m1 ?_ | refine x_m1' ?_ | refine x_ms ?_ | refine x_chain ?_ | refine x_callK ?_ | refine x_callSD ?_ | refine x_ifT' ?_ | refine x_newE ?_ | refine x_gCons ?_ | refine x_gNil ?_ | refine x_gTupU rfl ?_ | refine x_ifX ?_)
local macro_rules | `(tactic| walk_at "side") => `(tactic| with_reducible first | decide | (refine mul_left ?_ ?_ <;> omega) | (refine mul_right ?_ ?_ <;> omega) | (refine div_of ?_ ?_ <;> first | omega | assumption | decide +kernel) | omega | assumption)
local macro_rules | `(tactic| walk_at "s") => `(tactic| repeat (first | walk_at "s1" | ((with_reducible apply x_var); (· exact rfl)) | ((with_reducible apply x_ixU); (· exact rfl)) | ((with_reducible apply x_ixTU); (· exact rfl)) | ((with_reducible apply x_setU); (· exact rfl)) | ((with_reducible apply x_all); (· exact SqL.of upd_same))))
section
variable {P : Program} {w : World} {K : PySem.W.Frag} {mg : Str → Option Value} {base : Heap}
/-! ### picks and draws -/
theorem pick_in {j q : Addr} {H0 H : Hp} {menu : List V} {Q : VK} {E : XK} (a : JT K j H0 H) (hq : H q = none) (h0 : menu ≠ []) (hl : menu.length ≤ 1000) (k : ∀ v H', v ∈ menu → JT K j H0 H' → JS j H H' → Q v H') : sp_law_pick [.ref j, .ref q] (upd H q (.lst menu)) Q E := by
  refine sp2_i ⟨j, q, menu, rfl, rfl, a.2.1.new hq, upd_same, jar_ne a.2.1 hq, h0, hl, fun v xs hv hx => ?_⟩
  have js := (JS.same a.2.1 (Same.new hq)).tr (JS.draw hx)
  exact k v _ hv (a.jsR js) js
theorem draw_in {j : Addr} {H0 H : Hp} {n : Int} {Q : VK} {E : XK} (a : JT K j H0 H) (h0 : 0 < n) (hn : n.natAbs.log2 < 9000) (k : ∀ d H', 0 ≤ d → d < n → JT K j H0 H' → JS j H H' → Q (.int d) H') : sp_law_draw [.ref j, .int n] H Q E :=
  sp2_i ⟨j, n, rfl, rfl, h0, hn, a.2.1, fun d xs d0 d1 hx => k d _ d0 d1 (a.jsR (JS.draw hx)) (JS.draw hx)⟩
def sp_law_numbers_held (K : PySem.W.Frag) : Sp := sp1 fun a H Q _ => ∃ j : Addr, a = .ref j ∧ Jar H j ∧ Tabs (TT K) H ∧ ∀ H', JT K j H H' → Q (.bl true) H'
abbrev N_law_numbers_held : List Str := ["jar", "step", "frac", "given", "word", "odd", "saved"]
theorem sc_law_numbers_held : FnScope N_law_numbers_held ["jar"] (defScope st_law_numbers_held) := ⟨rfl, rfl, rfl, by decide +kernel, rfl, by decide +kernel, by decide +kernel⟩
theorem b_law_numbers_held (T : Txt P K mg) : Binds K (fdOf K "_law_numbers_held") ["jar"] [] := T.F_law_numbers_held.bindsN fun _ _ _ _ _ _ us hl => match us, hl with | [_], _ => rfl
theorem ok_law_numbers_held (T : Txt P K mg) (TBs : TBS K mg base) : OkG P w K mg base 12 "_law_numbers_held" ["jar"] (sp_law_numbers_held K) := by
  have G_law_bad_number := ok_law_bad_number (P := P) (w := w) (base := base) T
  have G_law_like := ok_law_like (P := P) (w := w) (base := base) T 3
  have G_fraction := ok_fraction (P := P) (w := w) (base := base) T
  have G_told := ok_told (P := P) (w := w) (base := base) T
  have G_law_word := ok_law_word (P := P) (w := w) (base := base) T
  have G_law_pick := ok_law_pick (P := P) (w := w) (base := base) T
  have G_law_worn_word := ok_law_worn_word (P := P) (w := w) (base := base) T
  have G_law_worn := ok_law_worn (P := P) (w := w) (base := base) T
  have G_law_frac := ok_law_frac (P := P) (w := w) (base := base) T
  have G_law_big := ok_law_big (P := P) (w := w) (base := base) T
  have TB := TBs.tb "_law_numbers_held" (by decide)
  have hmT := TBs.mem "_law_numbers_held" (by decide)
  have hu := TBs.uniq "_law_numbers_held" (by decide)
  refine okG T.F_law_numbers_held sc_law_numbers_held sp1_len (fun cdv A outer s H vs Q E hr hg hcode h => ?_)
  obtain ⟨a0, rfl, h⟩ := h
  refine ⟨_, (C8.pss_cut (ps_for (passes_of rfl) rfl (pi_range1 rfl T.f_range (pa_cons pe_int pa_nil)) (pg_name (i := 1) sc_law_numbers_held.nd rfl (Or.inl rfl))
  (pss_cons (ps_set (i := 2) sc_law_numbers_held.nd rfl (Or.inl rfl) (pe_callS G_law_frac (hr.mono (by decide)) rfl T.g_law_frac T.k_law_frac (b_law_frac T) (fun σ => L2N.passAt (L2N.takes_of rfl rfl rfl rfl) σ) (pa_cons (pe_op opA_mul (pe_callS G_law_big (hr.mono (by decide)) rfl T.g_law_big T.k_law_big (b_law_big T) (fun σ => L2N.passAt (L2N.takes_of rfl rfl rfl rfl) σ) (pa_cons (pv 0) pa_nil)) (pe_callS G_law_pick (hr.mono (by decide)) rfl T.g_law_pick T.k_law_pick (b_law_pick T) (fun σ => L2N.passAt (L2N.takes_of rfl rfl rfl rfl) σ) (pa_cons (pv 0) (pa_cons (pe_lst (pa_cons pe_int (pa_cons pe_int (pa_cons (pe_un un_neg pe_int) pa_nil)))) pa_nil)))) (pa_cons (pe_op opA_add pe_int (pe_callS G_law_pick (hr.mono (by decide)) rfl T.g_law_pick T.k_law_pick (b_law_pick T) (fun σ => L2N.passAt (L2N.takes_of rfl rfl rfl rfl) σ) (pa_cons (pv 0) (pa_cons (pe_lst (pa_cons pe_int (pa_cons pe_int (pa_cons pe_int (pa_cons (pe_callS G_law_big (hr.mono (by decide)) rfl T.g_law_big T.k_law_big (b_law_big T) (fun σ => L2N.passAt (L2N.takes_of rfl rfl rfl rfl) σ) (pa_cons (pv 0) pa_nil)) pa_nil))))) pa_nil)))) pa_nil))))
  (pss_cons (ps_set (i := 3) sc_law_numbers_held.nd rfl (Or.inl rfl) (pe_callS G_law_pick (hr.mono (by decide)) rfl T.g_law_pick T.k_law_pick (b_law_pick T) (fun σ => L2N.passAt (L2N.takes_of rfl rfl rfl rfl) σ) (pa_cons (pv 0) (pa_cons (pe_lst (pa_cons (pe_callS G_law_worn (hr.mono (by decide)) rfl T.g_law_worn T.k_law_worn (b_law_worn T) (fun σ => L2N.passAt (L2N.takes_of rfl rfl rfl rfl) σ) (pa_cons (pv 0) (pa_cons (pv 2) pa_nil))) (pa_cons (pe_callS G_law_worn_word (hr.mono (by decide)) rfl T.g_law_worn_word T.k_law_worn_word (b_law_worn_word T) (fun σ => L2N.passAt (L2N.takes_of rfl rfl rfl rfl) σ) (pa_cons (pv 0) (pa_cons (pv 2) pa_nil))) (pa_cons (pv 2) (pa_cons (pe_tup (pa_cons (pe_un un_neg (pe_ix (ixK (K := K) rfl) (pv 2) pe_int (fun _ _ => rfl))) (pa_cons (pe_un un_neg (pe_ix (ixK (K := K) rfl) (pv 2) pe_int (fun _ _ => rfl))) pa_nil))) pa_nil))))) pa_nil))))
  (pss_cons (ps_set (i := 4) sc_law_numbers_held.nd rfl (Or.inl rfl) (pe_callS G_law_word (hr.mono (by decide)) rfl T.g_law_word T.k_law_word (b_law_word T) (fun σ => L2N.passAt (L2N.takes_of rfl rfl rfl rfl) σ) (pa_cons (pv 2) pa_nil)))
  (pss_one (ps_if (pt_not (pt_val (pe_callS G_law_like (hr.mono (by decide)) rfl T.g_law_like T.k_law_like (b_law_like T) (fun σ => L2N.passAt (L2N.takes_of rfl rfl rfl rfl) σ) (pa_cons (pe_lst (pa_cons (pe_callS G_fraction (hr.mono (by decide)) rfl T.g_fraction T.k_fraction (b_fraction T) (fun σ => L2N.passAt (L2N.takes_of rfl rfl rfl rfl) σ) (pa_cons (pv 3) pa_nil)) (pa_cons (pe_callS G_told (hr.mono (by decide)) rfl T.g_told T.k_told (b_told T) (fun σ => L2N.passAt (L2N.takes_of rfl rfl rfl rfl) σ) (pa_cons (pv 3) pa_nil)) (pa_cons (pe_callK0 G_fraction (hr.mono (by decide)) rfl T.g_fraction T.k_fraction (kb_of (n := 0) (ks := ["thing"]) (g := fun a b => a ++ b) (gV := fun a b => a ++ b) T.F_fraction kb_app (fun _ _ _ _ _ _ us ws h1 h2 => match us, ws, h1, h2 with | [], [_], _, _ => rfl)) (fun σ => L2N.passAt (L2N.takes_of rfl rfl rfl rfl) σ) (pkl_cons (pv 4) pkl_nil)) (pa_cons (pe_callK0 G_told (hr.mono (by decide)) rfl T.g_told T.k_told (kb_of (n := 0) (ks := ["number"]) (g := fun a b => a ++ b) (gV := fun a b => a ++ b) T.F_told kb_app (fun _ _ _ _ _ _ us ws h1 h2 => match us, ws, h1, h2 with | [], [_], _, _ => rfl)) (fun σ => L2N.passAt (L2N.takes_of rfl rfl rfl rfl) σ) (pkl_cons (pv 2) pkl_nil)) (pa_cons (pe_callS G_fraction (hr.mono (by decide)) rfl T.g_fraction T.k_fraction (b_fraction T) (fun σ => L2N.passAt (L2N.takes_of rfl rfl rfl rfl) σ) (pa_cons (pe_callS G_told (hr.mono (by decide)) rfl T.g_told T.k_told (b_told T) (fun σ => L2N.passAt (L2N.takes_of rfl rfl rfl rfl) σ) (pa_cons (pv 3) pa_nil)) pa_nil)) pa_nil)))))) (pa_cons (pe_lst (pa_cons (pv 2) (pa_cons (pv 4) (pa_cons (pv 2) (pa_cons (pv 4) (pa_cons (pv 2) pa_nil)))))) pa_nil))))) (pss_one (ps_ret pe_bl)) pss_nil))))))
  (pss_cons (ps_for (passes_of rfl) rfl (pi_range1 rfl T.f_range (pa_cons pe_int pa_nil)) (pg_name (i := 1) sc_law_numbers_held.nd rfl (Or.inl rfl))
  (pss_cons (ps_set (i := 5) sc_law_numbers_held.nd rfl (Or.inr rfl) (pe_callS G_law_bad_number (hr.mono (by decide)) rfl T.g_law_bad_number T.k_law_bad_number (b_law_bad_number T) (fun σ => L2N.passAt (L2N.takes_of rfl rfl rfl rfl) σ) (pa_cons (pv 0) pa_nil)))
  (pss_cons (ps_set (i := 6) sc_law_numbers_held.nd rfl (Or.inl rfl) (pe_callB (callK_repr (K := K) rfl hg hr.units) rfl T.f_repr (by decide +kernel) (pa_cons (pv 5) pa_nil)))
  (pss_cons (ps_if (pt_not (pt_val (pe_callLam (T := (TT K)) (js := [5]) (fr := (["odd"] : List Str)) (k := 8) (fun b => ok_law_refused (base := b) T) (hr.mono (by decide)) rfl T.g_law_refused T.k_law_refused (b_law_refused T) (fun σ => L2N.passAt (L2N.takes_of rfl rfl rfl rfl) σ) rfl rfl (fun _ => rfl) TB hcode hmT hu rfl (show ∀ y ∈ (_ : List (Str × NameKind)), y.2 = NameKind.free → (defScope st_law_numbers_held).names.lookup y.1 = some .cell ∨ (defScope st_law_numbers_held).names.lookup y.1 = some .free from by decide +kernel) (by decide +kernel) rfl (nscope_by (by decide +kernel)) (fun _ _ _ _ _ => rfl) (fun base A outer s H E f c hr => (pe_callS (ok_fraction T) (hr.mono (by decide)) rfl T.g_fraction T.k_fraction (b_fraction T) (fun σ => L2N.passAt (L2N.takes_of rfl rfl rfl rfl) σ) (pa_cons (pv 0) pa_nil))) (pa_cons (pe_tup (pa_cons pe_str pa_nil)) pa_nil)))) (pss_one (ps_ret pe_bl)) pss_nil)
  (pss_one (ps_if (PW.pt (pw_or (pt_not (pt_val (pe_callLam (T := (TT K)) (js := [5]) (fr := (["odd"] : List Str)) (k := 8) (fun b => ok_law_refused (base := b) T) (hr.mono (by decide)) rfl T.g_law_refused T.k_law_refused (b_law_refused T) (fun σ => L2N.passAt (L2N.takes_of rfl rfl rfl rfl) σ) rfl rfl (fun _ => rfl) TB hcode hmT hu rfl (show ∀ y ∈ (_ : List (Str × NameKind)), y.2 = NameKind.free → (defScope st_law_numbers_held).names.lookup y.1 = some .cell ∨ (defScope st_law_numbers_held).names.lookup y.1 = some .free from by decide +kernel) (by decide +kernel) rfl (nscope_by (by decide +kernel)) (fun _ _ _ _ _ => rfl) (fun base A outer s H E f c hr => (pe_callS (ok_told T) (hr.mono (by decide)) rfl T.g_told T.k_told (b_told T) (fun σ => L2N.passAt (L2N.takes_of rfl rfl rfl rfl) σ) (pa_cons (pv 0) pa_nil))) (pa_cons (pe_tup (pa_cons pe_str pa_nil)) pa_nil)))) (pw_or1 (pt_cmpR (opK_ne (K := K) rfl hr.units) (pe_callB (callK_repr (K := K) rfl hg hr.units) rfl T.f_repr (by decide +kernel) (pa_cons (pv 5) pa_nil)) (pv 6) (nomark _))))) (pss_one (ps_ret pe_bl)) pss_nil))))))
  (pss_one (ps_ret pe_bl)))), ?_⟩
  try dsimp only [cxOf, List.map]
  obtain ⟨j, rfl, hj, ht, k⟩ := h
  walk_at "s"
  refine ⟨fun σ' H' => JT K j H H' ∧ ∃ y0 y1 y2 y3 y4 y5 : Option V, σ' = [some (.ref j), y0, y1, y2, y3, y4, y5], ?_, ?_⟩
  · refine x_forR (n := 6) (fun i σ' H' => JT K j H H' ∧ ∃ y0 y1 y2 y3 y4 y5 : Option V, σ' = [some (.ref j), y0, y1, y2, y3, y4, y5]) (fun R r => ?_) (by decide) (by decide) ?_ ?_ ?_
    · walk_at "s"
      exact r
    · exact ⟨JT.refl hj ht, _, _, _, _, _, _, rfl⟩
    · rintro i σ' H' hi ⟨s1, y0, y1, y2, y3, y4, y5, rfl⟩
      walk_at "s"
      refine sp1_i ⟨j, rfl, s1.2.1, fun n H1 s2 hn => ?_⟩
      have s2 := s1.jsR s2
      walk_at "s"
      intro q hq
      walk_at "s"
      refine pick_in s2 hq (by simp) (by simp) fun v H2 hv s3 _ => ?_
      obtain ⟨e, rfl, he1, he2⟩ : ∃ e : Int, v = .int e ∧ -1 ≤ e ∧ e ≤ 1 := by
        simp only [List.mem_cons, List.not_mem_nil, or_false] at hv
        rcases hv with rfl | rfl | rfl <;> exact ⟨_, rfl, by decide, by decide⟩
      clear hv hq s2
      walk_at "s"
      rotate_left
      · exact mul_right (by omega) (by omega)
      refine sp1_i ⟨j, rfl, s3.2.1, fun n2 H3 s4 hn2 => ?_⟩
      have s4 := s3.jsR s4
      walk_at "s"
      intro q hq
      walk_at "s"
      refine pick_in s4 hq (by simp) (by simp) fun v H4 hv s5 _ => ?_
      obtain ⟨b, rfl, hb⟩ : ∃ b : Nat, v = .int (b : Int) ∧ b < 1000 ^ 9 := by
        simp only [List.mem_cons, List.not_mem_nil, or_false] at hv
        rcases hv with rfl | rfl | rfl | rfl
        · exact ⟨0, rfl, by decide⟩
        · exact ⟨1, rfl, by decide⟩
        · exact ⟨5, rfl, by decide⟩
        · exact ⟨n2, rfl, hn2⟩
      clear hv hq s4 s3
      have p90 : (1000 : Nat) ^ 9 < 2 ^ 90 := by decide
      have p91 : (2 : Nat) ^ 91 < 2 ^ 1000 := Nat.pow_lt_pow_right (by decide) (by decide)
      have p80 : (2 : Nat) ^ 1000 < 2 ^ 8000 := Nat.pow_lt_pow_right (by decide) (by decide)
      have bt : ((n : Int) * e).natAbs < 2 ^ 1000 := by
        rw [Int.natAbs_mul, Int.natAbs_natCast]
        have : e.natAbs ≤ 1 := by omega
        have h2 : n * e.natAbs ≤ n * 1 := Nat.mul_le_mul_left _ this
        omega
      have bd : (1 + (b : Int)).natAbs < 2 ^ 1000 := by omega
      walk_at "s"
      refine sp2_i ⟨_, _, rfl, rfl, by omega, Nat.lt_trans bd p80, fun p hp => ?_⟩
      obtain ⟨t, d, el, hd, hl, htb, hdb⟩ := low_red (t := (n : Int) * e) (d := 1 + (b : Int)) (by omega)
      rw [el]
      have bt2 : t.natAbs < 2 ^ 1000 := Nat.lt_of_le_of_lt htb bt
      have bd2 : d.natAbs < 2 ^ 1000 := Nat.lt_of_le_of_lt hdb bd
      have lt := log_pow bt2 (by decide)
      have ld := log_pow bd2 (by decide)
      have s6 := s5.new (o := .tup [.int t, .int d]) hp
      have hp6 : upd H4 p (.tup [.int t, .int d]) p = some (.tup [.int t, .int d]) := upd_same
      show gName 2 (.ref p) _ (upd H4 p (.tup [.int t, .int d])) _
      generalize upd H4 p (.tup [.int t, .int d]) = H5 at s6 hp6 ⊢
      clear hp s5 el htb hdb bt bd hb hn hn2 he1 he2
      have hpj := s6.2.1.ne hp6
      walk_at "s"
      refine sp2_i ⟨j, p, t, d, rfl, rfl, s6.2.1, hp6, hl, hd, lt, ld, fun v1 H6 js1 nv1 => ?_⟩
      have s7 := s6.jsR js1
      have hp7 := js1.1 _ _ hpj hp6
      walk_at "s"
      refine sp2_i ⟨j, p, t, d, rfl, rfl, s7.2.1, hp7, hl, hd, lt, ld, fun l2 H7 js2 ll2 lp2 ln2 => ?_⟩
      have s8 := s7.jsR js2
      have hp8 := js2.1 _ _ hpj hp7
      have nv1 := nv1.js s7.2.1 js2
      have nv2 : Num K H7 (.str (S l2)) (some (t, d)) := .inr (.inl ⟨l2, rfl, by unfold heedR; rw [if_pos ll2], by omega, lp2, ln2⟩)
      clear s1 s6 s7 js1 js2 hp6 hp7
      walk_at "s"
      refine x_ixT (n := 0) (v := .int t) ?_ (SqT.of hp8) rfl
      walk_at "s"
      refine x_ixT (n := 1) (v := .int d) ?_ (SqT.of hp8) rfl
      walk_at "s"
      intro p2 hp2
      have e8 : Same H7 (upd H7 p2 (.tup [.int (-t), .int (-d)])) := Same.new hp2
      have s9 := s8.sameR e8
      have nv4 : Num K (upd H7 p2 (.tup [.int (-t), .int (-d)])) (.ref p2) (some (t, d)) := .inr (.inr ⟨-t, -d, p2, rfl, upd_same, by omega, by rw [Int.natAbs_neg]; exact Nat.lt_trans bd2 p80, by rw [low_negs hd, hl]⟩)
      have nv1 := nv1.same e8
      have nv2 := nv2.same e8
      have hp9 := e8 _ _ hp8
      have nv3 : Num K (upd H7 p2 (.tup [.int (-t), .int (-d)])) (.ref p) (some (t, d)) := .inr (.inr ⟨t, d, p, rfl, hp9, by omega, Nat.lt_trans bd2 p80, hl.symm⟩)
      generalize upd H7 p2 (.tup [.int (-t), .int (-d)]) = H8 at s9 nv1 nv2 nv3 nv4 hp9 ⊢
      clear e8 s8 hp8 hp2 lp2 ln2 ll2
      walk_at "s"
      intro q hq
      walk_at "s"
      refine pick_in s9 hq (by simp) (by simp) fun v H9 hv s10 js3 => ?_
      have nv : Num K H9 v (some (t, d)) := by
        refine Num.js ?_ s9.2.1 js3
        simp only [List.mem_cons, List.not_mem_nil, or_false] at hv
        rcases hv with rfl | rfl | rfl | rfl
        · exact nv1
        · exact nv2
        · exact nv3
        · exact nv4
      have hp10 := js3.1 _ _ hpj hp9
      clear hv nv1 nv2 nv3 nv4 js3 hq s9 hp9
      walk_at "s"
      refine sp1_i ⟨p, t, d, rfl, hp10, by omega, by omega, ?_⟩
      have nw : ∀ H, Num K H (.str (wordT (t, d))) (some (t, d)) := fun H => num_word hl hd bt2 bd2
      have np : ∀ {H}, H p = some (.tup [.int t, .int d]) → Num K H (.ref p) (some (t, d)) := fun {H} h => .inr (.inr ⟨t, d, p, rfl, h, by omega, Nat.lt_trans bd2 p80, hl.symm⟩)
      walk_at "s"
      refine sp1_i (.inl ⟨_, nv, fun H10 a1 e1 h1 => ?_⟩)
      walk_at "s"
      refine sp1_i (.inl ⟨_, nv.same e1, hd, (by show t.natAbs.log2 < 1900; omega), (by show d.natAbs.log2 < 1900; omega), fun H11 e2 => ?_⟩)
      walk_at "s"
      refine ⟨rfl, sp1_i (.inl ⟨_, nw _, fun H12 a2 e3 h2 => ?_⟩)⟩
      walk_at "s"
      have e4 := Same.tr e1 (Same.tr e2 e3)
      refine ⟨rfl, sp1_i (.inl ⟨_, np (e4 _ _ hp10), hd, (by show t.natAbs.log2 < 1900; omega), (by show d.natAbs.log2 < 1900; omega), fun H13 e5 => ?_⟩)⟩
      walk_at "s"
      refine sp1_i (.inl ⟨_, nv.same (Same.tr e4 e5), hd, (by show t.natAbs.log2 < 1900; omega), (by show d.natAbs.log2 < 1900; omega), fun H14 e6 => ?_⟩)
      walk_at "s"
      refine sp1_i (.inl ⟨_, nw _, fun H15 a3 e7 h3 => ?_⟩)
      walk_at "s"
      intro q1 hq1
      walk_at "s"
      intro q2 hq2
      have e8 := Same.tr e5 (Same.tr e6 e7)
      have g1 : Same H15 (upd H15 q1 (.lst [.ref a1, .str (wordT (t, d)), .ref a2, .str (wordT (t, d)), .ref a3])) := Same.new hq1
      have g2 : Same _ (upd (upd H15 q1 (.lst [.ref a1, .str (wordT (t, d)), .ref a2, .str (wordT (t, d)), .ref a3])) q2 (.lst [.ref p, .str (wordT (t, d)), .ref p, .str (wordT (t, d)), .ref p])) := Same.new hq2
      have g3 := Same.tr g1 g2
      have k1 := g3 _ _ (e8 _ _ (e3 _ _ (e2 _ _ h1)))
      have k2 := g3 _ _ (e8 _ _ h2)
      have k3 := g3 _ _ h3
      have kp := g3 _ _ (e8 _ _ (e4 _ _ hp10))
      have s11 := s10.sameR (Same.tr e4 (Same.tr e8 g3))
      walk_at "s"
      refine sp2_i ⟨?_, fun H16 e9 => ⟨true, rfl, x_ifF rfl ?_⟩⟩
      · exact lk_lst (SqL.of (g2 _ _ upd_same)) (SqL.of upd_same) (by simp) (((((LkA.nil.cons (lk_pair k3 kp)).cons (lk_str _)).cons (lk_pair k2 kp)).cons (lk_str _)).cons (lk_pair k1 kp))
      walk_at "s"
      exact ⟨s11.sameR e9, _, _, _, _, _, _, rfl⟩
    · rintro σ' H' h
      exact h
  rintro σ' H1 ⟨s1, y0, y1, y2, y3, y4, y5, rfl⟩
  walk_at "s"
  refine x_forR (n := 4) (fun i σ' H' => JT K j H H' ∧ ∃ y0 y1 y2 y3 y4 y5 : Option V, σ' = [some (.ref j), y0, y1, y2, y3, y4, y5]) (fun R r => ?_) (by decide) (by decide) ?_ ?_ ?_
  · walk_at "s"
    exact r
  · exact ⟨s1, _, _, _, _, _, _, rfl⟩
  · clear s1 H1
    rintro i σ' H1 hi ⟨s1, y0, y1, y2, y3, y4, y5, rfl⟩
    walk_at "s"
    refine sp1_i ⟨j, rfl, s1.2.1, fun v H2 js nv ⟨d, rv⟩ => ?_⟩
    have s2 := s1.jsR js
    clear js s1
    walk_at "s"
    refine x_repr rv ?_
    walk_at "s"
    refine ⟨s2.2.2.2, fun f c' H3 n3 t3 hc3 => ?_⟩
    have s3 := s2.ext n3 t3
    walk_at "s"
    intro q1 hq1
    walk_at "s"
    intro base' th
    have s4 := s3.new (o := .tup [.str "BadFraction"]) hq1
    have n4 : ExtN H2 (upd H3 q1 (.tup [.str "BadFraction"])) := n3.trans (.of (Same.new hq1))
    refine ref_why (.inr rfl) ⟨f, _, rfl, th, fun Q' E' i => ⟨Same.new hq1 _ _ hc3, ?_⟩⟩ upd_same fun H5 e5 => ⟨true, rfl, x_ifF rfl ?_⟩
    · walk_at "s"
      exact sp1_i (.inr (.inl ⟨nv.extN n4, ewhy_of i⟩))
    have s5 := s4.sameR e5
    have n5 := n4.trans (.of e5)
    clear n3 n4 s3 s4 e5 th hq1 t3 hc3
    walk_at "s"
    refine ⟨s5.2.2.2, fun f c' H6 n6 t6 hc6 => ?_⟩
    have s6 := s5.ext n6 t6
    walk_at "s"
    intro q2 hq2
    walk_at "s"
    intro base' th
    have s7 := s6.new (o := .tup [.str "BadFraction"]) hq2
    have n7 : ExtN H2 (upd H6 q2 (.tup [.str "BadFraction"])) := (n5.trans n6).trans (.of (Same.new hq2))
    refine ref_why (.inr rfl) ⟨f, _, rfl, th, fun Q' E' i => ⟨Same.new hq2 _ _ hc6, ?_⟩⟩ upd_same fun H8 e8 => ⟨true, rfl, x_ifF rfl ?_⟩
    · walk_at "s"
      exact sp1_i (.inr (.inl ⟨nv.extN n7, ewhy_of i⟩))
    walk_at "s"
    refine x_repr (rv.ext (n7.trans (.of e8))) ?_
    walk_at "s"
    refine x_ifF (by rw [decide_eq_true rfl]; rfl) ?_
    walk_at "s"
    exact ⟨s7.sameR e8, _, _, _, _, _, _, rfl⟩
  · rintro σ' H' ⟨s2, y0, y1, y2, y3, y4, y5, rfl⟩
    walk_at "s"
    exact k _ s2
end
end K00

set_option maxHeartbeats 4000000
namespace K00
open PySem PySem.Spec PyProof.Rows L2 EL NdefX
open SX (S)
open LamX (Tabs TabS TabB ExtN CodeO)
section
variable {P : Program} {w : World} {K : PySem.W.Frag} {mg : Str → Option Value} {base : Heap}
theorem ans_in {f : Addr} {tl : Hp → VK → XK → Prop} {b : Bool} {v : V} {H : Hp} {Q : VK} {E : XK} (th : Thunk P w K mg base 9 f tl) (hv : b = true → ∃ z, v = .str z)
    (ht : ∀ (H0 : Hp) (Q' : VK) (E' : XK), Same H H0 → (b = true → ∀ H', Same H0 H' → Q' v H') → (b = false → EWhy K H0 E' "BadName") → tl H0 Q' E') (k : ∀ H', Same H H' → Q (.bl true) H') : sp_law_answers P w K mg base [.ref f, .bl b, v] H Q E := by
  refine sp3_i ⟨f, tl, rfl, th, k, ?_⟩
  cases b with
  | true => exact .inl ⟨rfl, hv rfl, fun H0 Q' E' s h => ht H0 Q' E' s (fun _ => h) fun z => by cases z⟩
  | false => exact .inr ⟨rfl, fun H0 Q' E' s h => ht H0 Q' E' s (fun z => by cases z) fun _ => ewhy_of h⟩
theorem Pln.extN {H H' : Hp} {v : V} (h : Pln K H v) (e : ExtN H H') : Pln K H' v := by
  obtain ⟨h1, t, h2, h3⟩ := h
  exact ⟨h1, t, h2.ext e, h3⟩
theorem word_str {v : V} (h : wordV v = true) : ∃ z, v = .str z := by
  cases v with
  | str z => exact ⟨z, rfl⟩
  | _ => cases h
theorem name_str {v : V} (h : nameV v = true) : ∃ z, v = .str z := by
  unfold nameV at h
  rw [Bool.and_eq_true] at h
  exact word_str h.1
/-- a plain value that is no text -/
theorem pln_of {H : Hp} {v : V} {t : String} (h : TyX K H v (.type t)) (ht : t ∈ tyL) (hs : (t == "str") = false) (hv : ∀ z, v ≠ .str z) : Pln K H v := by
  refine ⟨?_, t, ⟨h, ht⟩, fun e => ?_, fun ⟨z, e⟩ => absurd e (hv z)⟩
  · cases v with
    | str z => exact absurd rfl (hv z)
    | _ => exact True.intro
  · subst e
    cases hs
/-- a value that is drawn for a name -/
def Wd (K : PySem.W.Frag) (H : Hp) (v : V) : Prop := Pln K H v ∧ ∀ z, v = .str z → PyData.strOk z = true
theorem Wd.extN {H H' : Hp} {v : V} (h : Wd K H v) (e : ExtN H H') : Wd K H' v := ⟨h.1.extN e, h.2⟩
theorem wd_short {H : Hp} {z : Str} (h : short z = true) : Wd K H (.str z) := ⟨pln_short h, fun y e => by cases e; exact (short_of h).2⟩
theorem wd_of {H : Hp} {v : V} {t : String} (h : TyX K H v (.type t)) (ht : t ∈ tyL) (hs : (t == "str") = false) (hv : ∀ z, v ≠ .str z) : Wd K H v := ⟨pln_of h ht hs hv, fun z e => absurd e (hv z)⟩
/-! ### lists of names, shown -/
theorem dpAll_str {H : Hp} : ∀ zs : List Str, DpAll K H (zs.map V.str) (zs.map PyData.str)
  | [] => .nil
  | z :: zs => .cons (.str z) (dpAll_str zs)
theorem names_shown (zs : List Str) (h : ∀ z ∈ zs, short z = true) : PyData.showableAll (zs.map PyData.str) = true ∧ PyData.hasDictAll (zs.map PyData.str) = false ∧ PyData.depthAll (zs.map PyData.str) = 0 ∧ PyData.leavesShortAll 8 (zs.map PyData.str) = true ∧ PyData.weightAll (zs.map PyData.str) ≤ 61 * zs.length := by
  induction zs with
  | nil => exact ⟨rfl, rfl, rfl, rfl, Nat.le_refl _⟩
  | cons z zs ih =>
    obtain ⟨h1, h2, h3, h4, h5⟩ := ih fun y hy => h y (List.mem_cons_of_mem _ hy)
    obtain ⟨s1, s2⟩ := short_of (h z List.mem_cons_self)
    have hl : PyData.leavesShort 8 (.str z) = true := by
      unfold PyData.strOk at s2
      rw [Array.all_eq_true'] at s2
      show (z.cps.toList.all fun c => decide (c < 16 ^ 8)) = true
      rw [List.all_eq_true]
      intro c hc
      have := s2 c (by simpa using hc)
      have : c < 1114112 := by simpa using this
      exact decide_eq_true (by omega)
    have sz : z.cps.size ≤ 60 := s1
    refine ⟨?_, ?_, ?_, ?_, ?_⟩
    · show (true && PyData.showableAll (zs.map PyData.str)) = true
      rw [h1]
      rfl
    · show (false || PyData.hasDictAll (zs.map PyData.str)) = false
      rw [h2]
      rfl
    · show max 0 (PyData.depthAll (zs.map PyData.str)) = 0
      rw [h3]
      rfl
    · show (PyData.leavesShort 8 (.str z) && PyData.leavesShortAll 8 (zs.map PyData.str)) = true
      rw [hl, h4]
      rfl
    · show z.cps.size + 1 + PyData.weightAll (zs.map PyData.str) ≤ _
      rw [List.length_cons]
      omega
theorem x_reprN {H : Hp} {Q : VK} {g : Addr} {zs : List Str} {d : PyData} (h : ∀ z ∈ zs, short z = true) (hl : zs.length ≤ 100) (hg : (H g = some (.lst (zs.map V.str)) ∧ d = .list (zs.map PyData.str)) ∨ (H g = some (.tup (zs.map V.str)) ∧ d = .tuple (zs.map PyData.str))) (q : Q (.str d.shown) H) : rRepr K [.ref g] H Q := by
  obtain ⟨h1, h2, h3, h4, h5⟩ := names_shown zs h
  rcases hg with ⟨hg, rfl⟩ | ⟨hg, rfl⟩
  · have b := PyData.shown_le 8 (by decide) (.list (zs.map PyData.str)) h4
    have b2 : PyData.weight (.list (zs.map PyData.str)) ≤ 6100 := by show PyData.weightAll _ ≤ _; omega
    refine .inl ⟨_, _, rfl, .lst (SqL.of hg) (dpAll_str zs), h1, h2, ?_, short_line (by omega), q⟩
    show PyData.depthAll _ + 1 ≤ 32
    omega
  · have b := PyData.shown_le 8 (by decide) (.tuple (zs.map PyData.str)) h4
    have b2 : PyData.weight (.tuple (zs.map PyData.str)) ≤ 6100 := by show PyData.weightAll _ ≤ _; omega
    refine .inl ⟨_, _, rfl, .tup (SqT.of hg) (dpAll_str zs), h1, h2, ?_, short_line (by omega), q⟩
    show PyData.depthAll _ + 1 ≤ 32
    omega
/-! ### unlike_names -/
def Lst (K : PySem.W.Frag) (H : Hp) (g : Addr) (xs : List V) : Prop := (TyP K H (.ref g) "list" ∧ SqL K H g xs) ∨ (TyP K H (.ref g) "tuple" ∧ SqT K H g xs)
theorem lst_of {H : Hp} {g : Addr} {xs : List V} (h : H g = some (.lst xs)) : Lst K H g xs := .inl ⟨⟨.base (.lst h), by decide⟩, SqL.of h⟩
theorem tup_of {H : Hp} {g : Addr} {xs : List V} (h : H g = some (.tup xs)) : Lst K H g xs := .inr ⟨⟨.base (.tup h), by decide⟩, SqT.of h⟩
theorem unlike_in {H : Hp} {g : Addr} {us : List Str} {Q : VK} {E : XK} (hg : Lst K H g (us.map V.str)) (hl : us.length < 100) (hn : ∀ z ∈ us, short z = true ∧ nameV (.str z) = true) (nd : us.Nodup) (k : ∀ H' p, Same H H' → SqT K H' p (us.map V.str) → Q (.ref p) H') : sp_unlike_names K [.ref g] H Q E := by
  have ha : (us.map V.str).all nameV = true := by
    rw [List.all_map, List.all_eq_true]
    exact fun z hz => (hn z hz).2
  have hd := (nodup_str us).mpr nd
  have hp : ∀ x ∈ us.map V.str, Pln K H x := fun x hx => by
    obtain ⟨z, hz, rfl⟩ := List.mem_map.mp hx
    exact pln_short (hn z hz).1
  have hl2 : (us.map V.str).length < 100000 := by rw [List.length_map]; omega
  rcases hg with ⟨h1, h2⟩ | ⟨h1, h2⟩
  · exact sp1_i (.inr ⟨g, _, "list", rfl, h1, .inl ⟨rfl, h2⟩, hl2, hp, fun z => absurd ⟨ha, hd⟩ z, fun _ => k⟩)
  · exact sp1_i (.inr ⟨g, _, "tuple", rfl, h1, .inr ⟨rfl, h2⟩, hl2, hp, fun z => absurd ⟨ha, hd⟩ z, fun _ => k⟩)
theorem unlike_bad {H : Hp} {g : Addr} {xs : List V} {Q : VK} {E : XK} (hg : Lst K H g xs) (hl : xs.length < 1000) (hp : ∀ x ∈ xs, Pln K H x) (hn : ¬ (xs.all nameV = true ∧ xs.Nodup)) (k : EWhy K H E "BadName") : sp_unlike_names K [.ref g] H Q E := by
  rcases hg with ⟨h1, h2⟩ | ⟨h1, h2⟩
  · exact sp1_i (.inr ⟨g, _, "list", rfl, h1, .inl ⟨rfl, h2⟩, by omega, hp, fun _ => k, fun z => absurd z hn⟩)
  · exact sp1_i (.inr ⟨g, _, "tuple", rfl, h1, .inr ⟨rfl, h2⟩, by omega, hp, fun _ => k, fun z => absurd z hn⟩)
theorem unlike_no {H : Hp} {v : V} {t : String} {Q : VK} {E : XK} (h : TyP K H v t) (h1 : (t == "list") = false) (h2 : (t == "tuple") = false) (k : EWhy K H E "BadName") : sp_unlike_names K [v] H Q E := sp1_i (.inl ⟨t, h, h1, h2, k⟩)
theorem lkA_str {H : Hp} {n : Nat} : ∀ us : List Str, LkA K H (n + 1) (us.map V.str) (us.map V.str)
  | [] => .nil
  | z :: us => (lkA_str us).cons (lk_str z)
theorem lk_names {H : Hp} {n : Nat} {p q : Addr} {us : List Str} (hl : us.length < 1000) (hp : SqT K H p (us.map V.str)) (hq : SqT K H q (us.map V.str)) : Lk K H (n + 2) (.ref p) (.ref q) := lk_tup hp hq (by rw [List.length_map]; exact hl) (lkA_str us)
/-! ### slices -/
theorem cut_lo {xs : List V} {n : Nat} (h : n ≤ xs.length) : cutV xs none (some (n : Int)) = xs.take n := by
  unfold cutV
  have h1 : HT.sIx xs.length 0 none = 0 := rfl
  have h2 : HT.sIx xs.length xs.length (some (n : Int)) = n := by
    show min (n : Int).toNat xs.length = n
    rw [Int.toNat_natCast]
    omega
  rw [h1, h2, List.drop_zero, Nat.sub_zero]
theorem cut_hi {xs : List V} {n : Nat} (h : n ≤ xs.length) : cutV xs (some (n : Int)) none = xs.drop n := by
  unfold cutV
  have h1 : HT.sIx xs.length 0 (some (n : Int)) = n := by
    show min (n : Int).toNat xs.length = n
    rw [Int.toNat_natCast]
    omega
  have h2 : HT.sIx xs.length xs.length none = xs.length := rfl
  rw [h1, h2]
  exact List.take_of_length_le (by rw [List.length_drop]; omega)
theorem not_nodup {L : List V} {a : Nat} {x : V} (hx : x ∈ L) : ¬ (L.take a ++ [x] ++ L.drop a).Nodup := fun h => by
  rw [← List.take_append_drop a L] at hx
  rw [List.append_assoc, List.nodup_append] at h
  obtain ⟨_, h2, h3⟩ := h
  rcases List.mem_append.mp hx with hx | hx
  · exact h3 x hx x (List.mem_append_left _ (List.mem_singleton.mpr rfl)) rfl
  · rw [List.nodup_append] at h2
    exact h2.2.2 x (List.mem_singleton.mpr rfl) x hx rfl
end
end K00

set_option maxHeartbeats 4000000
namespace K00
open PySem PySem.Spec PyProof.Rows L2 EL NdefX
open SX (S)
open LamX (Tabs TabS TabB ExtN CodeO)
local macro_rules | `(tactic| walk_at "s1") => `(tactic| with_reducible first
  | refine x_seq ?_ | refine x_asg ?_ | refine x_op ?_ | refine x_c ?_ | refine x_gName ?_ | refine x_ifS ?_ | refine x_ret ?_ | refine x_test ?_ | refine x_bl ?_
  | refine x_I0 ?_ | refine x_addI ?_ | refine x_mulI ?_ ?_ | refine x_fdiv ?_ ?_ | refine x_mod ?_ ?_ | refine x_un ?_ | refine x_rU ?_ | refine x_pow ?_ ?_
  | refine x_eqI' ?_ | refine x_neI' ?_ | refine x_eqS' ?_ | refine x_neS' ?_
  | refine x_cons ?_ | refine x_nil ?_ | refine x_tup ?_ | refine x_lst ?_ | refine x_callS ?_ | refine x_CB ?_ | refine x_par ?_ | refine x_two ?_
  | refine x_next ?_ | refine x_and ?_ | refine x_or ?_ | refine x_not ?_ | refine x_andV ?_ | refine x_orV ?_ | refine x_notV ?_ | refine x_ex ?_ | refine x_ifE ?_ | refine x_tB ?_ | refine x_retN ?_ | refine x_drop ?_ | refine x_brk ?_ | refine x_cont ?_
  | refine x_intI ?_ | refine x_abs ?_ | refine x_gcd ?_ | refine x_str ?_ ?_ | refine x_sz ?_ | refine x_isN ?_ | refine x_notN ?_ | refine x_sl ?_ | refine x_noPart ?_ | refine x_part ?_ | refine x_exI ?_ | refine x_slS ?_ ?_ | refine x_gSub ?_ | refine x_inS ?_ | refine x_notinS ?_ | refine x_yes ?_ | refine x_m1 ?_ | refine x_m1' ?_ | refine x_ms ?_ | refine x_chain ?_ | refine x_callK ?_ | refine x_callSD ?_ | refine x_ifT' ?_ | refine x_newE ?_ | refine x_gCons ?_ | refine x_gNil ?_ | refine x_gTupU rfl ?_ | refine x_ifX ?_)
local macro_rules | `(tactic| walk_at "side") => `(tactic| with_reducible first | decide | (refine mul_left ?_ ?_ <;> omega) | (refine mul_right ?_ ?_ <;> omega) | (refine div_of ?_ ?_ <;> first | omega | assumption | decide +kernel) | omega | assumption)
local macro_rules | `(tactic| walk_at "s") => `(tactic| repeat (first | walk_at "s1" | ((with_reducible apply x_var); (· exact rfl)) | ((with_reducible apply x_ixU); (· exact rfl)) | ((with_reducible apply x_ixTU); (· exact rfl)) | ((with_reducible apply x_setU); (· exact rfl)) | ((with_reducible apply x_all); (· exact SqL.of upd_same))))
section
variable {P : Program} {w : World} {K : PySem.W.Frag} {mg : Str → Option Value} {base : Heap}
def sp_law_names_held (K : PySem.W.Frag) : Sp := sp1 fun a H Q _ => ∃ j : Addr, a = .ref j ∧ Jar H j ∧ Tabs (TT K) H ∧ ∀ H', JT K j H H' → Q (.bl true) H'
abbrev N_law_names_held : List Str := ["jar", "step", "word", "sure", "free", "used", "given", "saved", "at", "odd", "some", "more", "none"]
theorem sc_law_names_held : FnScope N_law_names_held ["jar"] (defScope st_law_names_held) := ⟨rfl, rfl, rfl, by decide +kernel, rfl, by decide +kernel, by decide +kernel⟩
theorem b_law_names_held (T : Txt P K mg) : Binds K (fdOf K "_law_names_held") ["jar"] [] := T.F_law_names_held.bindsN fun _ _ _ _ _ _ us hl => match us, hl with | [_], _ => rfl
theorem ok_law_names_held (T : Txt P K mg) (TBs : TBS K mg base) : OkG P w K mg base 13 "_law_names_held" ["jar"] (sp_law_names_held K) := by
  have G_law_pick := ok_law_pick (P := P) (w := w) (base := base) T
  have G_law_draw := ok_law_draw (P := P) (w := w) (base := base) T
  have G_law_like := ok_law_like (P := P) (w := w) (base := base) T 3
  have G_unlike_names := ok_unlike_names (P := P) (w := w) (base := base) T
  have G_law_good_name := ok_law_good_name (P := P) (w := w) (base := base) T
  have G_law_words_kept := ok_law_words_kept (P := P) (w := w) (base := base) T
  have G_law_is_word := ok_law_is_word (P := P) (w := w) (base := base) T
  have G_law_drawn_word := ok_law_drawn_word (P := P) (w := w) (base := base) T
  have TB := TBs.tb "_law_names_held" (by decide)
  have hmT := TBs.mem "_law_names_held" (by decide)
  have hu := TBs.uniq "_law_names_held" (by decide)
  obtain ⟨ds_a_name, hd_a_name, hb_a_name⟩ := bd_a_name T
  refine okG T.F_law_names_held sc_law_names_held sp1_len (fun cdv A outer s H vs Q E hr hg hcode h => ?_)
  obtain ⟨a0, rfl, h⟩ := h
  refine ⟨_, (C8.pss_cut (ps_for (passes_of rfl) rfl (pi_range1 rfl T.f_range (pa_cons pe_int pa_nil)) (pg_name (i := 1) sc_law_names_held.nd rfl (Or.inl rfl))
  (pss_cons (ps_set (i := 2) sc_law_names_held.nd rfl (Or.inr rfl) (pe_callS G_law_drawn_word (hr.mono (by decide)) rfl T.g_law_drawn_word T.k_law_drawn_word (b_law_drawn_word T) (fun σ => L2N.passAt (L2N.takes_of rfl rfl rfl rfl) σ) (pa_cons (pv 0) pa_nil)))
  (C8.pss_cut (ps_if (pt_cmpR (opK_eq (K := K) rfl hr.units) (pv 1) pe_int (nomark _)) (pss_one (ps_set (i := 2) sc_law_names_held.nd rfl (Or.inr rfl) (pe_callS G_law_pick (hr.mono (by decide)) rfl T.g_law_pick T.k_law_pick (b_law_pick T) (fun σ => L2N.passAt (L2N.takes_of rfl rfl rfl rfl) σ) (pa_cons (pv 0) (pa_cons (pe_lst (pa_cons pe_non (pa_cons pe_bl (pa_cons pe_int (pa_cons (pe_lst (pa_cons pe_str pa_nil)) (pa_cons (pe_tup (pa_cons pe_str pa_nil)) (pa_cons (pe_disp (pps_cons pe_str pe_int pps_nil) rfl rfl (by simp) (by decide)) (pa_cons (pe_lst pa_nil) (pa_cons (pe_tup (pa_cons pe_int (pa_cons pe_int pa_nil))) pa_nil))))))))) pa_nil))))) pss_nil)
  (pss_cons (ps_set (i := 3) sc_law_names_held.nd rfl (Or.inl rfl) (pe_callS G_law_is_word (hr.mono (by decide)) rfl T.g_law_is_word T.k_law_is_word (b_law_is_word T) (fun σ => L2N.passAt (L2N.takes_of rfl rfl rfl rfl) σ) (pa_cons (pv 2) pa_nil)))
  (C8.pss_cut (ps_set (i := 4) sc_law_names_held.nd rfl (Or.inl rfl) (pe_and (pv 3) (pe_one (pe_cmpR (opK_notin (K := K) rfl) (pv 2) (pe_call0 G_law_words_kept (hr.mono (by decide)) rfl T.g_law_words_kept T.k_law_words_kept (b_law_words_kept T) (fun σ => L2N.passAt (L2N.takes_of rfl rfl rfl rfl) σ)) rfl))))
  (pss_cons (ps_if (pt_not (pt_val (pe_callLam (T := (TT K)) (js := [2]) (fr := (["word"] : List Str)) (k := 8) (fun b => ok_law_answers (base := b) T) (hr.mono (by decide)) rfl T.g_law_answers T.k_law_answers (b_law_answers T) (fun σ => L2N.passAt (L2N.takes_of rfl rfl rfl rfl) σ) rfl rfl (fun _ => rfl) TB hcode hmT hu rfl (show ∀ y ∈ (_ : List (Str × NameKind)), y.2 = NameKind.free → (defScope st_law_names_held).names.lookup y.1 = some .cell ∨ (defScope st_law_names_held).names.lookup y.1 = some .free from by decide +kernel) (by decide +kernel) rfl (nscope_by (by decide +kernel)) (fun _ _ _ _ _ => rfl) (fun base A outer s H E f c hr => (pe_callSD (ok_a_name T) (hr.mono (by decide)) rfl T.g_a_name T.k_a_name hb_a_name hd_a_name (fun σ => L2N.passAt (L2N.takes_of rfl rfl rfl rfl) σ) (pa_cons (pv 0) pa_nil))) (pa_cons (pv 4) (pa_cons (pv 2) pa_nil))))) (pss_one (ps_ret pe_bl)) pss_nil)
  (pss_cons (ps_if (pt_not (pt_val (pe_callLam (T := (TT K)) (js := [2]) (fr := (["word"] : List Str)) (k := 8) (fun b => ok_law_answers (base := b) T) (hr.mono (by decide)) rfl T.g_law_answers T.k_law_answers (b_law_answers T) (fun σ => L2N.passAt (L2N.takes_of rfl rfl rfl rfl) σ) rfl rfl (fun _ => rfl) TB hcode hmT hu rfl (show ∀ y ∈ (_ : List (Str × NameKind)), y.2 = NameKind.free → (defScope st_law_names_held).names.lookup y.1 = some .cell ∨ (defScope st_law_names_held).names.lookup y.1 = some .free from by decide +kernel) (by decide +kernel) rfl (nscope_by (by decide +kernel)) (fun _ _ _ _ _ => rfl) (fun base A outer s H E f c hr => (pe_callK (ok_a_name T) (hr.mono (by decide)) rfl T.g_a_name T.k_a_name (kb_of (n := 1) (ks := ["kept"]) (g := fun a b => a ++ b) (gV := fun a b => a ++ b) T.F_a_name kb_app (fun _ _ _ _ _ _ us ws h1 h2 => match us, ws, h1, h2 with | [_], [_], _, _ => rfl)) (fun σ => L2N.passAt (L2N.takes_of rfl rfl rfl rfl) σ) (pa_cons (pv 0) pa_nil) (pkl_cons pe_bl pkl_nil))) (pa_cons (pv 3) (pa_cons (pv 2) pa_nil))))) (pss_one (ps_ret pe_bl)) pss_nil)
  (pss_one (ps_if (pt_not (pt_val (pe_callLam (T := (TT K)) (js := [2]) (fr := (["word"] : List Str)) (k := 8) (fun b => ok_law_answers (base := b) T) (hr.mono (by decide)) rfl T.g_law_answers T.k_law_answers (b_law_answers T) (fun σ => L2N.passAt (L2N.takes_of rfl rfl rfl rfl) σ) rfl rfl (fun _ => rfl) TB hcode hmT hu rfl (show ∀ y ∈ (_ : List (Str × NameKind)), y.2 = NameKind.free → (defScope st_law_names_held).names.lookup y.1 = some .cell ∨ (defScope st_law_names_held).names.lookup y.1 = some .free from by decide +kernel) (by decide +kernel) rfl (nscope_by (by decide +kernel)) (fun _ _ _ _ _ => rfl) (fun base A outer s H E f c hr => (pe_callK0 (ok_a_name T) (hr.mono (by decide)) rfl T.g_a_name T.k_a_name (kb_of (n := 0) (ks := ["thing", "kept"]) (g := fun a b => a ++ b) (gV := fun a b => a ++ b) T.F_a_name kb_app (fun _ _ _ _ _ _ us ws h1 h2 => match us, ws, h1, h2 with | [], [_, _], _, _ => rfl)) (fun σ => L2N.passAt (L2N.takes_of rfl rfl rfl rfl) σ) (pkl_cons (pv 0) (pkl_cons pe_bl pkl_nil)))) (pa_cons (pv 4) (pa_cons (pv 2) pa_nil))))) (pss_one (ps_ret pe_bl)) pss_nil)))))))))
  (pss_cons (ps_set (i := 5) sc_law_names_held.nd rfl (Or.inl rfl) (pe_lst pa_nil))
  (C8.pss_cut (ps_for (passes_of rfl) rfl (pi_range1 rfl T.f_range (pa_cons (pe_callS G_law_draw (hr.mono (by decide)) rfl T.g_law_draw T.k_law_draw (b_law_draw T) (fun σ => L2N.passAt (L2N.takes_of rfl rfl rfl rfl) σ) (pa_cons (pv 0) (pa_cons pe_int pa_nil))) pa_nil)) (pg_name (i := 1) sc_law_names_held.nd rfl (Or.inl rfl))
  (pss_one (ps_expr (pe_callS G_law_good_name (hr.mono (by decide)) rfl T.g_law_good_name T.k_law_good_name (b_law_good_name T) (fun σ => L2N.passAt (L2N.takes_of rfl rfl rfl rfl) σ) (pa_cons (pv 0) (pa_cons (pv 5) pa_nil))))))
  (C8.pss_cut (ps_set (i := 6) sc_law_names_held.nd rfl (Or.inl rfl) (pe_ifExp (pt_cmpR op_gt (pe_callS G_law_draw (hr.mono (by decide)) rfl T.g_law_draw T.k_law_draw (b_law_draw T) (fun σ => L2N.passAt (L2N.takes_of rfl rfl rfl rfl) σ) (pa_cons (pv 0) (pa_cons pe_int pa_nil))) pe_int (nomark _)) (pe_callTy (callK_list (K := K) rfl) rfl T.f_list (by decide +kernel) (pa_cons (pv 5) pa_nil)) (pe_callTy (callK_tuple (K := K) rfl) rfl T.f_tuple (by decide +kernel) (pa_cons (pv 5) pa_nil))))
  (pss_cons (ps_set (i := 7) sc_law_names_held.nd rfl (Or.inl rfl) (pe_callB (callK_repr (K := K) rfl hg hr.units) rfl T.f_repr (by decide +kernel) (pa_cons (pv 6) pa_nil)))
  (pss_cons (ps_if (PW.pt (pw_or (pt_not (pt_val (pe_callS G_law_like (hr.mono (by decide)) rfl T.g_law_like T.k_law_like (b_law_like T) (fun σ => L2N.passAt (L2N.takes_of rfl rfl rfl rfl) σ) (pa_cons (pe_lst (pa_cons (pe_callS G_unlike_names (hr.mono (by decide)) rfl T.g_unlike_names T.k_unlike_names (b_unlike_names T) (fun σ => L2N.passAt (L2N.takes_of rfl rfl rfl rfl) σ) (pa_cons (pv 6) pa_nil)) (pa_cons (pe_callK0 G_unlike_names (hr.mono (by decide)) rfl T.g_unlike_names T.k_unlike_names (kb_of (n := 0) (ks := ["things"]) (g := fun a b => a ++ b) (gV := fun a b => a ++ b) T.F_unlike_names kb_app (fun _ _ _ _ _ _ us ws h1 h2 => match us, ws, h1, h2 with | [], [_], _, _ => rfl)) (fun σ => L2N.passAt (L2N.takes_of rfl rfl rfl rfl) σ) (pkl_cons (pe_callTy (callK_list (K := K) rfl) rfl T.f_list (by decide +kernel) (pa_cons (pv 5) pa_nil)) pkl_nil)) pa_nil))) (pa_cons (pe_lst (pa_cons (pe_callTy (callK_tuple (K := K) rfl) rfl T.f_tuple (by decide +kernel) (pa_cons (pv 5) pa_nil)) (pa_cons (pe_callTy (callK_tuple (K := K) rfl) rfl T.f_tuple (by decide +kernel) (pa_cons (pv 5) pa_nil)) pa_nil))) pa_nil))))) (pw_or1 (pt_cmpR (opK_ne (K := K) rfl hr.units) (pe_callB (callK_repr (K := K) rfl hg hr.units) rfl T.f_repr (by decide +kernel) (pa_cons (pv 6) pa_nil)) (pv 7) (nomark _))))) (pss_one (ps_ret pe_bl)) pss_nil)
  (pss_cons (ps_set (i := 8) sc_law_names_held.nd rfl (Or.inl rfl) (pe_callS G_law_draw (hr.mono (by decide)) rfl T.g_law_draw T.k_law_draw (b_law_draw T) (fun σ => L2N.passAt (L2N.takes_of rfl rfl rfl rfl) σ) (pa_cons (pv 0) (pa_cons (pe_op opA_add (pe_callB (callK_len (K := K) rfl) rfl T.f_len (by decide +kernel) (pa_cons (pv 5) pa_nil)) pe_int) pa_nil))))
  (pss_cons (ps_set (i := 9) sc_law_names_held.nd rfl (Or.inl rfl) (pe_callS G_law_pick (hr.mono (by decide)) rfl T.g_law_pick T.k_law_pick (b_law_pick T) (fun σ => L2N.passAt (L2N.takes_of rfl rfl rfl rfl) σ) (pa_cons (pv 0) (pa_cons (pe_lst (pa_cons pe_non (pa_cons pe_str (pa_cons pe_int (pa_cons pe_bl (pa_cons (pe_lst (pa_cons pe_str pa_nil)) (pa_cons (pe_tup (pa_cons pe_str pa_nil)) (pa_cons pe_str (pa_cons pe_str (pa_cons pe_str (pa_cons pe_str (pa_cons pe_str (pa_cons pe_dnewK pa_nil))))))))))))) pa_nil))))
  (pss_cons (ps_set (i := 10) sc_law_names_held.nd rfl (Or.inr rfl) (pe_op opA_add (pe_op opA_add (pe_slice (slK (K := K) rfl) (pv 5) po_none (po_some (pv 8))) (pe_lst (pa_cons (pv 9) pa_nil))) (pe_slice (slK (K := K) rfl) (pv 5) (po_some (pv 8)) po_none)))
  (pss_cons (ps_if (pt_not (pt_val (pe_callLam (T := (TT K)) (js := [10]) (fr := (["some"] : List Str)) (k := 8) (fun b => ok_law_refused (base := b) T) (hr.mono (by decide)) rfl T.g_law_refused T.k_law_refused (b_law_refused T) (fun σ => L2N.passAt (L2N.takes_of rfl rfl rfl rfl) σ) rfl rfl (fun _ => rfl) TB hcode hmT hu rfl (show ∀ y ∈ (_ : List (Str × NameKind)), y.2 = NameKind.free → (defScope st_law_names_held).names.lookup y.1 = some .cell ∨ (defScope st_law_names_held).names.lookup y.1 = some .free from by decide +kernel) (by decide +kernel) rfl (nscope_by (by decide +kernel)) (fun _ _ _ _ _ => rfl) (fun base A outer s H E f c hr => (pe_callS (ok_unlike_names T) (hr.mono (by decide)) rfl T.g_unlike_names T.k_unlike_names (b_unlike_names T) (fun σ => L2N.passAt (L2N.takes_of rfl rfl rfl rfl) σ) (pa_cons (pv 0) pa_nil))) (pa_cons (pe_tup (pa_cons pe_str pa_nil)) pa_nil)))) (pss_one (ps_ret pe_bl)) pss_nil)
  (C8.pss_cut (ps_if (pt_cmpR (opK_ne (K := K) rfl hr.units) (pv 5) (pe_lst pa_nil) (nomark _)) (pss_cons (ps_set (i := 11) sc_law_names_held.nd rfl (Or.inr rfl) (pe_op opA_add (pe_op opA_add (pe_slice (slK (K := K) rfl) (pv 5) po_none (po_some (pv 8))) (pe_lst (pa_cons (pe_ix (ixK (K := K) rfl) (pv 5) (pe_callS G_law_draw (hr.mono (by decide)) rfl T.g_law_draw T.k_law_draw (b_law_draw T) (fun σ => L2N.passAt (L2N.takes_of rfl rfl rfl rfl) σ) (pa_cons (pv 0) (pa_cons (pe_callB (callK_len (K := K) rfl) rfl T.f_len (by decide +kernel) (pa_cons (pv 5) pa_nil)) pa_nil))) (fun _ _ => rfl)) pa_nil))) (pe_slice (slK (K := K) rfl) (pv 5) (po_some (pv 8)) po_none)))
  (pss_one (ps_if (pt_not (pt_val (pe_callLam (T := (TT K)) (js := [11]) (fr := (["more"] : List Str)) (k := 8) (fun b => ok_law_refused (base := b) T) (hr.mono (by decide)) rfl T.g_law_refused T.k_law_refused (b_law_refused T) (fun σ => L2N.passAt (L2N.takes_of rfl rfl rfl rfl) σ) rfl rfl (fun _ => rfl) TB hcode hmT hu rfl (show ∀ y ∈ (_ : List (Str × NameKind)), y.2 = NameKind.free → (defScope st_law_names_held).names.lookup y.1 = some .cell ∨ (defScope st_law_names_held).names.lookup y.1 = some .free from by decide +kernel) (by decide +kernel) rfl (nscope_by (by decide +kernel)) (fun _ _ _ _ _ => rfl) (fun base A outer s H E f c hr => (pe_callS (ok_unlike_names T) (hr.mono (by decide)) rfl T.g_unlike_names T.k_unlike_names (b_unlike_names T) (fun σ => L2N.passAt (L2N.takes_of rfl rfl rfl rfl) σ) (pa_cons (pe_callTy (callK_tuple (K := K) rfl) rfl T.f_tuple (by decide +kernel) (pa_cons (pv 0) pa_nil)) pa_nil))) (pa_cons (pe_tup (pa_cons pe_str pa_nil)) pa_nil)))) (pss_one (ps_ret pe_bl)) pss_nil))) pss_nil)
  (pss_cons (ps_set (i := 12) sc_law_names_held.nd rfl (Or.inr rfl) (pe_callS G_law_pick (hr.mono (by decide)) rfl T.g_law_pick T.k_law_pick (b_law_pick T) (fun σ => L2N.passAt (L2N.takes_of rfl rfl rfl rfl) σ) (pa_cons (pv 0) (pa_cons (pe_lst (pa_cons pe_non (pa_cons pe_bl (pa_cons pe_str (pa_cons pe_str (pa_cons pe_int (pa_cons pe_dnewK (pa_cons (pe_disp (pps_cons pe_str pe_int pps_nil) rfl rfl (by simp) (by decide)) pa_nil)))))))) pa_nil))))
  (pss_one (ps_ret (pe_callLam (T := (TT K)) (js := [12]) (fr := (["none"] : List Str)) (k := 8) (fun b => ok_law_refused (base := b) T) (hr.mono (by decide)) rfl T.g_law_refused T.k_law_refused (b_law_refused T) (fun σ => L2N.passAt (L2N.takes_of rfl rfl rfl rfl) σ) rfl rfl (fun _ => rfl) TB hcode hmT hu rfl (show ∀ y ∈ (_ : List (Str × NameKind)), y.2 = NameKind.free → (defScope st_law_names_held).names.lookup y.1 = some .cell ∨ (defScope st_law_names_held).names.lookup y.1 = some .free from by decide +kernel) (by decide +kernel) rfl (nscope_by (by decide +kernel)) (fun _ _ _ _ _ => rfl) (fun base A outer s H E f c hr => (pe_callS (ok_unlike_names T) (hr.mono (by decide)) rfl T.g_unlike_names T.k_unlike_names (b_unlike_names T) (fun σ => L2N.passAt (L2N.takes_of rfl rfl rfl rfl) σ) (pa_cons (pv 0) pa_nil))) (pa_cons (pe_tup (pa_cons pe_str pa_nil)) pa_nil)))))))))))))))), ?_⟩
  try dsimp only [cxOf, List.map]
  obtain ⟨j, rfl, hj, ht, k⟩ := h
  walk_at "s"
  refine ⟨fun σ' H' => JT K j H H' ∧ ∃ y1 y2 y3 y4 : Option V, σ' = [some (.ref j), y1, y2, y3, y4, none, none, none, none, none, none, none, none], ?_, ?_⟩
  · refine x_forR (n := 7) (fun i σ' H' => JT K j H H' ∧ ∃ y1 y2 y3 y4 : Option V, σ' = [some (.ref j), y1, y2, y3, y4, none, none, none, none, none, none, none, none]) (fun R r => ?_) (by decide) (by decide) ?_ ?_ ?_
    · walk_at "s"
      exact r
    · exact ⟨JT.refl hj ht, _, _, _, _, rfl⟩
    · rintro i σ' H' hi ⟨s1, y1, y2, y3, y4, rfl⟩
      walk_at "s"
      refine sp1_i ⟨j, rfl, s1.2.1, fun z H1 js hz => ?_⟩
      have s2 := s1.jsR js
      clear s1 js
      walk_at "s"
      refine ⟨fun σ' H' => JT K j H H' ∧ ∃ v, Wd K H' v ∧ σ' = [some (.ref j), some (.int (i : Int)), some v, y3, y4, none, none, none, none, none, none, none, none], ?_, ?_⟩
      · walk_at "s"
        refine x_if _ (fun e => ?_) (fun e => ?_)
        · walk_at "s"
          intro p1 h1
          have f1 : upd H1 p1 (.lst [.str "a"]) p1 = some (.lst [.str "a"]) := upd_same
          have s3 := s2.new (o := .lst [.str "a"]) h1
          have n1 := jar_ne s2.2.1 h1
          show tCons _ _ _ (upd H1 p1 (.lst [.str "a"])) _
          generalize upd H1 p1 (.lst [.str "a"]) = H2 at s3 f1 ⊢
          walk_at "s"
          intro p2 h2
          have f2 : upd H2 p2 (.tup [.str "a"]) p2 = some (.tup [.str "a"]) := upd_same
          have f1 := Same.new (o := .tup [.str "a"]) h2 _ _ f1
          have s4 := s3.new (o := .tup [.str "a"]) h2
          have n2 := jar_ne s3.2.1 h2
          generalize upd H2 p2 (.tup [.str "a"]) = H3 at s4 f1 f2 ⊢
          walk_at "s"
          intro p3 h3
          refine x_c (x_c ⟨upd_same, [(.inr "a", .int 1)], rfl, by decide, ?_⟩)
          rw [upd_upd]
          have f3 : ∃ kvs, upd H3 p3 (.dK (mergeK [] [(.inr "a", .int 1)])) p3 = some (.dK kvs) := ⟨_, upd_same⟩
          have f1 := Same.new (o := .dK (mergeK [] [(.inr "a", .int 1)])) h3 _ _ f1
          have f2 := Same.new (o := .dK (mergeK [] [(.inr "a", .int 1)])) h3 _ _ f2
          have s5 := s4.new (o := .dK (mergeK [] [(.inr "a", .int 1)])) h3
          have n3 := jar_ne s4.2.1 h3
          generalize upd H3 p3 (.dK (mergeK [] [(.inr "a", .int 1)])) = H4 at s5 f1 f2 f3 ⊢
          obtain ⟨kvs, f3⟩ := f3
          walk_at "s"
          intro p4 h4
          have f4 : upd H4 p4 (.lst []) p4 = some (.lst []) := upd_same
          have f1 := Same.new (o := .lst []) h4 _ _ f1
          have f2 := Same.new (o := .lst []) h4 _ _ f2
          have f3 := Same.new (o := .lst []) h4 _ _ f3
          have s6 := s5.new (o := .lst []) h4
          have n4 := jar_ne s5.2.1 h4
          generalize upd H4 p4 (.lst []) = H5 at s6 f1 f2 f3 f4 ⊢
          walk_at "s"
          intro p5 h5
          have f5 : upd H5 p5 (.tup [.int 1, .int 2]) p5 = some (.tup [.int 1, .int 2]) := upd_same
          have f1 := Same.new (o := .tup [.int 1, .int 2]) h5 _ _ f1
          have f2 := Same.new (o := .tup [.int 1, .int 2]) h5 _ _ f2
          have f3 := Same.new (o := .tup [.int 1, .int 2]) h5 _ _ f3
          have f4 := Same.new (o := .tup [.int 1, .int 2]) h5 _ _ f4
          have s7 := s6.new (o := .tup [.int 1, .int 2]) h5
          have n5 := jar_ne s6.2.1 h5
          generalize upd H5 p5 (.tup [.int 1, .int 2]) = H6 at s7 f1 f2 f3 f4 f5 ⊢
          walk_at "s"
          intro q hq
          walk_at "s"
          refine pick_in s7 hq (by simp) (by simp) fun v H7 hv s8 js => ?_
          have f1 := js.1 _ _ n1 f1
          have f2 := js.1 _ _ n2 f2
          have f3 := js.1 _ _ n3 f3
          have f4 := js.1 _ _ n4 f4
          have f5 := js.1 _ _ n5 f5
          walk_at "s"
          refine ⟨s8, v, ?_, rfl⟩
          simp only [List.mem_cons, List.not_mem_nil, or_false] at hv
          rcases hv with rfl | rfl | rfl | rfl | rfl | rfl | rfl | rfl
          · exact wd_of (.base .non) (by decide) (by decide) fun z e => by cases e
          · exact wd_of (.base (.bl _)) (by decide) (by decide) fun z e => by cases e
          · exact wd_of (.base (.int _)) (by decide) (by decide) fun z e => by cases e
          · exact wd_of (.base (.lst f1)) (by decide) (by decide) fun z e => by cases e
          · exact wd_of (.base (.tup f2)) (by decide) (by decide) fun z e => by cases e
          · exact wd_of (.base (.dK f3)) (by decide) (by decide) fun z e => by cases e
          · exact wd_of (.base (.lst f4)) (by decide) (by decide) fun z e => by cases e
          · exact wd_of (.base (.tup f5)) (by decide) (by decide) fun z e => by cases e
        · walk_at "s"
          exact ⟨s2, _, wd_short hz, rfl⟩
      rintro σ' H2 ⟨s3, v, hv, rfl⟩
      clear s2 hz z
      walk_at "s"
      refine sp1_i ⟨hv.1, hv.2, fun H3 e3 => ?_⟩
      have s4 := s3.sameR e3
      have hv := hv.extN (.of e3)
      clear s3 e3
      walk_at "s"
      refine ⟨fun σ' H' => JT K j H H' ∧ Wd K H' v ∧ σ' = [some (.ref j), some (.int (i : Int)), some v, some (.bl (wordV v)), some (.bl (nameV v)), none, none, none, none, none, none, none, none], ?_, ?_⟩
      · walk_at "s"
        refine x_if _ (fun e => ?_) (fun e => ?_)
        · walk_at "s"
          refine sp0_i fun q hq => ?_
          refine x_notinL ?_ (.inl (SqL.of upd_same)) (word_flat e) kept_flat
          walk_at "s"
          refine ⟨s4.new hq, hv.extN (.of (Same.new hq)), ?_⟩
          have en : nameV v = !inV v (l_KEPT_WORDS.map V.str) := by
            unfold nameV
            rw [e]
            rfl
          rw [en]
          rfl
        · walk_at "s"
          refine ⟨s4, hv, ?_⟩
          have en : nameV v = false := by
            unfold nameV
            rw [e]
            rfl
          rw [en, e]
          rfl
      rintro σ' H4 ⟨s5, hv, rfl⟩
      clear s4
      walk_at "s"
      refine ⟨s5.2.2.2, fun f c' H5 n5 t5 hc5 => ?_⟩
      have s6 := s5.ext n5 t5
      walk_at "s"
      intro base' th
      refine ans_in th name_str (fun H0 Q' E' e0 hy hn => ⟨e0 _ _ hc5, ?_⟩) fun H6 e6 => ⟨true, rfl, x_ifF rfl ?_⟩
      · walk_at "s"
        exact sp2_i ⟨false, rfl, (hv.extN (n5.trans (.of e0))).1, hy, hn⟩
      have s7 := s6.sameR e6
      have n7 := n5.trans (.of e6)
      clear s6 e6 n5 t5 hc5 th
      walk_at "s"
      refine ⟨s7.2.2.2, fun f c' H7 n8 t8 hc8 => ?_⟩
      have s8 := s7.ext n8 t8
      have n9 := n7.trans n8
      clear n7 n8
      walk_at "s"
      intro base' th
      refine ans_in th word_str (fun H0 Q' E' e0 hy hn => ⟨e0 _ _ hc8, ?_⟩) fun H8 e8 => ⟨true, rfl, x_ifF rfl ?_⟩
      · walk_at "s"
        refine ⟨rfl, ?_⟩
        exact sp2_i ⟨true, rfl, (hv.extN (n9.trans (.of e0))).1, hy, hn⟩
      have s9 := s8.sameR e8
      have n10 := n9.trans (.of e8)
      clear s7 s8 e8 t8 hc8 th n9
      walk_at "s"
      refine ⟨s9.2.2.2, fun f c' H9 n11 t11 hc11 => ?_⟩
      have s10 := s9.ext n11 t11
      have n12 := n10.trans n11
      walk_at "s"
      intro base' th
      refine ans_in th name_str (fun H0 Q' E' e0 hy hn => ⟨e0 _ _ hc11, ?_⟩) fun H10 e10 => ⟨true, rfl, x_ifF rfl ?_⟩
      · walk_at "s"
        refine ⟨rfl, ?_⟩
        exact sp2_i ⟨false, rfl, (hv.extN (n12.trans (.of e0))).1, hy, hn⟩
      walk_at "s"
      exact ⟨s10.sameR e10, _, _, _, _, rfl⟩
    · rintro σ' H' h
      exact h
  rintro σ' H1 ⟨s1, y1, y2, y3, y4, rfl⟩
  walk_at "s"
  intro u hu0
  have hj1 := s1.2.1
  have nu := jar_ne hj1 hu0
  obtain ⟨U, eU⟩ : ∃ U : List Str → Hp → Prop, U = fun us H' => JT K j H1 H' ∧ H' u = some (.lst (us.map V.str)) ∧ us.length ≤ 6 ∧ us.Nodup ∧ ∀ z ∈ us, short z = true ∧ nameV (.str z) = true := ⟨_, rfl⟩
  have Uj : ∀ {us H'}, U us H' → JT K j H1 H' := fun {us H'} h => by rw [eU] at h; exact h.1
  have Uu : ∀ {us H'}, U us H' → H' u = some (.lst (us.map V.str)) := fun {us H'} h => by rw [eU] at h; exact h.2.1
  have Ul : ∀ {us H'}, U us H' → us.length ≤ 6 ∧ us.Nodup ∧ ∀ z ∈ us, short z = true ∧ nameV (.str z) = true := fun {us H'} h => by rw [eU] at h; exact h.2.2
  have Umk : ∀ {us H'}, JT K j H1 H' → H' u = some (.lst (us.map V.str)) → (us.length ≤ 6 ∧ us.Nodup ∧ ∀ z ∈ us, short z = true ∧ nameV (.str z) = true) → U us H' := fun {us H'} a b c => by rw [eU]; exact ⟨a, b, c⟩
  have Us : ∀ {us H' H''}, U us H' → Same H' H'' → U us H'' := fun {us H' H''} h e => Umk ((Uj h).sameR e) (e _ _ (Uu h)) (Ul h)
  have Ud : ∀ {us H' H''}, U us H' → JS j H' H'' → U us H'' := fun {us H' H''} h e => Umk ((Uj h).jsR e) (e.1 _ _ nu (Uu h)) (Ul h)
  have u0 : U [] (upd H1 u (.lst [])) := Umk ((JT.refl hj1 s1.2.2.2).new hu0) upd_same ⟨by decide, List.nodup_nil, fun z hz => by cases hz⟩
  show gName 5 (.ref u) _ (upd H1 u (.lst [])) _
  generalize upd H1 u (.lst []) = H2 at u0 ⊢
  clear eU
  walk_at "s"
  refine ⟨fun σ' H' => ∃ (us : List Str) (y : Option V), U us H' ∧ σ' = [some (.ref j), y, y2, y3, y4, some (.ref u), none, none, none, none, none, none, none], ?_, ?_⟩
  · refine x_forRN (fun n H3 => U [] H3 ∧ 0 ≤ n ∧ n ≤ 6) (fun R r => ?_) ?_
    · walk_at "s"
      refine draw_in (Uj u0) (by decide) (by decide) fun d H3 d0 d1 s3 js => ?_
      walk_at "s"
      exact r _ _ ⟨Ud u0 js, d0, by omega⟩
    rintro n H3 ⟨u1, n0, n1⟩
    refine ⟨by omega, by omega, fun i σ' H' => ∃ (us : List Str) (y : Option V), U us H' ∧ us.length = i ∧ σ' = [some (.ref j), y, y2, y3, y4, some (.ref u), none, none, none, none, none, none, none], ⟨[], y1, u1, rfl, rfl⟩, ?_, ?_⟩
    · rintro i σ' H4 hi ⟨us, y, u2, hl, rfl⟩
      walk_at "s"
      obtain ⟨l1, l2, l3⟩ := Ul u2
      refine sp2_i ⟨j, u, us, rfl, rfl, (Uj u2).2.1, nu, Uu u2, by omega, fun z H5 js hz hn hnu => ?_⟩
      walk_at "s"
      refine ⟨us ++ [z], some (.int (i : Int)), Umk (JT.mut hj1 ((Uj u2).jsR js) hu0 (js.1 _ _ nu (Uu u2)) fun ps e => by cases e) upd_same ⟨by rw [List.length_append]; show us.length + 1 ≤ 6; omega, ?_, fun y hy => ?_⟩, by rw [List.length_append, hl]; rfl, rfl⟩
      · refine List.nodup_append.mpr ⟨l2, by simp, fun a ha b hb e => ?_⟩
        rw [List.mem_singleton.mp hb] at e
        exact hnu (by rw [← e]; exact ha)
      · rcases List.mem_append.mp hy with hy | hy
        · exact l3 y hy
        · rw [List.mem_singleton.mp hy]
          exact ⟨hz, hn⟩
    · rintro σ' H4 ⟨us, y, u2, hl, rfl⟩
      exact ⟨us, y, u2, rfl⟩
  rintro σ' H3 ⟨us, y, u1, rfl⟩
  clear u0 y1
  obtain ⟨l1, l2, l3⟩ := Ul u1
  refine ⟨fun σ' H' => U us H' ∧ ∃ (g : Addr) (d : PyData), ((H' g = some (.lst (us.map V.str)) ∧ d = .list (us.map PyData.str)) ∨ (H' g = some (.tup (us.map V.str)) ∧ d = .tuple (us.map PyData.str))) ∧ σ' = [some (.ref j), y, y2, y3, y4, some (.ref u), some (.ref g), none, none, none, none, none, none], ?_, ?_⟩
  · walk_at "s"
    refine draw_in (Uj u1) (by decide) (by decide) fun d H4 d0 d1 s3 js => ?_
    have u2 := Ud u1 js
    walk_at "s"
    refine x_if _ (fun e => ?_) (fun e => ?_)
    · walk_at "s"
      refine x_list (.inl (SqL.of (Uu u2))) fun g hg => ?_
      walk_at "s"
      exact ⟨Us u2 (Same.new hg), g, _, .inl ⟨upd_same, rfl⟩, rfl⟩
    · walk_at "s"
      refine x_tupL (SqL.of (Uu u2)) fun g hg => ?_
      walk_at "s"
      exact ⟨Us u2 (Same.new hg), g, _, .inr ⟨upd_same, rfl⟩, rfl⟩
  rintro σ' H4 ⟨u2, g, d, hg, rfl⟩
  clear u1 H3
  have hgL : ∀ {H' : Hp}, ((H' g = some (.lst (us.map V.str)) ∧ d = .list (us.map PyData.str)) ∨ (H' g = some (.tup (us.map V.str)) ∧ d = .tuple (us.map PyData.str))) → Lst K H' g (us.map V.str) := fun {H'} h => h.elim (fun h => lst_of h.1) fun h => tup_of h.1
  have hgS : ∀ {H' H'' : Hp}, Same H' H'' → ((H' g = some (.lst (us.map V.str)) ∧ d = .list (us.map PyData.str)) ∨ (H' g = some (.tup (us.map V.str)) ∧ d = .tuple (us.map PyData.str))) → ((H'' g = some (.lst (us.map V.str)) ∧ d = .list (us.map PyData.str)) ∨ (H'' g = some (.tup (us.map V.str)) ∧ d = .tuple (us.map PyData.str))) :=
    fun {H' H''} e h => h.imp (fun h => ⟨e _ _ h.1, h.2⟩) fun h => ⟨e _ _ h.1, h.2⟩
  walk_at "s"
  refine x_reprN (fun z hz => (l3 z hz).1) (by omega) hg ?_
  walk_at "s"
  refine unlike_in (hgL hg) (by omega) l3 l2 fun H5 p1 e1 t1 => ?_
  walk_at "s"
  refine x_list (.inl (SqL.of (e1 _ _ (Uu u2)))) fun g2 hg2 => ?_
  walk_at "s"
  refine ⟨rfl, unlike_in (lst_of upd_same) (by omega) l3 l2 fun H6 p2 e2 t2 => ?_⟩
  have e3 := Same.tr e1 (Same.tr (Same.new hg2) e2)
  have t1 := seqT (Same.tr (Same.new hg2) e2) t1
  clear e1 e2 hg2
  walk_at "s"
  intro q1 hq1
  have e4 : Same H6 (upd H6 q1 (.lst [.ref p1, .ref p2])) := Same.new hq1
  have f1 : upd H6 q1 (.lst [.ref p1, .ref p2]) q1 = some (.lst [.ref p1, .ref p2]) := upd_same
  show tCons _ _ _ (upd H6 q1 (.lst [.ref p1, .ref p2])) _
  have t1 := seqT e4 t1
  have t2 := seqT e4 t2
  have e5 := Same.tr e3 e4
  generalize upd H6 q1 (.lst [.ref p1, .ref p2]) = H7 at e5 f1 t1 t2 ⊢
  clear e4 e3 hq1
  walk_at "s"
  refine x_tupL (SqL.of (e5 _ _ (Uu u2))) fun p3 hp3 => ?_
  have e6 : Same H7 (upd H7 p3 (.tup (us.map V.str))) := Same.new hp3
  have f3 : upd H7 p3 (.tup (us.map V.str)) p3 = some (.tup (us.map V.str)) := upd_same
  generalize upd H7 p3 (.tup (us.map V.str)) = H8 at e6 f3 ⊢
  walk_at "s"
  refine x_tupL (SqL.of (e6 _ _ (e5 _ _ (Uu u2)))) fun p4 hp4 => ?_
  have e7 : Same H8 (upd H8 p4 (.tup (us.map V.str))) := Same.new hp4
  have f4 : upd H8 p4 (.tup (us.map V.str)) p4 = some (.tup (us.map V.str)) := upd_same
  generalize upd H8 p4 (.tup (us.map V.str)) = H9 at e7 f4 ⊢
  walk_at "s"
  intro q2 hq2
  have e8 : Same H9 (upd H9 q2 (.lst [.ref p3, .ref p4])) := Same.new hq2
  have f5 : upd H9 q2 (.lst [.ref p3, .ref p4]) q2 = some (.lst [.ref p3, .ref p4]) := upd_same
  show tNil _ (upd H9 q2 (.lst [.ref p3, .ref p4])) _
  generalize upd H9 q2 (.lst [.ref p3, .ref p4]) = H10 at e8 f5 ⊢
  have e9 := Same.tr e6 (Same.tr e7 e8)
  walk_at "s"
  refine sp2_i ⟨lk_lst (SqL.of (e9 _ _ f1)) (SqL.of f5) (by simp) ((LkA.nil.cons (lk_names (by omega) (seqT e9 t2) (SqT.of (e8 _ _ f4)))).cons (lk_names (by omega) (seqT e9 t1) (SqT.of ((Same.tr e7 e8) _ _ f3)))), fun H11 e10 => ⟨true, rfl, x_ifF rfl ?_⟩⟩
  have e11 := Same.tr e5 (Same.tr e9 e10)
  have u3 := Us u2 e11
  have hg := hgS e11 hg
  clear e5 e6 e7 e8 e9 e10 f1 f3 f4 f5 t1 t2 e11 hp3 hp4 hq2
  walk_at "s"
  refine x_reprN (fun z hz => (l3 z hz).1) (by omega) hg ?_
  walk_at "s"
  refine x_ifF (by rw [decide_eq_true rfl]; rfl) ?_
  walk_at "s"
  refine x_lenL ?_ (SqL.of (Uu u3))
  walk_at "s"
  rw [List.length_map]
  refine draw_in (Uj u3) (by omega) ?_ fun d' H12 d0 d1 s12 js => ?_
  · have : ((us.length : Int) + 1).natAbs = us.length + 1 := by omega
    rw [this]
    exact Nat.lt_of_le_of_lt (Nat.log2_le_self _) (by omega)
  have u4 := Ud u3 js
  obtain ⟨a, rfl, ha⟩ : ∃ a : Nat, d' = (a : Int) ∧ a ≤ us.length := ⟨d'.toNat, by omega, by omega⟩
  clear u3 js s12 d0 d1 hg hgL hgS u2 H11
  walk_at "s"
  intro p1 h1
  have u5 := Us u4 (Same.new (o := .lst [.str "a"]) h1)
  have n1 := jar_ne (Uj u4).2.1 h1
  have f1 : upd H12 p1 (.lst [.str "a"]) p1 = some (.lst [.str "a"]) := upd_same
  show tCons _ _ _ (upd H12 p1 (.lst [.str "a"])) _
  generalize upd H12 p1 (.lst [.str "a"]) = H13 at u5 f1 ⊢
  walk_at "s"
  intro p2 h2
  have f1 := Same.new (o := .tup [.str "b"]) h2 _ _ f1
  have u6 := Us u5 (Same.new (o := .tup [.str "b"]) h2)
  have n2 := jar_ne (Uj u5).2.1 h2
  have f2 : upd H13 p2 (.tup [.str "b"]) p2 = some (.tup [.str "b"]) := upd_same
  show tCons _ _ _ (upd H13 p2 (.tup [.str "b"])) _
  generalize upd H13 p2 (.tup [.str "b"]) = H14 at u6 f1 f2 ⊢
  walk_at "s"
  intro p3 h3
  have f1 := Same.new (o := .dK []) h3 _ _ f1
  have f2 := Same.new (o := .dK []) h3 _ _ f2
  have u7 := Us u6 (Same.new (o := .dK []) h3)
  have n3 := jar_ne (Uj u6).2.1 h3
  have f3 : upd H14 p3 (.dK []) p3 = some (.dK []) := upd_same
  show tNil _ (upd H14 p3 (.dK [])) _
  generalize upd H14 p3 (.dK []) = H15 at u7 f1 f2 f3 ⊢
  walk_at "s"
  intro q hq
  walk_at "s"
  refine pick_in (Uj u7) hq (by simp) (by simp) fun v H16 hv s16 js => ?_
  have f1 := js.1 _ _ n1 f1
  have f2 := js.1 _ _ n2 f2
  have f3 := js.1 _ _ n3 f3
  have u8 := Ud u7 js
  have hv2 : Wd K H16 v ∧ nameV v = false := by
    simp only [List.mem_cons, List.not_mem_nil, or_false] at hv
    rcases hv with rfl | rfl | rfl | rfl | rfl | rfl | rfl | rfl | rfl | rfl | rfl | rfl
    · exact ⟨wd_of (.base .non) (by decide) (by decide) (fun z e => by cases e), rfl⟩
    · exact ⟨wd_short (by decide +kernel), by decide +kernel⟩
    · exact ⟨wd_of (.base (.int _)) (by decide) (by decide) (fun z e => by cases e), rfl⟩
    · exact ⟨wd_of (.base (.bl _)) (by decide) (by decide) (fun z e => by cases e), rfl⟩
    · exact ⟨wd_of (.base (.lst f1)) (by decide) (by decide) (fun z e => by cases e), rfl⟩
    · exact ⟨wd_of (.base (.tup f2)) (by decide) (by decide) (fun z e => by cases e), rfl⟩
    · exact ⟨wd_short (by decide +kernel), by decide +kernel⟩
    · exact ⟨wd_short (by decide +kernel), by decide +kernel⟩
    · exact ⟨wd_short (by decide +kernel), by decide +kernel⟩
    · exact ⟨wd_short (by decide +kernel), by decide +kernel⟩
    · exact ⟨wd_short (by decide +kernel), by decide +kernel⟩
    · exact ⟨wd_of (.base (.dK f3)) (by decide) (by decide) (fun z e => by cases e), rfl⟩
  obtain ⟨hv2, hvn⟩ := hv2
  clear hv js f1 f2 f3 u7 u6 u5 u4 s16 hq h1 h2 h3 n1 n2 n3
  have haL : a ≤ (us.map V.str).length := by rw [List.length_map]; exact ha
  have lT : ((us.map V.str).take a).length ≤ 6 := by rw [List.length_take, List.length_map]; omega
  have lD : ((us.map V.str).drop a).length ≤ 6 := by rw [List.length_drop, List.length_map]; omega
  walk_at "s"
  refine x_slL (SqL.of (Uu u8)) fun b1 hb1 => ?_
  rw [cut_lo haL]
  have e1 : Same H16 (upd H16 b1 (.lst ((us.map V.str).take a))) := Same.new hb1
  have f1 : upd H16 b1 (.lst ((us.map V.str).take a)) b1 = some (.lst ((us.map V.str).take a)) := upd_same
  generalize upd H16 b1 (.lst ((us.map V.str).take a)) = H17 at e1 f1 ⊢
  walk_at "s"
  intro b2 hb2
  refine x_addL (Same.new hb2 _ _ f1) upd_same (short_line (by rw [List.length_singleton]; omega)) fun b3 hb3 => ?_
  have e2 := Same.tr e1 (Same.tr (Same.new (o := .lst [v]) hb2) (Same.new (o := .lst ((us.map V.str).take a ++ [v])) hb3))
  have f3 : upd (upd H17 b2 (.lst [v])) b3 (.lst ((us.map V.str).take a ++ [v])) b3 = some (.lst ((us.map V.str).take a ++ [v])) := upd_same
  generalize upd (upd H17 b2 (.lst [v])) b3 (.lst ((us.map V.str).take a ++ [v])) = H18 at e2 f3 ⊢
  walk_at "s"
  refine x_slL (SqL.of (e2 _ _ (Uu u8))) fun b4 hb4 => ?_
  rw [cut_hi haL]
  refine x_addL (Same.new hb4 _ _ f3) upd_same (short_line (by rw [List.length_append, List.length_singleton]; omega)) fun b5 hb5 => ?_
  have e3 := Same.tr e2 (Same.tr (Same.new (o := .lst ((us.map V.str).drop a)) hb4) (Same.new (o := .lst ((us.map V.str).take a ++ [v] ++ (us.map V.str).drop a)) hb5))
  have f5 : upd (upd H18 b4 (.lst ((us.map V.str).drop a))) b5 (.lst ((us.map V.str).take a ++ [v] ++ (us.map V.str).drop a)) b5 = some (.lst ((us.map V.str).take a ++ [v] ++ (us.map V.str).drop a)) := upd_same
  generalize upd (upd H18 b4 (.lst ((us.map V.str).drop a))) b5 (.lst ((us.map V.str).take a ++ [v] ++ (us.map V.str).drop a)) = H19 at e3 f5 ⊢
  have u9 := Us u8 e3
  have hv3 := hv2.extN (.of e3)
  clear e1 e2 e3 f1 f3 hb1 hb2 hb3 hb4 hb5 u8 hv2
  have hpl : ∀ {H' : Hp}, ∀ x ∈ us.map V.str, Pln K H' x := fun {H'} x hx => by
    obtain ⟨z, hz, rfl⟩ := List.mem_map.mp hx
    exact pln_short (l3 z hz).1
  walk_at "s"
  refine ⟨(Uj u9).2.2.2, fun f c' H20 n20 t20 hc20 => ?_⟩
  have s20 := (Uj u9).ext n20 t20
  have w20 : H20 u = some (.lst (us.map V.str)) := n20 _ _ (Uu u9) fun ps e => by cases e
  have u10 := Umk s20 w20 (Ul u9)
  walk_at "s"
  intro q1 hq1
  walk_at "s"
  intro base' th
  have u11 := Us u10 (Same.new (o := .tup [.str "BadName"]) hq1)
  have n21 : ExtN H19 (upd H20 q1 (.tup [.str "BadName"])) := n20.trans (.of (Same.new hq1))
  refine ref_why (.inl rfl) ⟨f, _, rfl, th, fun Q' E' i => ⟨Same.new hq1 _ _ hc20, ?_⟩⟩ upd_same fun H21 e21 => ⟨true, rfl, x_ifF rfl ?_⟩
  · walk_at "s"
    refine unlike_bad (lst_of (n21 _ _ f5 fun ps e => by cases e)) (by rw [List.length_append, List.length_append, List.length_singleton]; omega) (fun x hx => ?_) (fun z => ?_) (ewhy_of i)
    · rcases List.mem_append.mp hx with hx | hx
      · rcases List.mem_append.mp hx with hx | hx
        · exact hpl x (List.mem_of_mem_take hx)
        · rw [List.mem_singleton.mp hx]
          exact (hv3.extN n21).1
      · exact hpl x (List.mem_of_mem_drop hx)
    · have := List.all_eq_true.mp z.1 v (List.mem_append_left _ (List.mem_append_right _ (List.mem_singleton.mpr rfl)))
      rw [hvn] at this
      cases this
  have u12 := Us u11 e21
  clear u9 u10 u11 e21 n20 n21 t20 hc20 s20 w20 th hq1 hv3 hvn f5
  walk_at "s"
  refine ⟨fun σ' H' => U us H' ∧ ∃ y11 : Option V, σ' = [some (.ref j), y, y2, y3, y4, some (.ref u), some (.ref g), some (.str d.shown), some (.int (a : Int)), some v, some (.ref b5), y11, none], ?_, ?_⟩
  · walk_at "s"
    intro q hq
    have u13 := Us u12 (Same.new (o := .lst []) hq)
    refine x_neNil (zs := us) ?_ (SqL.of (Uu u13)) (SqL.of upd_same) (by rw [List.all_eq_true]; exact fun z hz => (short_of (l3 z hz).1).2)
    generalize upd H21 q (.lst []) = H22 at u13 ⊢
    refine ⟨_, rfl, ?_⟩
    refine x_if _ (fun e => ?_) (fun e => ?_)
    · have hpos : 0 < us.length := by
        cases us with
        | nil => cases e
        | cons c cs => exact Nat.succ_pos _
      walk_at "s"
      refine x_slL (SqL.of (Uu u13)) fun b1 hb1 => ?_
      rw [cut_lo haL]
      have u14 := Us u13 (Same.new (o := .lst ((us.map V.str).take a)) hb1)
      have f1 : upd H22 b1 (.lst ((us.map V.str).take a)) b1 = some (.lst ((us.map V.str).take a)) := upd_same
      have nb1 := jar_ne (Uj u13).2.1 hb1
      generalize upd H22 b1 (.lst ((us.map V.str).take a)) = H23 at u14 f1 ⊢
      walk_at "s"
      refine x_lenL ?_ (SqL.of (Uu u14))
      walk_at "s"
      rw [List.length_map]
      refine draw_in (Uj u14) (by omega) ?_ fun d2 H24 d0 d1 s24 js => ?_
      · rw [Int.natAbs_natCast]
        exact Nat.lt_of_le_of_lt (Nat.log2_le_self _) (by omega)
      have u15 := Ud u14 js
      have f1 := js.1 _ _ nb1 f1
      obtain ⟨m, rfl⟩ : ∃ m : Nat, d2 = (m : Int) := ⟨d2.toNat, by omega⟩
      have hm : m < (us.map V.str).length := by rw [List.length_map]; omega
      obtain ⟨x, hx⟩ : ∃ x, (us.map V.str)[m]? = some x := ⟨_, List.getElem?_eq_getElem hm⟩
      have hxm := List.mem_of_getElem? hx
      refine x_ixL (n := m) ?_ (SqL.of (Uu u15)) hx
      walk_at "s"
      intro b2 hb2
      refine x_addL (Same.new hb2 _ _ f1) upd_same (short_line (by rw [List.length_singleton]; omega)) fun b3 hb3 => ?_
      have e2 := Same.tr (Same.new (o := .lst [x]) hb2) (Same.new (o := .lst ((us.map V.str).take a ++ [x])) hb3)
      have f3 : upd (upd H24 b2 (.lst [x])) b3 (.lst ((us.map V.str).take a ++ [x])) b3 = some (.lst ((us.map V.str).take a ++ [x])) := upd_same
      generalize upd (upd H24 b2 (.lst [x])) b3 (.lst ((us.map V.str).take a ++ [x])) = H25 at e2 f3 ⊢
      have u16 := Us u15 e2
      walk_at "s"
      refine x_slL (SqL.of (Uu u16)) fun b4 hb4 => ?_
      rw [cut_hi haL]
      refine x_addL (Same.new hb4 _ _ f3) upd_same (short_line (by rw [List.length_append, List.length_singleton]; omega)) fun b6 hb6 => ?_
      have e3 := Same.tr (Same.new (o := .lst ((us.map V.str).drop a)) hb4) (Same.new (o := .lst ((us.map V.str).take a ++ [x] ++ (us.map V.str).drop a)) hb6)
      have f5 : upd (upd H25 b4 (.lst ((us.map V.str).drop a))) b6 (.lst ((us.map V.str).take a ++ [x] ++ (us.map V.str).drop a)) b6 = some (.lst ((us.map V.str).take a ++ [x] ++ (us.map V.str).drop a)) := upd_same
      generalize upd (upd H25 b4 (.lst ((us.map V.str).drop a))) b6 (.lst ((us.map V.str).take a ++ [x] ++ (us.map V.str).drop a)) = H26 at e3 f5 ⊢
      have u17 := Us u16 e3
      clear e2 e3 f1 f3 hb1 hb2 hb3 hb4 hb6 u13 u14 u15 u16 js s24 hx hm
      walk_at "s"
      refine ⟨(Uj u17).2.2.2, fun f c' H27 n27 t27 hc27 => ?_⟩
      have s27 := (Uj u17).ext n27 t27
      have u18 := Umk s27 (n27 _ _ (Uu u17) fun ps e => by cases e) (Ul u17)
      walk_at "s"
      intro q1 hq1
      walk_at "s"
      intro base' th
      have u19 := Us u18 (Same.new (o := .tup [.str "BadName"]) hq1)
      have n28 : ExtN H26 (upd H27 q1 (.tup [.str "BadName"])) := n27.trans (.of (Same.new hq1))
      refine ref_why (.inl rfl) ⟨f, _, rfl, th, fun Q' E' i => ⟨Same.new hq1 _ _ hc27, ?_⟩⟩ upd_same fun H28 e28 => ⟨true, rfl, x_ifF rfl ?_⟩
      · walk_at "s"
        refine x_tupL (SqL.of (n28 _ _ f5 fun ps e => by cases e)) fun t ht => ?_
        walk_at "s"
        refine unlike_bad (tup_of upd_same) (by rw [List.length_append, List.length_append, List.length_singleton]; omega) (fun z hz => ?_) (fun z => not_nodup hxm z.2) ?_
        · rcases List.mem_append.mp hz with hz | hz
          · rcases List.mem_append.mp hz with hz | hz
            · exact hpl z (List.mem_of_mem_take hz)
            · rw [List.mem_singleton.mp hz]
              exact hpl x hxm
          · exact hpl z (List.mem_of_mem_drop hz)
        · exact fun H' dd z s' hd hz => ewhy_of i H' dd z (Same.tr (Same.new ht) s') hd hz
      walk_at "s"
      exact ⟨Us u19 e28, _, rfl⟩
    · walk_at "s"
      exact ⟨u13, _, rfl⟩
  rintro σ' H22 ⟨u13, y11, rfl⟩
  clear u12 H21
  walk_at "s"
  intro p1 h1
  have f1 : upd H22 p1 (.dK []) p1 = some (.dK []) := upd_same
  have u14 := Us u13 (Same.new (o := .dK []) h1)
  have n1 := jar_ne (Uj u13).2.1 h1
  show tCons _ _ _ (upd H22 p1 (.dK [])) _
  generalize upd H22 p1 (.dK []) = H23 at u14 f1 ⊢
  walk_at "s"
  intro p2 h2
  refine x_c (x_c ⟨upd_same, [(.inr "a", .int 1)], rfl, by decide, ?_⟩)
  rw [upd_upd]
  have f2 : ∃ kvs, upd H23 p2 (.dK (mergeK [] [(.inr "a", .int 1)])) p2 = some (.dK kvs) := ⟨_, upd_same⟩
  have f1 := Same.new (o := .dK (mergeK [] [(.inr "a", .int 1)])) h2 _ _ f1
  have u15 := Us u14 (Same.new (o := .dK (mergeK [] [(.inr "a", .int 1)])) h2)
  have n2 := jar_ne (Uj u14).2.1 h2
  generalize upd H23 p2 (.dK (mergeK [] [(.inr "a", .int 1)])) = H24 at u15 f1 f2 ⊢
  obtain ⟨kvs, f2⟩ := f2
  walk_at "s"
  intro q hq
  walk_at "s"
  refine pick_in (Uj u15) hq (by simp) (by simp) fun v2 H25 hv s25 js => ?_
  have f1 := js.1 _ _ n1 f1
  have f2 := js.1 _ _ n2 f2
  have u16 := Ud u15 js
  have hv2 : ∃ t, TyP K H25 v2 t ∧ (t == "list") = false ∧ (t == "tuple") = false := by
    simp only [List.mem_cons, List.not_mem_nil, or_false] at hv
    rcases hv with rfl | rfl | rfl | rfl | rfl | rfl | rfl
    · exact ⟨"NoneType", ⟨.base .non, by decide⟩, by decide, by decide⟩
    · exact ⟨"bool", ⟨.base (.bl _), by decide⟩, by decide, by decide⟩
    · exact ⟨"str", ⟨.base (.str _), by decide⟩, by decide, by decide⟩
    · exact ⟨"str", ⟨.base (.str _), by decide⟩, by decide, by decide⟩
    · exact ⟨"int", ⟨.base (.int _), by decide⟩, by decide, by decide⟩
    · exact ⟨"dict", ⟨.base (.dK f1), by decide⟩, by decide, by decide⟩
    · exact ⟨"dict", ⟨.base (.dK f2), by decide⟩, by decide, by decide⟩
  obtain ⟨t, ht2, t1, t2⟩ := hv2
  clear hv js f1 f2 u15 u14 u13 s25 hq h1 h2 n1 n2
  walk_at "s"
  refine ⟨(Uj u16).2.2.2, fun f c' H27 n27 t27 hc27 => ?_⟩
  have s27 := (Uj u16).ext n27 t27
  walk_at "s"
  intro q1 hq1
  walk_at "s"
  intro base' th
  have n28 : ExtN H25 (upd H27 q1 (.tup [.str "BadName"])) := n27.trans (.of (Same.new hq1))
  refine ref_why (.inl rfl) ⟨f, _, rfl, th, fun Q' E' i => ⟨Same.new hq1 _ _ hc27, ?_⟩⟩ upd_same fun H28 e28 => ?_
  · walk_at "s"
    exact unlike_no (ht2.ext n28) t1 t2 (ewhy_of i)
  · exact k _ (s1.tr ((s27.new hq1).sameR e28))
end
end K00

set_option maxHeartbeats 4000000
namespace K00
open PySem PySem.Spec PyProof.Rows L2 EL NdefX
open SX (S)
open LamX (Tabs TabS TabB ExtN CodeO)
local macro_rules | `(tactic| walk_at "s1") => `(tactic| with_reducible first
  | refine x_seq ?_ | refine x_asg ?_ | refine x_op ?_ | refine x_c ?_ | refine x_gName ?_ | refine x_ifS ?_ | refine x_ret ?_ | refine x_test ?_ | refine x_bl ?_
  | refine x_I0 ?_ | refine x_addI ?_ | refine x_mulI ?_ ?_ | refine x_fdiv ?_ ?_ | refine x_mod ?_ ?_ | refine x_un ?_ | refine x_rU ?_ | refine x_pow ?_ ?_
  | refine x_eqI' ?_ | refine x_neI' ?_ | refine x_eqS' ?_ | refine x_neS' ?_
  | refine x_cons ?_ | refine x_nil ?_ | refine x_tup ?_ | refine x_lst ?_ | refine x_callS ?_ | refine x_CB ?_ | refine x_par ?_ | refine x_two ?_
  | refine x_next ?_ | refine x_and ?_ | refine x_or ?_ | refine x_not ?_ | refine x_andV ?_ | refine x_orV ?_ | refine x_notV ?_ | refine x_ex ?_ | refine x_ifE ?_ | refine x_tB ?_ | refine x_retN ?_ | refine x_drop ?_ | refine x_brk ?_ | refine x_cont ?_
  | refine x_intI ?_ | refine x_abs ?_ | refine x_gcd ?_ | refine x_str ?_ ?_ | refine x_sz ?_ | refine x_isN ?_ | refine x_notN ?_ | refine x_sl ?_ | refine x_noPart ?_ | refine x_part ?_ | refine x_exI ?_ | refine x_slS ?_ ?_ | refine x_gSub ?_ | refine x_inS ?_ | refine x_notinS ?_ | refine x_yes ?_ | refine x_m1 ?_ | refine x_m1' ?_ | refine x_ms ?_ | refine x_chain ?_ | refine x_callK ?_ | refine x_callSD ?_ | refine x_ifT' ?_ | refine x_newE ?_ | refine x_gCons ?_ | refine x_gNil ?_ | refine x_gTupU rfl ?_ | refine x_ifX ?_)
local macro_rules | `(tactic| walk_at "side") => `(tactic| with_reducible first | decide | (refine mul_left ?_ ?_ <;> omega) | (refine mul_right ?_ ?_ <;> omega) | (refine div_of ?_ ?_ <;> first | omega | assumption | decide +kernel) | omega | assumption)
local macro_rules | `(tactic| walk_at "s") => `(tactic| repeat (first | walk_at "s1" | ((with_reducible apply x_var); (· exact rfl)) | ((with_reducible apply x_ixU); (· exact rfl)) | ((with_reducible apply x_ixTU); (· exact rfl)) | ((with_reducible apply x_setU); (· exact rfl)) | ((with_reducible apply x_all); (· exact SqL.of upd_same))))
section
variable {P : Program} {w : World} {K : PySem.W.Frag} {mg : Str → Option Value} {base : Heap}
def sp_law (K : PySem.W.Frag) : Sp := sp1 fun a H Q _ => ∃ (l : Addr) (ns : List Int), a = .ref l ∧ SqL K H l (ns.map V.int) ∧ (∀ x ∈ TN, H (He.cT K (x, none)).2 = some (.tbl #[])) ∧ ∀ H', Q (.bl true) H'
abbrev N_law : List Str := ["script", "jar"]
theorem sc_law : FnScope N_law ["script"] (defScope st_law) := ⟨rfl, rfl, rfl, by decide +kernel, rfl, by decide +kernel, by decide +kernel⟩
theorem b_law (T : Txt P K mg) : Binds K (fdOf K "law") ["script"] [] := T.F_law.bindsN fun _ _ _ _ _ _ us hl => match us, hl with | [_], _ => rfl
theorem ok_law (T : Txt P K mg) (TBs : TBS K mg base) : OkG P w K mg base 14 "law" ["script"] (sp_law K) := by
  have G_law_long_held := ok_law_long_held (P := P) (w := w) (base := base) T TBs
  have G_law_draw := ok_law_draw (P := P) (w := w) (base := base) T
  have G_law_numbers_held := ok_law_numbers_held (P := P) (w := w) (base := base) T TBs
  have G_law_names_held := ok_law_names_held (P := P) (w := w) (base := base) T TBs
  have G_law_jar := ok_law_jar (P := P) (w := w) (base := base) T
  refine okG T.F_law sc_law sp1_len (fun cdv A outer s H vs Q E hr hg hcode h => ?_)
  obtain ⟨a0, rfl, h⟩ := h
  refine ⟨_, (pss_cons (ps_set (i := 1) sc_law.nd rfl (Or.inl rfl) (pe_callS G_law_jar (hr.mono (by decide)) rfl T.g_law_jar T.k_law_jar (b_law_jar T) (fun σ => L2N.passAt (L2N.takes_of rfl rfl rfl rfl) σ) (pa_cons (pv 0) pa_nil)))
  (pss_cons (ps_if (pt_not (pt_val (pe_callG G_law_names_held (hr.mono (by decide)) hg rfl T.g_law_names_held T.k_law_names_held (b_law_names_held T) (fun σ => L2N.passAt (L2N.takes_of rfl rfl rfl rfl) σ) (pa_cons (pv 1) pa_nil)))) (pss_one (ps_ret pe_bl)) pss_nil)
  (pss_cons (ps_if (pt_not (pt_val (pe_callG G_law_numbers_held (hr.mono (by decide)) hg rfl T.g_law_numbers_held T.k_law_numbers_held (b_law_numbers_held T) (fun σ => L2N.passAt (L2N.takes_of rfl rfl rfl rfl) σ) (pa_cons (pv 1) pa_nil)))) (pss_one (ps_ret pe_bl)) pss_nil)
  (pss_one (ps_ret (pe_or (pe_cmpR op_gt (pe_callS G_law_draw (hr.mono (by decide)) rfl T.g_law_draw T.k_law_draw (b_law_draw T) (fun σ => L2N.passAt (L2N.takes_of rfl rfl rfl rfl) σ) (pa_cons (pv 1) (pa_cons pe_int pa_nil))) pe_int (nomark _)) (pe_one (pe_callG G_law_long_held (hr.mono (by decide)) hg rfl T.g_law_long_held T.k_law_long_held (b_law_long_held T) (fun σ => L2N.passAt (L2N.takes_of rfl rfl rfl rfl) σ) (pa_cons (pv 1) pa_nil))))))))), ?_⟩
  try dsimp only [cxOf, List.map]
  obtain ⟨l, ns, rfl, hl, ht, k⟩ := h
  have ht0 : Tabs (TT K) H := fun p hp => by
    obtain ⟨x, hx, rfl⟩ := List.mem_map.mp hp
    exact TabS.nil (ht x hx)
  walk_at "s"
  refine sp1_i ⟨l, ns, rfl, hl, fun j H1 e1 _ hj => ?_⟩
  have s1 := JT.refl hj (ht0.ext e1)
  walk_at "s"
  refine sp1_i ⟨j, rfl, s1.2.1, s1.2.2.2, fun H2 s2 => ⟨true, rfl, x_ifF rfl ?_⟩⟩
  walk_at "s"
  refine sp1_i ⟨j, rfl, s2.2.1, s2.2.2.2, fun H3 s3 => ⟨true, rfl, x_ifF rfl ?_⟩⟩
  walk_at "s"
  refine draw_in s3 (by decide) (by decide) fun d H4 d0 d1 s4 js => ?_
  walk_at "s"
  refine x_if _ (fun e => ?_) (fun e => ?_)
  · exact k _
  · walk_at "s"
    exact sp1_i ⟨j, rfl, s4.2.1, s4.2.2.2, fun H5 s5 => k _⟩
end
end K00

set_option maxHeartbeats 0
namespace K00
open PySem PySem.Spec PyProof.Rows L2 EL NdefX
open LamX (Tabs TabS TabB ExtN CodeO)
section
variable {P : Program} {w : World} {h : Heap} {K : PySem.W.Frag} {mg : Str → Option Value}
theorem funH (c : He.SaysD faL fnL K) {d : He.DefD} (hd : d ∈ fnL) (x : Str) (e : He.fAd K d.at_ = He.ga K x := by rfl) : FunD K d.name d.qual d.params d.body d.scope (d.dvs K) (d.kws K) (He.ga K x) (fdOf K x) := by
  obtain ⟨fd, F⟩ := c.defs hd
  rw [e] at F
  exact funD_fd F
theorem exH (c : SaysY faL fnL tfL exA inL w h K) {e : PySem.W.Frag → Bool} (he : e ∈ exL) : e K = true := List.all_eq_true.mp c.x.more e he
theorem tk_of {x : Str} {i : Int} {t : Tok} (e : PySem.W.nsIn K mainGlobals x = some (some (.int i t))) : tkI K x = t := by unfold tkI; rw [e]
theorem tk_ofS {x z : Str} {t : Tok} (e : PySem.W.nsIn K mainGlobals x = some (some (.str z t))) : tkI K x = t := by unfold tkI; rw [e]
theorem intH (KX : K.In h) (G : h.Ns mainGlobals mg) {x : Str} {i : Int} (c : (He.Fa.int x i).ok K = true) : mg x = some (.int i (tkI K x)) := by
  obtain ⟨t, e⟩ := glo_nsIn c
  rw [tk_of e]
  exact PySem.W.mg_of KX G e
theorem strH (KX : K.In h) (G : h.Ns mainGlobals mg) {x z : Str} (c : (He.Fa.str x z).ok K = true) : mg x = some (.str z (tkI K x)) := by
  obtain ⟨t, e⟩ := glo_nsStr c
  rw [tk_ofS e]
  exact PySem.W.mg_of KX G e
theorem dvs_str (zs : List Str) : (zs.map He.Dv.str).map (He.Dv.v K) = zs.map V.str := by
  rw [List.map_map]
  rfl
theorem txtH (KX : K.In h) (G : h.Ns mainGlobals mg) (c : SaysY faL fnL tfL exA inL w h K) : Txt PySem.Challenge.pw_echolearn_k00_names_and_fractions K mg := by
  have cd : He.SaysD faL fnL K := c.x.t.d
  exact {
    f_len := He.free_ok KX G (cd.fact 0 (f := .free "len") rfl)
    f_abs := He.free_ok KX G (cd.fact 1 (f := .free "abs") rfl)
    f_isinstance := He.free_ok KX G (cd.fact 2 (f := .free "isinstance") rfl)
    f_all := He.free_ok KX G (cd.fact 3 (f := .free "all") rfl)
    f_int := He.free_ok KX G (cd.fact 4 (f := .free "int") rfl)
    f_str := He.free_ok KX G (cd.fact 5 (f := .free "str") rfl)
    f_list := He.free_ok KX G (cd.fact 6 (f := .free "list") rfl)
    f_tuple := He.free_ok KX G (cd.fact 7 (f := .free "tuple") rfl)
    f_bool := He.free_ok KX G (cd.fact 8 (f := .free "bool") rfl)
    f_dict := He.free_ok KX G (cd.fact 9 (f := .free "dict") rfl)
    f_range := He.free_ok KX G (cd.fact 10 (f := .free "range") rfl)
    f_repr := He.free_ok KX G (cd.fact 11 (f := .free "repr") rfl)
    f_reversed := He.free_ok KX G (cd.fact 12 (f := .free "reversed") rfl)
    f_divmod := He.free_ok KX G (cd.fact 13 (f := .free "divmod") rfl)
    f_super := He.free_ok KX G (cd.fact 14 (f := .free "super") rfl)
    f_ValueError := He.free_ok KX G (cd.fact 15 (f := .free "ValueError") rfl)
    f_LookupError := He.free_ok KX G (cd.fact 16 (f := .free "LookupError") rfl)
    f_RuntimeError := He.free_ok KX G (cd.fact 17 (f := .free "RuntimeError") rfl)
    g_gcd := PySem.W.mg_of KX G (He.eqO_ok (exH c (e := ex0) (List.mem_of_getElem? (i := 0) rfl)))
    c_MOST_TEXT := intH KX G (cd.fact 18 (f := .int "MOST_TEXT" 2000000) rfl)
    c_MOST_FIGURES := intH KX G (cd.fact 19 (f := .int "MOST_FIGURES" 4000) rfl)
    c_PIECE_FIGURES := intH KX G (cd.fact 20 (f := .int "PIECE_FIGURES" 60) rfl)
    c_PIECE := intH KX G (cd.fact 21 (f := .int "PIECE" 1000000000000000000000000000000000000000000000000000000000000) rfl)
    c_SHORT_BITS := intH KX G (cd.fact 22 (f := .int "SHORT_BITS" 12000) rfl)
    c_LETTERS := strH KX G (cd.fact 23 (f := .str "LETTERS" s_LETTERS) rfl)
    c_FIRST_SIGNS := strH KX G (cd.fact 24 (f := .str "FIRST_SIGNS" s_FIRST_SIGNS) rfl)
    c_WORD_SIGNS := strH KX G (cd.fact 25 (f := .str "WORD_SIGNS" s_WORD_SIGNS) rfl)
    c_LONGEST := intH KX G (cd.fact 26 (f := .int "LONGEST" 16) rfl)
    c_KEPT_WORDS := He.glo_ok KX G (cd.fact 27 (f := .glo "KEPT_WORDS") rfl)
    t_KEPT_WORDS := fun H => by have z := He.tupB_ok (x := "KEPT_WORDS") (vs := l_KEPT_WORDS.map He.Dv.str) (exH c (e := ex1) (List.mem_of_getElem? (i := 1) rfl)) H; rw [dvs_str] at z; exact z
    g_BadName := He.glo_ok KX G (cd.fact 28 (f := .glo "BadName") rfl)
    g_BadFraction := He.glo_ok KX G (cd.fact 29 (f := .glo "BadFraction") rfl)
    g_BadTable := He.glo_ok KX G (cd.fact 30 (f := .glo "BadTable") rfl)
    g_BadBook := He.glo_ok KX G (cd.fact 31 (f := .glo "BadBook") rfl)
    g_BadWorld := He.glo_ok KX G (cd.fact 32 (f := .glo "BadWorld") rfl)
    g_BadRow := He.glo_ok KX G (cd.fact 33 (f := .glo "BadRow") rfl)
    g_BadPaper := He.glo_ok KX G (cd.fact 34 (f := .glo "BadPaper") rfl)
    g_BadFoe := He.glo_ok KX G (cd.fact 35 (f := .glo "BadFoe") rfl)
    g_BadChooser := He.glo_ok KX G (cd.fact 36 (f := .glo "BadChooser") rfl)
    g_BadPlan := He.glo_ok KX G (cd.fact 37 (f := .glo "BadPlan") rfl)
    g_BadOffers := He.glo_ok KX G (cd.fact 38 (f := .glo "BadOffers") rfl)
    g_BadLog := He.glo_ok KX G (cd.fact 39 (f := .glo "BadLog") rfl)
    g_BadDraw := He.glo_ok KX G (cd.fact 40 (f := .glo "BadDraw") rfl)
    g_BadScript := He.glo_ok KX G (cd.fact 41 (f := .glo "BadScript") rfl)
    g_Unlike := He.glo_ok KX G (cd.fact 42 (f := .glo "Unlike") rfl)
    g_TooMany := He.glo_ok KX G (cd.fact 43 (f := .glo "TooMany") rfl)
    g_NoSuch := He.glo_ok KX G (cd.fact 44 (f := .glo "NoSuch") rfl)
    g_Refused := He.glo_ok KX G (cd.fact 45 (f := .glo "Refused") rfl)
    g_OutOfTurn := He.glo_ok KX G (cd.fact 46 (f := .glo "OutOfTurn") rfl)
    g_Ended := He.glo_ok KX G (cd.fact 47 (f := .glo "Ended") rfl)
    e_BadName := initB_ok (d := in_BadName) (c.ini in_BadName (List.mem_of_getElem? (i := 0) rfl)) (exH c (e := ex3) (List.mem_of_getElem? (i := 3) rfl)) (clsB_ok (exH c (e := ex2) (List.mem_of_getElem? (i := 2) rfl))).oex
    x_BadName := clsB_ok (exH c (e := ex2) (List.mem_of_getElem? (i := 2) rfl))
    e_BadFraction := initB_ok (d := in_BadFraction) (c.ini in_BadFraction (List.mem_of_getElem? (i := 1) rfl)) (exH c (e := ex5) (List.mem_of_getElem? (i := 5) rfl)) (clsB_ok (exH c (e := ex4) (List.mem_of_getElem? (i := 4) rfl))).oex
    x_BadFraction := clsB_ok (exH c (e := ex4) (List.mem_of_getElem? (i := 4) rfl))
    e_TooMany := initB_ok (d := in_TooMany) (c.ini in_TooMany (List.mem_of_getElem? (i := 2) rfl)) (exH c (e := ex7) (List.mem_of_getElem? (i := 7) rfl)) (clsB_ok (exH c (e := ex6) (List.mem_of_getElem? (i := 6) rfl))).oex
    x_TooMany := clsB_ok (exH c (e := ex6) (List.mem_of_getElem? (i := 6) rfl))
    dig := ⟨(exH c (e := ex8) (List.mem_of_getElem? (i := 8) rfl)), He.eqO_ok (exH c (e := ex9) (List.mem_of_getElem? (i := 9) rfl))⟩
    exm := fun a ha b hb => of_decide_eq_true (List.all_eq_true.mp (List.all_eq_true.mp (exH c (e := ex10) (List.mem_of_getElem? (i := 10) rfl)) a ha) b hb)
    kitB := fun a ha b hb => of_decide_eq_true (List.all_eq_true.mp (List.all_eq_true.mp (exH c (e := ex11) (List.mem_of_getElem? (i := 11) rfl)) a ha) b hb)
    kit := fun a ha b hb => of_decide_eq_true (List.all_eq_true.mp (List.all_eq_true.mp (exH c (e := ex12) (List.mem_of_getElem? (i := 12) rfl)) a ha) b hb)
    g_lowest := He.glo_ok KX G (cd.fact 48 (f := .glo "lowest") rfl)
    k_lowest := (funH cd (d := hd_lowest) (List.mem_of_getElem? (i := 0) rfl) "lowest").kp
    F_lowest := funH cd (d := hd_lowest) (List.mem_of_getElem? (i := 0) rfl) "lowest"
    g_long_run := He.glo_ok KX G (cd.fact 49 (f := .glo "long_run") rfl)
    k_long_run := (funH cd (d := hd_long_run) (List.mem_of_getElem? (i := 1) rfl) "long_run").kp
    F_long_run := funH cd (d := hd_long_run) (List.mem_of_getElem? (i := 1) rfl) "long_run"
    g_heed := He.glo_ok KX G (cd.fact 50 (f := .glo "heed") rfl)
    k_heed := (funH cd (d := hd_heed) (List.mem_of_getElem? (i := 2) rfl) "heed").kp
    F_heed := funH cd (d := hd_heed) (List.mem_of_getElem? (i := 2) rfl) "heed"
    g_is_whole := He.glo_ok KX G (cd.fact 51 (f := .glo "is_whole") rfl)
    k_is_whole := (funH cd (d := hd_is_whole) (List.mem_of_getElem? (i := 3) rfl) "is_whole").kp
    F_is_whole := funH cd (d := hd_is_whole) (List.mem_of_getElem? (i := 3) rfl) "is_whole"
    g_is_figures := He.glo_ok KX G (cd.fact 52 (f := .glo "is_figures") rfl)
    k_is_figures := (funH cd (d := hd_is_figures) (List.mem_of_getElem? (i := 4) rfl) "is_figures").kp
    F_is_figures := funH cd (d := hd_is_figures) (List.mem_of_getElem? (i := 4) rfl) "is_figures"
    g_read_text := He.glo_ok KX G (cd.fact 53 (f := .glo "read_text") rfl)
    k_read_text := (funH cd (d := hd_read_text) (List.mem_of_getElem? (i := 5) rfl) "read_text").kp
    F_read_text := funH cd (d := hd_read_text) (List.mem_of_getElem? (i := 5) rfl) "read_text"
    g_read_number := He.glo_ok KX G (cd.fact 54 (f := .glo "read_number") rfl)
    k_read_number := (funH cd (d := hd_read_number) (List.mem_of_getElem? (i := 6) rfl) "read_number").kp
    F_read_number := funH cd (d := hd_read_number) (List.mem_of_getElem? (i := 6) rfl) "read_number"
    g_figures_of := He.glo_ok KX G (cd.fact 55 (f := .glo "figures_of") rfl)
    k_figures_of := (funH cd (d := hd_figures_of) (List.mem_of_getElem? (i := 7) rfl) "figures_of").kp
    F_figures_of := funH cd (d := hd_figures_of) (List.mem_of_getElem? (i := 7) rfl) "figures_of"
    g_number_text := He.glo_ok KX G (cd.fact 56 (f := .glo "number_text") rfl)
    k_number_text := (funH cd (d := hd_number_text) (List.mem_of_getElem? (i := 8) rfl) "number_text").kp
    F_number_text := funH cd (d := hd_number_text) (List.mem_of_getElem? (i := 8) rfl) "number_text"
    g_fraction := He.glo_ok KX G (cd.fact 57 (f := .glo "fraction") rfl)
    k_fraction := (funH cd (d := hd_fraction) (List.mem_of_getElem? (i := 9) rfl) "fraction").kp
    F_fraction := funH cd (d := hd_fraction) (List.mem_of_getElem? (i := 9) rfl) "fraction"
    g_told := He.glo_ok KX G (cd.fact 58 (f := .glo "told") rfl)
    k_told := (funH cd (d := hd_told) (List.mem_of_getElem? (i := 10) rfl) "told").kp
    F_told := funH cd (d := hd_told) (List.mem_of_getElem? (i := 10) rfl) "told"
    g_is_word := He.glo_ok KX G (cd.fact 59 (f := .glo "is_word") rfl)
    k_is_word := (funH cd (d := hd_is_word) (List.mem_of_getElem? (i := 11) rfl) "is_word").kp
    F_is_word := funH cd (d := hd_is_word) (List.mem_of_getElem? (i := 11) rfl) "is_word"
    g_is_name := He.glo_ok KX G (cd.fact 60 (f := .glo "is_name") rfl)
    k_is_name := (funH cd (d := hd_is_name) (List.mem_of_getElem? (i := 12) rfl) "is_name").kp
    F_is_name := funH cd (d := hd_is_name) (List.mem_of_getElem? (i := 12) rfl) "is_name"
    g_all_unlike := He.glo_ok KX G (cd.fact 61 (f := .glo "all_unlike") rfl)
    k_all_unlike := (funH cd (d := hd_all_unlike) (List.mem_of_getElem? (i := 13) rfl) "all_unlike").kp
    F_all_unlike := funH cd (d := hd_all_unlike) (List.mem_of_getElem? (i := 13) rfl) "all_unlike"
    g_names_of := He.glo_ok KX G (cd.fact 62 (f := .glo "names_of") rfl)
    k_names_of := (funH cd (d := hd_names_of) (List.mem_of_getElem? (i := 14) rfl) "names_of").kp
    F_names_of := funH cd (d := hd_names_of) (List.mem_of_getElem? (i := 14) rfl) "names_of"
    g_a_name := He.glo_ok KX G (cd.fact 63 (f := .glo "a_name") rfl)
    k_a_name := (funH cd (d := hd_a_name) (List.mem_of_getElem? (i := 15) rfl) "a_name").kp
    F_a_name := funH cd (d := hd_a_name) (List.mem_of_getElem? (i := 15) rfl) "a_name"
    g_unlike_names := He.glo_ok KX G (cd.fact 64 (f := .glo "unlike_names") rfl)
    k_unlike_names := (funH cd (d := hd_unlike_names) (List.mem_of_getElem? (i := 16) rfl) "unlike_names").kp
    F_unlike_names := funH cd (d := hd_unlike_names) (List.mem_of_getElem? (i := 16) rfl) "unlike_names"
    g_law_jar := He.glo_ok KX G (cd.fact 65 (f := .glo "_law_jar") rfl)
    k_law_jar := (funH cd (d := hd_law_jar) (List.mem_of_getElem? (i := 17) rfl) "_law_jar").kp
    F_law_jar := funH cd (d := hd_law_jar) (List.mem_of_getElem? (i := 17) rfl) "_law_jar"
    g_law_draw := He.glo_ok KX G (cd.fact 66 (f := .glo "_law_draw") rfl)
    k_law_draw := (funH cd (d := hd_law_draw) (List.mem_of_getElem? (i := 18) rfl) "_law_draw").kp
    F_law_draw := funH cd (d := hd_law_draw) (List.mem_of_getElem? (i := 18) rfl) "_law_draw"
    g_law_pick := He.glo_ok KX G (cd.fact 67 (f := .glo "_law_pick") rfl)
    k_law_pick := (funH cd (d := hd_law_pick) (List.mem_of_getElem? (i := 19) rfl) "_law_pick").kp
    F_law_pick := funH cd (d := hd_law_pick) (List.mem_of_getElem? (i := 19) rfl) "_law_pick"
    g_law_like := He.glo_ok KX G (cd.fact 68 (f := .glo "_law_like") rfl)
    k_law_like := (funH cd (d := hd_law_like) (List.mem_of_getElem? (i := 20) rfl) "_law_like").kp
    F_law_like := funH cd (d := hd_law_like) (List.mem_of_getElem? (i := 20) rfl) "_law_like"
    g_law_gcd := He.glo_ok KX G (cd.fact 69 (f := .glo "_law_gcd") rfl)
    k_law_gcd := (funH cd (d := hd_law_gcd) (List.mem_of_getElem? (i := 21) rfl) "_law_gcd").kp
    F_law_gcd := funH cd (d := hd_law_gcd) (List.mem_of_getElem? (i := 21) rfl) "_law_gcd"
    g_law_frac := He.glo_ok KX G (cd.fact 70 (f := .glo "_law_frac") rfl)
    k_law_frac := (funH cd (d := hd_law_frac) (List.mem_of_getElem? (i := 22) rfl) "_law_frac").kp
    F_law_frac := funH cd (d := hd_law_frac) (List.mem_of_getElem? (i := 22) rfl) "_law_frac"
    g_law_word := He.glo_ok KX G (cd.fact 71 (f := .glo "_law_word") rfl)
    k_law_word := (funH cd (d := hd_law_word) (List.mem_of_getElem? (i := 23) rfl) "_law_word").kp
    F_law_word := funH cd (d := hd_law_word) (List.mem_of_getElem? (i := 23) rfl) "_law_word"
    g_law_worn_word := He.glo_ok KX G (cd.fact 72 (f := .glo "_law_worn_word") rfl)
    k_law_worn_word := (funH cd (d := hd_law_worn_word) (List.mem_of_getElem? (i := 24) rfl) "_law_worn_word").kp
    F_law_worn_word := funH cd (d := hd_law_worn_word) (List.mem_of_getElem? (i := 24) rfl) "_law_worn_word"
    g_law_worn := He.glo_ok KX G (cd.fact 73 (f := .glo "_law_worn") rfl)
    k_law_worn := (funH cd (d := hd_law_worn) (List.mem_of_getElem? (i := 25) rfl) "_law_worn").kp
    F_law_worn := funH cd (d := hd_law_worn) (List.mem_of_getElem? (i := 25) rfl) "_law_worn"
    g_law_bad_number := He.glo_ok KX G (cd.fact 74 (f := .glo "_law_bad_number") rfl)
    k_law_bad_number := (funH cd (d := hd_law_bad_number) (List.mem_of_getElem? (i := 26) rfl) "_law_bad_number").kp
    F_law_bad_number := funH cd (d := hd_law_bad_number) (List.mem_of_getElem? (i := 26) rfl) "_law_bad_number"
    g_law_class := He.glo_ok KX G (cd.fact 75 (f := .glo "_law_class") rfl)
    k_law_class := (funH cd (d := hd_law_class) (List.mem_of_getElem? (i := 27) rfl) "_law_class").kp
    F_law_class := funH cd (d := hd_law_class) (List.mem_of_getElem? (i := 27) rfl) "_law_class"
    g_law_named := He.glo_ok KX G (cd.fact 76 (f := .glo "_law_named") rfl)
    k_law_named := (funH cd (d := hd_law_named) (List.mem_of_getElem? (i := 28) rfl) "_law_named").kp
    F_law_named := funH cd (d := hd_law_named) (List.mem_of_getElem? (i := 28) rfl) "_law_named"
    g_law_fault := He.glo_ok KX G (cd.fact 77 (f := .glo "_law_fault") rfl)
    k_law_fault := (funH cd (d := hd_law_fault) (List.mem_of_getElem? (i := 29) rfl) "_law_fault").kp
    F_law_fault := funH cd (d := hd_law_fault) (List.mem_of_getElem? (i := 29) rfl) "_law_fault"
    g_law_refused := He.glo_ok KX G (cd.fact 78 (f := .glo "_law_refused") rfl)
    k_law_refused := (funH cd (d := hd_law_refused) (List.mem_of_getElem? (i := 30) rfl) "_law_refused").kp
    F_law_refused := funH cd (d := hd_law_refused) (List.mem_of_getElem? (i := 30) rfl) "_law_refused"
    g_law_alphabet := He.glo_ok KX G (cd.fact 79 (f := .glo "_law_alphabet") rfl)
    k_law_alphabet := (funH cd (d := hd_law_alphabet) (List.mem_of_getElem? (i := 31) rfl) "_law_alphabet").kp
    F_law_alphabet := funH cd (d := hd_law_alphabet) (List.mem_of_getElem? (i := 31) rfl) "_law_alphabet"
    g_law_words_kept := He.glo_ok KX G (cd.fact 80 (f := .glo "_law_words_kept") rfl)
    k_law_words_kept := (funH cd (d := hd_law_words_kept) (List.mem_of_getElem? (i := 32) rfl) "_law_words_kept").kp
    F_law_words_kept := funH cd (d := hd_law_words_kept) (List.mem_of_getElem? (i := 32) rfl) "_law_words_kept"
    g_law_is_word := He.glo_ok KX G (cd.fact 81 (f := .glo "_law_is_word") rfl)
    k_law_is_word := (funH cd (d := hd_law_is_word) (List.mem_of_getElem? (i := 33) rfl) "_law_is_word").kp
    F_law_is_word := funH cd (d := hd_law_is_word) (List.mem_of_getElem? (i := 33) rfl) "_law_is_word"
    g_law_drawn_word := He.glo_ok KX G (cd.fact 82 (f := .glo "_law_drawn_word") rfl)
    k_law_drawn_word := (funH cd (d := hd_law_drawn_word) (List.mem_of_getElem? (i := 34) rfl) "_law_drawn_word").kp
    F_law_drawn_word := funH cd (d := hd_law_drawn_word) (List.mem_of_getElem? (i := 34) rfl) "_law_drawn_word"
    g_law_good_name := He.glo_ok KX G (cd.fact 83 (f := .glo "_law_good_name") rfl)
    k_law_good_name := (funH cd (d := hd_law_good_name) (List.mem_of_getElem? (i := 35) rfl) "_law_good_name").kp
    F_law_good_name := funH cd (d := hd_law_good_name) (List.mem_of_getElem? (i := 35) rfl) "_law_good_name"
    g_law_answers := He.glo_ok KX G (cd.fact 84 (f := .glo "_law_answers") rfl)
    k_law_answers := (funH cd (d := hd_law_answers) (List.mem_of_getElem? (i := 36) rfl) "_law_answers").kp
    F_law_answers := funH cd (d := hd_law_answers) (List.mem_of_getElem? (i := 36) rfl) "_law_answers"
    g_law_names_held := He.glo_ok KX G (cd.fact 85 (f := .glo "_law_names_held") rfl)
    k_law_names_held := (funH cd (d := hd_law_names_held) (List.mem_of_getElem? (i := 37) rfl) "_law_names_held").kp
    F_law_names_held := funH cd (d := hd_law_names_held) (List.mem_of_getElem? (i := 37) rfl) "_law_names_held"
    g_law_big := He.glo_ok KX G (cd.fact 86 (f := .glo "_law_big") rfl)
    k_law_big := (funH cd (d := hd_law_big) (List.mem_of_getElem? (i := 38) rfl) "_law_big").kp
    F_law_big := funH cd (d := hd_law_big) (List.mem_of_getElem? (i := 38) rfl) "_law_big"
    g_law_numbers_held := He.glo_ok KX G (cd.fact 87 (f := .glo "_law_numbers_held") rfl)
    k_law_numbers_held := (funH cd (d := hd_law_numbers_held) (List.mem_of_getElem? (i := 39) rfl) "_law_numbers_held").kp
    F_law_numbers_held := funH cd (d := hd_law_numbers_held) (List.mem_of_getElem? (i := 39) rfl) "_law_numbers_held"
    g_law_long_held := He.glo_ok KX G (cd.fact 88 (f := .glo "_law_long_held") rfl)
    k_law_long_held := (funH cd (d := hd_law_long_held) (List.mem_of_getElem? (i := 40) rfl) "_law_long_held").kp
    F_law_long_held := funH cd (d := hd_law_long_held) (List.mem_of_getElem? (i := 40) rfl) "_law_long_held"
    g_law := He.glo_ok KX G (cd.fact 89 (f := .glo "law") rfl)
    k_law := (funH cd (d := hd_law) (List.mem_of_getElem? (i := 41) rfl) "law").kp
    F_law := funH cd (d := hd_law) (List.mem_of_getElem? (i := 41) rfl) "law" }
theorem tbsH (c : SaysY faL fnL tfL exA inL w h K) {base : Heap} (tb : ∀ p ∈ tfL.map (He.cT K), TabB base mg p.1 p.2) : TBS K mg base := by
  refine ⟨fun x hx => tb _ (List.mem_map.mpr ⟨(x, none), ?_, rfl⟩), fun x hx y hy e => ?_⟩
  · exact (show TN.map (fun x => ((x, none) : He.Defn)) = tfL from rfl) ▸ List.mem_map_of_mem hx
  · have z : (!decide ((He.cT K (x, none)).2 = (He.cT K (y, none)).2) || decide (x = y)) = true := List.all_eq_true.mp (List.all_eq_true.mp (exH c (e := ex13) (List.mem_of_getElem? (i := 13) rfl)) x hx) y hy
    rw [decide_eq_true e] at z
    exact of_decide_eq_true z
theorem law_start (K : PySem.W.Frag) (H : Hp) (a : Addr) (ns : List Int) (hb : ∀ z ∈ ns, Builtin.Int.intBits z ≤ 1048576) (hT : ∀ p ∈ tfL.map (He.cT K), H p.2 = some (.tbl #[])) (hS : SqL K H a (ns.map V.int)) : sp_law K [.ref a] H (fun v _ => v = .bl true) fun _ _ _ => False :=
  sp1_i ⟨a, ns, rfl, hS, fun x hx => hT _ (List.mem_map.mpr ⟨(x, none), (show TN.map (fun x => ((x, none) : He.Defn)) = tfL from rfl) ▸ List.mem_map_of_mem hx, rfl⟩), fun _ => rfl⟩
end
end K00
open PySem PySem.W PySem.Calls PyProof.Rows L2 EL NdefX
theorem PySem.Challenge.cw_echolearn_k00_names_and_fractions_holds : PySem.Challenge.rw_echolearn_k00_names_and_fractions.Holds := by
  w_on; o_law
  refine HandSHeadRun.head_imp (r := OpenLaw.row PySem.Challenge.rw_echolearn_k00_names_and_fractions) (q := K00.qv) (H := K00.hk) (ob := K00.ob) (M := 30000) (loose := K00.loose) (d := HandSHeadRun.topDef (OpenLaw.row PySem.Challenge.rw_echolearn_k00_names_and_fractions).prog 79) (kwd := []) K00.ob_eq K00.run (by kernel_rfl) (by kernel_rfl) (by kernel_rfl) (by rfl) (by first | assumption | decide +kernel) (by decide +kernel) ⟨rfl, rfl, rfl, rfl, rfl, by decide +kernel⟩ ?hw ?hc
  case hw => w_witness2
  case hc =>
    refine walk_G (l := PySem.Challenge.rw_echolearn_k00_names_and_fractions) (n := 63) (k := 14) (x := "script") rfl (by decide) (by kernel_rfl) ⟨rfl, by decide, by decide⟩ ?_
    intro w mg fa h Y G hmg0
    obtain ⟨K, KX, c⟩ := Y
    have T := K00.txtH KX G c
    have en : (HandSHeadRun.topDef (OpenLaw.row PySem.Challenge.rw_echolearn_k00_names_and_fractions).prog 79).name = ("law" : PySem.Str) := by kernel_rfl
    rw [en, T.g_law] at hmg0
    cases hmg0
    refine ⟨K, fdOf K "law", K00.tfL.map (He.cT K), K00.sp_law K, KX, fun p hp => ?_, fun p hp => ?_, fun p hp => ?_, ?_, fun H a ns _ hb hT hS => ?_, fun base hK hN tb => K00.ok_law T (K00.tbsH c tb)⟩
    · obtain ⟨x, hx, rfl⟩ := List.mem_map.mp hp
      exact c.x.empty x hx
    · obtain ⟨x, hx, rfl⟩ := List.mem_map.mp hp
      exact c.x.out x hx
    · obtain ⟨x, hx, rfl⟩ := List.mem_map.mp hp
      exact PySem.W.codeHd_of_K KX (c.x.hd x hx)
    · have b := FunD.bindsA (ps := ["script"]) T.F_law fun _ _ _ _ _ _ us hl => match us, hl with | [_], _ => rfl
      exact fun s v => b s [v] rfl
    · exact K00.law_start K H a ns hb hT hS

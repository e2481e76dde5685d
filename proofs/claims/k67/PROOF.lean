import PyProof.Rows.All
import Wide.All
import OpenK.AllK
import Wide.FinOn
import HandS.ForMost
import HandS.Exc
import HandS.TryOnly
import HandS.ExcOwn
import HandS.WordsExc
import HandS.Wide
import HandS.IsInst
import HandS.Conv
import HandS.RevRange
import HandS.Evl
import HandS.More
import HandS.Style
import HandS.ExcIs
import HandS.ExcInit
import HandS.ExcField
import HandS.Defaults
import HandS.StrMore
import HandS.Text
import HandS.Codes
import HandS.Flt
import HandS.Deep
import HandS.HotCalls
import PySem.Challenge.RW_rootspan_k67_no_polynomial
set_option Elab.async false
set_option linter.all false
set_option maxRecDepth 100000
set_option maxHeartbeats 4000000
set_option exponentiation.threshold 100000
set_option linter.all false
set_option maxRecDepth 100000
set_option maxHeartbeats 4000000
namespace RB
open PySem PySem.Spec PyProof.Rows L2
open Evl (Ex rLenS rListS rMax2 tCut pss_cut)

/-! ### the readings' names -/
def rIAdd : R2 := rI0 fun i j => .int (i + j)
def rISub : R2 := rI0 fun i j => .int (i - j)
/-- * of factors that are not too wide, or of any one and a small one -/
def CMulX (i j : Int) : Prop := CMulW i j ∨ j.natAbs < 2 ^ 60
def rMul : R2 := rI CMulX fun i j => .int (i * j)
def rMod : R2 := rI (fun _ j => j ≠ 0) fun i j => .int (i.fmod j)
def CDivA (_ j : Int) : Prop := j ≠ 0 ∧ j.natAbs.log2 < 9000
/-- // by a great divisor, too, where the two are nearly as long -/
def CDivX (i j : Int) : Prop := j ≠ 0 ∧ (j.natAbs.log2 < 9000 ∨ i.natAbs.log2 ≤ j.natAbs.log2 + 4400)
theorem noPylongX {i j : Int} (h : CDivX i j) : Builtin.divisionGoesByPylong i j = false := by
  rcases h.2 with h2 | h2
  · exact PyProof.noPylong_of_log2 h2
  · have hj : (j == 0) = false := by
      rw [beq_eq_false_iff_ne]; exact h.1
    have key : ¬ ((if i == 0 then 0 else i.natAbs.log2 / 30 + 1) > (if j == 0 then 0 else j.natAbs.log2 / 30 + 1) + 150) := by
      rw [hj]
      split
      · omega
      · simp only [Bool.false_eq_true, if_false]
        omega
    show (_ && decide ((if i == 0 then 0 else i.natAbs.log2 / 30 + 1) > (if j == 0 then 0 else j.natAbs.log2 / 30 + 1) + 150)) = false
    rw [decide_eq_false key, Bool.and_false]
def rDiv : R2 := rI CDivX fun i j => .int (i.fdiv j)
def rPow : R2 := rI CPow fun i j => .int (i ^ j.toNat)
def rLt : R2 := rI0 fun i j => .bl (decide (i < j))
def rLe : R2 := rI0 fun i j => .bl (decide (i ≤ j))
def rGt : R2 := rI0 fun i j => .bl (decide (j < i))
def rGe : R2 := rI0 fun i j => .bl (decide (j ≤ i))
def rIsN : R2 := fun x y H Q => y = .non ∧ Q (.bl (decide (x = .non))) H
def rNotN : R2 := fun x y H Q => y = .non ∧ Q (.bl (!decide (x = .non))) H
def rNeg : V → Hp → VK → Prop := rU fun i => .int (-i)
def rAbs : List V → Hp → VK → Prop := fun xs H Q => ∃ i, xs = [.int i] ∧ Q (.int (if i < 0 then -i else i)) H
def rMin2 : List V → Hp → VK → Prop := fun xs H Q => ∃ i j, xs = [.int i, .int j] ∧ Q (.int (if j < i then j else i)) H
def rInt1 : List V → Hp → VK → Prop := fun xs H Q => (∃ i, xs = [.int i] ∧ Q (.int i) H) ∨ ∃ k, xs = [.bl k] ∧ Q (.int (if k then 1 else 0)) H
def rAddS : R2 := fun x y H Q => ∃ i j, x = .str i ∧ y = .str j ∧ i.length + j.length ≤ sizeLine ∧ Q (.str (i ++ j)) H
def rLenStr : List V → Hp → VK → Prop := fun xs H Q => ∃ z, xs = [.str z] ∧ z.length ≤ sizeLine ∧ Q (.int z.length) H
def rStrInt : List V → Hp → VK → Prop := fun xs H Q => ∃ i, xs = [.int i] ∧ i.natAbs.log2 < 1920 ∧ Q (.str (toString i)) H
def rInsert : V → List V → Hp → VK → Prop := fun x vs H Q => ∃ (l : Addr) (xs : List V) (i : Int) (y : V), x = .ref l ∧ vs = [.int i, y] ∧ H l = some (.lst xs) ∧ xs.length < sizeLine ∧ 0 ≤ i ∧ i < 2 ^ 63 ∧ Q .non (upd H l (.lst (xs.take i.toNat ++ [y] ++ xs.drop i.toNat)))
section
variable {X : Cx}
theorem op_fdivA : OpR X (binaryOp .FloorDiv) rDiv := opI fun i j _ _ _ _ _ hc q => floordiv_int hc.1 q (.inl (noPylongX hc))
theorem op_mulX : OpR X (binaryOp .Mult) rMul := opI fun _ _ _ _ _ _ _ hc q => mul_int q (hc.elim CMulW.ok fun h => IntMulOk.of_right (intBits_le_64 (by omega) (by omega)))
theorem op_isN1 : OpR X (compareOp .Is) rIsN := op_isN
theorem op_notN1 : OpR X (compareOp .IsNot) rNotN := op_notN
end

/-! ### heaps -/
def Exb (l : Addr) (H H' : Hp) : Prop := ∀ a, a ≠ l → ∀ o, H a = some o → H' a = some o
theorem _root_.Evl.Ex.mutb {H0 H H' : Hp} {l : Addr} (e : Ex H0 H) (b : Exb l H H') (f : H0 l = none) : Ex H0 H' := fun a o h => b a (ne_of_none h f) o (e a o h)
theorem Exb.trans {l : Addr} {H H1 H2 : Hp} (a : Exb l H H1) (b : Exb l H1 H2) : Exb l H H2 := fun c n o h => b c n o (a c n o h)
theorem Exb.ex {l : Addr} {H H1 H2 : Hp} (a : Exb l H H1) (b : Ex H1 H2) : Exb l H H2 := fun c n o h => b c o (a c n o h)
theorem _root_.Evl.Ex.exb {l : Addr} {H H1 H2 : Hp} (a : Ex H H1) (b : Exb l H1 H2) : Exb l H H2 := fun c n o h => b c n o (a c o h)
/-- a list laid anew -/
theorem newL {H : Hp} {xs : List V} {Q : VK} (k : ∀ p H', H p = none → Ex H H' → H' p = some (.lst xs) → Q (.ref p) H') : ∀ p, H p = none → Q (.ref p) (upd H p (.lst xs)) :=
  fun p hp => k p _ hp (Evl.Ex.new hp) upd_same
theorem newT {H : Hp} {xs : List V} {Q : VK} (k : ∀ p H', H p = none → Ex H H' → H' p = some (.tup xs) → Q (.ref p) H') : ∀ p, H p = none → Q (.ref p) (upd H p (.tup xs)) :=
  fun p hp => k p _ hp (Evl.Ex.new hp) upd_same
/-- an object changed -/
theorem mutL {H : Hp} {l : Addr} {o : HO} {G : Hp → Prop} (k : ∀ H', Exb l H H' → H' l = some o → G H') : G (upd H l o) :=
  k _ (fun a n o h => by rw [upd_ne n]; exact h) upd_same
theorem _root_.Evl.Ex.free {H H' : Hp} (e : Ex H H') {p : Addr} (h : H' p = none) : H p = none := Evl.fresh_back e h
theorem _root_.Evl.Ex.l {K : PySem.W.Frag} {H H' : Hp} {a : Addr} {xs : List V} (e : Ex H H') (h : SqL K H a xs) : SqL K H' a xs := Evl.ex_l e h
theorem SqL.inj {K : PySem.W.Frag} {H : Hp} {a : Addr} {xs : List V} (h : H a = some (.lst xs)) : SqL K H a xs := .inl (.inl h)

def LstK (Q : VK) : List V → Hp → Prop := fun xs H1 => xs.length ≤ sizeLine ∧ ∀ p, H1 p = none → Q (.ref p) (upd H1 p (.lst xs))
def TupK (Q : VK) : List V → Hp → Prop := fun xs H1 => xs.length ≤ sizeLine ∧ ∀ p, H1 p = none → Q (.ref p) (upd H1 p (.tup xs))
theorem small0 {n : Nat} (h : n ≤ 16777216) : n ≤ sizeLine := by rw [sizeLine_eq]; exact h
/-! ### readings, step by step -/
section
variable {K : PySem.W.Frag} {σ : L2.St} {H : Hp} {Q : VK} {D : Ends} {ta tb te to ti : TE} {t u : TS} {tt t1 t2 : TT} {g : TG}
theorem r_seq (h : t { D with nx := u D } σ H) : tSeq t u D σ H := h
theorem r_next (h : D.nx σ H) : tNext D σ H := h
theorem r_var {i : Nat} {v : V} (h : σ[i]? = some (some v)) (q : Q v H) : tVar i σ H Q := ⟨v, h, q⟩
theorem r_c {v : V} (q : Q v H) : tC v σ H Q := q
theorem r_op {r : R2} (h : ta σ H fun x H1 => tb σ H1 fun y H2 => r x y H2 Q) : tOp r ta tb σ H Q := h
theorem r_un {r : V → Hp → VK → Prop} (h : ta σ H fun x H1 => r x H1 Q) : tUn r ta σ H Q := h
theorem r_add {i j : Int} (q : Q (.int (i + j)) H) : rIAdd (.int i) (.int j) H Q := ⟨i, j, rfl, rfl, q⟩
theorem r_sub {i j : Int} (q : Q (.int (i - j)) H) : rISub (.int i) (.int j) H Q := ⟨i, j, rfl, rfl, q⟩
theorem r_mul {i j : Int} (c : CMulW i j) (q : Q (.int (i * j)) H) : rMul (.int i) (.int j) H Q := ⟨i, j, rfl, rfl, .inl c, q⟩
theorem r_mulR {i j : Int} (c : j.natAbs < 2 ^ 60) (q : Q (.int (i * j)) H) : rMul (.int i) (.int j) H Q := ⟨i, j, rfl, rfl, .inr c, q⟩
theorem r_mod {i j : Int} (c : j ≠ 0) (q : Q (.int (i.fmod j)) H) : rMod (.int i) (.int j) H Q := ⟨i, j, rfl, rfl, c, q⟩
theorem r_div {i j : Int} (c : CDivA i j) (q : Q (.int (i.fdiv j)) H) : rDiv (.int i) (.int j) H Q := ⟨i, j, rfl, rfl, ⟨c.1, .inl c.2⟩, q⟩
theorem r_divX {i j : Int} (c : CDivX i j) (q : Q (.int (i.fdiv j)) H) : rDiv (.int i) (.int j) H Q := ⟨i, j, rfl, rfl, c, q⟩
theorem r_pow {i j : Int} (c : CPow i j) (q : Q (.int (i ^ j.toNat)) H) : rPow (.int i) (.int j) H Q := ⟨i, j, rfl, rfl, c, q⟩
theorem r_lt {i j : Int} (q : Q (.bl (decide (i < j))) H) : rLt (.int i) (.int j) H Q := ⟨i, j, rfl, rfl, q⟩
theorem r_le {i j : Int} (q : Q (.bl (decide (i ≤ j))) H) : rLe (.int i) (.int j) H Q := ⟨i, j, rfl, rfl, q⟩
theorem r_gt {i j : Int} (q : Q (.bl (decide (j < i))) H) : rGt (.int i) (.int j) H Q := ⟨i, j, rfl, rfl, q⟩
theorem r_ge {i j : Int} (q : Q (.bl (decide (j ≤ i))) H) : rGe (.int i) (.int j) H Q := ⟨i, j, rfl, rfl, q⟩
theorem r_neg {i : Int} (q : Q (.int (-i)) H) : rNeg (.int i) H Q := ⟨i, rfl, q⟩
theorem d_int (i j : Int) : decide (V.int i = V.int j) = decide (i = j) := by
  by_cases h : i = j
  · rw [h]; simp
  · rw [decide_eq_false h, decide_eq_false (fun z => h (V.int.inj z))]
theorem d_bl (i j : Bool) : decide (V.bl i = V.bl j) = decide (i = j) := by
  by_cases h : i = j
  · rw [h]; simp
  · rw [decide_eq_false h, decide_eq_false (fun z => h (V.bl.inj z))]
theorem d_str (i j : Str) : decide (V.str i = V.str j) = decide (i = j) := by
  by_cases h : i = j
  · rw [h]; simp
  · rw [decide_eq_false h, decide_eq_false (fun z => h (V.str.inj z))]
theorem r_eqI {i j : Int} (q : Q (.bl (decide (i = j))) H) : rEq (.int i) (.int j) H Q := ⟨rfl, by rw [d_int]; exact q⟩
theorem r_neI {i j : Int} (q : Q (.bl (!decide (i = j))) H) : rNe (.int i) (.int j) H Q := ⟨rfl, by rw [d_int]; exact q⟩
theorem r_eqB {i j : Bool} (q : Q (.bl (decide (i = j))) H) : rEq (.bl i) (.bl j) H Q := ⟨rfl, by rw [d_bl]; exact q⟩
theorem r_eqS {i j : Str} (q : Q (.bl (decide (i = j))) H) : rEq (.str i) (.str j) H Q := ⟨rfl, by rw [d_str]; exact q⟩
theorem r_neS {i j : Str} (q : Q (.bl (!decide (i = j))) H) : rNe (.str i) (.str j) H Q := ⟨rfl, by rw [d_str]; exact q⟩
theorem r_isN {x : V} (q : Q (.bl (decide (x = .non))) H) : rIsN x .non H Q := ⟨rfl, q⟩
theorem r_notN {x : V} (q : Q (.bl (!decide (x = .non))) H) : rNotN x .non H Q := ⟨rfl, q⟩
theorem r_ixL {p : Addr} {i : Int} {xs : List V} {v : V} (h : SqL K H p xs) (a : atI xs i = some v) (q : Q v H) : rIxL K (.ref p) (.int i) H Q := ⟨p, xs, i, v, rfl, rfl, h, a, q⟩
theorem r_ixT {p : Addr} {i : Int} {xs : List V} {v : V} (h : SqT K H p xs) (a : atI xs i = some v) (q : Q v H) : rIxT K (.ref p) (.int i) H Q := ⟨p, xs, i, v, rfl, rfl, h, a, q⟩
theorem r_cons {ta : TE} {tr : TA} {Q : List V → Hp → Prop} (h : ta σ H fun x H1 => tr σ H1 fun xs H2 => Q (x :: xs) H2) : tCons ta tr σ H Q := h
theorem r_nil {Q : List V → Hp → Prop} (h : Q [] H) : tNil σ H Q := h
theorem r_cb {r : List V → Hp → VK → Prop} {ta : TA} (h : ta σ H fun vs H1 => r vs H1 Q) : tCB r ta σ H Q := h
theorem r_abs {i : Int} (q : Q (.int (if i < 0 then -i else i)) H) : rAbs [.int i] H Q := ⟨i, rfl, q⟩
theorem r_max2 {i j : Int} (q : Q (.int (if j > i then j else i)) H) : rMax2 [.int i, .int j] H Q := ⟨i, j, rfl, q⟩
theorem r_min2 {i j : Int} (q : Q (.int (if j < i then j else i)) H) : rMin2 [.int i, .int j] H Q := ⟨i, j, rfl, q⟩
theorem r_len {p : Addr} {xs : List V} (h : SqL K H p xs) (q : Q (.int xs.length) H) : rLenS K [.ref p] H Q := ⟨p, xs, rfl, .inl h, q⟩
theorem r_lenT {p : Addr} {xs : List V} (h : SqT K H p xs) (q : Q (.int xs.length) H) : rLenS K [.ref p] H Q := ⟨p, xs, rfl, .inr h, q⟩
theorem r_list {p : Addr} {xs : List V} (h : SqL K H p xs) (q : ∀ l H', H l = none → Ex H H' → H' l = some (.lst xs) → Q (.ref l) H') : rListS K [.ref p] H Q := ⟨p, xs, rfl, .inl h, newL q⟩
theorem r_intI {i : Int} (q : Q (.int i) H) : rInt1 [.int i] H Q := .inl ⟨i, rfl, q⟩
theorem r_intB {b : Bool} (q : Q (.int (if b then 1 else 0)) H) : rInt1 [.bl b] H Q := .inr ⟨b, rfl, q⟩
theorem r_call {sp : Sp} {E : XK} {ta : TA} (h : ta σ H fun vs H1 => sp vs H1 Q E) : tCall sp [] E ta σ H Q := by
  show ta σ H fun vs H1 => sp (vs ++ []) H1 Q E
  have e : (fun vs H1 => sp (vs ++ []) H1 Q E) = fun (vs : List V) H1 => sp vs H1 Q E := by
    funext vs H1; rw [List.append_nil]
  rw [e]; exact h
theorem r_lst {ta : TA} (h : ta σ H (LstK Q)) : tLst ta σ H Q := h
theorem r_lstK {xs : List V} (k : ∀ p H', H p = none → Ex H H' → H' p = some (.lst xs) → Q (.ref p) H') (hz : xs.length ≤ 16777216 := by simp) : LstK Q xs H := ⟨small0 hz, newL k⟩
theorem r_tup {ta : TA} (h : ta σ H (TupK Q)) : tTup ta σ H Q := h
theorem r_tupK {xs : List V} (k : ∀ p H', H p = none → Ex H H' → H' p = some (.tup xs) → Q (.ref p) H') (hz : xs.length ≤ 16777216 := by simp) : TupK Q xs H := ⟨small0 hz, newT k⟩
theorem r_asg (h : te σ H fun x H1 => g x σ H1 D.nx) : tAsg te g D σ H := h
theorem r_gn {i : Nat} {v : V} {Q : L2.St → Hp → Prop} (h : Q (σ.set i (some v)) H) : gName i v σ H Q := h
theorem r_ret (h : te σ H D.rt) : tRet te D σ H := h
theorem r_drop (h : te σ H fun _ H1 => D.nx σ H1) : tDrop te D σ H := h
theorem r_ifS (h : tt σ H fun b H1 => if b = true then t D σ H1 else u D σ H1) : tIfS tt t u D σ H := h
theorem r_test {Q : Bool → Hp → Prop} (h : te σ H fun x H1 => ∃ k, x = .bl k ∧ Q k H1) : tTest te σ H Q := h
theorem r_B {Q : Bool → Hp → Prop} (h : te σ H fun x H1 => ∃ k, x = .bl k ∧ Q k H1) : tB te σ H Q := h
theorem r_bl {k : Bool} {Q : Bool → Prop} (h : Q k) : ∃ k', V.bl k = .bl k' ∧ Q k' := ⟨k, rfl, h⟩
theorem r_and {Q : Bool → Hp → Prop} (h : t1 σ H fun c H1 => if c = true then t2 σ H1 Q else Q false H1) : tAnd t1 t2 σ H Q := h
theorem r_or {Q : Bool → Hp → Prop} (h : t1 σ H fun c H1 => if c = true then Q true H1 else t2 σ H1 Q) : tOr t1 t2 σ H Q := h
theorem r_not {Q : Bool → Hp → Prop} (h : tt σ H fun c H1 => Q (!c) H1) : tNot tt σ H Q := h
theorem r_andV (h : ta σ H fun x H1 => ∃ c, x = .bl c ∧ if c = true then tb σ H1 Q else Q (.bl false) H1) : tAndV ta tb σ H Q := h
theorem r_orV (h : ta σ H fun x H1 => ∃ c, x = .bl c ∧ if c = true then Q (.bl true) H1 else tb σ H1 Q) : tOrV ta tb σ H Q := h
theorem r_notV (h : ta σ H fun x H1 => ∃ c, x = .bl c ∧ Q (.bl (!c)) H1) : tNotV ta σ H Q := h
theorem r_if (h : tt σ H fun c H1 => if c = true then ta σ H1 Q else tb σ H1 Q) : tIf tt ta tb σ H Q := h
theorem r_bm {T : String} {r : V → List V → Hp → VK → Prop} {ta : TA} (h : to σ H fun x H1 => tyV K T x H1 ∧ ta σ H1 fun xs H2 => r x xs H2 Q) : tBM K T r to ta σ H Q := h
theorem r_bm0 {T : String} {r : V → List V → Hp → VK → Prop} (h : to σ H fun x H1 => tyV K T x H1 ∧ r x [] H1 Q) : tBM0 K T r to σ H Q := h
theorem r_append {l : Addr} {xs : List V} {y : V} (h : H l = some (.lst xs)) (z : xs.length < sizeLine) (q : ∀ H', Exb l H H' → H' l = some (.lst (xs ++ [y])) → Q .non H') : rAppend (.ref l) [y] H Q :=
  ⟨l, xs, y, rfl, rfl, h, z, mutL q⟩
theorem r_pop {l : Addr} {xs : List V} {y : V} (h : H l = some (.lst xs)) (z : xs[xs.length - 1]? = some y) (q : ∀ H', Exb l H H' → H' l = some (.lst xs.dropLast) → Q y H') : rPop (.ref l) [] H Q :=
  ⟨l, xs, y, rfl, rfl, h, z, mutL q⟩
theorem r_insert {l : Addr} {xs : List V} {y : V} {i : Int} (h : H l = some (.lst xs)) (z : xs.length < sizeLine) (h0 : 0 ≤ i) (h1 : i < 2 ^ 63) (q : ∀ H', Exb l H H' → H' l = some (.lst (xs.take i.toNat ++ [y] ++ xs.drop i.toNat)) → Q .non H') : rInsert (.ref l) [.int i, y] H Q :=
  ⟨l, xs, i, y, rfl, rfl, h, z, h0, h1, mutL q⟩
theorem tyL {p : Addr} {xs : List V} (h : H p = some (.lst xs)) : tyV K "list" (.ref p) H := .inl ⟨rfl, _, .inl (.inl h)⟩
theorem r_ty {T : String} {x : V} {B : Prop} (h : tyV K T x H) (q : B) : tyV K T x H ∧ B := ⟨h, q⟩
theorem r_sub_ {ts : TSet} {v : V} {Q : L2.St → Hp → Prop} (h : to σ H fun o H1 => ti σ H1 fun i H2 => ts o i v H2 fun H3 => Q σ H3) : gSub to ti ts v σ H Q := h
theorem r_setL {p : Addr} {xs : List V} {k : Int} {j : Nat} {v : V} {Q : Hp → Prop} (h : H p = some (.lst xs)) (hk : ixN xs.length k = some j) (q : ∀ H', Exb p H H' → H' p = some (.lst (xs.set j v)) → Q H') : rSetL (.ref p) (.int k) v H Q :=
  ⟨p, xs, k, j, rfl, rfl, h, hk, mutL q⟩
theorem r_cat {l b : Addr} {xs zs : List V} (h1 : H l = some (.lst xs)) (h2 : H b = some (.lst zs)) (z : xs.length + zs.length ≤ sizeLine) (q : ∀ p H', H p = none → Ex H H' → H' p = some (.lst (xs ++ zs)) → Q (.ref p) H') : rCat (.ref l) (.ref b) H Q :=
  ⟨l, b, xs, zs, rfl, rfl, h1, h2, z, newL q⟩
theorem flat_rep {α : Type} (x : α) : ∀ n : Nat, (List.replicate n [x]).flatten = List.replicate n x
  | 0 => rfl
  | n + 1 => by rw [List.replicate_succ, List.flatten_cons, flat_rep x n, List.replicate_succ]; rfl
/-- [x] * k -/
theorem r_rep1 {l : Addr} {x : V} {k : Int} (h1 : H l = some (.lst [x])) (z : k.toNat ≤ 1000000) (q : ∀ p H', H p = none → Ex H H' → H' p = some (.lst (List.replicate k.toNat x)) → Q (.ref p) H')  (h0 : -(2 ^ 63) ≤ k := by omega) : rRep (.ref l) (.int k) H Q :=
  ⟨l, k, [x], rfl, rfl, h1, h0, by omega, by
    show 1 * k.toNat ≤ sizeLine
    rw [Nat.one_mul]
    exact Nat.le_trans z (by decide), newL fun p H' a b c => q p H' a b (by rw [flat_rep] at c; exact c)⟩
theorem r_sl {r : V → Option Int → Option Int → Hp → VK → Prop} {tl th : TO} (h : te σ H fun x H1 => tl σ H1 fun l H2 => th σ H2 fun u H3 => r x l u H3 Q) : tSl r te tl th σ H Q := h
theorem r_part {Q : Option Int → Hp → Prop} (h : te σ H fun x H1 => ∃ i, x = .int i ∧ Q (some i) H1) : tPart te σ H Q := h
theorem r_int {i : Int} {Q : Int → Prop} (h : Q i) : ∃ j, V.int i = .int j ∧ Q j := ⟨i, rfl, h⟩
theorem r_nopart {Q : Option Int → Hp → Prop} (h : Q none H) : tNoPart σ H Q := h
theorem r_slL {a : Addr} {xs : List V} {lo hi : Option Int} (h : SqL K H a xs) (q : ∀ p H', H p = none → Ex H H' → H' p = some (.lst (cutV xs lo hi)) → Q (.ref p) H') : rSlL K (.ref a) lo hi H Q := ⟨a, xs, rfl, h, newL q⟩
theorem r_par {i j : Nat} {ta : TA} (h : ta σ H fun vs H1 => ∃ v w, vs = [v, w] ∧ D.nx ((σ.set i (some v)).set j (some w)) H1) : tPar i j ta D σ H := h
theorem r_par2 {i j : Nat} {v w : V} (h : D.nx ((σ.set i (some v)).set j (some w)) H) : ∃ v' w', [v, w] = [v', w'] ∧ D.nx ((σ.set i (some v')).set j (some w')) H := ⟨v, w, rfl, h⟩
end
/-- a truth that is decided, both ways -/
theorem ite_d {p A B : Prop} [Decidable p] (h1 : p → A) (h2 : ¬ p → B) : if decide p = true then A else B := by
  by_cases h : p
  · rw [if_pos (decide_eq_true h)]; exact h1 h
  · rw [if_neg (by rw [decide_eq_false h]; decide)]; exact h2 h
theorem ite_nd {p A B : Prop} [Decidable p] (h1 : ¬ p → A) (h2 : p → B) : if (!decide p) = true then A else B := by
  by_cases h : p
  · rw [if_neg (by rw [decide_eq_true h]; decide)]; exact h2 h
  · rw [if_pos (by rw [decide_eq_false h]; rfl)]; exact h1 h
theorem ite_b {b : Bool} {A B : Prop} (h1 : b = true → A) (h2 : b = false → B) : if b = true then A else B := by
  cases b with
  | true => rw [if_pos rfl]; exact h1 rfl
  | false => rw [if_neg (by decide)]; exact h2 rfl

theorem r_isi {K : PySem.W.Frag} {H : Hp} {Q : VK} {x c : V} {t u : Value} {b : Bool} (ht : TyX K H x t) (hc : ClsV c u) (hk : PySem.W.kitOne K t u = some b) (q : Q (.bl b) H) : rIsi K [x, c] H Q := ⟨x, c, t, u, b, rfl, hc, ht, hk, q⟩
theorem iteD {p A B : Prop} [Decidable p] (h : p) (a : A) : if decide p = true then A else B := by rw [if_pos (decide_eq_true h)]; exact a
theorem iteDF {p A B : Prop} [Decidable p] (h : ¬ p) (a : B) : if decide p = true then A else B := by rw [if_neg (by rw [decide_eq_false h]; decide)]; exact a
/-! ### lists of ints, compared -/
theorem dp_ints {K : PySem.W.Frag} {H : Hp} : ∀ ns : List Int, DpAll K H (ns.map V.int) (ns.map PyData.int)
  | [] => .nil
  | n :: r => .cons (.int n) (dp_ints r)
theorem dp_listI {K : PySem.W.Frag} {H : Hp} {a : Addr} {ns : List Int} (h : SqL K H a (ns.map V.int)) : Dp K H (.ref a) (.list (ns.map PyData.int)) := .lst h (dp_ints ns)
def dI (ns : List Int) : PyData := .list (ns.map PyData.int)
theorem canLay_ints : ∀ ns : List Int, PyData.canLayAll0 (ns.map PyData.int) = true
  | [] => by simp [PyData.canLayAll0]
  | n :: r => by
    rw [List.map_cons, PyData.canLayAll0, canLay_ints r]; simp [PyData.canLay0]
theorem depth_ints : ∀ ns : List Int, PyData.depthAll (ns.map PyData.int) ≤ 1
  | [] => by simp [PyData.depthAll]
  | n :: r => by
    have := depth_ints r
    rw [List.map_cons, PyData.depthAll]
    simp [PyData.depth]
    omega
theorem shaped_dI (ns : List Int) : SeqAt.shaped (dI ns) = true := by
  have h1 := canLay_ints ns
  have h2 := depth_ints ns
  unfold SeqAt.shaped dI
  rw [Bool.and_eq_true, PyData.canLay0, PyData.depth]
  exact ⟨h1, decide_eq_true (by omega)⟩
theorem eqvAll_ints : ∀ ns ms : List Int, PyData.eqvAll (ns.map PyData.int) (ms.map PyData.int) = decide (ns = ms)
  | [], [] => by simp [PyData.eqvAll]
  | [], m :: r => by simp [PyData.eqvAll]
  | n :: r, [] => by simp [PyData.eqvAll]
  | n :: r, m :: s => by
    rw [List.map_cons, List.map_cons, PyData.eqvAll, eqvAll_ints r s]
    simp [PyData.eqv, Bool.beq_eq_decide_eq]
theorem eqv_dI (ns ms : List Int) : PyData.eqv (dI ns) (dI ms) = decide (ns = ms) := by
  unfold dI
  rw [PyData.eqv, eqvAll_ints]
theorem r_eqInts {K : PySem.W.Frag} {H : Hp} {Q : VK} {a b : Addr} {ns ms : List Int} (h1 : SqL K H a (ns.map V.int)) (h2 : SqL K H b (ms.map V.int)) (q : Q (.bl (decide (ns = ms))) H) : rEqD K (.ref a) (.ref b) H Q :=
  ⟨_, _, dp_listI h1, dp_listI h2, shaped_dI ns, shaped_dI ms, by rw [show PyData.eqv (.list (ns.map PyData.int)) (.list (ms.map PyData.int)) = decide (ns = ms) from eqv_dI ns ms]; exact q⟩
theorem r_neInts {K : PySem.W.Frag} {H : Hp} {Q : VK} {a b : Addr} {ns ms : List Int} (h1 : SqL K H a (ns.map V.int)) (h2 : SqL K H b (ms.map V.int)) (q : Q (.bl (!decide (ns = ms))) H) : rNeD K (.ref a) (.ref b) H Q :=
  ⟨_, _, dp_listI h1, dp_listI h2, shaped_dI ns, shaped_dI ms, by rw [show PyData.eqv (.list (ns.map PyData.int)) (.list (ms.map PyData.int)) = decide (ns = ms) from eqv_dI ns ms]; exact q⟩
/-! ### loops -/
def Lp (J : It) (g : TG) (tb : TS) (D : Ends) (σ : L2.St) (H : Hp) : Prop := ∃ W : Nat → Nat → L2.St → Hp → Prop, (∃ m, W 0 m σ H) ∧ ∀ i m σ H, W i m σ H →
  (J.stop i H ∧ D.nx σ H) ∨ (J.go i H ∧ ∃ N : L2.St → Hp → Prop, (∀ σ' H', N σ' H' → ∃ m', m' < m ∧ W (i + 1) m' σ' H') ∧ ∀ x H', J.yld i H x H' → g x σ H' fun σ2 H2 => tb { D with nx := N, ct := N, bk := D.nx } σ2 H2)
section
variable {K : PySem.W.Frag} {σ : L2.St} {H : Hp} {D : Ends} {te : TE} {ta : TA} {tb : TS} {g : TG} {wi : TI}
theorem r_for (h : wi σ H fun J H1 => Lp J g tb D σ H1) : tFor wi g tb D σ H := h
theorem r_iList {R : It → Hp → Prop} (h : te σ H fun x H1 => ∃ a, x = .ref a ∧ (∃ xs, SqL K H1 a xs) ∧ R (Itl K a) H1) : iList K te σ H R := h
theorem r_iListA {a : Addr} {xs : List V} (h : SqL K H a xs) (q : Lp (Itl K a) g tb D σ H) : ∃ a', V.ref a = .ref a' ∧ (∃ xs, SqL K H a' xs) ∧ Lp (Itl K a') g tb D σ H := ⟨a, rfl, ⟨xs, h⟩, q⟩
theorem r_iTup {R : It → Hp → Prop} (h : te σ H fun x H1 => ∃ a, x = .ref a ∧ (∃ xs, SqT K H1 a xs) ∧ R (Itt K a) H1) : iTup K te σ H R := h
theorem r_iTupA {a : Addr} {xs : List V} (h : SqT K H a xs) (q : Lp (Itt K a) g tb D σ H) : ∃ a', V.ref a = .ref a' ∧ (∃ xs, SqT K H a' xs) ∧ Lp (Itt K a') g tb D σ H := ⟨a, rfl, ⟨xs, h⟩, q⟩
theorem r_iRng1 {R : It → Hp → Prop} (h : ta σ H fun vs H1 => ∃ j : Int, vs = [.int j] ∧ -(2 ^ 62) ≤ j ∧ j < 2 ^ 62 ∧ R (Itr 0 j.toNat) H1) : iRng1 ta σ H R := h
theorem r_iRng1A {j : Int} (h0 : -(2 ^ 62) ≤ j) (h1 : j < 2 ^ 62) (q : Lp (Itr 0 j.toNat) g tb D σ H) : ∃ j' : Int, [V.int j] = [.int j'] ∧ -(2 ^ 62) ≤ j' ∧ j' < 2 ^ 62 ∧ Lp (Itr 0 j'.toNat) g tb D σ H := ⟨j, rfl, h0, h1, q⟩
theorem r_iRng2 {R : It → Hp → Prop} (h : ta σ H fun vs H1 => ∃ i j : Int, vs = [.int i, .int j] ∧ (-(2 ^ 62) ≤ i ∧ i < 2 ^ 62 ∧ -(2 ^ 62) ≤ j ∧ j < 2 ^ 62) ∧ R (Itr i (j - i).toNat) H1) : iRng2 ta σ H R := h
theorem r_iRng2A {i j : Int} (hb : -(2 ^ 62) ≤ i ∧ i < 2 ^ 62 ∧ -(2 ^ 62) ≤ j ∧ j < 2 ^ 62) (q : Lp (Itr i (j - i).toNat) g tb D σ H) : ∃ i' j' : Int, [V.int i, V.int j] = [.int i', .int j'] ∧ (-(2 ^ 62) ≤ i' ∧ i' < 2 ^ 62 ∧ -(2 ^ 62) ≤ j' ∧ j' < 2 ^ 62) ∧ Lp (Itr i' (j' - i').toNat) g tb D σ H := ⟨i, j, rfl, hb, q⟩
theorem r_iRev {R : It → Hp → Prop} (h : ta σ H fun vs H1 => ∃ (a : Addr) (xs : List V), vs = [.ref a] ∧ SqL K H1 a xs ∧ R (Itv K a xs.length) H1) : iRev K ta σ H R := h
theorem r_iRevA {a : Addr} {xs : List V} (h : SqL K H a xs) (q : Lp (Itv K a xs.length) g tb D σ H) : ∃ (a' : Addr) (xs : List V), [V.ref a] = [.ref a'] ∧ SqL K H a' xs ∧ Lp (Itv K a' xs.length) g tb D σ H := ⟨a, xs, rfl, h, q⟩
theorem r_iEnum {R : It → Hp → Prop} (h : ta σ H fun vs H1 => ∃ a xs, vs = [.ref a] ∧ SqL K H1 a xs ∧ R (Ite K a) H1) : iEnum K ta σ H R := h
theorem r_iEnumA {a : Addr} {xs : List V} (h : SqL K H a xs) (q : Lp (Ite K a) g tb D σ H) : ∃ (a' : Addr) (xs : List V), [V.ref a] = [.ref a'] ∧ SqL K H a' xs ∧ Lp (Ite K a') g tb D σ H := ⟨a, xs, rfl, h, q⟩
theorem r_iRevR {tr : L2.St → Hp → (Int → Int → Hp → Prop) → Prop} {R : It → Hp → Prop} (h : tr σ H fun a b H1 => -(2 ^ 62) ≤ a ∧ a < 2 ^ 62 ∧ -(2 ^ 62) ≤ b ∧ b < 2 ^ 62 ∧ R (Itc (a + (((b - a).toNat : Nat) : Int) - 1) (-1) (b - a).toNat) H1) : iRevR tr σ H R := h

theorem loop_list {a : Addr} {xs : List V} (Pv : Nat → L2.St → Hp → Prop) (h0 : Pv 0 σ H) (hl : ∀ i σ H, i ≤ xs.length → Pv i σ H → SqL K H a xs)
    (hs : ∀ i x σ H, xs[i]? = some x → Pv i σ H → g x σ H fun σ2 H2 => tb { D with nx := Pv (i + 1), ct := Pv (i + 1), bk := D.nx } σ2 H2) (hd : ∀ σ H, Pv xs.length σ H → D.nx σ H) : Lp (Itl K a) g tb D σ H := for_list Pv h0 hl hs hd
/-- a loop over a list of ints -/
theorem loop_ints {a : Addr} {ns : List Int} {j : Nat} (Pv : Nat → L2.St → Hp → Prop) (h0 : Pv 0 σ H) (hl : ∀ i σ H, i ≤ ns.length → Pv i σ H → SqL K H a (ns.map V.int))
    (hs : ∀ i x σ H, ns[i]? = some x → Pv i σ H → tb { D with nx := Pv (i + 1), ct := Pv (i + 1), bk := D.nx } (σ.set j (some (.int x))) H) (hd : ∀ σ H, Pv ns.length σ H → D.nx σ H) : Lp (Itl K a) (gName j) tb D σ H :=
  for_list (xs := ns.map V.int) Pv h0 (fun i σ H h => hl i σ H (by rw [List.length_map] at h; exact h)) (fun i x σ H hx hp => by
    rw [List.getElem?_map] at hx
    cases e : ns[i]? with
    | none => rw [e] at hx; cases hx
    | some z => rw [e] at hx; cases hx; exact hs i z σ H e hp) (fun σ H h => hd σ H (by rw [List.length_map] at h; exact h))
theorem loop_tup {a : Addr} {xs : List V} (Pv : Nat → L2.St → Hp → Prop) (h0 : Pv 0 σ H) (hl : ∀ i σ H, i ≤ xs.length → Pv i σ H → SqT K H a xs)
    (hs : ∀ i x σ H, xs[i]? = some x → Pv i σ H → g x σ H fun σ2 H2 => tb { D with nx := Pv (i + 1), ct := Pv (i + 1), bk := D.nx } σ2 H2) (hd : ∀ σ H, Pv xs.length σ H → D.nx σ H) : Lp (Itt K a) g tb D σ H := for_tup Pv h0 hl hs hd
theorem loop_range {lo : Int} {n : Nat} {j : Nat} (Pv : Nat → L2.St → Hp → Prop) (h0 : Pv 0 σ H)
    (hs : ∀ i σ H, i < n → Pv i σ H → tb { D with nx := Pv (i + 1), ct := Pv (i + 1), bk := D.nx } (σ.set j (some (.int (lo + (i : Int))))) H) (hd : ∀ σ H, Pv n σ H → D.nx σ H) : Lp (Itr lo n) (gName j) tb D σ H := for_range Pv h0 hs hd
theorem loop_range0 {n : Nat} {j : Nat} (Pv : Nat → L2.St → Hp → Prop) (h0 : Pv 0 σ H)
    (hs : ∀ i σ H, i < n → Pv i σ H → tb { D with nx := Pv (i + 1), ct := Pv (i + 1), bk := D.nx } (σ.set j (some (.int (i : Int)))) H) (hd : ∀ σ H, Pv n σ H → D.nx σ H) : Lp (Itr 0 n) (gName j) tb D σ H :=
  for_range Pv h0 (fun i σ H hi hp => by
    have e : (0 : Int) + (i : Int) = (i : Int) := Int.zero_add _
    rw [e]
    exact hs i σ H hi hp) hd
theorem loop_rangeC {lo c : Int} {n : Nat} {j : Nat} (Pv : Nat → L2.St → Hp → Prop) (h0 : Pv 0 σ H)
    (hs : ∀ i σ H, i < n → Pv i σ H → tb { D with nx := Pv (i + 1), ct := Pv (i + 1), bk := D.nx } (σ.set j (some (.int (lo + (i : Int) * c)))) H) (hd : ∀ σ H, Pv n σ H → D.nx σ H) : Lp (Itc lo c n) (gName j) tb D σ H := for_rangeC Pv h0 hs hd
theorem loop_rev {a : Addr} {xs : List V} (Pv : Nat → L2.St → Hp → Prop) (h0 : Pv 0 σ H) (hl : ∀ i σ H, i ≤ xs.length → Pv i σ H → SqL K H a xs)
    (hs : ∀ i x σ H, xs[xs.length - 1 - i]? = some x → i < xs.length → Pv i σ H → g x σ H fun σ2 H2 => tb { D with nx := Pv (i + 1), ct := Pv (i + 1), bk := D.nx } σ2 H2) (hd : ∀ σ H, Pv xs.length σ H → D.nx σ H) : Lp (Itv K a xs.length) g tb D σ H := by
  refine ⟨fun i m σ H => m = xs.length - i ∧ i ≤ xs.length ∧ Pv i σ H, ⟨xs.length, by simp, Nat.zero_le _, h0⟩, ?_⟩
  rintro i m σ H ⟨rfl, hi, p⟩
  have q := hl i σ H hi p
  by_cases hlt : i < xs.length
  · have hk : xs.length - 1 - i < xs.length := by omega
    refine .inr ⟨⟨hlt, xs, xs[xs.length - 1 - i], q, by simp [hk]⟩, Pv (i + 1), fun σ' H' p' => ⟨xs.length - (i + 1), by omega, rfl, hlt, p'⟩, fun x H' y => ?_⟩
    obtain ⟨e, y⟩ := y
    subst e
    exact hs i x σ _ (y xs q) hlt p
  · have e : i = xs.length := by omega
    subst e
    exact .inl ⟨Nat.le_refl _, hd σ H p⟩
theorem loop_enum {a : Addr} {xs : List V} {j k : Nat} (Pv : Nat → L2.St → Hp → Prop) (h0 : Pv 0 σ H) (hl : ∀ i σ H, i ≤ xs.length → Pv i σ H → SqL K H a xs)
    (hs : ∀ i x σ H H', xs[i]? = some x → Pv i σ H → Ex H H' → tb { D with nx := Pv (i + 1), ct := Pv (i + 1), bk := D.nx } ((σ.set j (some (.int (i : Int)))).set k (some x)) H') (hd : ∀ σ H, Pv xs.length σ H → D.nx σ H) :
    Lp (Ite K a) (gTup K 2 (gCons (gName j) (gCons (gName k) gNil))) tb D σ H := by
  refine ⟨fun i m σ H => m = xs.length - i ∧ i ≤ xs.length ∧ Pv i σ H, ⟨xs.length, by simp, Nat.zero_le _, h0⟩, ?_⟩
  rintro i m σ H ⟨rfl, hi, p⟩
  have q := hl i σ H hi p
  by_cases hlt : i < xs.length
  · refine .inr ⟨⟨xs, xs[i], q, by simp [hlt]⟩, Pv (i + 1), fun σ' H' p' => ⟨xs.length - (i + 1), by omega, rfl, hlt, p'⟩, fun v H' y => ?_⟩
    obtain ⟨T, x, rfl, nT, rfl, y⟩ := y
    exact ⟨T, _, rfl, .inl (.inl upd_same), rfl, _, _, rfl, x, [], rfl, rfl, hs i x σ H _ (y xs q) p (Evl.Ex.new nT)⟩
  · have e : i = xs.length := by omega
    subst e
    exact .inl ⟨⟨xs, q, Nat.le_refl _⟩, hd σ H p⟩
theorem r_while {tt : TT} (W : Nat → L2.St → Hp → Prop) (m0 : Nat) (h0 : W m0 σ H)
    (hs : ∀ m σ' H', W m σ' H' → tt σ' H' fun b H1 => if b = true then ∃ N : L2.St → Hp → Prop, (∀ σ2 H2, N σ2 H2 → ∃ m', m' < m ∧ W m' σ2 H2) ∧ tb { D with nx := N, ct := N, bk := D.nx } σ' H1 else D.nx σ' H1) : tWhile tt tb D σ H :=
  ⟨W, ⟨m0, h0⟩, hs⟩
theorem wh_in {W : Nat → L2.St → Hp → Prop} {m : Nat} (h : tb { D with nx := fun σ2 H2 => ∃ m', m' < m ∧ W m' σ2 H2, ct := fun σ2 H2 => ∃ m', m' < m ∧ W m' σ2 H2, bk := D.nx } σ H) :
    ∃ N : L2.St → Hp → Prop, (∀ σ2 H2, N σ2 H2 → ∃ m', m' < m ∧ W m' σ2 H2) ∧ tb { D with nx := N, ct := N, bk := D.nx } σ H := ⟨_, fun _ _ h => h, h⟩
end
/-! ### bounds -/
theorem small_le {n : Nat} (h : n ≤ 16777216) : n ≤ sizeLine := by rw [sizeLine_eq]; exact h
theorem small_lt {n : Nat} (h : n < 16777216) : n < sizeLine := by rw [sizeLine_eq]; exact h
/-! ### comprehensions -/
def Lc (J : It) (g : TG) (tt : TT) (te : TE) (vs : List Nat) (σ : L2.St) (H1 : Hp) (Q : VK) : Prop := ∀ D, H1 D = none → ∃ W : Nat → Nat → Hp → Prop, (∃ m, W 0 m (upd H1 D (.lst []))) ∧ ∀ i m H, W i m H →
  (J.stop i H ∧ Q (.ref D) H) ∨ (J.go i H ∧ ∃ Nx : Hp → Prop, (∀ H', Nx H' → ∃ m', m' < m ∧ W (i + 1) m' H') ∧ ∀ x H', J.yld i H x H' → g x (wipe σ vs) H' fun σ2 H2 => wipe σ2 vs = wipe σ vs ∧ tt σ2 H2 fun b H3 =>
    if b = true then te σ2 H3 fun y H4 => ∃ acc, H4 D = some (.lst acc) ∧ acc.length < sizeLine ∧ Nx (upd H4 D (.lst (acc ++ [y]))) else Nx H3)
theorem r_lc {wi : TI} {g : TG} {tt : TT} {te : TE} {vs : List Nat} {σ : L2.St} {H : Hp} {Q : VK} (h : wi σ H fun J H1 => Lc J g tt te vs σ H1 Q) : tLc wi g tt te vs σ H Q := h
theorem set_set {α : Type} : ∀ (l : List α) (i : Nat) (a b : α), (l.set i a).set i b = l.set i b
  | [], _, _, _ => rfl
  | _ :: _, 0, _, _ => rfl
  | x :: l, i + 1, a, b => by show x :: (l.set i a).set i b = x :: l.set i b; rw [set_set l i a b]
section
variable {K : PySem.W.Frag} {σ : L2.St} {H : Hp} {te : TE} {Q : VK} {g : TG}
theorem r_cListA {a : Addr} {xs : List V} {tt : TT} {vs : List Nat} (h : SqL K H a xs) (q : Lc (Itl K a) g tt te vs σ H Q) : ∃ a', V.ref a = .ref a' ∧ (∃ xs, SqL K H a' xs) ∧ Lc (Itl K a') g tt te vs σ H Q := ⟨a, rfl, ⟨xs, h⟩, q⟩
theorem r_cRng1A {j : Int} {tt : TT} {vs : List Nat} (h0 : -(2 ^ 62) ≤ j) (h1 : j < 2 ^ 62) (q : Lc (Itr 0 j.toNat) g tt te vs σ H Q) : ∃ j' : Int, [V.int j] = [.int j'] ∧ -(2 ^ 62) ≤ j' ∧ j' < 2 ^ 62 ∧ Lc (Itr 0 j'.toNat) g tt te vs σ H Q := ⟨j, rfl, h0, h1, q⟩
theorem r_cRng2A {i j : Int} {tt : TT} {vs : List Nat} (hb : -(2 ^ 62) ≤ i ∧ i < 2 ^ 62 ∧ -(2 ^ 62) ≤ j ∧ j < 2 ^ 62) (q : Lc (Itr i (j - i).toNat) g tt te vs σ H Q) : ∃ i' j' : Int, [V.int i, V.int j] = [.int i', .int j'] ∧ (-(2 ^ 62) ≤ i' ∧ i' < 2 ^ 62 ∧ -(2 ^ 62) ≤ j' ∧ j' < 2 ^ 62) ∧ Lc (Itr i' (j' - i').toNat) g tt te vs σ H Q := ⟨i, j, rfl, hb, q⟩
/-- over a list, each item giving a value by a function -/
theorem lc_map {a : Addr} {xs : List V} {j : Nat} (f : V → V) (hx : SqL K H a xs) (hz : xs.length < 1000000)
    (he : ∀ x, x ∈ xs → ∀ H1, Ex H H1 → ∀ Q' : VK, (∀ H2, Ex H1 H2 → Q' (f x) H2) → te (σ.set j (some x)) H1 Q')
    (q : ∀ p H', H p = none → Ex H H' → H' p = some (.lst (xs.map f)) → Q (.ref p) H') : Lc (Itl K a) (gName j) tYes te [j] σ H Q := fun D hD =>
  lc_list (xs := xs) (fun i H' => Ex H H' ∧ H' D = some (.lst ((xs.take i).map f))) ⟨Evl.Ex.new hD, upd_same⟩ (fun i H' _ p => p.1.l hx)
    (fun i x H' hi p => ⟨by show ((σ.set j none).set j (some x)).set j none = σ.set j none; rw [set_set, set_set], by
      show te ((σ.set j none).set j (some x)) H' _
      rw [set_set]
      refine he x (List.mem_of_getElem? hi) H' p.1 _ fun H2 e2 => ⟨_, e2 D _ p.2, ?_, (Evl.Ex.mut (p.1.trans e2) hD), ?_⟩
      · rw [List.length_map, List.length_take]; exact small_lt (by omega)
      · rw [upd_same, List.take_add_one, hi, List.map_append]; rfl⟩)
    (fun H' p => q D H' hD p.1 (by rw [List.take_length] at p; exact p.2))
/-- over a list of ints, each giving an int -/
theorem lc_ints {a : Addr} {ns : List Int} {j : Nat} (f : Int → Int) (hx : SqL K H a (ns.map V.int)) (hz : ns.length < 1000000)
    (he : ∀ x, x ∈ ns → ∀ H1, Ex H H1 → ∀ Q' : VK, (∀ H2, Ex H1 H2 → Q' (.int (f x)) H2) → te (σ.set j (some (.int x))) H1 Q')
    (q : ∀ p H', H p = none → Ex H H' → H' p = some (.lst ((ns.map f).map V.int)) → Q (.ref p) H') : Lc (Itl K a) (gName j) tYes te [j] σ H Q :=
  lc_map (xs := ns.map V.int) (fun v => match v with | .int x => .int (f x) | v => v) hx (by rw [List.length_map]; exact hz)
    (fun v hv H1 e1 Q' k => by
      obtain ⟨x, hx', rfl⟩ := List.mem_map.mp hv
      exact he x hx' H1 e1 Q' k)
    (fun p H' hp e h => q p H' hp e (by
      rw [List.map_map] at h ⊢
      exact h))
/-- over a range from 0, each giving an int -/
theorem lc_rangeI {n : Nat} {j : Nat} (f : Nat → Int) (hz : n < 1000000)
    (he : ∀ i, i < n → ∀ H1, Ex H H1 → ∀ Q' : VK, (∀ H2, Ex H1 H2 → Q' (.int (f i)) H2) → te (σ.set j (some (.int (i : Int)))) H1 Q')
    (q : ∀ p H', H p = none → Ex H H' → H' p = some (.lst (((List.range n).map f).map V.int)) → Q (.ref p) H') : Lc (Itr 0 n) (gName j) tYes te [j] σ H Q := fun D hD =>
  lc_range (lo := 0) (n := n) (fun i H' => Ex H H' ∧ H' D = some (.lst (((List.range i).map f).map V.int))) ⟨Evl.Ex.new hD, upd_same⟩
    (fun i H' hi p => ⟨by show ((σ.set j none).set j _).set j none = σ.set j none; rw [set_set, set_set], by
      show te ((σ.set j none).set j (some (.int ((0 : Int) + (i : Int))))) H' _
      rw [set_set, show (0 : Int) + (i : Int) = (i : Int) from Int.zero_add _]
      refine he i hi H' p.1 _ fun H2 e2 => ⟨_, e2 D _ p.2, ?_, (Evl.Ex.mut (p.1.trans e2) hD), ?_⟩
      · rw [List.length_map, List.length_map, List.length_range]; exact small_lt (by omega)
      · rw [upd_same, List.range_succ, List.map_append, List.map_append]; rfl⟩)
    (fun H' p => q D H' hD p.1 p.2)
end
/-- an item of a list of ints -/
theorem r_ixI {K : PySem.W.Frag} {H : Hp} {Q : VK} {p : Addr} {i : Int} {ns : List Int} (h : SqL K H p (ns.map V.int)) (h0 : 0 ≤ i) (h1 : i < ns.length) (q : Q (.int (ns.getD i.toNat 0)) H) : rIxL K (.ref p) (.int i) H Q := by
  obtain ⟨k, rfl⟩ : ∃ k : Nat, i = (k : Int) := ⟨i.toNat, by omega⟩
  have hk : k < ns.length := by omega
  refine r_ixL h (atI_nat (j := k) (v := .int ns[k]) ?_) ?_
  · rw [List.getElem?_map, List.getElem?_eq_getElem hk]; rfl
  · rw [Int.toNat_natCast, List.getD_eq_getElem?_getD, List.getElem?_eq_getElem hk] at q
    exact q
/-- a slice of a list of ints, both ends in it -/
theorem cutI (ns : List Int) (lo hi : Option Int) : cutV (ns.map V.int) lo hi = ((ns.drop (HT.sIx ns.length 0 lo)).take (HT.sIx ns.length ns.length hi - HT.sIx ns.length 0 lo)).map V.int := by
  unfold cutV
  rw [List.length_map, List.map_take, List.map_drop]
/-- the part of a list between two bounds -/
def sliceI (ns : List Int) (lo hi : Option Int) : List Int := (ns.drop (HT.sIx ns.length 0 lo)).take (HT.sIx ns.length ns.length hi - HT.sIx ns.length 0 lo)
theorem sliceI_mem {ns : List Int} {lo hi : Option Int} {x : Int} (h : x ∈ sliceI ns lo hi) : x ∈ ns := List.mem_of_mem_drop (List.mem_of_mem_take h)
theorem sliceI_len (ns : List Int) (lo hi : Option Int) : (sliceI ns lo hi).length ≤ ns.length := by
  unfold sliceI
  rw [List.length_take, List.length_drop]; omega
theorem r_slI {K : PySem.W.Frag} {H : Hp} {Q : VK} {a : Addr} {ns : List Int} {lo hi : Option Int} (h : SqL K H a (ns.map V.int)) (q : ∀ p H', H p = none → Ex H H' → H' p = some (.lst ((sliceI ns lo hi).map V.int)) → Q (.ref p) H') : rSlL K (.ref a) lo hi H Q :=
  r_slL h fun p H' hp e hh => q p H' hp e (by rw [cutI] at hh; exact hh)
theorem r_repN {H : Hp} {Q : VK} {l : Addr} {ns : List Int} {k : Int} (h1 : H l = some (.lst (ns.map V.int))) (hk : k < 2 ^ 63) (z : ns.length * k.toNat ≤ 16777216) (q : ∀ p H', H p = none → Ex H H' → H' p = some (.lst (((List.replicate k.toNat ns).flatten).map V.int)) → Q (.ref p) H') (h0 : -(2 ^ 63) ≤ k := by omega) : rRep (.ref l) (.int k) H Q :=
  ⟨l, k, _, rfl, rfl, h1, h0, hk, by rw [List.length_map]; exact small0 z, newL fun p H' a b c => q p H' a b (by rw [List.map_flatten, List.map_replicate]; exact c)⟩
def insI (ns : List Int) (i : Int) (y : Int) : List Int := ns.take i.toNat ++ [y] ++ ns.drop i.toNat
theorem insI_mem {ns : List Int} {i y x : Int} : x ∈ insI ns i y ↔ x = y ∨ x ∈ ns := by
  unfold insI
  have h : x ∈ ns ↔ x ∈ ns.take i.toNat ∨ x ∈ ns.drop i.toNat := by rw [← List.mem_append, List.take_append_drop]
  rw [h, List.mem_append, List.mem_append, List.mem_singleton]
  constructor
  · rintro ((h | h) | h)
    · exact .inr (.inl h)
    · exact .inl h
    · exact .inr (.inr h)
  · rintro (h | h | h)
    · exact .inl (.inr h)
    · exact .inl (.inl h)
    · exact .inr h
theorem insI_len (ns : List Int) (i y : Int) : (insI ns i y).length = ns.length + 1 := by
  unfold insI
  rw [List.length_append, List.length_append, List.length_take, List.length_drop]
  show min i.toNat ns.length + 1 + (ns.length - i.toNat) = _
  omega
theorem r_insertI {H : Hp} {Q : VK} {l : Addr} {ns : List Int} {i y : Int} (h : H l = some (.lst (ns.map V.int))) (z : ns.length < 16777216) (h0 : 0 ≤ i) (h1 : i < 2 ^ 63) (q : ∀ H', Exb l H H' → H' l = some (.lst ((insI ns i y).map V.int)) → Q .non H') : rInsert (.ref l) [.int i, .int y] H Q :=
  r_insert h (by rw [List.length_map]; exact small_lt z) h0 h1 fun H' e hh => q H' e (by
    unfold insI
    rw [List.map_append, List.map_append, List.map_take, List.map_drop]
    exact hh)
theorem r_appendI {H : Hp} {Q : VK} {l : Addr} {ns : List Int} {y : Int} (h : H l = some (.lst (ns.map V.int))) (z : ns.length < 16777216) (q : ∀ H', Exb l H H' → H' l = some (.lst ((ns ++ [y]).map V.int)) → Q .non H') : rAppend (.ref l) [.int y] H Q :=
  r_append h (by rw [List.length_map]; exact small_lt z) fun H' e hh => q H' e (by rw [List.map_append]; exact hh)
theorem r_catI {H : Hp} {Q : VK} {l b : Addr} {ns ms : List Int} (h1 : H l = some (.lst (ns.map V.int))) (h2 : H b = some (.lst (ms.map V.int))) (z : ns.length + ms.length ≤ 16777216) (q : ∀ p H', H p = none → Ex H H' → H' p = some (.lst ((ns ++ ms).map V.int)) → Q (.ref p) H') : rCat (.ref l) (.ref b) H Q :=
  r_cat h1 h2 (by rw [List.length_map, List.length_map]; exact small0 z) fun p H' a e hh => q p H' a e (by rw [List.map_append]; exact hh)
theorem i_t {A B : Prop} (h : A) : if true = true then A else B := iteT h
theorem i_f {A B : Prop} (h : B) : if false = true then A else B := iteF h
theorem i_nt {A B : Prop} (h : B) : if (!true) = true then A else B := iteF h
theorem i_nf {A B : Prop} (h : A) : if (!false) = true then A else B := iteT h
theorem sliceI_to {ns : List Int} {n : Nat} (h : n ≤ ns.length) : sliceI ns none (some (n : Int)) = ns.take n := by
  unfold sliceI
  rw [HT.sIx_none, HT.sIx_nat, List.drop_zero, Nat.min_eq_left h]; rfl
theorem sliceI_toI {ns : List Int} {n : Int} (h0 : 0 ≤ n) : sliceI ns none (some n) = ns.take n.toNat := by
  obtain ⟨k, rfl⟩ : ∃ k : Nat, n = (k : Int) := ⟨n.toNat, by omega⟩
  unfold sliceI
  rw [HT.sIx_none, HT.sIx_nat, List.drop_zero, Int.toNat_natCast, Nat.sub_zero]
  by_cases h : k ≤ ns.length
  · rw [Nat.min_eq_left h]
  · rw [Nat.min_eq_right (by omega), List.take_length, List.take_of_length_le (by omega)]
theorem sliceI_fromI {ns : List Int} {n : Int} (h0 : 0 ≤ n) : sliceI ns (some n) none = ns.drop n.toNat := by
  obtain ⟨k, rfl⟩ : ∃ k : Nat, n = (k : Int) := ⟨n.toNat, by omega⟩
  unfold sliceI
  rw [HT.sIx_none, HT.sIx_nat, Int.toNat_natCast]
  by_cases h : k ≤ ns.length
  · rw [Nat.min_eq_left h, List.take_of_length_le (by rw [List.length_drop]; omega)]
  · rw [Nat.min_eq_right (by omega), List.drop_eq_nil_of_le (by omega : ns.length ≤ k), List.drop_length, List.take_nil]
theorem sliceI_bothI {ns : List Int} {n m : Int} (h0 : 0 ≤ n) (h1 : n ≤ m) : sliceI ns (some n) (some m) = (ns.drop n.toNat).take (m.toNat - n.toNat) := by
  obtain ⟨k, rfl⟩ : ∃ k : Nat, n = (k : Int) := ⟨n.toNat, by omega⟩
  obtain ⟨l, rfl⟩ : ∃ l : Nat, m = (l : Int) := ⟨m.toNat, by omega⟩
  unfold sliceI
  rw [HT.sIx_nat, HT.sIx_nat, Int.toNat_natCast, Int.toNat_natCast]
  by_cases h : k ≤ ns.length
  · rw [Nat.min_eq_left h]
    by_cases h' : l ≤ ns.length
    · rw [Nat.min_eq_left h']
    · rw [Nat.min_eq_right (by omega), List.take_of_length_le (by rw [List.length_drop]; omega), List.take_of_length_le (by rw [List.length_drop]; omega)]
  · rw [Nat.min_eq_right (show ns.length ≤ k by omega), List.drop_length, List.drop_eq_nil_of_le (by omega : ns.length ≤ k)]; simp
/-- what a def that makes a new list of ints promises -/
def RetI (xs : List Int) (H : Hp) (Q : VK) : Prop := ∀ p H', H p = none → Ex H H' → H' p = some (.lst (xs.map V.int)) → Q (.ref p) H'
theorem RetI.go {xs : List Int} {H H1 : Hp} {Q : VK} (k : RetI xs H Q) (e : Ex H H1) {p : Addr} {H2 : Hp} (hp : H1 p = none) (e2 : Ex H1 H2) (h : H2 p = some (.lst (xs.map V.int))) : Q (.ref p) H2 := k p H2 (Evl.fresh_back e hp) (e.trans e2) h
/-! ### the heap since the entry -/
/-- all that stood in H stands in H' (the same as Ex, kept apart) -/
structure Fx (H H' : Hp) : Prop where
  to : Ex H H'
theorem Fx.refl (H : Hp) : Fx H H := ⟨Evl.Ex.refl H⟩
theorem Fx.ex {H H1 H2 : Hp} (f : Fx H H1) (e : Ex H1 H2) : Fx H H2 := ⟨Evl.Ex.trans f.to e⟩
theorem Fx.of {H H1 : Hp} (e : Ex H H1) : Fx H H1 := ⟨e⟩
theorem Fx.mut {H H1 H2 : Hp} {l : Addr} (f : Fx H H1) (b : Exb l H1 H2) (h : H l = none) : Fx H H2 := ⟨Evl.Ex.mutb f.to b h⟩
theorem Fx.free {H H1 : Hp} {p : Addr} (f : Fx H H1) (h : H1 p = none) : H p = none := Evl.fresh_back f.to h
theorem Fx.l {K : PySem.W.Frag} {H H' : Hp} {a : Addr} {xs : List V} (e : Fx H H') (h : SqL K H a xs) : SqL K H' a xs := Evl.ex_l e.to h
theorem hx_e {H H' : Hp} {a : Addr} {o : HO} (e : Ex H H') (h : H a = some o) : H' a = some o := e a o h
theorem hx_b {H H' : Hp} {a l : Addr} {o : HO} (e : Exb l H H') (n : a ≠ l) (h : H a = some o) : H' a = some o := e a n o h
theorem ne_1 {H : Hp} {a l : Addr} {o : HO} (h' : H l = none) (h : H a = some o) : a ≠ l := ne_of_none h h'
theorem ne_2 {H : Hp} {a l : Addr} {o : HO} (h' : H a = none) (h : H l = some o) : a ≠ l := (ne_of_none h h').symm
def tTru (K : PySem.W.Frag) (te : TE) : TT := fun σ H Q => te σ H fun x H' => ∃ k, TruV K x H' k ∧ Q k H'
theorem pt_tru {X : Cx} {a : Expr} {ta : TE} (ha : PE X a ta) (he : ∀ whole, isTrue a X.env whole = (do let v ← whole; standAt a.pos; holding [v] (truthy v)) := by intro _; rfl) : PT X a (tTru X.K ta) := pt_truth ha he
theorem r_tru {K : PySem.W.Frag} {te : TE} {σ : L2.St} {H : Hp} {Q : Bool → Hp → Prop} (h : te σ H fun x H' => ∃ k, TruV K x H' k ∧ Q k H') : tTru K te σ H Q := h
theorem r_truL {K : PySem.W.Frag} {a : Addr} {xs : List V} {H : Hp} {Q : Bool → Prop} (h : SqL K H a xs) (q : Q (!xs.isEmpty)) : ∃ k, TruV K (.ref a) H k ∧ Q k := ⟨_, .inl ⟨xs, h, rfl⟩, q⟩
def RevK (K : PySem.W.Frag) (Q : VK) : V → Hp → Prop := fun x H1 => ∃ a xs, x = .ref a ∧ SqL K H1 a xs ∧ ∀ p, H1 p = none → Q (.ref p) (upd H1 p (.lst xs.reverse))
theorem r_rev {K : PySem.W.Frag} {te : TE} {σ : L2.St} {H : Hp} {Q : VK} (h : te σ H (RevK K Q)) : tRevL K te σ H Q := h
theorem r_revI {K : PySem.W.Frag} {H : Hp} {Q : VK} {a : Addr} {ns : List Int} (h : SqL K H a (ns.map V.int)) (q : ∀ p H', H p = none → Ex H H' → H' p = some (.lst (ns.reverse.map V.int)) → Q (.ref p) H') : RevK K Q (.ref a) H :=
  ⟨a, _, rfl, h, newL fun p H' hp e hh => q p H' hp e (by rw [List.map_reverse]; exact hh)⟩
theorem rg2 {a b : Int} (ha : 0 ≤ a) (ha' : a < 2 ^ 60) (hb : -(2 ^ 60) ≤ b) (hb' : b < 2 ^ 60) : RgC a b 2 ((b - a + 1) / 2).toNat := by
  have e : Builtin.Range.rangeSize a b 2 = (((b - a + 1) / 2).toNat : Int) := by
    unfold Builtin.Range.rangeSize
    rw [if_pos (by decide)]
    split <;> omega
  refine ⟨by decide, by decide, ?_, e⟩
  unfold Builtin.Range.small
  rw [e]
  simp only [Builtin.Range.rangeFitsLong, Bool.and_eq_true, Bool.or_eq_true, decide_eq_true_eq, beq_iff_eq, show ((2 : Int) > 0) by decide, if_true]
  omega
theorem r_iRng3 {ta : TA} {σ : L2.St} {H : Hp} {R : It → Hp → Prop} (h : ta σ H fun vs H1 => ∃ (i j c : Int) (n : Nat), vs = [.int i, .int j, .int c] ∧ RgC i j c n ∧ R (Itc i c n) H1) : iRng3 ta σ H R := h
theorem r_iRng3A {g : TG} {tb : TS} {D : Ends} {σ : L2.St} {H : Hp} {i j c : Int} {n : Nat} (h : RgC i j c n) (q : Lp (Itc i c n) g tb D σ H) : ∃ (i' j' c' : Int) (n : Nat), [V.int i, V.int j, V.int c] = [.int i', .int j', .int c'] ∧ RgC i' j' c' n ∧ Lp (Itc i' c' n) g tb D σ H := ⟨i, j, c, n, rfl, h, q⟩
/-- over a range from lo, each giving an int -/
theorem lc_rangeL {σ : L2.St} {H : Hp} {te : TE} {Q : VK} {lo : Int} {n : Nat} {j : Nat} (f : Nat → Int) (hz : n < 1000000)
    (he : ∀ i, i < n → ∀ H1, Ex H H1 → ∀ Q' : VK, (∀ H2, Ex H1 H2 → Q' (.int (f i)) H2) → te (σ.set j (some (.int (lo + (i : Int))))) H1 Q')
    (q : ∀ p H', H p = none → Ex H H' → H' p = some (.lst (((List.range n).map f).map V.int)) → Q (.ref p) H') : Lc (Itr lo n) (gName j) tYes te [j] σ H Q := fun D hD =>
  lc_range (lo := lo) (n := n) (fun i H' => Ex H H' ∧ H' D = some (.lst (((List.range i).map f).map V.int))) ⟨Evl.Ex.new hD, upd_same⟩
    (fun i H' hi p => ⟨by show ((σ.set j none).set j _).set j none = σ.set j none; rw [set_set, set_set], by
      show te ((σ.set j none).set j (some (.int (lo + (i : Int))))) H' _
      rw [set_set]
      refine he i hi H' p.1 _ fun H2 e2 => ⟨_, e2 D _ p.2, ?_, (Evl.Ex.mut (p.1.trans e2) hD), ?_⟩
      · rw [List.length_map, List.length_map, List.length_range]; exact small_lt (by omega)
      · rw [upd_same, List.range_succ, List.map_append, List.map_append]; rfl⟩)
    (fun H' p => q D H' hD p.1 p.2)
theorem r_lenI {K : PySem.W.Frag} {H : Hp} {Q : VK} {p : Addr} {ns : List Int} (h : SqL K H p (ns.map V.int)) (q : Q (.int ns.length) H) : rLenS K [.ref p] H Q := ⟨p, _, rfl, .inl h, by rw [List.length_map]; exact q⟩
/-- the last item -/
theorem r_ixLast {K : PySem.W.Frag} {H : Hp} {Q : VK} {p : Addr} {ns : List Int} (h : SqL K H p (ns.map V.int)) (h0 : ns ≠ []) (q : Q (.int (ns.getD (ns.length - 1) 0)) H) : rIxL K (.ref p) (.int (-1)) H Q := by
  have e : ns.map V.int = (ns.dropLast.map V.int) ++ [.int (ns.getD (ns.length - 1) 0)] := by
    have e1 : ns.getD (ns.length - 1) 0 = ns.getLast h0 := by
      rw [List.getD_eq_getElem?_getD, ← List.getLast?_eq_getElem?, List.getLast?_eq_some_getLast h0]; rfl
    rw [e1, ← List.map_singleton, ← List.map_append, List.dropLast_concat_getLast]
  exact r_ixL h (by rw [e]; exact atI_last _ _) q
theorem r_truI {K : PySem.W.Frag} {a : Addr} {ns : List Int} {H : Hp} {Q : Bool → Hp → Prop} (h : SqL K H a (ns.map V.int)) (q : Q (!decide (ns = [])) H) : ∃ k, TruV K (.ref a) H k ∧ Q k H := ⟨_, .inl ⟨_, h, rfl⟩, by
  have e : (!(ns.map V.int).isEmpty) = !decide (ns = []) := by
    cases ns with
    | nil => rfl
    | cons x r => rfl
  rw [e]; exact q⟩
theorem r_rg1 {te : TE} {σ : L2.St} {H : Hp} {R : Int → Int → Hp → Prop} (h : te σ H fun x H1 => ∃ b, x = .int b ∧ R 0 b H1) : tRg1 te σ H R := h
theorem r_revRA {g : TG} {tb : TS} {D : Ends} {σ : L2.St} {H : Hp} {b : Int} (h0 : -(2 ^ 62) ≤ b) (h1 : b < 2 ^ 62) (q : Lp (Itc (b.toNat - 1) (-1) b.toNat) g tb D σ H) : -(2 ^ 62) ≤ (0 : Int) ∧ (0 : Int) < 2 ^ 62 ∧ -(2 ^ 62) ≤ b ∧ b < 2 ^ 62 ∧ Lp (Itc (0 + (((b - 0).toNat : Nat) : Int) - 1) (-1) (b - 0).toNat) g tb D σ H := ⟨by decide, by decide, h0, h1, by
  rw [Int.sub_zero, Int.zero_add]; exact q⟩
/-- a loop over range(n), backwards -/
theorem loop_down {n : Nat} {j : Nat} {tb : TS} {D : Ends} {σ : L2.St} {H : Hp} (Pv : Nat → L2.St → Hp → Prop) (h0 : Pv n σ H)
    (hs : ∀ k σ H, k < n → Pv (k + 1) σ H → tb { D with nx := Pv k, ct := Pv k, bk := D.nx } (σ.set j (some (.int (k : Int)))) H) (hd : ∀ σ H, Pv 0 σ H → D.nx σ H) : Lp (Itc ((n : Int) - 1) (-1) n) (gName j) tb D σ H := by
  refine ⟨fun i m σ H => m = n - i ∧ i ≤ n ∧ Pv (n - i) σ H, ⟨n, by simp, Nat.zero_le _, h0⟩, ?_⟩
  rintro i m σ H ⟨rfl, hi, p⟩
  by_cases hlt : i < n
  · refine .inr ⟨hlt, Pv (n - (i + 1)), fun σ' H' p' => ⟨n - (i + 1), by omega, rfl, hlt, p'⟩, fun x H' y => ?_⟩
    obtain ⟨rfl, rfl⟩ := y
    have e1 : (n : Int) - 1 + (i : Int) * -1 = ((n - (i + 1) : Nat) : Int) := by omega
    have e2 : n - i = n - (i + 1) + 1 := by omega
    rw [e1]
    rw [e2] at p
    exact hs (n - (i + 1)) σ _ (by omega) p
  · have e : i = n := by omega
    subst e
    rw [Nat.sub_self] at p
    exact .inl ⟨Nat.le_refl _, hd σ H p⟩
theorem never_ {t : TS} {D : Ends} {σ : L2.St} {H : Hp} (h : False) : t D σ H := h.elim
end RB

set_option linter.all false
set_option maxRecDepth 100000
/-! Own errors: raised without an argument, caught, asked with isinstance. -/
namespace RB
open PySem PySem.Spec PyProof.Rows L2
open Evl (Ex rLenS rListS rMax2 tCut pss_cut)
/-- X() of an own exception class -/
theorem pmk_own0 {X : Cx} {C : Addr} {bmB : List Value} {B newId initId : String} {x : Str} {p pos : Pos} (F : ExcBaseFacts B newId initId bmB) (q : PySem.W.excIn X.K C bmB newId = true) (gC : X.mg x = some (.ref C)) (kC : PySem.W.keepIn X.K (.ref C) = true) (r : Raises X (.ref C)) (hg : Gl X x)
    (hdb : (x == ("__debug__" : Str)) = false := by decide) : PMk X (.Call (.Name x p) [] [] pos) (fun _ H Q => Q (.ref C) none H) := by
  intro pins s σ H Q I h
  refine wpAny_Call_Name_kw (ld_glob I hg gC ?_ hdb)
  refine PySem.W.callWith_K0 (first := []) I.kIn kC ?_
  show wpAny _ _ (call (.ref C) []) _ _ _
  obtain ⟨bm, N, nm, qn, bs, hdct, sn, sub, ab, col, dd, k0, k1, k2, k3, k5, mN, hC, hN, hni, T⟩ := exc_obj I.kIn q
  refine wpAny_call_exc_subT F T hC hN hni (fun h' e hm => ?_) (by show 0 ≤ sizeLine; omega)
  exact mk_of I hm r h (I.hok.gone hm.new)
/-- what a law needs of an own error class that has no __init__ -/
structure OwnE (K : PySem.W.Frag) (mg : Str → Option Value) (nm : Str) (C : Addr) : Prop where
  g : mg nm = some (.ref C)
  x : PySem.W.excIn K C [.type "ValueError", .type "Exception", .type "BaseException", .type "object"] "ValueError.__new__" = true
  k : PySem.W.keepIn K (.ref C) = true
  b : PySem.W.subIn K (.ref C) (.type "BaseException") = some true
  t : PySem.W.typeIn K (.ref C) = some (.type "type")
def tRz (C : Addr) (E : XK) : TS := fun _ _ H => E (.ref C) none H
theorem ps_rz {X : Cx} {W : WX} {C : Addr} {x : Str} {p pos pos2 : Pos} (T : OwnE X.K X.mg x C) (hc : X.calm = true) (tk : Takes X W) (hg : Gl X x) (hdb : (x == ("__debug__" : Str)) = false := by decide) : PS X (.Raise (some (.Call (.Name x p) [] [] pos)) none pos2) (fun _ σ H => W (.ref C) none σ H) :=
  ps_raise hc tk (pmk_own0 PySem.F.excBase_ValueError T.x T.g T.k (raises_own T.b T.t) hg hdb)
theorem r_rz {C : Addr} {E : XK} {D : Ends} {σ : L2.St} {H : Hp} (h : E (.ref C) none H) : tRz C E D σ H := h
/-- isinstance of a caught error -/
def rIsX (K : PySem.W.Frag) (a : Addr) (cls : Value) (d : Option Addr) : List V → Hp → VK → Prop := fun xs H Q => ∃ D : Addr, cls = .ref D ∧ d = none ∧ ExcC K D ∧ rIsE K D a xs H Q
theorem call_isX {X : Cx} {a : Addr} {cls : Value} {d : Option Addr} {oe : Obj} {pn : List (Addr × Obj)} (hz : Zc cls d oe) (hf : ∃ vs, oe.data = .fields vs) : CallR (X.suite a ((a, oe) :: pn)) (.builtin "isinstance") (rIsX X.K a cls d) := by
  intro pins s σ H xs us Q I r h
  obtain ⟨D, rfl, rfl, C, h⟩ := h
  exact call_isE C hz hf pins s σ H xs us Q I r h
theorem r_isX {K : PySem.W.Frag} {a D : Addr} {c : V} {cv : Value} {b : Bool} {H : Hp} {Q : VK} (C : ExcC K D) (hk : PySem.W.kitOne K (.ref D) cv = some b) (hc : ∀ u, RelV c u → u = cv) (q : Q (.bl b) H) : rIsX K a (.ref D) none [.ref a, c] H Q :=
  ⟨D, rfl, rfl, C, c, cv, b, rfl, hc, hk, q⟩
theorem rel_ref (D : Addr) : ∀ u, RelV (.ref D) u → u = .ref D := fun u h => h
theorem rel_ty (T : String) : ∀ u, RelV (.ty T) u → u = .type T := fun u h => h
theorem kit_ref {K : PySem.W.Frag} {C D : Addr} {b : Bool} (hd : PySem.W.hasDictIn K D = true) (ht : PySem.W.typeIn K (.ref D) = some (.type "type")) (hs : PySem.W.subIn K (.ref D) (.ref D) = some true) (h : PySem.W.subIn K (.ref C) (.ref D) = some b) : PySem.W.kitOne K (.ref C) (.ref D) = some b := by
  obtain ⟨cd, hc, _⟩ := PySem.W.any_some hd
  have e2 : ((PySem.W.clsIn K D).isSome && PySem.W.typeIn K (.ref D) == some (.type "type")) = true := by rw [hc, ht] <;> rfl
  unfold PySem.W.kitOne
  by_cases e : (Value.ref C == Value.ref D) = true
  · rw [if_pos e]
    have e' : C = D := Value.ref.inj (beq_iff_eq.mp e)
    subst e'
    rw [hs] at h
    exact h
  · rw [if_neg e]
    show (if ((PySem.W.clsIn K D).isSome && PySem.W.typeIn K (.ref D) == some (.type "type")) = true then PySem.W.subIn K (.ref C) (.ref D) else none) = some b
    rw [if_pos e2]
    exact h
theorem kit_ve {K : PySem.W.Frag} {C : Addr} (h : PySem.W.subIn K (.ref C) (.type "ValueError") = some true) : PySem.W.kitOne K (.ref C) (.type "ValueError") = some true := by
  unfold PySem.W.kitOne
  rw [if_neg (fun h => by have := beq_iff_eq.mp h; cases this)]
  show (if PySem.W.kitMeta "ValueError" = true then PySem.W.subIn K (.ref C) (.type "ValueError") else none) = some true
  rw [if_pos (by decide +kernel)]
  exact h
/-- try: .. except x as n: .. -/
def tTryAs (K : PySem.W.Frag) (c : Value) (i : Nat) (tb : WX → TS) (ts : Addr → Value → Option Addr → TS) : TS := fun D σ H => tb (wAs K c i ts (fun _ _ _ _ => False) D) D σ H
theorem r_tryAs {K : PySem.W.Frag} {c : Value} {i : Nat} {tb : WX → TS} {ts : Addr → Value → Option Addr → TS} {D : Ends} {σ : L2.St} {H : Hp} (h : tb (wAs K c i ts (fun _ _ _ _ => False) D) D σ H) : tTryAs K c i tb ts D σ H := h
/-- the clause takes it -/
theorem w_as {K : PySem.W.Frag} {c cls : Value} {i : Nat} {ts : Addr → Value → Option Addr → TS} {Wout : WX} {D : Ends} {d : Option Addr} {σ : L2.St} {H : Hp} (hm : PySem.W.exmOne K cls c = some true)
    (h : ∀ a, H a = none → ts a cls d { nx := fun σ' H' => D.nx (σ'.set i none) H', rt := D.rt, bk := fun σ' H' => D.bk (σ'.set i none) H', ct := fun σ' H' => D.ct (σ'.set i none) H' } (σ.set i (some (.ref a))) H) : wAs K c i ts Wout D cls d σ H :=
  ⟨true, hm, fun _ => h, fun z => by cases z⟩
theorem w_as_not {K : PySem.W.Frag} {c cls : Value} {i : Nat} {ts : Addr → Value → Option Addr → TS} {Wout : WX} {D : Ends} {d : Option Addr} {σ : L2.St} {H : Hp} (hm : PySem.W.exmOne K cls c = some false) (h : Wout cls d σ H) : wAs K c i ts Wout D cls d σ H :=
  ⟨false, hm, fun z => (by cases z), fun _ => h⟩
def tTryOnly (K : PySem.W.Frag) (c : Value) (tb : WX → TS) (ts : Addr → Value → Option Addr → TS) : TS := fun D σ H => tb (wOnly K c ts (fun _ _ _ _ => False) D) D σ H
theorem r_tryOnly {K : PySem.W.Frag} {c : Value} {tb : WX → TS} {ts : Addr → Value → Option Addr → TS} {D : Ends} {σ : L2.St} {H : Hp} (h : tb (wOnly K c ts (fun _ _ _ _ => False) D) D σ H) : tTryOnly K c tb ts D σ H := h
theorem w_only {K : PySem.W.Frag} {c cls : Value} {ts : Addr → Value → Option Addr → TS} {Wout : WX} {D : Ends} {d : Option Addr} {σ : L2.St} {H : Hp} (hm : PySem.W.exmOne K cls c = some true) (h : ∀ a, H a = none → ts a cls d D σ H) : wOnly K c ts Wout D cls d σ H :=
  ⟨true, hm, fun _ => h, fun z => by cases z⟩
theorem r_callS {sp : Sp} {E : L2.St → XK} {ta : TA} {σ : L2.St} {H : Hp} {Q : VK} (h : ta σ H fun vs H1 => sp vs H1 Q (E σ)) : tCallS sp E ta σ H Q := h
end RB

set_option linter.all false
set_option maxRecDepth 100000
/-! Own errors that keep a field: made by their own __init__, caught, asked, their field read. -/
namespace RB
open PySem PySem.Spec PySem.Calls PyProof.Rows L2
open Evl (Ex rLenS rListS rMax2 tCut pss_cut)
open PySem.W in
/-- isinstance asks __class__ of an error that has a dict of its own: the class's descriptor comes first -/
theorem class_of_err {prog : Program} {w : World} {A : Around} {E : Value → Shared → Prop} {s : Shared} {K : Frag} {x D : Addr} {ox : Obj} {od : Option Obj} {Q : Option Value → Shared → Prop} (C : ExcC K D)
    (X : K.In s.heap) (I : InstAt s.heap x ox D od) (h : Q (some (.ref D)) { s with toks := s.toks + 1 }) : wpAny (model prog w) A (getAttr? (.ref x) "__class__") Q E s := by
  have hf : findObj K D od "__class__" = some (.bind (.builtin "getset_descriptor.__get__") (.builtin "object.__class__")) := by
    obtain ⟨cd, hc, _⟩ := any_some C.hd
    unfold findObj
    rw [hc, Option.bind_some, C.ha, Option.bind_some]
    simp [C.hn, C.ht]
  obtain ⟨hp, g, d, t, os⟩ := s
  have L0 := I.type (M := model prog w)
  have L1 := looks_findIn (M := model prog w) X C.hg
  have L2 := looks_findIn (M := model prog w) X C.hk
  have L3 := looks_find (M := model prog w) X I hf
  have sub : Looks (model prog w) hp (isInstance (.ref x) (.type "BaseException")) true := L0.andThen (looks_subIn X C.hs)
  have no2 : (Value.builtin "BaseException.__getattribute__" == Value.builtin "object.__getattribute__") = false := by decide +kernel
  have no1 : (onTheHeap (Value.ref D) && Value.builtin "BaseException.__getattribute__" == Value.builtin "object.__getattribute__") = false := by rw [no2]; rfl
  have no0 : (false && onTheHeap (Value.builtin "BaseException.__getattribute__")) = false := rfl
  unfold getAttr? getAttrBy? getAttrBy
  refine wpAny_bind (wpAny_mkText (wpAny_bind (wpAny_attempt (wpAny_holding (wpAny_bind (L0.at (wpAny_bind (L1.at ?_))))))))
  show wpAny _ _ (if (onTheHeap (Value.ref D) && Value.builtin "BaseException.__getattribute__" == Value.builtin "object.__getattribute__") = true then _ else _) _ _ _
  rw [no1, if_neg Bool.false_ne_true]
  unfold getAttrByItsOwn hookBefore
  refine wpAny_bind ?_
  rw [if_pos (show onTheHeap (Value.ref D) = true from rfl)]
  refine L2.at (wpAny_bind (wpAny_attempt (wpAny_holding ?_)))
  unfold callGetattribute
  rw [no0, if_neg Bool.false_ne_true]
  unfold boundAndCalled
  rw [PySem.F.excAttr_ValueError.ga.bind (.ref x)]
  refine wpAny_bind (wpAny_pure ?_)
  show wpAny _ _ (call (.builtin "BaseException.__getattribute__") [.ref x, .str "__class__" t]) _ _ _
  refine wpAny_call (codeAny_call_builtin PySem.F.excAttr_ValueError.ga.plain PySem.F.entry_bexc_ga ?_)
  refine @check_slot (model prog w) _ _ ⟨hp, g, d, t + 1, os⟩ "BaseException.__getattribute__" "BaseException" "__getattribute__" (.ref x) [.str "__class__" t] [] _ (by decide +kernel) (by decide +kernel) sub (PySem.F.args_bexc_ga (.ref x) (.str "__class__" t)) ?_
  unfold Builtin.«object.__getattribute__»
  refine wpAny_bind (wpAny_of_eq (a := ((Value.ref x : Value), [Value.str "__class__" t])) (by first | rfl | (simp only [slotArgs]; rfl)) ?_)
  refine wpAny_bind (wpAny_pure (wpAny_bind (L0.at (wpAny_bind (L3.at ?_)))))
  show wpAny _ _ (holding [Value.builtin "object.__class__"] (call (.builtin "getset_descriptor.__get__") [.builtin "object.__class__", .ref x, .ref D]) >>= ret) _ _ _
  refine wpAny_bind (wpAny_holding (wpAny_call (class_get (s := ⟨hp, g, d, t + 1, os⟩) (ox := ox) (od := od) X I C.hm (wpAny_pure ?_))))
  show wpAny _ _ (handedOut (.ref D)) _ _ _
  rw [handedOut_of (v := .ref D) rfl]
  first
    | exact wpAny_pure (wpAny_pure h)
    | exact wpAny_pure h
    | exact wpAny_pure (wpAny_bind (wpAny_pure (wpAny_pure h)))
open PySem.W in
theorem kit_err {K : Frag} {x D : Addr} {ox : Obj} {od : Option Obj} (C : ExcC K D) : KitX K (.ref x) (.ref D) (fun h => InstAt h x ox D od) where
  ty := fun _ _ _ I => I.type
  it := (handS_kitx_exc (x := x) (ox := ox) C.hg C.hk C.hs C.hd C.ha C.hn C.ht C.hm).it |> fun f => by
    intro M h X I
    obtain ⟨cdD, hcD, _⟩ := any_some C.hd
    unfold clsIn at hcD
    split at hcD
    · rename_i c' d' cd' sl' ho
      intro A' Q' E' s' k q
      unfold isType loadHead
      exact wpAny_bind (wpAny_loadPart (k _ _ (X _ _ ho)) (wpAny_pure q))
    · cases hcD
  ne := (handS_kitx_exc (x := x) (ox := ox) C.hg C.hk C.hs C.hd C.ha C.hn C.ht C.hm).ne
  ca := fun X I k => class_of_err C X I k
/-- isinstance of a caught error that has a dict of its own -/
def rIsXD (K : PySem.W.Frag) (a : Addr) (cls : Value) (d : Option Addr) : List V → Hp → VK → Prop := fun xs H Q => ∃ (D dd : Addr) (fs : List (Str × V)), cls = .ref D ∧ d = some dd ∧ H dd = some (.xd fs) ∧ ExcC K D ∧ rIsE K D a xs H Q
theorem call_isXD {X : Cx} {a : Addr} {cls : Value} {d : Option Addr} {oe : Obj} {pn : List (Addr × Obj)} (hz : Zc cls d oe) (hf : ∃ vs, oe.data = .fields vs) : CallR (X.suite a ((a, oe) :: pn)) (.builtin "isinstance") (rIsXD X.K a cls d) := by
  intro pins s σ H xs us Q I r h
  obtain ⟨D, dd, fs, rfl, rfl, hd, C, c, cv, b, rfl, hcv, e, q⟩ := h
  cases r with
  | cons rx rr =>
    cases rr with
    | cons rt rr =>
      cases rr
      cases rx
      have ec := hcv _ rt
      subst ec
      obtain ⟨hget, _⟩ := I.pin (a, oe) (List.mem_append.mpr (.inl List.mem_cons_self))
      obtain ⟨vs, hv⟩ := hf
      have hx : ObjOk X.prog X.w H s.heap dd (.xd fs) := I.hok dd _ hd
      obtain ⟨mA, hns, hr⟩ := hx
      obtain ⟨od, ho, hl⟩ := lookIn_ns hns
      have J : PySem.W.InstAt s.heap a oe D (some od) := ⟨hget, hz.1, by unfold PySem.W.notCls; rw [hv] <;> rfl, by rw [hz.2]; exact ho⟩
      exact PySem.W.kia_one (kit_err C) I.kIn J e (fun z => nomatch z) fun tk => ⟨.bl b, H, I.kept (t' := tk) fun _ _ z => z, rfl, q⟩
theorem r_isXD {K : PySem.W.Frag} {a D dd : Addr} {fs : List (Str × V)} {c : V} {cv : Value} {b : Bool} {H : Hp} {Q : VK} (C : ExcC K D) (hd : H dd = some (.xd fs)) (hk : PySem.W.kitOne K (.ref D) cv = some b) (hc : ∀ u, RelV c u → u = cv) (q : Q (.bl b) H) : rIsXD K a (.ref D) (some dd) [.ref a, c] H Q :=
  ⟨D, dd, fs, rfl, rfl, hd, C, c, cv, b, rfl, hc, hk, q⟩
/-- the field of a caught error -/
theorem xf_of {K : PySem.W.Frag} {C : Addr} (h : ExcC K C) : XfC K C := ⟨h.hg, h.hk, h.hs, h.hd⟩
theorem r_xf {a C dd : Addr} {f : Str} {i : Nat} {σ : L2.St} {H : Hp} {Q : VK} {v : V} {fs : List (Str × V)} (hv : σ[i]? = some (some (.ref a))) (hd : H dd = some (.xd fs)) (hl : fs.lookup f = some v) (q : Q v H) : tXf a (.ref C) (some dd) C f (tVar i) σ H Q :=
  ⟨.ref a, hv, rfl, rfl, dd, fs, v, rfl, hd, hl, q⟩
/-- raise C(e) of a class whose own __init__ keeps a field -/
def tRzI (C : Addr) (sp : Sp) (E : XK) (ta : TA) : TS := fun _ σ H => tMkO C sp [] ta σ H E
theorem ps_rzI {X : Cx} {W : WX} {E : XK} {C fI : Addr} {x : Str} {k : Nat} {fd : FuncData} {ps : List Str} {sp : Sp} {e : Expr} {es : List Expr} {ta : TA} {p pos pos2 : Pos} {CX : CXT} (T : OexC X.K C) (iC : PySem.W.findIn X.K (.ref C) "__init__" = some (some (.ref fI))) (tI : PySem.W.typeIn X.K (.ref fI) = some (.type "function"))
    (F1 : FnOk X.prog X.w X.K X.mg X.base CX k fI fd ps sp) (hr : Room (k + 1) X.A) (hb : Binds X.K fd ps []) (hx : Passes CX X (fun _ _ _ => False)) (hc : X.calm = true) (tk : Takes X W) (hW : W = fun cls d _ H => E cls d H) (hg : Gl X x) (hm : X.mg x = some (.ref C)) (ha : PA X (e :: es) ta)
    (hdb : (x == ("__debug__" : Str)) = false := by decide) (he : starEach (e :: es) X.env = (false, eval e X.env) :: starEach es X.env := by rfl) (hpl : (backTo pos (starEach es X.env)).any (·.1) = false := by rfl) :
    PS X (.Raise (some (.Call (.Name x p) (e :: es) [] pos)) none pos2) (tRzI C sp E ta) := by
  subst hW
  exact ps_raise hc tk (pmk_oex T iC tI F1 hr hb .nil hx hg hm ha hdb he hpl)
/-- what such an __init__ promises -/
def FldI (C : Addr) (f : Str) : Sp := fun vs H Q _ => ∃ (a : Addr) (y : V), vs = [.ref a, y] ∧ H a = some (exo a C none) ∧ ∀ dx, H dx = none → dx ≠ a → Q .non (upd (upd H dx (exd dx [(f, y)])) a (exo a C (some dx)))
def RzK (C : Addr) (sp : Sp) (E : XK) : List V → Hp → Prop := fun vs H1 => vs.length ≤ 1000 ∧ ∀ a, H1 a = none → sp (.ref a :: (vs ++ [])) (upd H1 a (exo a C none))
    (fun v H2 => v = .non ∧ ∃ (d : Addr) (fs : List (Str × V)), H2 a = some (exo a C (some d)) ∧ H2 d = some (exd d fs) ∧ H1 d = none ∧ E (.ref C) (some d) (upd (del H2 a) d (.xd fs))) (fun _ _ _ => False)
theorem r_rzI {C : Addr} {sp : Sp} {E : XK} {ta : TA} {D : Ends} {σ : L2.St} {H : Hp} (h : ta σ H (RzK C sp E)) : tRzI C sp E ta D σ H := h
/-- an error is let out: class C, field f, worth y -/
def Err (C : Addr) (f : Str) (y : V) (E : XK) (H : Hp) : Prop := ∀ d H', H d = none → Ex H H' → H' d = some (.xd [(f, y)]) → E (.ref C) (some d) H'
theorem rzK {C : Addr} {f : Str} {E : XK} {y : V} {H1 : Hp} (q : Err C f y E H1) : RzK C (FldI C f) E [y] H1 := by
  refine ⟨by simp, fun a ha => ⟨a, y, rfl, upd_same, fun dx hd hne => ⟨rfl, dx, [(f, y)], upd_same, by rw [upd_ne hne, upd_same], ?_, ?_⟩⟩⟩
  · rw [upd_ne hne] at hd; exact hd
  · have hd' : H1 dx = none := by rw [upd_ne hne] at hd; exact hd
    refine q dx _ hd' (fun b o hb => ?_) upd_same
    have n1 : b ≠ dx := ne_of_none hb hd'
    have n2 : b ≠ a := ne_of_none hb ha
    rw [upd_ne n1, del_ne n2, upd_ne n2, upd_ne n1, upd_ne n2]
    exact hb
theorem Err.ex {C : Addr} {f : Str} {y : V} {E : XK} {H H1 : Hp} (q : Err C f y E H) (e : Ex H H1) : Err C f y E H1 := fun d H' hd e2 h => q d H' (Evl.fresh_back e hd) (e.trans e2) h
end RB

set_option linter.all false
/-! Lists of coefficients. -/
namespace ML
/-- the coefficient at a place, 0 beyond -/
def cf (P : List Int) (k : Nat) : Int := P.getD k 0
theorem cf_nil (k : Nat) : cf [] k = 0 := by simp [cf]
theorem cf_zero (x : Int) (r : List Int) : cf (x :: r) 0 = x := rfl
theorem cf_succ (x : Int) (r : List Int) (k : Nat) : cf (x :: r) (k + 1) = cf r k := by simp [cf]
theorem cf_get {P : List Int} {k : Nat} (h : k < P.length) : cf P k = P[k] := by
  unfold cf; rw [List.getD_eq_getElem?_getD, List.getElem?_eq_getElem h]; rfl
theorem cf_some {P : List Int} {k : Nat} {x : Int} (h : P[k]? = some x) : cf P k = x := by
  unfold cf; rw [List.getD_eq_getElem?_getD, h]; rfl
theorem cf_beyond {P : List Int} {k : Nat} (h : P.length ≤ k) : cf P k = 0 := by
  unfold cf; rw [List.getD_eq_getElem?_getD, List.getElem?_eq_none h]; rfl
theorem cf_getElem? {P : List Int} {k : Nat} (h : k < P.length) : P[k]? = some (cf P k) := by
  rw [cf_get h, List.getElem?_eq_getElem h]
/-- two lists of one length with the same coefficients are alike -/
theorem ext {P Q : List Int} (hl : P.length = Q.length) (h : ∀ k, k < P.length → cf P k = cf Q k) : P = Q := by
  apply List.ext_getElem hl
  intro i h1 h2
  rw [← cf_get h1, ← cf_get h2]
  exact h i h1
/-- without noughts at the end -/
def Trim (P : List Int) : Prop := P = [] ∨ cf P (P.length - 1) ≠ 0
theorem trim_ext {P Q : List Int} (hP : Trim P) (hQ : Trim Q) (h : ∀ k, cf P k = cf Q k) : P = Q := by
  have aux : ∀ {P Q : List Int}, Trim P → (∀ k, cf P k = cf Q k) → P.length ≤ Q.length := fun {P Q} hP h => by
    rcases hP with rfl | hP
    · exact Nat.zero_le _
    · apply Nat.le_of_not_lt
      intro hl
      have := h (P.length - 1)
      rw [cf_beyond (P := Q) (by omega)] at this
      exact hP this
  exact ext (Nat.le_antisymm (aux hP h) (aux hQ fun k => (h k).symm)) fun k _ => h k
def trimL : List Int → List Int
  | [] => []
  | x :: r => match trimL r with
    | [] => if x = 0 then [] else [x]
    | y :: s => x :: y :: s
theorem cf_trimL : ∀ (P : List Int) (k : Nat), cf (trimL P) k = cf P k
  | [], k => rfl
  | x :: r, k => by
    have ih := cf_trimL r
    unfold trimL
    split
    · next e =>
      rw [e] at ih
      split
      · next hx =>
        subst hx
        cases k with
        | zero => rfl
        | succ k => rw [cf_succ, ← ih k, cf_nil, cf_nil]
      · cases k with
        | zero => rfl
        | succ k => rw [cf_succ, cf_succ, ← ih k]
    · next y s e =>
      rw [e] at ih
      cases k with
      | zero => rfl
      | succ k => rw [cf_succ, cf_succ, ← ih k]
theorem trim_trimL : ∀ P : List Int, Trim (trimL P)
  | [] => .inl rfl
  | x :: r => by
    have ih := trim_trimL r
    unfold trimL
    split
    · split
      · exact .inl rfl
      · next hx => exact .inr hx
    · next y s e =>
      rw [e] at ih
      rcases ih with h | h
      · cases h
      · refine .inr ?_
        show cf (x :: y :: s) (s.length + 1) ≠ 0
        rw [cf_succ]
        exact h
theorem trimL_eq {P Q : List Int} (hQ : Trim Q) (h : ∀ k, cf Q k = cf P k) : trimL P = Q := trim_ext (trim_trimL P) hQ fun k => by rw [cf_trimL, h]
theorem trimL_self {P : List Int} (h : Trim P) : trimL P = P := trimL_eq h fun _ => rfl
theorem trimL_trimL (P : List Int) : trimL (trimL P) = trimL P := trimL_self (trim_trimL P)
theorem trimL_len : ∀ P : List Int, (trimL P).length ≤ P.length
  | [] => Nat.le_refl _
  | x :: r => by
    have ih := trimL_len r
    unfold trimL
    split
    · split <;> simp
    · next y s e =>
      rw [e] at ih
      simp only [List.length_cons] at ih ⊢
      omega
theorem trimL_congr {P Q : List Int} (h : ∀ k, cf P k = cf Q k) : trimL P = trimL Q := trim_ext (trim_trimL P) (trim_trimL Q) fun k => by rw [cf_trimL, cf_trimL, h]
/-- what the loop finds -/
theorem trimL_take {P : List Int} {n : Nat} (hn : n ≤ P.length) (h0 : ∀ k, n ≤ k → cf P k = 0) (h1 : n = 0 ∨ cf P (n - 1) ≠ 0) : trimL P = P.take n := by
  have hc : ∀ k, cf (P.take n) k = cf P k := fun k => by
    by_cases hk : k < n
    · unfold cf
      rw [List.getD_eq_getElem?_getD, List.getD_eq_getElem?_getD, List.getElem?_take_of_lt hk]
    · rw [h0 k (by omega), cf_beyond (by rw [List.length_take]; omega)]
  refine trimL_eq ?_ hc
  rcases h1 with h1 | h1
  · left; subst h1; rfl
  · by_cases hz : n = 0
    · left; subst hz; rfl
    · right
      rw [List.length_take, Nat.min_eq_left hn, hc]
      exact h1
/-- all coefficients below 2 ^ n -/
def Sz (n : Nat) (P : List Int) : Prop := ∀ x ∈ P, x.natAbs < 2 ^ n
theorem Sz.cf {n : Nat} {P : List Int} (h : Sz n P) (k : Nat) : (cf P k).natAbs < 2 ^ n := by
  by_cases hk : k < P.length
  · rw [cf_get hk]; exact h _ (List.getElem_mem hk)
  · rw [cf_beyond (by omega)]; exact Nat.two_pow_pos n
theorem Sz.of {n : Nat} {P : List Int} (h : ∀ k, k < P.length → (ML.cf P k).natAbs < 2 ^ n) : Sz n P := fun x hx => by
  obtain ⟨k, hk, rfl⟩ := List.getElem_of_mem hx
  rw [← cf_get hk]; exact h k hk
theorem Sz.mono {n m : Nat} {P : List Int} (h : Sz n P) (hm : n ≤ m) : Sz m P := fun x hx => Nat.lt_of_lt_of_le (h x hx) (Nat.pow_le_pow_right (by decide) hm)
theorem Sz.trim {n : Nat} {P : List Int} (h : Sz n P) : Sz n (trimL P) := Sz.of fun k _ => by rw [cf_trimL]; exact h.cf k
theorem Sz.take {n : Nat} {P : List Int} (h : Sz n P) (k : Nat) : Sz n (P.take k) := fun x hx => h x (List.mem_of_mem_take hx)
theorem Sz.drop {n : Nat} {P : List Int} (h : Sz n P) (k : Nat) : Sz n (P.drop k) := fun x hx => h x (List.mem_of_mem_drop hx)
theorem Sz.append {n : Nat} {P Q : List Int} (h : Sz n P) (h' : Sz n Q) : Sz n (P ++ Q) := fun x hx => (List.mem_append.mp hx).elim (h x) (h' x)
theorem Sz.nil (n : Nat) : Sz n [] := fun x hx => by cases hx
theorem Sz.cons {n : Nat} {x : Int} {P : List Int} (hx : x.natAbs < 2 ^ n) (h : Sz n P) : Sz n (x :: P) := fun y hy => (List.mem_cons.mp hy).elim (fun e => by rw [e]; exact hx) (h y)
theorem Sz.rep0 (n k : Nat) : Sz n (List.replicate k 0) := fun x hx => by
  rw [List.mem_replicate] at hx
  rw [hx.2]; exact Nat.two_pow_pos n
theorem Sz.reverse {n : Nat} {P : List Int} (h : Sz n P) : Sz n P.reverse := fun x hx => h x (List.mem_reverse.mp hx)
theorem cf_map {f : Int → Int} (h0 : f 0 = 0) (P : List Int) (k : Nat) : cf (P.map f) k = f (cf P k) := by
  unfold cf
  rw [List.getD_eq_getElem?_getD, List.getD_eq_getElem?_getD, List.getElem?_map]
  cases P[k]? with
  | none => exact h0.symm
  | some x => rfl
theorem cf_range {n : Nat} {f : Nat → Int} {k : Nat} (h : k < n) : cf ((List.range n).map f) k = f k := by
  rw [cf_get (by simpa using h)]; simp
theorem cf_range_beyond {n : Nat} {f : Nat → Int} {k : Nat} (h : n ≤ k) : cf ((List.range n).map f) k = 0 := cf_beyond (by simpa using h)
theorem cf_set {P : List Int} {i k : Nat} {x : Int} (h : i < P.length) : cf (P.set i x) k = if k = i then x else cf P k := by
  unfold cf
  rw [List.getD_eq_getElem?_getD, List.getElem?_set, List.getD_eq_getElem?_getD]
  by_cases e : i = k
  · subst e; simp [h]
  · rw [if_neg e, if_neg (fun z => e z.symm)]
theorem cf_append_left {P Q : List Int} {k : Nat} (h : k < P.length) : cf (P ++ Q) k = cf P k := by
  unfold cf
  rw [List.getD_eq_getElem?_getD, List.getElem?_append_left h, List.getD_eq_getElem?_getD]
theorem cf_append_right {P Q : List Int} {k : Nat} (h : P.length ≤ k) : cf (P ++ Q) k = cf Q (k - P.length) := by
  unfold cf
  rw [List.getD_eq_getElem?_getD, List.getElem?_append_right h, List.getD_eq_getElem?_getD]
theorem cf_rep0 (n k : Nat) : cf (List.replicate n 0) k = 0 := by
  unfold cf
  rw [List.getD_eq_getElem?_getD, List.getElem?_replicate]
  split <;> rfl
theorem cf_drop (P : List Int) (n k : Nat) : cf (P.drop n) k = cf P (n + k) := by
  unfold cf
  rw [List.getD_eq_getElem?_getD, List.getElem?_drop, List.getD_eq_getElem?_getD]
theorem cf_take {P : List Int} {n k : Nat} (h : k < n) : cf (P.take n) k = cf P k := by
  unfold cf
  rw [List.getD_eq_getElem?_getD, List.getD_eq_getElem?_getD, List.getElem?_take_of_lt h]

/-! ### sums and products -/
def addL (P Q : List Int) : List Int := trimL ((List.range (max P.length Q.length)).map fun k => cf P k + cf Q k)
def subL (P Q : List Int) : List Int := trimL ((List.range (max P.length Q.length)).map fun k => cf P k - cf Q k)
theorem cf_addL (P Q : List Int) (k : Nat) : cf (addL P Q) k = cf P k + cf Q k := by
  unfold addL
  rw [cf_trimL]
  by_cases h : k < max P.length Q.length
  · rw [cf_range h]
  · rw [cf_range_beyond (by omega), cf_beyond (P := P) (by omega), cf_beyond (P := Q) (by omega)]; rfl
theorem cf_subL (P Q : List Int) (k : Nat) : cf (subL P Q) k = cf P k - cf Q k := by
  unfold subL
  rw [cf_trimL]
  by_cases h : k < max P.length Q.length
  · rw [cf_range h]
  · rw [cf_range_beyond (by omega), cf_beyond (P := P) (by omega), cf_beyond (P := Q) (by omega)]; rfl
theorem trim_addL (P Q : List Int) : Trim (addL P Q) := trim_trimL _
theorem trim_subL (P Q : List Int) : Trim (subL P Q) := trim_trimL _
/-- the sum of f over 0 .. n - 1 -/
def sm : Nat → (Nat → Int) → Int
  | 0, _ => 0
  | n + 1, f => sm n f + f n
theorem sm_succ (n : Nat) (f : Nat → Int) : sm (n + 1) f = sm n f + f n := rfl
theorem sm_congr {n : Nat} {f g : Nat → Int} (h : ∀ i, i < n → f i = g i) : sm n f = sm n g := by
  induction n with
  | zero => rfl
  | succ n ih => unfold sm; rw [ih fun i hi => h i (by omega), h n (by omega)]
theorem sm_zero {n : Nat} {f : Nat → Int} (h : ∀ i, i < n → f i = 0) : sm n f = 0 := by
  induction n with
  | zero => rfl
  | succ n ih => unfold sm; rw [ih fun i hi => h i (by omega), h n (by omega)]; rfl
theorem sm_add (n : Nat) (f g : Nat → Int) : sm n (fun i => f i + g i) = sm n f + sm n g := by
  induction n with
  | zero => rfl
  | succ n ih => simp only [sm_succ]; rw [ih]; omega
theorem sm_sub (n : Nat) (f g : Nat → Int) : sm n (fun i => f i - g i) = sm n f - sm n g := by
  induction n with
  | zero => rfl
  | succ n ih => simp only [sm_succ]; rw [ih]; omega
theorem sm_mul (n : Nat) (c : Int) (f : Nat → Int) : sm n (fun i => c * f i) = c * sm n f := by
  induction n with
  | zero => simp [sm]
  | succ n ih => unfold sm; rw [ih, Int.mul_add]
theorem sm_mul_r (n : Nat) (c : Int) (f : Nat → Int) : sm n (fun i => f i * c) = sm n f * c := by
  rw [Int.mul_comm, ← sm_mul]; exact sm_congr fun i _ => Int.mul_comm _ _
theorem sm_neg (n : Nat) (f : Nat → Int) : sm n (fun i => - f i) = - sm n f := by
  induction n with
  | zero => rfl
  | succ n ih => simp only [sm_succ]; rw [ih]; omega
theorem sm_ext {n m : Nat} {f : Nat → Int} (h : n ≤ m) (h0 : ∀ i, n ≤ i → i < m → f i = 0) : sm m f = sm n f := by
  induction m with
  | zero => have : n = 0 := by omega
            subst this; rfl
  | succ m ih =>
    by_cases e : n = m + 1
    · subst e; rfl
    · rw [sm_succ, ih (by omega) fun i h1 h2 => h0 i h1 (by omega), h0 m (by omega) (by omega)]
      omega
theorem sm_single {n : Nat} {f : Nat → Int} {j : Nat} (hj : j < n) (h : ∀ i, i < n → i ≠ j → f i = 0) : sm n f = f j := by
  induction n with
  | zero => omega
  | succ n ih =>
    unfold sm
    by_cases e : j = n
    · subst e
      rw [sm_zero fun i hi => h i (by omega) (by omega)]; omega
    · rw [ih (by omega) fun i hi hn => h i (by omega) hn, h n (by omega) (fun z => e z.symm)]; omega
theorem sm_shift (n : Nat) (f : Nat → Int) : sm (n + 1) f = f 0 + sm n (fun i => f (i + 1)) := by
  induction n with
  | zero => simp [sm]
  | succ n ih =>
    rw [sm, ih]
    show f 0 + sm n (fun i => f (i + 1)) + f (n + 1) = f 0 + (sm n (fun i => f (i + 1)) + f (n + 1))
    omega
theorem sm_rev (n : Nat) (f : Nat → Int) : sm n (fun i => f (n - 1 - i)) = sm n f := by
  induction n generalizing f with
  | zero => rfl
  | succ n ih =>
    rw [sm_shift, sm]
    have e : sm n (fun i => f (n + 1 - 1 - (i + 1))) = sm n f := by
      rw [← ih f]
      exact sm_congr fun i hi => by congr 1; omega
    rw [e]
    show f (n - 0) + sm n f = sm n f + f n
    rw [Nat.sub_zero]; omega
theorem sm_swap (n m : Nat) (f : Nat → Nat → Int) : sm n (fun i => sm m (fun j => f i j)) = sm m (fun j => sm n (fun i => f i j)) := by
  induction n with
  | zero => rw [sm]; exact (sm_zero fun _ _ => rfl).symm
  | succ n ih =>
    rw [sm, ih, ← sm_add]
    exact sm_congr fun j _ => rfl
/-- the coefficient of a product at a place -/
def cv (P Q : List Int) (k : Nat) : Int := sm (k + 1) fun i => cf P i * cf Q (k - i)
def mulL (P Q : List Int) : List Int := trimL ((List.range (P.length + Q.length)).map (cv P Q))
theorem cv_beyond {P Q : List Int} {k : Nat} (h : P.length + Q.length ≤ k + 1) : cv P Q k = 0 := sm_zero fun i hi => by
  by_cases h1 : i < P.length
  · rw [cf_beyond (P := Q) (by omega), Int.mul_zero]
  · rw [cf_beyond (P := P) (by omega), Int.zero_mul]
theorem cf_mulL (P Q : List Int) (k : Nat) : cf (mulL P Q) k = cv P Q k := by
  unfold mulL
  rw [cf_trimL]
  by_cases h : k < P.length + Q.length
  · rw [cf_range h]
  · rw [cf_range_beyond (by omega), cv_beyond (by omega)]
theorem trim_mulL (P Q : List Int) : Trim (mulL P Q) := trim_trimL _
/-- the product as it stands behind k turns of the outer loop and i of the inner one -/
def pcv (P Q : List Int) (k j : Nat) : Int := sm k fun a => if a ≤ j then cf P a * cf Q (j - a) else 0
def pcw (P Q : List Int) (k i j : Nat) : Int := pcv P Q k j + if k ≤ j ∧ j - k < i then cf P k * cf Q (j - k) else 0
theorem pcw_zero (P Q : List Int) (k j : Nat) : pcw P Q k 0 j = pcv P Q k j := by
  unfold pcw
  rw [if_neg (by omega)]; omega
theorem pcw_full (P Q : List Int) (k j : Nat) : pcw P Q k Q.length j = pcv P Q (k + 1) j := by
  unfold pcw
  show _ = pcv P Q k j + (if k ≤ j then cf P k * cf Q (j - k) else 0)
  by_cases h : k ≤ j
  · rw [if_pos h]
    by_cases h2 : j - k < Q.length
    · rw [if_pos ⟨h, h2⟩]
    · rw [if_neg (by omega), cf_beyond (P := Q) (by omega), Int.mul_zero]
  · rw [if_neg h, if_neg (by omega)]
theorem pcw_step (P Q : List Int) (k i j : Nat) : pcw P Q k (i + 1) j = if j = k + i then pcw P Q k i j + cf P k * cf Q i else pcw P Q k i j := by
  unfold pcw
  by_cases h : j = k + i
  · subst h
    rw [if_pos rfl, if_pos (by omega), if_neg (by omega), Nat.add_sub_cancel_left]; omega
  · rw [if_neg h]
    by_cases h2 : k ≤ j ∧ j - k < i
    · rw [if_pos h2, if_pos (by omega)]
    · rw [if_neg h2, if_neg (by omega)]
theorem pcv_full (P Q : List Int) (j : Nat) : pcv P Q P.length j = cv P Q j := by
  unfold pcv cv
  by_cases h : P.length ≤ j + 1
  · rw [sm_ext (f := fun i => cf P i * cf Q (j - i)) h fun i h1 h2 => by rw [cf_beyond (P := P) h1, Int.zero_mul]]
    exact sm_congr fun i hi => if_pos (by omega)
  · rw [sm_ext (n := j + 1) (by omega) fun i h1 h2 => if_neg (by omega)]
    exact sm_congr fun i hi => if_pos (by omega)
theorem mulL_of {P Q R : List Int} (hl : R.length = P.length + Q.length) (h : ∀ j, cf R j = pcv P Q P.length j) : trimL R = mulL P Q := by
  refine trim_ext (trim_trimL _) (trim_mulL P Q) fun j => ?_
  rw [cf_trimL, h, pcv_full, cf_mulL]
def linL (P Q : List Int) (f : Int) : List Int := trimL ((List.range (max P.length Q.length)).map fun k => cf P k + f * cf Q k)
theorem linL_one (P Q : List Int) : linL P Q 1 = addL P Q := by
  unfold linL addL
  congr 1
  apply List.map_congr_left
  intro k _
  rw [Int.one_mul]
theorem linL_neg (P Q : List Int) : linL P Q (-1) = subL P Q := by
  unfold linL subL
  congr 1
  apply List.map_congr_left
  intro k _
  omega
theorem linL_of {P Q R : List Int} {f : Int} (hl : R.length = max P.length Q.length) (h : ∀ j, j < max P.length Q.length → cf R j = cf P j + f * cf Q j) : trimL R = linL P Q f := by
  unfold linL
  congr 1
  refine ext (by simpa using hl) fun k hk => ?_
  rw [h k (by omega), cf_range (by omega)]
/-! ### slope, turned, flipped, lifted -/
def slopeL (P : List Int) : List Int := (List.range (P.length - 1)).map fun (k : Nat) => ((k : Int) + 1) * cf P (k + 1)
def turnL (P : List Int) : List Int := (List.range P.length).map fun k => if k % 2 = 1 then - cf P k else cf P k
def flipL (P : List Int) : List Int := trimL P.reverse
/-- each coefficient at so many times its place -/
def liftL (P : List Int) (m : Nat) : List Int := (List.range (if P.length = 0 then 0 else m * (P.length - 1) + 1)).map fun j => if j % m = 0 then cf P (j / m) else 0
theorem cf_slopeL (P : List Int) (k : Nat) : cf (slopeL P) k = ((k : Int) + 1) * cf P (k + 1) := by
  unfold slopeL
  by_cases h : k < P.length - 1
  · rw [cf_range h]
  · rw [cf_range_beyond (by omega), cf_beyond (P := P) (show P.length ≤ k + 1 by omega), Int.mul_zero]
theorem cf_turnL (P : List Int) (k : Nat) : cf (turnL P) k = if k % 2 = 1 then - cf P k else cf P k := by
  unfold turnL
  by_cases h : k < P.length
  · rw [cf_range h]
  · rw [cf_range_beyond (by omega), cf_beyond (P := P) (by omega)]; split <;> rfl
theorem turnL_len (P : List Int) : (turnL P).length = P.length := by unfold turnL; simp
theorem turnL_turnL (P : List Int) : turnL (turnL P) = P := by
  refine ext (by rw [turnL_len, turnL_len]) fun k _ => ?_
  rw [cf_turnL, cf_turnL]
  by_cases h : k % 2 = 1
  · rw [if_pos h, if_pos h]; omega
  · rw [if_neg h, if_neg h]
theorem cf_reverse {P : List Int} {k : Nat} (h : k < P.length) : cf P.reverse k = cf P (P.length - 1 - k) := by
  unfold cf
  rw [List.getD_eq_getElem?_getD, List.getElem?_reverse h, List.getD_eq_getElem?_getD]
theorem liftL_len (P : List Int) (m : Nat) : (liftL P m).length = if P.length = 0 then 0 else m * (P.length - 1) + 1 := by unfold liftL; simp
theorem div_bound {j m n : Nat} (hm : 0 < m) (h : j < m * n + 1) : j / m ≤ n := by
  rw [← Nat.lt_add_one_iff, Nat.div_lt_iff_lt_mul hm, Nat.add_mul, Nat.mul_comm n m]; omega
theorem liftL_step {P R : List Int} {m i : Nat} (hm : 0 < m) (hi : i < P.length) (hR : R = liftL (P.take i) m) : (if i = 0 then R else R ++ List.replicate (m - 1) 0) ++ [cf P i] = liftL (P.take (i + 1)) m := by
  have lt1 : (P.take i).length = i := by rw [List.length_take]; omega
  have lt2 : (P.take (i + 1)).length = i + 1 := by rw [List.length_take]; omega
  have lR : R.length = if i = 0 then 0 else m * (i - 1) + 1 := by rw [hR, liftL_len, lt1]
  have lL : (if i = 0 then R else R ++ List.replicate (m - 1) 0).length = m * i := by
    by_cases h : i = 0
    · subst h; rw [if_pos rfl, lR, if_pos rfl]; rfl
    · rw [if_neg h, List.length_append, List.length_replicate, lR, if_neg h]
      have : m * i = m * (i - 1) + m := by rw [← Nat.mul_succ]; congr 1; omega
      omega
  refine ext ?_ fun k hk => ?_
  · rw [List.length_append, lL, liftL_len, lt2, if_neg (by omega), Nat.add_sub_cancel]; rfl
  · rw [List.length_append, lL] at hk
    have hk' : k < m * i + 1 := hk
    have hr : cf (liftL (P.take (i + 1)) m) k = if k % m = 0 then cf (P.take (i + 1)) (k / m) else 0 := by
      unfold liftL
      rw [lt2, if_neg (by omega), Nat.add_sub_cancel, cf_range hk']
    rw [hr]
    by_cases hlast : k = m * i
    · rw [cf_append_right (by omega), lL, hlast, Nat.sub_self, Nat.mul_mod_right, if_pos rfl, Nat.mul_div_cancel_left _ hm, cf_take (by omega)]; rfl
    · rw [cf_append_left (by omega)]
      have i0 : i ≠ 0 := by intro e; subst e; omega
      rw [if_neg i0]
      rw [if_neg i0] at lR
      have em : m * i = m * (i - 1) + m := by rw [← Nat.mul_succ]; congr 1; omega
      by_cases hin : k < R.length
      · rw [cf_append_left hin, hR]
        unfold liftL
        rw [lt1, if_neg i0, cf_range (by omega)]
        split
        · have := div_bound hm (show k < m * (i - 1) + 1 by omega)
          rw [cf_take (by omega), cf_take (by omega)]
        · rfl
      · rw [cf_append_right (by omega), cf_rep0]
        have hd : k / m = i - 1 := by
          apply Nat.div_eq_of_lt_le
          · rw [Nat.mul_comm]; omega
          · rw [Nat.succ_mul, Nat.mul_comm]; omega
        have hne : k % m ≠ 0 := fun e => by
          have := Nat.div_add_mod k m
          rw [hd, e] at this
          omega
        rw [if_neg hne]
theorem liftL_all (P : List Int) (m : Nat) : liftL (P.take P.length) m = liftL P m := by rw [List.take_length]
theorem liftL_nil (P : List Int) (m : Nat) : liftL (P.take 0) m = [] := by simp [liftL]
theorem cf_liftL (P : List Int) {m : Nat} (hm : 0 < m) (j : Nat) : cf (liftL P m) j = if j % m = 0 then cf P (j / m) else 0 := by
  unfold liftL
  by_cases h : j < (if P.length = 0 then 0 else m * (P.length - 1) + 1)
  · rw [cf_range h]
  · rw [cf_range_beyond (by omega)]
    split
    · next e =>
      refine (cf_beyond ?_).symm
      by_cases h0 : P.length = 0
      · rw [h0]; exact Nat.zero_le _
      · rw [if_neg h0] at h
        have := Nat.div_add_mod j m
        rw [e] at this
        apply Nat.le_of_not_lt
        intro hlt
        have h2 : m * (j / m) ≤ m * (P.length - 1) := Nat.mul_le_mul_left m (by omega)
        omega
    · rfl
theorem trim_liftL {P : List Int} {m : Nat} (hm : 0 < m) (h : Trim P) : Trim (liftL P m) := by
  by_cases h0 : P.length = 0
  · left; unfold liftL; rw [if_pos h0]; rfl
  · right
    rw [liftL_len, if_neg h0, Nat.add_sub_cancel, cf_liftL P hm, Nat.mul_mod_right, if_pos rfl, Nat.mul_div_cancel_left _ hm]
    rcases h with h | h
    · rw [h] at h0; exact absurd rfl h0
    · exact h
/-- the product with its noughts -/
def mulU (P Q : List Int) : List Int := if P = [] ∨ Q = [] then [] else (List.range (P.length + Q.length - 1)).map (cv P Q)
theorem cf_mulU (P Q : List Int) (k : Nat) : cf (mulU P Q) k = cv P Q k := by
  unfold mulU
  split
  · next h =>
    rw [cf_nil]
    refine (cv_beyond' h k).symm
  · by_cases h : k < P.length + Q.length - 1
    · rw [cf_range h]
    · rw [cf_range_beyond (by omega), cv_beyond (by omega)]
where
  cv_beyond' {P Q : List Int} (h : P = [] ∨ Q = []) (k : Nat) : cv P Q k = 0 := sm_zero fun i _ => by
    rcases h with h | h
    · rw [h, cf_nil, Int.zero_mul]
    · rw [h, cf_nil, Int.mul_zero]
theorem mulU_len (P Q : List Int) : (mulU P Q).length ≤ P.length + Q.length := by
  unfold mulU
  split
  · simp
  · rw [List.length_map, List.length_range]; omega
theorem addL_len (P Q : List Int) : (addL P Q).length ≤ max P.length Q.length := Nat.le_trans (trimL_len _) (by simp)
theorem sm_abs {n : Nat} {f : Nat → Int} {b : Nat} (h : ∀ i, i < n → (f i).natAbs ≤ b) : (sm n f).natAbs ≤ n * b := by
  induction n with
  | zero => simp [sm]
  | succ n ih =>
    rw [sm_succ, Nat.add_mul]
    have := ih fun i hi => h i (by omega)
    have := h n (by omega)
    omega
theorem two_pow_ge (n : Nat) : n + 1 ≤ 2 ^ n := by
  induction n with
  | zero => decide
  | succ n ih => rw [Nat.pow_succ]; omega
theorem cv_sz {P Q : List Int} {n m : Nat} (hp : Sz n P) (hq : Sz m Q) (k : Nat) : (cv P Q k).natAbs < 2 ^ (n + m + P.length + 1) := by
  have h1 : cv P Q k = pcv P Q P.length k := (pcv_full P Q k).symm
  rw [h1]
  have h2 : (pcv P Q P.length k).natAbs ≤ P.length * 2 ^ (n + m) := sm_abs fun i _ => by
    split
    · rw [Int.natAbs_mul, Nat.pow_add]
      exact Nat.mul_le_mul (Nat.le_of_lt (hp.cf _)) (Nat.le_of_lt (hq.cf _))
    · exact Nat.zero_le _
  refine Nat.lt_of_le_of_lt h2 ?_
  have h3 := two_pow_ge P.length
  have h4 : 2 ^ (n + m + P.length + 1) = 2 ^ (P.length + 1) * 2 ^ (n + m) := by rw [← Nat.pow_add]; congr 1; omega
  rw [h4]
  exact Nat.mul_lt_mul_of_pos_right (by rw [Nat.pow_succ]; omega) (Nat.two_pow_pos _)
theorem Sz.mulL {P Q : List Int} {n m : Nat} (hp : Sz n P) (hq : Sz m Q) : Sz (n + m + P.length + 1) (mulL P Q) := Sz.of fun k _ => by rw [cf_mulL]; exact cv_sz hp hq k
theorem Sz.mulU {P Q : List Int} {n m : Nat} (hp : Sz n P) (hq : Sz m Q) : Sz (n + m + P.length + 1) (mulU P Q) := Sz.of fun k _ => by rw [cf_mulU]; exact cv_sz hp hq k
theorem Sz.addL {P Q : List Int} {n : Nat} (hp : Sz n P) (hq : Sz n Q) : Sz (n + 1) (addL P Q) := Sz.of fun k _ => by
  rw [cf_addL]
  have := hp.cf k
  have := hq.cf k
  have : 2 ^ (n + 1) = 2 ^ n + 2 ^ n := by rw [Nat.pow_succ]; omega
  omega
end ML

set_option linter.all false
/-! Shared divisors. -/
namespace MG
def gcdN (ns : List Int) : Nat := ns.foldl (fun (g : Nat) x => Nat.gcd g x.natAbs) 0
def gcdL (ns : List Int) : Int := (gcdN ns : Int)
theorem fmod_lt {a b : Int} (h : b ≠ 0) : (a.fmod b).natAbs < b.natAbs := by
  by_cases hb : 0 < b
  · have h1 := Int.fmod_nonneg_of_pos a hb
    have h2 := Int.fmod_lt_of_pos a hb
    omega
  · have hb' : 0 < -b := by omega
    have e : a.fmod b = -((-a).fmod (-b)) := by rw [Int.neg_fmod_neg]; omega
    have h1 := Int.fmod_nonneg_of_pos (-a) hb'
    have h2 := Int.fmod_lt_of_pos (-a) hb'
    rw [e]
    omega
theorem gcd_fmod (a b : Int) : Int.gcd b (a.fmod b) = Int.gcd a b := by
  rw [Int.fmod_def, Int.gcd_sub_mul_left_right, Int.gcd_comm]
theorem foldl_gcd (ns : List Int) : ∀ g : Nat, ns.foldl (fun (g : Nat) x => Nat.gcd g x.natAbs) g = Nat.gcd g (gcdN ns) := by
  induction ns with
  | nil => intro g; simp [gcdN]
  | cons x r ih =>
    intro g
    show List.foldl _ (Nat.gcd g x.natAbs) r = _
    rw [ih]
    have e : gcdN (x :: r) = Nat.gcd (x.natAbs) (gcdN r) := by
      show List.foldl _ (Nat.gcd 0 x.natAbs) r = _
      rw [ih, Nat.gcd_zero_left]
    rw [e, Nat.gcd_assoc]
theorem gcdN_cons (x : Int) (r : List Int) : gcdN (x :: r) = Nat.gcd x.natAbs (gcdN r) := by
  show List.foldl _ (Nat.gcd 0 x.natAbs) r = _
  rw [foldl_gcd, Nat.gcd_zero_left]
theorem gcdN_nil : gcdN [] = 0 := rfl
theorem gcdN_append (xs ys : List Int) : gcdN (xs ++ ys) = Nat.gcd (gcdN xs) (gcdN ys) := by
  show List.foldl _ 0 (xs ++ ys) = _
  rw [List.foldl_append, foldl_gcd]; rfl
theorem gcdN_take {ns : List Int} {i : Nat} {x : Int} (h : ns[i]? = some x) : gcdN (ns.take (i + 1)) = Nat.gcd (gcdN (ns.take i)) x.natAbs := by
  rw [List.take_add_one, h, gcdN_append]
  congr 1
  show gcdN [x] = _
  rw [gcdN_cons, gcdN_nil, Nat.gcd_zero_right]
theorem gcdN_dvd {ns : List Int} : ∀ {x : Int}, x ∈ ns → (gcdN ns : Int) ∣ x := by
  induction ns with
  | nil => intro x h; cases h
  | cons y r ih =>
    intro x h
    rw [gcdN_cons]
    rcases List.mem_cons.mp h with rfl | h
    · exact Int.ofNat_dvd_left.mpr (Nat.gcd_dvd_left _ _)
    · exact Int.dvd_trans (Int.ofNat_dvd.mpr (Nat.gcd_dvd_right _ _)) (ih h)
theorem dvd_gcdN {ns : List Int} {d : Nat} (h : ∀ x ∈ ns, (d : Int) ∣ x) : d ∣ gcdN ns := by
  induction ns with
  | nil => exact Nat.dvd_zero _
  | cons y r ih =>
    rw [gcdN_cons]
    exact Nat.dvd_gcd (Int.ofNat_dvd_left.mp (h y (List.mem_cons_self))) (ih fun x hx => h x (List.mem_cons_of_mem _ hx))
theorem gcdN_eq {ns : List Int} {g : Nat} (h1 : ∀ x ∈ ns, (g : Int) ∣ x) (h2 : ∀ d : Nat, (∀ x ∈ ns, (d : Int) ∣ x) → d ∣ g) : gcdN ns = g :=
  Nat.dvd_antisymm (h2 _ fun _ hx => gcdN_dvd hx) (dvd_gcdN h1)
end MG

set_option linter.all false
set_option maxRecDepth 100000
/-! Instances: made, their fields, their methods; the fraction. -/
namespace RB
open PySem PySem.Spec PyProof.Rows L2
open Evl (Ex rLenS rListS rMax2 tCut pss_cut)
def tDead : TS := fun _ _ _ => False
theorem ps_dead {X : Cx} {st : Stmt} : PS X st tDead := ⟨fun _ _ _ _ _ _ h => h.elim⟩
theorem pss_dead {X : Cx} {st : List Stmt} : PSs X st tDead := ⟨fun _ _ _ _ _ _ h => h.elim⟩
theorem okN {P : Program} {w : World} {K : PySem.W.Frag} {mg : Str → Option Value} {base : Heap} {x qual : Str} {params : Arguments} {body : List Stmt} {scope : Scope} {dvs : List V} {kws : List (Str × V)} {f : Addr} {fd : FuncData} {N ps : List Str} {k : Nat} {sp : Sp} (F : FunD K x qual params body scope dvs kws f fd) (S : FnScope N ps scope) (len : ∀ vs H Q E, sp vs H Q E → vs.length = ps.length)
    (hb : ∀ (cdv : Value) (A : Around) (outer : List Env) (s : Shared) (H : Hp) (vs : List V) (Q : VK) (E : XK), Room k (A.deeper (envOfC qual scope s.heap.objs.size f cdv)) → sp vs H Q E →
      ∃ t, PSs (cxOf CX0 P w K mg base N qual scope f cdv A outer s H E).nox body t ∧ t { nx := fun _ H' => Q .non H', rt := Q } (start N vs) H) : FnOk P w K mg base CX0 (k + 1) f fd ps sp :=
  F.ok S len fun cdv A outer s H vs Q E hr h => by
    obtain ⟨t, h1, h2⟩ := hb cdv A outer s H vs Q E hr h
    exact ⟨t, h1.nox, h2⟩
theorem funD_mk {K : PySem.W.Frag} {x qual : Str} {params : Arguments} {body : List Stmt} {scope : Scope} {i : Int} {f T : Addr} {oc : Value} {od an : Option Addr} {osl : Array (Option Value)} {kV doc pm cdv ct oc2 : Value} {od2 : Option Addr} {tk : Tok} {n2 : Nat} {sl2 : Array (Option Value)}
    (l : K.lookup f = some ⟨oc, od, .func (PySem.W.fnOf x qual params body scope (.ref T) kV doc pm an cdv ct), osl⟩) (d : K.lookup T = some ⟨oc2, od2, .seq #[.int i tk] n2, sl2⟩) (c : PySem.W.codeIn K cdv qual = true) (k : PySem.W.keepIn K (.ref f) = true) :
    FunD K x qual params body scope [.int i] [] f (PySem.W.fnOf x qual params body scope (.ref T) kV doc pm an cdv ct) :=
  ⟨⟨oc, od, .ref T, kV, doc, pm, an, cdv, ct, osl, rfl, l, c, .inr ⟨by simp, T, _, [.int i tk], n2, rfl, d, rfl, .cons ⟨tk, rfl⟩ .nil⟩, .inl rfl⟩, k⟩
theorem funD_mkV {K : PySem.W.Frag} {x qual : Str} {params : Arguments} {body : List Stmt} {scope : Scope} {dvs : List V} {its : List Value} {f T : Addr} {oc : Value} {od an : Option Addr} {osl : Array (Option Value)} {kV doc pm cdv ct oc2 : Value} {od2 : Option Addr} {n2 : Nat} {sl2 : Array (Option Value)}
    (l : K.lookup f = some ⟨oc, od, .func (PySem.W.fnOf x qual params body scope (.ref T) kV doc pm an cdv ct), osl⟩) (d : K.lookup T = some ⟨oc2, od2, .seq its.toArray n2, sl2⟩) (c : PySem.W.codeIn K cdv qual = true) (k : PySem.W.keepIn K (.ref f) = true) (ne : dvs ≠ []) (r : Vals dvs its) :
    FunD K x qual params body scope dvs [] f (PySem.W.fnOf x qual params body scope (.ref T) kV doc pm an cdv ct) :=
  ⟨⟨oc, od, .ref T, kV, doc, pm, an, cdv, ct, osl, rfl, l, c, .inr ⟨ne, T, _, its, n2, rfl, d, rfl, r⟩, .inl rfl⟩, k⟩
theorem binds_full {K : PySem.W.Frag} {fd : FuncData} {ps : List Str} (h : ∃ ds, Vals ([] : List V) ds ∧ Binds K fd ps ds) : Binds K fd ps [] := by
  obtain ⟨ds, h1, h2⟩ := h
  cases h1
  exact h2
/-! ### making -/
def MakeK (C : Addr) (sp : Sp) (dvs : List V) (E : XK) (Q : VK) : List V → Hp → Prop := fun vs H1 => ∀ x dx, H1 x = none → H1 dx = none → dx ≠ x →
  sp (.ref x :: (vs ++ dvs)) (upd (upd H1 dx (.own x)) x (.ins C dx [])) (fun v H2 => v = .non ∧ Q (.ref x) H2) E
theorem r_make {C : Addr} {sp : Sp} {dvs : List V} {E : XK} {ta : TA} {σ : L2.St} {H : Hp} {Q : VK} (h : ta σ H (MakeK C sp dvs E Q)) : tMake C sp dvs E ta σ H Q := h
def FldK (K : PySem.W.Frag) (f : Str) (Q : VK) : V → Hp → Prop := fun x H1 => ∃ a C dx fs v, x = .ref a ∧ H1 a = some (.ins C dx fs) ∧ Cls K C ∧ NoAttr K C f ∧ fs.lookup f = some v ∧ Q v H1
theorem r_fld {K : PySem.W.Frag} {te : TE} {f : Str} {σ : L2.St} {H : Hp} {Q : VK} (h : te σ H (FldK K f Q)) : tFld K te f σ H Q := h
def SFldK (K : PySem.W.Frag) (f : Str) (y : V) (G : Hp → Prop) : V → Hp → Prop := fun x H2 => ∃ a C dx fs, x = .ref a ∧ H2 a = some (.ins C dx fs) ∧ Cls K C ∧ NoAttr K C f ∧ fs.length < 1000 ∧ G (upd H2 a (.ins C dx (putF f y fs)))
theorem r_sfld {K : PySem.W.Frag} {ta tv : TE} {f : Str} {D : Ends} {σ : L2.St} {H : Hp} (h : tv σ H fun y H1 => ta σ H1 (SFldK K f y (D.nx σ))) : sFld K ta tv f D σ H := h
def MethK (C : Addr) (m : Str) (sp : Sp) (dvs : List V) (E : XK) (t : TA) (σ : L2.St) (Q : VK) : V → Hp → Prop := fun x H1 => ∃ a dx fs, x = .ref a ∧ H1 a = some (.ins C dx fs) ∧ fs.lookup m = none ∧ t σ H1 fun vs H2 => sp (x :: (vs ++ dvs)) H2 Q E
theorem r_meth {C : Addr} {m : Str} {sp : Sp} {dvs : List V} {E : XK} {ta : TE} {t : TA} {σ : L2.St} {H : Hp} {Q : VK} (h : ta σ H (MethK C m sp dvs E t σ Q)) : tMeth C m sp dvs E ta t σ H Q := h
/-! ### the fraction -/
def rF (t b : Int) : List (Str × V) := [("top", .int t), ("bottom", .int b)]
def IsR (C : Addr) (H : Hp) (a : Addr) (t b : Int) : Prop := ∃ dx, H a = some (.ins C dx (rF t b))
theorem IsR.ex {C : Addr} {H H' : Hp} {a : Addr} {t b : Int} (e : Ex H H') (h : IsR C H a t b) : IsR C H' a t b := h.elim fun dx h => ⟨dx, e _ _ h⟩
theorem IsR.exb {C : Addr} {H H' : Hp} {a l : Addr} {t b : Int} (e : Exb l H H') (n : a ≠ l) (h : IsR C H a t b) : IsR C H' a t b := h.elim fun dx h => ⟨dx, e _ n _ h⟩
theorem rF_top (t b : Int) : (rF t b).lookup ("top" : Str) = some (.int t) := by
  unfold rF
  simp [List.lookup]
theorem rF_bottom (t b : Int) : (rF t b).lookup ("bottom" : Str) = some (.int b) := by
  unfold rF
  have e : (("bottom" : Str) == ("top" : Str)) = false := by decide +kernel
  simp [List.lookup, e]
theorem rF_none (t b : Int) {m : Str} (h1 : (m == ("top" : Str)) = false) (h2 : (m == ("bottom" : Str)) = false) : (rF t b).lookup m = none := by
  unfold rF
  simp [List.lookup, h1, h2]
theorem r_top {K : PySem.W.Frag} {C : Addr} {H : Hp} {Q : VK} {a : Addr} {t b : Int} (c : Cls K C) (n : NoAttr K C "top") (h : IsR C H a t b) (q : Q (.int t) H) : FldK K "top" Q (.ref a) H := by
  obtain ⟨dx, h⟩ := h
  exact ⟨a, C, dx, _, _, rfl, h, c, n, rF_top t b, q⟩
theorem r_bottom {K : PySem.W.Frag} {C : Addr} {H : Hp} {Q : VK} {a : Addr} {t b : Int} (c : Cls K C) (n : NoAttr K C "bottom") (h : IsR C H a t b) (q : Q (.int b) H) : FldK K "bottom" Q (.ref a) H := by
  obtain ⟨dx, h⟩ := h
  exact ⟨a, C, dx, _, _, rfl, h, c, n, rF_bottom t b, q⟩
theorem r_methR {C : Addr} {m : Str} {sp : Sp} {dvs : List V} {E : XK} {ta : TA} {σ : L2.St} {Q : VK} {H : Hp} {a : Addr} {t b : Int} (h : IsR C H a t b) (h1 : (m == ("top" : Str)) = false) (h2 : (m == ("bottom" : Str)) = false) (q : ta σ H fun vs H2 => sp (.ref a :: (vs ++ dvs)) H2 Q E) : MethK C m sp dvs E ta σ Q (.ref a) H := by
  obtain ⟨dx, h⟩ := h
  exact ⟨a, dx, _, rfl, h, rF_none t b h1 h2, q⟩
def RetR (C : Addr) (t b : Int) (H : Hp) (Q : VK) : Prop := ∀ p H', H p = none → Ex H H' → IsR C H' p t b → Q (.ref p) H'
theorem RetR.go {C : Addr} {t b : Int} {H H1 : Hp} {Q : VK} (k : RetR C t b H Q) (e : Ex H H1) : RetR C t b H1 Q := fun p H' hp e2 h => k p H' (Evl.fresh_back e hp) (e.trans e2) h
/-- the shared divisor with the bottom's sign -/
def rG (t b : Int) : Int := if b < 0 then -MG.gcdL [t, b] else MG.gcdL [t, b]
def rT (t b : Int) : Int := t.fdiv (rG t b)
def rB (t b : Int) : Int := b.fdiv (rG t b)
theorem gcdL_pair (t b : Int) : MG.gcdL [t, b] = (Int.gcd t b : Int) := by
  unfold MG.gcdL MG.gcdN Int.gcd
  simp
theorem rG_pos {t b : Int} (hb : b ≠ 0) : 0 < Int.gcd t b := Int.gcd_pos_of_ne_zero_right t hb
theorem rG_ne {t b : Int} (hb : b ≠ 0) : rG t b ≠ 0 := by
  have := rG_pos (t := t) hb
  unfold rG
  rw [gcdL_pair]
  split <;> omega
theorem rG_abs (t b : Int) : (rG t b).natAbs = Int.gcd t b := by
  unfold rG
  rw [gcdL_pair]
  split <;> omega
theorem rG_log {t b : Int} {n : Nat} (hb : b ≠ 0) (h0 : 0 < n) (h : b.natAbs < 2 ^ n) : (rG t b).natAbs.log2 < n := by
  rw [rG_abs]
  exact PySem.Flt.log2_lt_of h0 (Nat.lt_of_le_of_lt (Nat.gcd_le_right _ (by omega)) h)
theorem rG_dvd_t (t b : Int) : rG t b ∣ t := by
  rw [← Int.natAbs_dvd, rG_abs]; exact Int.gcd_dvd_left ..
theorem rG_dvd_b (t b : Int) : rG t b ∣ b := by
  rw [← Int.natAbs_dvd, rG_abs]; exact Int.gcd_dvd_right ..
theorem rT_mul {t b : Int} (hb : b ≠ 0) : rT t b * rG t b = t := by
  obtain ⟨k, hk⟩ := rG_dvd_t t b
  unfold rT
  conv => lhs; arg 1; arg 1; rw [hk]
  rw [Int.mul_fdiv_cancel_left _ (rG_ne hb), Int.mul_comm, ← hk]
theorem rB_mul {t b : Int} (hb : b ≠ 0) : rB t b * rG t b = b := by
  obtain ⟨k, hk⟩ := rG_dvd_b t b
  unfold rB
  conv => lhs; arg 1; arg 1; rw [hk]
  rw [Int.mul_fdiv_cancel_left _ (rG_ne hb), Int.mul_comm, ← hk]
theorem rB_pos {t b : Int} (hb : b ≠ 0) : 0 < rB t b := by
  have h1 := rB_mul (t := t) hb
  have h2 := rG_pos (t := t) hb
  have hs : (b < 0 → rG t b < 0) ∧ (¬ b < 0 → 0 < rG t b) := by
    unfold rG
    rw [gcdL_pair]
    constructor
    · intro h; rw [if_pos h]; omega
    · intro h; rw [if_neg h]; omega
  apply Classical.byContradiction
  intro h
  by_cases hn : b < 0
  · have := Int.mul_nonneg_of_nonpos_of_nonpos (show rB t b ≤ 0 by omega) (show rG t b ≤ 0 by have := hs.1 hn; omega)
    omega
  · have := Int.mul_nonneg (show 0 ≤ -rB t b by omega) (show 0 ≤ rG t b by have := hs.2 hn; omega)
    rw [Int.neg_mul] at this
    omega
theorem r_cross {t b : Int} (hb : b ≠ 0) : rT t b * b = t * rB t b := by
  have h1 := rT_mul (t := t) hb
  have h2 := rB_mul (t := t) hb
  generalize rT t b = p at *
  generalize rB t b = q at *
  generalize rG t b = g at *
  rw [← h1, ← h2, Int.mul_assoc, Int.mul_comm g q]
theorem r_low {t b : Int} (hb : b ≠ 0) : Int.gcd (rT t b) (rB t b) = 1 := by
  have h1 := rT_mul (t := t) hb
  have h2 := rB_mul (t := t) hb
  have h3 := rG_abs t b
  have h4 := rG_pos (t := t) hb
  have h5 := Int.gcd_mul_right (rT t b) (rG t b) (rB t b)
  rw [h1, h2, h3] at h5
  exact Nat.eq_of_mul_eq_mul_right h4 (by omega)
theorem rT_abs {t b : Int} (hb : b ≠ 0) : (rT t b).natAbs ≤ t.natAbs := by
  have h1 := rT_mul (t := t) hb
  have h4 := rG_pos (t := t) hb
  have h3 := rG_abs t b
  have h5 : (rT t b).natAbs * (rG t b).natAbs = t.natAbs := by rw [← Int.natAbs_mul, h1]
  rw [h3] at h5
  rw [← h5]
  exact Nat.le_mul_of_pos_right _ h4
theorem rB_abs {t b : Int} (hb : b ≠ 0) : (rB t b).natAbs ≤ b.natAbs := by
  have h1 := rB_mul (t := t) hb
  have h4 := rG_pos (t := t) hb
  have h3 := rG_abs t b
  have h5 : (rB t b).natAbs * (rG t b).natAbs = b.natAbs := by rw [← Int.natAbs_mul, h1]
  rw [h3] at h5
  rw [← h5]
  exact Nat.le_mul_of_pos_right _ h4
end RB
namespace RB
open PySem PySem.Spec PyProof.Rows L2
/-- what isinstance asks of a class of instances -/
structure InsC (K : PySem.W.Frag) (C : Addr) : Prop where
  ha : PySem.W.findIn K (.ref C) "__class__" = some (some (.builtin "object.__class__"))
  hn : PySem.W.specialIn K (.builtin "object.__class__") "__get__" = some (some (.builtin "getset_descriptor.__get__"))
  ht : PySem.W.takesIn K (.builtin "object.__class__") = some true
  hm : PySem.W.mroIn K C (.type "object") = some true
theorem kit_self (K : PySem.W.Frag) (t : Value) (h : (t == t) = true) : PySem.W.kitOne K t t = some true := by
  unfold PySem.W.kitOne
  rw [if_pos h]
theorem r_isR {K : PySem.W.Frag} {C : Addr} {H : Hp} {Q : VK} {a : Addr} {t b : Int} (c : Cls K C) (i : InsC K C) (h : IsR C H a t b) (q : Q (.bl true) H) : rIsi K [.ref a, .ref C] H Q := by
  obtain ⟨dx, h⟩ := h
  exact ⟨.ref a, .ref C, .ref C, .ref C, true, rfl, .own C, .base (.ins h c i.ha i.hn i.ht i.hm), kit_self K (.ref C) (beq_self_eq_true _), q⟩
end RB

set_option linter.all false
/-! Fractions: order, sign, floor. -/
namespace RB
/-- -1, 0 or 1 -/
def ordI (l r : Int) : Int := if l < r then -1 else if r < l then 1 else 0
theorem ordI_lt {l r : Int} (h : l < r) : ordI l r = -1 := if_pos h
theorem ordI_gt {l r : Int} (h : r < l) : ordI l r = 1 := by
  unfold ordI
  rw [if_neg (by omega), if_pos h]
theorem ordI_self (l : Int) : ordI l l = 0 := by
  unfold ordI
  rw [if_neg (by omega), if_neg (by omega)]
theorem ordI_swap (l r : Int) : ordI r l = - ordI l r := by
  rcases Int.lt_trichotomy l r with h | h | h
  · rw [ordI_lt h, ordI_gt h]; rfl
  · subst h; rw [ordI_self]; rfl
  · rw [ordI_gt h, ordI_lt h]
theorem ordI_scale {c : Int} (hc : 0 < c) (l r : Int) : ordI (l * c) (r * c) = ordI l r := by
  rcases Int.lt_trichotomy l r with h | h | h
  · rw [ordI_lt h, ordI_lt (Int.mul_lt_mul_of_pos_right h hc)]
  · subst h; rw [ordI_self, ordI_self]
  · rw [ordI_gt h, ordI_gt (Int.mul_lt_mul_of_pos_right h hc)]
theorem ordI_sub (l r : Int) : ordI (l - r) 0 = ordI l r := by
  rcases Int.lt_trichotomy l r with h | h | h
  · rw [ordI_lt h, ordI_lt (by omega)]
  · subst h; rw [ordI_self, Int.sub_self, ordI_self]
  · rw [ordI_gt h, ordI_gt (by omega)]
theorem rG_gt {t b : Int} (hb : 0 < b) : 0 < rG t b := by
  have := rG_pos (t := t) (b := b) (by omega)
  unfold rG
  rw [gcdL_pair, if_neg (by omega)]
  omega
/-- the order of two made fractions is that of what they are made of -/
theorem ord_made {t b u v : Int} (hb : 0 < b) (hv : 0 < v) : ordI (rT t b * rB u v) (rT u v * rB t b) = ordI (t * v) (u * b) := by
  have g1 := rG_gt (t := t) hb
  have g2 := rG_gt (t := u) hv
  have e1 := rT_mul (t := t) (b := b) (by omega)
  have e2 := rB_mul (t := t) (b := b) (by omega)
  have e3 := rT_mul (t := u) (b := v) (by omega)
  have e4 := rB_mul (t := u) (b := v) (by omega)
  generalize rT t b = p at *
  generalize rB t b = q at *
  generalize rT u v = p' at *
  generalize rB u v = q' at *
  generalize rG t b = g at *
  generalize rG u v = g' at *
  have hg : 0 < g * g' := Int.mul_pos g1 g2
  have a1 : t * v = (p * q') * (g * g') := by rw [← e1, ← e4]; simp only [Int.mul_assoc, Int.mul_left_comm, Int.mul_comm]
  have a2 : u * b = (p' * q) * (g * g') := by rw [← e3, ← e2]; simp only [Int.mul_assoc, Int.mul_left_comm, Int.mul_comm]
  rw [a1, a2, ordI_scale hg]
theorem sign_made {t b : Int} (hb : 0 < b) : ordI (rT t b) 0 = ordI t 0 := by
  have g1 := rG_gt (t := t) hb
  have e1 := rT_mul (t := t) (b := b) (by omega)
  have := ordI_scale g1 (rT t b) 0
  rw [e1, Int.zero_mul] at this
  exact this.symm
theorem rG_one (t : Int) : rG t 1 = 1 := by
  unfold rG
  rw [gcdL_pair, if_neg (by decide), Int.gcd_one_right]; rfl
theorem rT_one (t : Int) : rT t 1 = t := by
  unfold rT; rw [rG_one, Int.fdiv_one]
theorem rB_one (t : Int) : rB t 1 = 1 := by
  unfold rB; rw [rG_one]; rfl
theorem fdiv_two {p q : Int} (hq : 0 < q) : p.fdiv q * q ≤ p ∧ p < (p.fdiv q + 1) * q := by
  have h1 := Int.mul_fdiv_add_fmod p q
  have h2 := Int.fmod_nonneg_of_pos p hq
  have h3 := Int.fmod_lt_of_pos p hq
  rw [Int.add_mul, Int.one_mul, Int.mul_comm (p.fdiv q) q]
  omega
theorem fdiv_abs {p q : Int} (hq : 0 < q) : (p.fdiv q).natAbs ≤ p.natAbs := by
  obtain ⟨h1, h2⟩ := fdiv_two (p := p) hq
  generalize p.fdiv q = l at *
  by_cases hl : 0 ≤ l
  · have := Int.mul_le_mul_of_nonneg_left (show 1 ≤ q by omega) hl
    rw [Int.mul_one] at this
    omega
  · have := Int.mul_le_mul_of_nonneg_left (show 1 ≤ q by omega) (show 0 ≤ -(l + 1) by omega)
    rw [Int.mul_one, Int.neg_mul] at this
    omega
/-- the floor of a made fraction, told by what it is made of -/
theorem floor_made {t b : Int} (hb : 0 < b) : (rT t b).fdiv (rB t b) * b ≤ t ∧ t < ((rT t b).fdiv (rB t b) + 1) * b := by
  have g1 := rG_gt (t := t) hb
  have e1 := rT_mul (t := t) (b := b) (by omega)
  have e2 := rB_mul (t := t) (b := b) (by omega)
  obtain ⟨h1, h2⟩ := fdiv_two (p := rT t b) (rB_pos (t := t) (b := b) (by omega))
  generalize (rT t b).fdiv (rB t b) = l at *
  generalize rT t b = p at *
  generalize rB t b = q at *
  generalize rG t b = g at *
  have a1 := Int.mul_le_mul_of_nonneg_right h1 (show 0 ≤ g by omega)
  have a2 := Int.mul_lt_mul_of_pos_right h2 g1
  rw [Int.mul_assoc, e2, e1] at a1 a2
  exact ⟨a1, a2⟩
end RB
namespace RB
open PySem PySem.Spec PyProof.Rows L2
theorem r_strI {i : Int} {H : Hp} {Q : VK} (h : i.natAbs.log2 < 1920) (q : Q (.str (toString i)) H) : rStrInt [.int i] H Q := ⟨i, rfl, h, q⟩
theorem r_addS {i j : Str} {H : Hp} {Q : VK} (h : i.length + j.length ≤ sizeLine) (q : Q (.str (i ++ j)) H) : rAddS (.str i) (.str j) H Q := ⟨i, j, rfl, rfl, h, q⟩
theorem rG_low {t b : Int} (hb : 0 < b) (h : Int.gcd t b = 1) : rG t b = 1 := by
  unfold rG
  rw [gcdL_pair, if_neg (by omega), h]; rfl
theorem rT_low {t b : Int} (hb : 0 < b) (h : Int.gcd t b = 1) : rT t b = t := by
  unfold rT; rw [rG_low hb h, Int.fdiv_one]
theorem rB_low {t b : Int} (hb : 0 < b) (h : Int.gcd t b = 1) : rB t b = b := by
  unfold rB; rw [rG_low hb h, Int.fdiv_one]
/-- a fraction's text -/
def textR (t b : Int) : Str := if b = 1 then (toString t : String) else Str.ofString (toString t) ++ "/" ++ Str.ofString (toString b)
theorem text_len {i : Int} (h : i.natAbs.log2 < 1920) : (Str.ofString (toString i)).length ≤ 1921 := PyProof.Rows.int_text_len_1921 h
theorem cat_len (a b : Str) : (a ++ b).length = a.length + b.length := by
  show (a.cps ++ b.cps).size = _
  rw [Array.size_append]; rfl
theorem log_lt {i : Int} {n : Nat} (h0 : 0 < n) (h9 : n ≤ 1920) (h : i.natAbs < 2 ^ n) : i.natAbs.log2 < 1920 := Nat.lt_of_lt_of_le (PySem.Flt.log2_lt_of h0 h) h9
end RB
namespace RB
theorem cross_made {X Y T B : Int} (hY : Y ≠ 0) (h : X * B = T * Y) : rT X Y * B = T * rB X Y := by
  have h1 := rT_mul (t := X) hY
  have h2 := rB_mul (t := X) hY
  have hg := rG_ne (t := X) hY
  generalize rT X Y = p at *
  generalize rB X Y = q at *
  generalize rG X Y = g at *
  apply Int.eq_of_mul_eq_mul_right hg
  rw [Int.mul_assoc, Int.mul_comm B g, ← Int.mul_assoc, h1, h, Int.mul_assoc, h2]
theorem plus_cross {p q p' q' a b c d : Int} (h1 : p * b = a * q) (h2 : p' * d = c * q') : (p * q' + p' * q) * (b * d) = (a * d + c * b) * (q * q') := by grind
theorem minus_cross {p q p' q' a b c d : Int} (h1 : p * b = a * q) (h2 : p' * d = c * q') : (p * q' - p' * q) * (b * d) = (a * d - c * b) * (q * q') := by grind
theorem times_cross {p q p' q' a b c d : Int} (h1 : p * b = a * q) (h2 : p' * d = c * q') : (p * p') * (b * d) = (a * c) * (q * q') := by grind
theorem over_cross {p q p' q' a b c d : Int} (h1 : p * b = a * q) (h2 : p' * d = c * q') : (p * q') * (b * c) = (a * d) * (q * p') := by grind
theorem rT_zero (b : Int) : rT 0 b = 0 := by
  unfold rT; exact Int.zero_fdiv _
end RB

set_option linter.all false
/-! A polynomial at a fraction, by places from the top (top_at), and changes of sign. -/
namespace MH
open ML
/-- the total behind the coefficients (that of the highest power first), the scale -/
def hs (t b : Int) : List Int → Int × Int
  | [] => (0, 1)
  | x :: r => ((hs t b r).1 * t + x * (hs t b r).2, (hs t b r).2 * b)
/-- P at t / b, times b to the power of P's degree; the list's head is the constant, so hs is read from behind -/
def topL (P : List Int) (t b : Int) : Int := (hs t b P).1
theorem hs_cons (t b x : Int) (r : List Int) : hs t b (x :: r) = ((hs t b r).1 * t + x * (hs t b r).2, (hs t b r).2 * b) := rfl
theorem hs_drop {t b : Int} {P : List Int} {i : Nat} {x : Int} (h : P[i]? = some x) : hs t b (P.drop i) = ((hs t b (P.drop (i + 1))).1 * t + x * (hs t b (P.drop (i + 1))).2, (hs t b (P.drop (i + 1))).2 * b) := by
  obtain ⟨hl, e⟩ := List.getElem?_eq_some_iff.mp h
  rw [List.drop_eq_getElem_cons hl, e, hs_cons]
theorem hs_sz {t b : Int} {n m : Nat} (ht : t.natAbs < 2 ^ m) (hb : b.natAbs < 2 ^ m) : ∀ P : List Int, Sz n P → ((hs t b P).1).natAbs < 2 ^ (n + (m + 1) * P.length + 1) ∧ ((hs t b P).2).natAbs < 2 ^ (m * P.length + 1)
  | [], _ => ⟨Nat.two_pow_pos _, by show (1 : Int).natAbs < 2 ^ (m * 0 + 1); simp⟩
  | x :: r, h => by
    obtain ⟨h1, h2⟩ := hs_sz ht hb r (fun y hy => h y (List.mem_cons_of_mem _ hy))
    have hx := h x (List.mem_cons_self ..)
    have a1 : ((hs t b r).1 * t).natAbs < 2 ^ (n + (m + 1) * r.length + 1 + m) := L2.wide_lt h1 ht
    have a2 : (x * (hs t b r).2).natAbs < 2 ^ (n + (m * r.length + 1)) := L2.wide_lt hx h2
    have a3 : ((hs t b r).2 * b).natAbs < 2 ^ (m * r.length + 1 + m) := L2.wide_lt h2 hb
    have e1 : (m + 1) * (r.length + 1) = m * r.length + r.length + m + 1 := by
      rw [Nat.mul_add, Nat.add_mul]; omega
    have e1' : (m + 1) * r.length = m * r.length + r.length := by rw [Nat.add_mul, Nat.one_mul]
    have e2 : m * (r.length + 1) = m * r.length + m := by rw [Nat.mul_add]; omega
    rw [hs_cons, List.length_cons, e1, e2]
    refine ⟨?_, Nat.lt_of_lt_of_le a3 (Nat.pow_le_pow_right (by decide) (by omega))⟩
    have b1 : ((hs t b r).1 * t).natAbs < 2 ^ (n + (m * r.length + r.length + m + 1)) := Nat.lt_of_lt_of_le a1 (Nat.pow_le_pow_right (by decide) (by omega))
    have b2 : (x * (hs t b r).2).natAbs < 2 ^ (n + (m * r.length + r.length + m + 1)) := Nat.lt_of_lt_of_le a2 (Nat.pow_le_pow_right (by decide) (by omega))
    rw [Nat.pow_succ]
    show ((hs t b r).1 * t + x * (hs t b r).2).natAbs < _
    generalize 2 ^ (n + (m * r.length + r.length + m + 1)) = z at b1 b2 ⊢
    omega
theorem hs_scale (p q g : Int) : ∀ P : List Int, (hs (p * g) (q * g) P).1 * g = (hs p q P).1 * g ^ P.length ∧ (hs (p * g) (q * g) P).2 = (hs p q P).2 * g ^ P.length
  | [] => ⟨by show (0 : Int) * g = 0 * g ^ 0; rw [Int.zero_mul, Int.zero_mul], by show (1 : Int) = 1 * g ^ 0; rw [Int.pow_zero]; rfl⟩
  | x :: r => by
    obtain ⟨h1, h2⟩ := hs_scale p q g r
    rw [hs_cons, hs_cons, List.length_cons, Int.pow_succ, h2]
    constructor
    · show ((hs (p * g) (q * g) r).1 * (p * g) + x * ((hs p q r).2 * g ^ r.length)) * g = ((hs p q r).1 * p + x * (hs p q r).2) * (g ^ r.length * g)
      generalize (hs (p * g) (q * g) r).1 = A at *
      generalize (hs p q r).1 = B at *
      generalize g ^ r.length = G at *
      grind
    · show (hs p q r).2 * g ^ r.length * (q * g) = (hs p q r).2 * q * (g ^ r.length * g)
      generalize g ^ r.length = G
      grind
theorem pow_pos {g : Int} (h : 0 < g) : ∀ n : Nat, 0 < g ^ n
  | 0 => by rw [Int.pow_zero]; decide
  | n + 1 => by rw [Int.pow_succ]; exact Int.mul_pos (pow_pos h n) h
/-- the sign at a made fraction is that at what it is made of -/
theorem sign_made (P : List Int) {t b : Int} (hb : 0 < b) : RB.ordI (topL P (RB.rT t b) (RB.rB t b)) 0 = RB.ordI (topL P t b) 0 := by
  have hg := RB.rG_gt (t := t) hb
  have e1 := RB.rT_mul (t := t) (b := b) (by omega)
  have e2 := RB.rB_mul (t := t) (b := b) (by omega)
  have h := (hs_scale (RB.rT t b) (RB.rB t b) (RB.rG t b) P).1
  rw [e1, e2] at h
  have a1 := RB.ordI_scale hg (topL P t b) 0
  have a2 := RB.ordI_scale (pow_pos hg P.length) (topL P (RB.rT t b) (RB.rB t b)) 0
  rw [Int.zero_mul] at a1 a2
  rw [← a1, ← a2]
  unfold topL
  rw [h]
/-- one more sign: how many changes, the last sign -/
def stp (s : Int × Int) (x : Int) : Int × Int := if x ≠ 0 then (if s.2 = 0 - x then s.1 + 1 else s.1, x) else s
def chg (Ps : List (List Int)) (t b : Int) : Int × Int := Ps.foldl (fun s P => stp s (RB.ordI (topL P t b) 0)) (0, 0)
theorem chg_take {Ps : List (List Int)} {t b : Int} {i : Nat} {P : List Int} (h : Ps[i]? = some P) : chg (Ps.take (i + 1)) t b = stp (chg (Ps.take i) t b) (RB.ordI (topL P t b) 0) := by
  unfold chg
  rw [List.take_add_one, h]
  simp [List.foldl_append]
theorem chg_made (Ps : List (List Int)) {t b : Int} (hb : 0 < b) : chg Ps (RB.rT t b) (RB.rB t b) = chg Ps t b := by
  unfold chg
  congr 1
  funext s P
  rw [sign_made P hb]
end MH

namespace RB
structure HSz (n m : Nat) (P : List Int) (t b : Int) : Prop where
  sP : ML.Sz n P
  st : t.natAbs < 2 ^ m
  sb : b.natAbs < 2 ^ m
  n0 : 0 < n
  m0 : 0 < m
  le : n + (m + 1) * (P.length + 1) ≤ 900000
theorem HSz.steps {n m : Nat} {P : List Int} {t b : Int} (s : HSz n m P t b) (k : Nat) : (MH.hs t b (P.drop k)).1.natAbs < 2 ^ (n + (m + 1) * P.length + 1) ∧ (MH.hs t b (P.drop k)).2.natAbs < 2 ^ (m * P.length + 1) := by
  have h := MH.hs_sz s.st s.sb (P.drop k) (s.sP.drop k)
  have hl : (P.drop k).length ≤ P.length := by rw [List.length_drop]; omega
  have h1 := Nat.mul_le_mul_left (m + 1) hl
  have h2 := Nat.mul_le_mul_left m hl
  exact ⟨Nat.lt_of_lt_of_le h.1 (Nat.pow_le_pow_right (by decide) (by omega)), Nat.lt_of_lt_of_le h.2 (Nat.pow_le_pow_right (by decide) (by omega))⟩
end RB

set_option linter.all false
/-! Shrunk, plain. -/
namespace MP
open MG ML
theorem mem_cf {P : List Int} {d : Int} : (∀ x ∈ P, d ∣ x) ↔ ∀ k, d ∣ cf P k := by
  constructor
  · intro h k
    by_cases hk : k < P.length
    · rw [cf_get hk]; exact h _ (List.getElem_mem hk)
    · rw [cf_beyond (by omega)]; exact Int.dvd_zero d
  · intro h x hx
    obtain ⟨k, hk, rfl⟩ := List.getElem_of_mem hx
    rw [← cf_get hk]; exact h k
theorem gcdN_congr {P Q : List Int} (h : ∀ k, cf P k = cf Q k) : gcdN P = gcdN Q := by
  refine gcdN_eq (mem_cf.mpr fun k => ?_) fun d hd => dvd_gcdN (mem_cf.mpr fun k => ?_)
  · rw [h]; exact mem_cf.mp (fun x hx => gcdN_dvd hx) k
  · rw [← h]; exact mem_cf.mp hd k
theorem gcdN_trim (P : List Int) : gcdN (trimL P) = gcdN P := gcdN_congr (cf_trimL P)
theorem gcdN_cf (P : List Int) (k : Nat) : (gcdN P : Int) ∣ cf P k := mem_cf.mp (fun x hx => gcdN_dvd hx) k
theorem gcdL_cf (P : List Int) (k : Nat) : gcdL P ∣ cf P k := gcdN_cf P k
theorem gcdN_zero {P : List Int} (h : gcdN P = 0) (k : Nat) : cf P k = 0 := by
  have := gcdN_cf P k
  rw [h] at this
  exact Int.zero_dvd.mp this
theorem gcdL_ne {P : List Int} {k : Nat} (h : cf P k ≠ 0) : gcdL P ≠ 0 := fun e => h (gcdN_zero (by unfold gcdL at e; omega) k)
theorem gcdL_nonneg (P : List Int) : 0 ≤ gcdL P := by unfold gcdL; omega
theorem gcdL_pos {P : List Int} {k : Nat} (h : cf P k ≠ 0) : 0 < gcdL P := by
  have := gcdL_ne h; have := gcdL_nonneg P; omega
theorem gcdL_le {P : List Int} {k : Nat} (h : cf P k ≠ 0) : (gcdL P).natAbs ≤ (cf P k).natAbs := Nat.le_of_dvd (by omega) (Int.natAbs_dvd_natAbs.mpr (gcdL_cf P k))
theorem trim_last {P : List Int} (h : Trim P) (h0 : P ≠ []) : cf P (P.length - 1) ≠ 0 := h.elim (fun e => absurd e h0) id
theorem gcdL_trim_pos {P : List Int} (h : Trim P) (h0 : P ≠ []) : 0 < gcdL P := gcdL_pos (trim_last h h0)
theorem gcdL_log {n : Nat} {P : List Int} (hn : 0 < n) (hs : Sz n P) (h : Trim P) (h0 : P ≠ []) : (gcdL P).natAbs < 2 ^ n := Nat.lt_of_le_of_lt (gcdL_le (trim_last h h0)) (hs.cf _)
theorem gcdN_mul (c : Int) (P : List Int) : gcdN (P.map (c * ·)) = c.natAbs * gcdN P := by
  induction P with
  | nil => simp [gcdN_nil]
  | cons x r ih => rw [List.map_cons, gcdN_cons, gcdN_cons, ih, Int.natAbs_mul, Nat.gcd_mul_left]
/-- divided by the shared divisor -/
def shrunkL (P : List Int) : List Int := P.map fun x => x.fdiv (gcdL P)
def negL (P : List Int) : List Int := P.map fun x => -x
def plainL (P : List Int) : List Int := if shrunkL P ≠ [] ∧ cf (shrunkL P) ((shrunkL P).length - 1) < 0 then negL (shrunkL P) else shrunkL P
theorem shrunkL_len (P : List Int) : (shrunkL P).length = P.length := by unfold shrunkL; simp
theorem fdiv_zero (c : Int) : (0 : Int).fdiv c = 0 := by simp
theorem cf_shrunkL (P : List Int) (k : Nat) : cf (shrunkL P) k = (cf P k).fdiv (gcdL P) := cf_map (f := fun x => x.fdiv (gcdL P)) (fdiv_zero _) P k
theorem fdiv_exact {c x : Int} (h : c ∣ x) : c * x.fdiv c = x := by
  rw [Int.fdiv_eq_ediv_of_dvd h, Int.mul_ediv_cancel' h]
theorem mul_shrunkL (P : List Int) (k : Nat) : gcdL P * cf (shrunkL P) k = cf P k := by
  rw [cf_shrunkL]; exact fdiv_exact (gcdL_cf P k)
theorem cf_negL (P : List Int) (k : Nat) : cf (negL P) k = - cf P k := cf_map (f := fun x => -x) (by omega) P k
theorem negL_len (P : List Int) : (negL P).length = P.length := by unfold negL; simp
theorem trim_shrunkL {P : List Int} (h : Trim P) : Trim (shrunkL P) := by
  rcases h with h | h
  · left; rw [h]; rfl
  · right
    rw [shrunkL_len]
    intro e
    apply h
    rw [← mul_shrunkL, e, Int.mul_zero]
theorem trim_negL {P : List Int} (h : Trim P) : Trim (negL P) := by
  rcases h with h | h
  · left; rw [h]; rfl
  · right
    rw [negL_len, cf_negL]; omega
theorem trim_plainL {P : List Int} (h : Trim P) : Trim (plainL P) := by
  unfold plainL
  split
  · exact trim_negL (trim_shrunkL h)
  · exact trim_shrunkL h
theorem plainL_len (P : List Int) : (plainL P).length = P.length := by
  unfold plainL
  split
  · rw [negL_len, shrunkL_len]
  · rw [shrunkL_len]
theorem shrunkL_nil : shrunkL [] = [] := rfl
theorem plainL_nil : plainL [] = [] := by simp [plainL, shrunkL_nil]
/-- what is c times a list whose shared divisor is 1, c above 0 -/
theorem shrunkL_of {P Q : List Int} {c : Int} (hc : 0 < c) (hl : P.length = Q.length) (h : ∀ k, cf P k = c * cf Q k) (h1 : gcdN Q = 1) : shrunkL P = Q := by
  have hP : P = Q.map (c * ·) := ext (by simpa using hl) fun k _ => by rw [h, cf_map (by omega)]
  have hg : gcdL P = c := by
    unfold gcdL
    rw [hP, gcdN_mul, h1, Nat.mul_one]; omega
  refine ext (by rw [shrunkL_len, hl]) fun k _ => ?_
  rw [cf_shrunkL, hg, h, Int.mul_fdiv_cancel_left _ (by omega)]
theorem gcdN_shrunkL {P : List Int} (h : gcdN P ≠ 0) : gcdN (shrunkL P) = 1 := by
  have e : P = (shrunkL P).map (gcdL P * ·) := ext (by simp [shrunkL_len]) fun k _ => by rw [cf_map (by omega), mul_shrunkL]
  have h2 := gcdN_mul (gcdL P) (shrunkL P)
  rw [← e] at h2
  have h3 : (gcdL P).natAbs = gcdN P := by unfold gcdL; omega
  rw [h3] at h2
  exact Nat.eq_of_mul_eq_mul_left (Nat.pos_of_ne_zero h) (by rw [← h2, Nat.mul_one])
theorem gcdN_negL (P : List Int) : gcdN (negL P) = gcdN P := by
  have e : negL P = P.map ((-1) * ·) := by
    unfold negL; apply List.map_congr_left; intro x _; omega
  rw [e, gcdN_mul]; simp
theorem gcdN_plainL {P : List Int} (h : gcdN P ≠ 0) : gcdN (plainL P) = 1 := by
  unfold plainL
  split
  · rw [gcdN_negL, gcdN_shrunkL h]
  · exact gcdN_shrunkL h
/-- a list with 1 as its shared divisor stays -/
theorem shrunkL_one {P : List Int} (h : gcdN P = 1) : shrunkL P = P := shrunkL_of (c := 1) (by decide) rfl (fun k => by omega) h
theorem plainL_last {P : List Int} (h : Trim P) (h0 : P ≠ []) : 0 < cf (plainL P) ((plainL P).length - 1) := by
  have h1 := trim_last (trim_plainL h) (fun e => h0 (by
    have := plainL_len P
    rw [e] at this
    exact List.eq_nil_of_length_eq_zero this.symm))
  have hl := plainL_len P
  unfold plainL at h1 ⊢
  split
  · next hh =>
    rw [cf_negL, negL_len]
    omega
  · next hh =>
    rw [if_neg hh] at h1
    have hs : shrunkL P ≠ [] := fun e => h0 (by
      have := shrunkL_len P
      rw [e] at this
      exact List.eq_nil_of_length_eq_zero this.symm)
    have : ¬ cf (shrunkL P) ((shrunkL P).length - 1) < 0 := fun z => hh ⟨hs, z⟩
    omega
theorem plainL_self {P : List Int} (h1 : gcdN P = 1) (h : P ≠ [] → 0 ≤ cf P (P.length - 1)) : plainL P = P := by
  unfold plainL
  rw [shrunkL_one h1, if_neg]
  rintro ⟨h2, h3⟩
  have := h h2
  omega
theorem plainL_of {P Q : List Int} {c : Int} (hc : c ≠ 0) (hl : P.length = Q.length) (h : ∀ k, cf P k = c * cf Q k) (h1 : gcdN Q = 1) (hq : Q ≠ [] → 0 < cf Q (Q.length - 1)) : plainL P = Q := by
  by_cases hp : 0 < c
  · have e := shrunkL_of hp hl h h1
    unfold plainL
    rw [e, if_neg]
    rintro ⟨h2, h3⟩
    have := hq h2
    omega
  · have e : shrunkL P = negL Q := shrunkL_of (c := -c) (by omega) (by rw [negL_len, hl]) (fun k => by rw [h, cf_negL, Int.neg_mul_neg]) (by rw [gcdN_negL, h1])
    unfold plainL
    rw [e]
    by_cases hn : Q = []
    · subst hn; simp [negL]
    · have := hq hn
      rw [if_pos]
      · unfold negL; rw [List.map_map]
        have : ((fun x : Int => -x) ∘ fun x => -x) = id := by funext x; simp
        rw [this, List.map_id]
      · refine ⟨fun e2 => hn ?_, by rw [negL_len, cf_negL]; omega⟩
        have := negL_len Q
        rw [e2] at this
        exact List.eq_nil_of_length_eq_zero this.symm
theorem Sz.shrunkL {n : Nat} {P : List Int} (h : Sz n P) : Sz n (shrunkL P) := Sz.of fun k _ => by
  have h1 := mul_shrunkL P k
  have h2 := h.cf k
  by_cases h0 : gcdL P = 0
  · rw [cf_shrunkL, h0, Int.fdiv_zero]; exact Nat.two_pow_pos n
  · rw [← h1, Int.natAbs_mul] at h2
    exact Nat.lt_of_le_of_lt (Nat.le_mul_of_pos_left _ (by omega)) h2
theorem Sz.negL {n : Nat} {P : List Int} (h : Sz n P) : Sz n (negL P) := Sz.of fun k _ => by rw [cf_negL, Int.natAbs_neg]; exact h.cf k
theorem Sz.plainL {n : Nat} {P : List Int} (h : Sz n P) : Sz n (plainL P) := by
  unfold MP.plainL
  split
  · exact Sz.negL (Sz.shrunkL h)
  · exact Sz.shrunkL h
end MP

set_option linter.all false
/-! Division with a factor. -/
namespace MD
open ML
/-- the last coefficient -/
def lc (Q : List Int) : Int := cf Q (Q.length - 1)
def subShift (rs Q : List Int) (k : Nat) (many : Int) : List Int := (List.range rs.length).map fun j => if k ≤ j ∧ j - k < Q.length then cf rs j - many * cf Q (j - k) else cf rs j
theorem subShift_len (rs Q : List Int) (k : Nat) (many : Int) : (subShift rs Q k many).length = rs.length := by unfold subShift; simp
theorem cf_subShift {rs Q : List Int} {k : Nat} {many : Int} (j : Nat) (h : k + Q.length ≤ rs.length) : cf (subShift rs Q k many) j = cf rs j - if k ≤ j then many * cf Q (j - k) else 0 := by
  unfold subShift
  by_cases hj : j < rs.length
  · rw [cf_range hj]
    by_cases h1 : k ≤ j
    · rw [if_pos h1]
      by_cases h2 : j - k < Q.length
      · rw [if_pos ⟨h1, h2⟩]
      · rw [if_neg (by omega), cf_beyond (P := Q) (by omega), Int.mul_zero]; omega
    · rw [if_neg (by omega), if_neg h1]; omega
  · rw [cf_range_beyond (by omega), cf_beyond (P := rs) (by omega)]
    split
    · rw [cf_beyond (P := Q) (by omega), Int.mul_zero]; rfl
    · rfl
def dloop (Q : List Int) : Nat → List Int × List Int → List Int × List Int
  | 0, s => s
  | k + 1, (qs, rs) => dloop Q k (qs.set k ((cf rs (k + (Q.length - 1))).fdiv (lc Q)), subShift rs Q k ((cf rs (k + (Q.length - 1))).fdiv (lc Q)))
def facL (P Q : List Int) : Int := if P.length < Q.length then 1 else ((lc Q).natAbs : Int) ^ (P.length - Q.length + 1)
def quoL (P Q : List Int) : List Int := if P.length < Q.length then [] else trimL (dloop Q (P.length - Q.length + 1) (List.replicate (P.length - Q.length + 1) 0, P.map (· * facL P Q))).1
def remL (P Q : List Int) : List Int := if P.length < Q.length then P else trimL (dloop Q (P.length - Q.length + 1) (List.replicate (P.length - Q.length + 1) 0, P.map (· * facL P Q))).2
theorem cv_set {qs Q : List Int} {k : Nat} {x : Int} (hk : k < qs.length) (h0 : cf qs k = 0) (j : Nat) : cv (qs.set k x) Q j = cv qs Q j + if k ≤ j then x * cf Q (j - k) else 0 := by
  unfold cv
  have e : sm (j + 1) (fun i => cf (qs.set k x) i * cf Q (j - i)) = sm (j + 1) (fun i => cf qs i * cf Q (j - i) + if i = k then x * cf Q (j - k) else 0) := sm_congr fun i _ => by
    rw [cf_set hk]
    by_cases h : i = k
    · rw [if_pos h, if_pos h, h, h0, Int.zero_mul]; omega
    · rw [if_neg h, if_neg h]; omega
  rw [e, sm_add]
  congr 1
  by_cases hj : k ≤ j
  · rw [if_pos hj, sm_single (j := k) (by omega) fun i _ hn => if_neg hn, if_pos rfl]
  · rw [if_neg hj]
    exact sm_zero fun i hi => if_neg (by omega)
structure Inv (Q : List Int) (F : Nat → Int) (N g k : Nat) (s : List Int × List Int) : Prop where
  lq : s.1.length = g
  lr : s.2.length = N
  eq : ∀ j, F j = cv s.1 Q j + cf s.2 j
  hi : ∀ j, k + (Q.length - 1) ≤ j → cf s.2 j = 0
  dv : ∀ j, (((lc Q).natAbs ^ k : Nat) : Int) ∣ cf s.2 j
  lo : ∀ i, i < k → cf s.1 i = 0
theorem many_eq {Q rs : List Int} {k : Nat} (hl : lc Q ≠ 0) (dv : ∀ j, (((lc Q).natAbs ^ (k + 1) : Nat) : Int) ∣ cf rs j) (j : Nat) : lc Q * (cf rs j).fdiv (lc Q) = cf rs j := by
  have h1 : lc Q ∣ cf rs j := by
    refine Int.dvd_trans ?_ (dv j)
    refine Int.natAbs_dvd_natAbs.mp ?_
    rw [Int.natAbs_natCast, Nat.pow_succ]
    exact Nat.dvd_mul_left _ _
  rw [Int.fdiv_eq_ediv_of_dvd h1, Int.mul_ediv_cancel' h1]
theorem Inv.step {Q : List Int} {F : Nat → Int} {N g k : Nat} {qs rs : List Int} (I : Inv Q F N g (k + 1) (qs, rs)) (hl : lc Q ≠ 0) (hQ : 0 < Q.length) (hk : k < g) (hN : k + Q.length ≤ N) :
    Inv Q F N g k (qs.set k ((cf rs (k + (Q.length - 1))).fdiv (lc Q)), subShift rs Q k ((cf rs (k + (Q.length - 1))).fdiv (lc Q))) := by
  obtain ⟨lq, lr, eq, hi, dv, lo⟩ := I
  dsimp only at lq lr eq hi dv lo
  have me := many_eq hl dv (k + (Q.length - 1))
  have dm : (((lc Q).natAbs ^ k : Nat) : Int) ∣ (cf rs (k + (Q.length - 1))).fdiv (lc Q) := by
    have h1 := dv (k + (Q.length - 1))
    rw [← me] at h1
    have h2 := Int.natAbs_dvd_natAbs.mpr h1
    rw [Int.natAbs_natCast, Int.natAbs_mul, Nat.pow_succ, Nat.mul_comm] at h2
    have h3 := Nat.dvd_of_mul_dvd_mul_left (by omega) h2
    exact Int.natAbs_dvd_natAbs.mp (by rw [Int.natAbs_natCast]; exact h3)
  generalize (cf rs (k + (Q.length - 1))).fdiv (lc Q) = many at me dm ⊢
  refine ⟨by rw [List.length_set]; exact lq, by rw [subShift_len]; exact lr, fun j => ?_, fun j hj => ?_, fun j => ?_, fun i hi' => ?_⟩
  · dsimp only
    rw [eq j, cv_set (by omega) (lo k (by omega)), cf_subShift j (by omega)]; omega
  · dsimp only
    rw [cf_subShift j (by omega), if_pos (by omega)]
    by_cases h : j = k + (Q.length - 1)
    · have e2 : j - k = Q.length - 1 := by omega
      have e3 : cf Q (Q.length - 1) = lc Q := rfl
      rw [e2, e3, h, ← me, Int.mul_comm]; omega
    · rw [hi j (by omega), cf_beyond (P := Q) (by omega), Int.mul_zero]; rfl
  · dsimp only
    rw [cf_subShift j (by omega)]
    have d1 : (((lc Q).natAbs ^ k : Nat) : Int) ∣ cf rs j := Int.dvd_trans (Int.ofNat_dvd.mpr (Nat.pow_dvd_pow _ (by omega))) (dv j)
    refine Int.dvd_sub d1 ?_
    split
    · exact Int.dvd_mul_of_dvd_left dm
    · exact Int.dvd_zero _
  · dsimp only
    rw [cf_set (by omega), if_neg (by omega)]
    exact lo i (by omega)
theorem Inv.run {Q : List Int} {F : Nat → Int} {N g : Nat} (hl : lc Q ≠ 0) (hQ : 0 < Q.length) : ∀ (k : Nat) (s : List Int × List Int), k ≤ g → (k = 0 ∨ k - 1 + Q.length ≤ N) → Inv Q F N g k s → Inv Q F N g 0 (dloop Q k s)
  | 0, s, _, _, I => I
  | k + 1, (qs, rs), hk, hN, I => Inv.run hl hQ k _ (by omega) (by omega) (I.step hl hQ (by omega) (by omega))
theorem cv_zero_left {qs Q : List Int} (h : ∀ i, cf qs i = 0) (j : Nat) : cv qs Q j = 0 := sm_zero fun i _ => by rw [h, Int.zero_mul]
theorem lc_ne {Q : List Int} (hT : Trim Q) (h0 : Q ≠ []) : lc Q ≠ 0 := hT.elim (fun e => absurd e h0) id
theorem len_pos {Q : List Int} (h0 : Q ≠ []) : 0 < Q.length := List.length_pos_iff.mpr h0
theorem dstart {P Q : List Int} (hT : Trim Q) (h0 : Q ≠ []) (hg : ¬ P.length < Q.length) : Inv Q (fun j => cf P j * facL P Q) P.length (P.length - Q.length + 1) (P.length - Q.length + 1) (List.replicate (P.length - Q.length + 1) 0, P.map (· * facL P Q)) where
  lq := by simp
  lr := by simp
  eq := fun j => by
    dsimp only
    rw [cv_zero_left (fun i => cf_rep0 _ _), cf_map (f := (· * facL P Q)) (by omega)]; omega
  hi := fun j hj => by
    have := len_pos h0
    exact cf_beyond (by simp; omega)
  dv := fun j => by
    dsimp only
    rw [cf_map (f := (· * facL P Q)) (by omega)]
    refine Int.dvd_mul_of_dvd_right ?_
    unfold facL
    rw [if_neg hg, ← Int.natCast_pow]
    exact Int.dvd_refl _
  lo := fun i _ => cf_rep0 _ _
theorem dend {P Q : List Int} (hT : Trim Q) (h0 : Q ≠ []) (hg : ¬ P.length < Q.length) : Inv Q (fun j => cf P j * facL P Q) P.length (P.length - Q.length + 1) 0 (dloop Q (P.length - Q.length + 1) (List.replicate (P.length - Q.length + 1) 0, P.map (· * facL P Q))) :=
  Inv.run (lc_ne hT h0) (len_pos h0) _ _ (Nat.le_refl _) (.inr (by omega)) (dstart hT h0 hg)
theorem cv_trim_left (P Q : List Int) (j : Nat) : cv (trimL P) Q j = cv P Q j := sm_congr fun i _ => by rw [cf_trimL]
/-- factor times P is quotient times Q, added to the rest -/
theorem div_eq {P Q : List Int} (hT : Trim Q) (h0 : Q ≠ []) (j : Nat) : facL P Q * cf P j = cv (quoL P Q) Q j + cf (remL P Q) j := by
  by_cases hg : P.length < Q.length
  · unfold facL quoL remL
    rw [if_pos hg, if_pos hg, if_pos hg, cv_zero_left (fun i => cf_nil i)]; omega
  · have I := dend hT h0 hg
    unfold quoL remL
    rw [if_neg hg, if_neg hg, cv_trim_left, cf_trimL, Int.mul_comm]
    exact I.eq j
theorem rem_len {P Q : List Int} (hT : Trim Q) (h0 : Q ≠ []) : (remL P Q).length < Q.length := by
  by_cases hg : P.length < Q.length
  · unfold remL; rw [if_pos hg]; exact hg
  · have I := dend hT h0 hg
    have hq := len_pos h0
    have hz : ∀ j, Q.length - 1 ≤ j → cf (remL P Q) j = 0 := fun j hj => by
      unfold remL
      rw [if_neg hg, cf_trimL]
      exact I.hi j (by omega)
    have ht : Trim (remL P Q) := by
      unfold remL; rw [if_neg hg]; exact trim_trimL _
    rcases ht with h | h
    · rw [h]; exact hq
    · apply Nat.lt_of_not_le
      intro hle
      exact h (hz _ (by omega))
theorem trim_rem {P Q : List Int} (h : Trim P) : Trim (remL P Q) := by
  unfold remL
  split
  · exact h
  · exact trim_trimL _
theorem trim_quo (P Q : List Int) : Trim (quoL P Q) := by
  unfold quoL
  split
  · exact .inl rfl
  · exact trim_trimL _
/-! ### sizes -/
theorem abs_sub_lt {a b : Int} {n m : Nat} (ha : a.natAbs < 2 ^ n) (hb : b.natAbs < 2 ^ m) (h : n ≤ m) : (a - b).natAbs < 2 ^ (m + 1) := by
  have h1 : (2 : Nat) ^ n ≤ 2 ^ m := Nat.pow_le_pow_right (by decide) h
  have h2 : (2 : Nat) ^ (m + 1) = 2 ^ m + 2 ^ m := by rw [Nat.pow_succ]; omega
  omega
theorem many_lt {Q rs : List Int} {k n : Nat} (hl : lc Q ≠ 0) (dv : ∀ j, (((lc Q).natAbs ^ (k + 1) : Nat) : Int) ∣ cf rs j) (hs : Sz n rs) (j : Nat) : ((cf rs j).fdiv (lc Q)).natAbs < 2 ^ n := by
  have h1 := many_eq hl dv j
  have h2 := hs.cf j
  rw [← h1, Int.natAbs_mul] at h2
  exact Nat.lt_of_le_of_lt (Nat.le_mul_of_pos_left _ (by omega)) h2
theorem Sz.sub {Q rs : List Int} {k n m : Nat} {many : Int} (hs : Sz n rs) (hq : Sz m Q) (hm : many.natAbs < 2 ^ n) : Sz (n + m + 1) (subShift rs Q k many) := fun x hx => by
  unfold subShift at hx
  obtain ⟨j, _, rfl⟩ := List.mem_map.mp hx
  have h1 := hs.cf j
  have h2 : (many * cf Q (j - k)).natAbs < 2 ^ (n + m) := by
    rw [Int.natAbs_mul, Nat.pow_add]
    exact Nat.mul_lt_mul'' hm (hq.cf _)
  split
  · exact abs_sub_lt h1 h2 (by omega)
  · exact Nat.lt_of_lt_of_le h1 (Nat.pow_le_pow_right (by decide) (by omega))
theorem Sz.setq {qs : List Int} {n k : Nat} {x : Int} (hs : Sz n qs) (hx : x.natAbs < 2 ^ n) : Sz n (qs.set k x) := fun y hy => by
  rcases List.mem_or_eq_of_mem_set hy with h | h
  · exact hs y h
  · rw [h]; exact hx
theorem dloop_sz {Q : List Int} {F : Nat → Int} {N g m : Nat} (hl : lc Q ≠ 0) (hQ : 0 < Q.length) (hq : Sz m Q) : ∀ (k : Nat) (s : List Int × List Int) (n : Nat), k ≤ g → (k = 0 ∨ k - 1 + Q.length ≤ N) → Inv Q F N g k s → Sz n s.1 → Sz n s.2 → Sz (n + k * (m + 1)) (dloop Q k s).1 ∧ Sz (n + k * (m + 1)) (dloop Q k s).2
  | 0, s, n, _, _, _, h1, h2 => ⟨h1.mono (by omega), h2.mono (by omega)⟩
  | k + 1, (qs, rs), n, hk, hN, I, h1, h2 => by
    have hm := many_lt hl I.dv h2 (k + (Q.length - 1))
    have := dloop_sz hl hQ hq k _ (n + m + 1) (by omega) (by omega) (I.step hl hQ (by omega) (by omega)) ((Sz.setq h1 hm).mono (by omega)) (Sz.sub h2 hq hm)
    have e : n + m + 1 + k * (m + 1) = n + (k + 1) * (m + 1) := by rw [Nat.add_mul]; omega
    rw [e] at this
    exact this
theorem facL_lt {P Q : List Int} {m : Nat} (hq : Sz m Q) : (facL P Q).natAbs < 2 ^ (m * (P.length - Q.length + 1) + 1) := by
  unfold facL
  split
  · exact Nat.lt_of_lt_of_le (by decide : (1 : Int).natAbs < 2 ^ 1) (Nat.pow_le_pow_right (by decide) (by omega))
  · have h := hq.cf (Q.length - 1)
    rw [← Int.natCast_pow, Int.natAbs_natCast]
    refine Nat.lt_of_le_of_lt (Nat.pow_le_pow_left (Nat.le_of_lt h) _) ?_
    rw [← Nat.pow_mul]
    exact Nat.pow_lt_pow_right (by decide) (by omega)
/-- how great the quotient and the rest can be -/
theorem div_sz {P Q : List Int} {n m : Nat} (hT : Trim Q) (h0 : Q ≠ []) (hp : Sz n P) (hq : Sz m Q) : Sz (n + (2 * m + 1) * (P.length + 1) + 1) (quoL P Q) ∧ Sz (n + (2 * m + 1) * (P.length + 1) + 1) (remL P Q) := by
  by_cases hg : P.length < Q.length
  · unfold quoL remL
    rw [if_pos hg, if_pos hg]
    exact ⟨Sz.nil _, hp.mono (by omega)⟩
  · have hs0 : Sz (n + (m * (P.length - Q.length + 1) + 1)) (P.map (· * facL P Q)) := fun x hx => by
      obtain ⟨y, hy, rfl⟩ := List.mem_map.mp hx
      rw [Int.natAbs_mul, Nat.pow_add]
      exact Nat.mul_lt_mul'' (hp y hy) (facL_lt hq)
    have h := dloop_sz (lc_ne hT h0) (len_pos h0) hq (P.length - Q.length + 1) _ _ (Nat.le_refl _) (.inr (by omega)) (dstart hT h0 hg) (Sz.rep0 _ _) hs0
    have hle : n + (m * (P.length - Q.length + 1) + 1) + (P.length - Q.length + 1) * (m + 1) ≤ n + (2 * m + 1) * (P.length + 1) + 1 := by
      have e1 : (P.length - Q.length + 1) * (m + 1) = m * (P.length - Q.length + 1) + (P.length - Q.length + 1) := by rw [Nat.mul_add, Nat.mul_comm]; omega
      have e2 : (2 * m + 1) * (P.length + 1) = 2 * (m * (P.length + 1)) + (P.length + 1) := by rw [Nat.add_mul, Nat.mul_assoc]; omega
      have e3 : m * (P.length - Q.length + 1) ≤ m * (P.length + 1) := Nat.mul_le_mul_left m (by omega)
      omega
    unfold quoL remL
    rw [if_neg hg, if_neg hg]
    exact ⟨(h.1.mono hle).trim, (h.2.mono hle).trim⟩
theorem cv_one (f : Int) (P : List Int) (k : Nat) : cv [f] P k = f * cf P k := by
  unfold cv
  rw [sm_single (j := 0) (by omega) fun i _ hn => by rw [cf_beyond (P := [f]) (by simp; omega), Int.zero_mul]]
  rfl
theorem mul_one_trim {f : Int} {P : List Int} (hf : f ≠ 0) (hT : Trim P) : Trim (mulU [f] P) := by
  rcases hT with h | h
  · left; unfold mulU; rw [if_pos (.inr h)]
  · right
    have hP : P ≠ [] := fun e => by rw [e] at h; exact h (cf_nil _)
    have hl : (mulU [f] P).length = P.length := by
      unfold mulU
      rw [if_neg (fun z => z.elim (fun h => by cases h) hP), List.length_map, List.length_range]
      show 1 + P.length - 1 = _
      omega
    rw [hl, cf_mulU, cv_one]
    exact Int.mul_ne_zero hf h
theorem facL_pos {P Q : List Int} (hT : Trim Q) (h0 : Q ≠ []) : 0 < facL P Q := by
  unfold facL
  split
  · decide
  · have := lc_ne hT h0
    exact Int.pow_pos (by omega)
/-- the sentence of a division, as lists -/
theorem div_lists {P Q : List Int} (hP : Trim P) (hT : Trim Q) (h0 : Q ≠ []) : mulU [facL P Q] P = addL (mulU (quoL P Q) Q) (remL P Q) := by
  refine trim_ext (mul_one_trim (by have := facL_pos (P := P) hT h0; omega) hP) (trim_addL _ _) fun k => ?_
  rw [cf_mulU, cv_one, cf_addL, cf_mulU]
  exact div_eq hT h0 k
end MD

set_option linter.all false
/-! The row of a polynomial. -/
namespace MS
open ML MD MP
def nextL (A B : List Int) : List Int := shrunkL ((remL A B).map fun x => 0 - x)
def rowG : Nat → List Int → List Int → List (List Int)
  | 0, _, _ => []
  | f + 1, A, B => if B = [] then [] else B :: rowG f B (nextL A B)
/-- what the walk asks of each step -/
def RowOk : Nat → List Int → List Int → Prop
  | 0, _, B => B = []
  | f + 1, A, B => B = [] ∨ (Trim B ∧ (∃ n m, Sz n A ∧ Sz m B ∧ A.length ≤ 100000 ∧ B.length ≤ 100000 ∧ 0 < n ∧ 0 < m ∧ m ≤ 9000 ∧ n + (2 * m + 1) * (A.length + 1) ≤ 900000) ∧ (remL A B ≠ [] → MG.gcdL ((remL A B).map fun x => 0 - x) ≠ 0 ∧ (MG.gcdL ((remL A B).map fun x => 0 - x)).natAbs.log2 < 9000) ∧ RowOk f B (nextL A B))
def rowL (f : Nat) (P : List Int) : List (List Int) := if P = [] then [] else shrunkL P :: rowG f (shrunkL P) (shrunkL (slopeL P))
end MS

set_option linter.all false
/-! The ring of polynomials, by coefficients. -/
namespace MR
open ML MD
theorem cv_comm (P Q : List Int) (k : Nat) : cv P Q k = cv Q P k := by
  unfold cv
  rw [← sm_rev (k + 1) (fun i => cf Q i * cf P (k - i))]
  refine sm_congr fun i hi => ?_
  rw [show k + 1 - 1 - i = k - i by omega, show k - (k - i) = i by omega, Int.mul_comm]
theorem sm_tri (g : Nat → Nat → Int) : ∀ k : Nat, sm (k + 1) (fun i => sm (i + 1) (fun j => g j (i - j))) = sm (k + 1) (fun j => sm (k - j + 1) (fun l => g j l))
  | 0 => rfl
  | k + 1 => by
    rw [sm_succ, sm_tri g k, sm_succ (k + 1) (fun j => g j (k + 1 - j)), sm_succ (k + 1) (fun j => sm (k + 1 - j + 1) (fun l => g j l))]
    have e : sm (k + 1) (fun j => sm (k + 1 - j + 1) (fun l => g j l)) = sm (k + 1) (fun j => sm (k - j + 1) (fun l => g j l) + g j (k + 1 - j)) := sm_congr fun j hj => by
      have : k + 1 - j = k - j + 1 := by omega
      rw [this, sm_succ]
    rw [e, sm_add]
    have e2 : sm (k + 1 - (k + 1) + 1) (fun l => g (k + 1) l) = g (k + 1) (k + 1 - (k + 1)) := by
      rw [Nat.sub_self]; simp [sm]
    rw [e2]; omega
theorem cv_assoc' (P Q R : List Int) (k : Nat) : sm (k + 1) (fun i => cv P Q i * cf R (k - i)) = sm (k + 1) (fun j => cf P j * cv Q R (k - j)) := by
  have h := sm_tri (fun j l => cf P j * cf Q l * cf R (k - j - l)) k
  have e1 : sm (k + 1) (fun i => cv P Q i * cf R (k - i)) = sm (k + 1) (fun i => sm (i + 1) (fun j => cf P j * cf Q (i - j) * cf R (k - j - (i - j)))) := sm_congr fun i hi => by
    unfold cv
    rw [← sm_mul_r]
    exact sm_congr fun j hj => by rw [show k - j - (i - j) = k - i by omega]
  have e2 : sm (k + 1) (fun j => cf P j * cv Q R (k - j)) = sm (k + 1) (fun j => sm (k - j + 1) (fun l => cf P j * cf Q l * cf R (k - j - l))) := sm_congr fun j hj => by
    unfold cv
    rw [← sm_mul]
    exact sm_congr fun l _ => by rw [Int.mul_assoc]
  rw [e1, e2]; exact h
theorem cv_congr {P P' Q Q' : List Int} (h : ∀ i, cf P i = cf P' i) (h' : ∀ i, cf Q i = cf Q' i) (k : Nat) : cv P Q k = cv P' Q' k := sm_congr fun i _ => by rw [h, h']
theorem cv_assoc (P Q R : List Int) (k : Nat) : cv (mulL P Q) R k = cv P (mulL Q R) k := by
  have h := cv_assoc' P Q R k
  unfold cv at h ⊢
  rw [show sm (k + 1) (fun i => cf (mulL P Q) i * cf R (k - i)) = sm (k + 1) (fun i => sm (i + 1) (fun j => cf P j * cf Q (i - j)) * cf R (k - i)) from sm_congr fun i _ => by rw [cf_mulL]; rfl, h]
  exact sm_congr fun i _ => by rw [cf_mulL]; rfl
theorem cv_add_left (P P' Q : List Int) (k : Nat) : cv (addL P P') Q k = cv P Q k + cv P' Q k := by
  unfold cv
  rw [← sm_add]
  exact sm_congr fun i _ => by rw [cf_addL, Int.add_mul]
theorem cv_sub_left (P P' Q : List Int) (k : Nat) : cv (subL P P') Q k = cv P Q k - cv P' Q k := by
  unfold cv
  rw [← sm_sub]
  exact sm_congr fun i _ => by rw [cf_subL, Int.sub_mul]
theorem cv_add_right (P Q Q' : List Int) (k : Nat) : cv P (addL Q Q') k = cv P Q k + cv P Q' k := by
  rw [cv_comm, cv_add_left, cv_comm Q, cv_comm Q']
theorem cv_sub_right (P Q Q' : List Int) (k : Nat) : cv P (subL Q Q') k = cv P Q k - cv P Q' k := by
  rw [cv_comm, cv_sub_left, cv_comm Q, cv_comm Q']
/-- times a number -/
def sclL (c : Int) (P : List Int) : List Int := P.map (c * ·)
theorem cf_sclL (c : Int) (P : List Int) (k : Nat) : cf (sclL c P) k = c * cf P k := cf_map (f := (c * ·)) (by omega) P k
theorem sclL_len (c : Int) (P : List Int) : (sclL c P).length = P.length := by unfold sclL; simp
theorem trim_sclL {c : Int} {P : List Int} (hc : c ≠ 0) (h : Trim P) : Trim (sclL c P) := by
  rcases h with h | h
  · left; rw [h]; rfl
  · right; rw [sclL_len, cf_sclL]; exact Int.mul_ne_zero hc h
theorem cv_scl_left (c : Int) (P Q : List Int) (k : Nat) : cv (sclL c P) Q k = c * cv P Q k := by
  unfold cv
  rw [← sm_mul]
  exact sm_congr fun i _ => by rw [cf_sclL, Int.mul_assoc]
theorem cv_scl_right (c : Int) (P Q : List Int) (k : Nat) : cv P (sclL c Q) k = c * cv P Q k := by
  rw [cv_comm, cv_scl_left, cv_comm]
theorem mulL_comm (P Q : List Int) : mulL P Q = mulL Q P := trim_ext (trim_mulL _ _) (trim_mulL _ _) fun k => by rw [cf_mulL, cf_mulL, cv_comm]
theorem mulL_assoc (P Q R : List Int) : mulL (mulL P Q) R = mulL P (mulL Q R) := trim_ext (trim_mulL _ _) (trim_mulL _ _) fun k => by rw [cf_mulL, cf_mulL, cv_assoc]
theorem mulU_one {c : Int} (P : List Int) : mulU [c] P = sclL c P := by
  by_cases h : P = []
  · subst h; rfl
  · refine ext ?_ fun k _ => ?_
    · unfold mulU
      rw [if_neg (fun z => z.elim (fun h => by cases h) h), List.length_map, List.length_range, sclL_len]
      show 1 + P.length - 1 = _
      omega
    · rw [cf_mulU, cv_one, cf_sclL]
/-- the top of a product -/
theorem cv_top {D Q : List Int} {d e : Nat} (hd : ∀ i, d < i → cf D i = 0) (he : ∀ i, e < i → cf Q i = 0) : cv D Q (d + e) = cf D d * cf Q e := by
  unfold cv
  rw [sm_single (j := d) (by omega) fun i _ hn => ?_]
  · rw [Nat.add_sub_cancel_left]
  · by_cases h : d < i
    · rw [hd i h, Int.zero_mul]
    · rw [he (d + e - i) (by omega), Int.mul_zero]
theorem exists_top {D : List Int} (h : ∃ i, cf D i ≠ 0) : ∃ d, cf D d ≠ 0 ∧ ∀ i, d < i → cf D i = 0 := by
  have ht := trim_trimL D
  rcases ht with e | e
  · obtain ⟨i, hi⟩ := h
    rw [← cf_trimL, e, cf_nil] at hi
    exact absurd rfl hi
  · refine ⟨(trimL D).length - 1, by rw [cf_trimL] at e; exact e, fun i hi => ?_⟩
    rw [← cf_trimL]
    exact cf_beyond (by omega)
theorem top_of {Q : List Int} (hT : Trim Q) (h0 : Q ≠ []) : cf Q (Q.length - 1) ≠ 0 ∧ ∀ i, Q.length - 1 < i → cf Q i = 0 :=
  ⟨lc_ne hT h0, fun i hi => cf_beyond (by omega)⟩
/-- what is times Q and of a lower degree than Q is nought -/
theorem low_zero {D Q : List Int} (hT : Trim Q) (h0 : Q ≠ []) (h : ∀ k, Q.length - 1 ≤ k → cv D Q k = 0) : ∀ i, cf D i = 0 := by
  intro i
  apply Classical.byContradiction
  intro hi
  obtain ⟨d, hd, hd2⟩ := exists_top ⟨i, hi⟩
  obtain ⟨q1, q2⟩ := top_of hT h0
  have := cv_top hd2 q2
  rw [h _ (by omega)] at this
  exact Int.mul_ne_zero hd q1 this.symm
/-- the rest of a division is told by any such sentence -/
theorem rest_unique {P Q A R : List Int} {f : Int} (hT : Trim Q) (h0 : Q ≠ []) (hR : R.length < Q.length) (h : ∀ k, f * cf P k = cv A Q k + cf R k) (k : Nat) : facL P Q * cf R k = f * cf (remL P Q) k ∧ facL P Q * cf A k = f * cf (quoL P Q) k := by
  have hz : ∀ i, cf (subL (sclL (facL P Q) A) (sclL f (quoL P Q))) i = 0 := low_zero hT h0 fun k hk => by
    rw [cv_sub_left, cv_scl_left, cv_scl_left]
    have h1 := h k
    have h2 := div_eq (P := P) hT h0 k
    have hr := rem_len (P := P) hT h0
    rw [cf_beyond (P := R) (by omega)] at h1
    rw [cf_beyond (P := remL P Q) (by omega)] at h2
    rw [show cv A Q k = f * cf P k by omega, show cv (quoL P Q) Q k = facL P Q * cf P k by omega, ← Int.mul_assoc, ← Int.mul_assoc, Int.mul_comm (facL P Q) f]
    omega
  have ha : ∀ i, facL P Q * cf A i = f * cf (quoL P Q) i := fun i => by
    have := hz i
    rw [cf_subL, cf_sclL, cf_sclL] at this
    omega
  refine ⟨?_, ha k⟩
  have h1 := h k
  have h2 := div_eq (P := P) hT h0 k
  have h3 : facL P Q * cv A Q k = f * cv (quoL P Q) Q k := by
    rw [← cv_scl_left, ← cv_scl_left]
    exact cv_congr (fun i => by rw [cf_sclL, cf_sclL, ha]) (fun _ => rfl) k
  have h4 : cf R k = f * cf P k - cv A Q k := by omega
  have h5 : cf (remL P Q) k = facL P Q * cf P k - cv (quoL P Q) Q k := by omega
  rw [h4, h5, Int.mul_sub, Int.mul_sub, h3, ← Int.mul_assoc, ← Int.mul_assoc, Int.mul_comm (facL P Q) f]
theorem trim_mulU {P Q : List Int} (hP : Trim P) (hQ : Trim Q) : Trim (mulU P Q) := by
  by_cases h : P = [] ∨ Q = []
  · left; unfold mulU; rw [if_pos h]
  · right
    have h1 : P ≠ [] := fun e => h (.inl e)
    have h2 : Q ≠ [] := fun e => h (.inr e)
    have e : (mulU P Q).length = P.length + Q.length - 1 := by unfold mulU; rw [if_neg h]; simp
    have l1 := len_pos h1
    have l2 := len_pos h2
    obtain ⟨a1, a2⟩ := top_of hP h1
    obtain ⟨b1, b2⟩ := top_of hQ h2
    rw [e, cf_mulU, show P.length + Q.length - 1 - 1 = (P.length - 1) + (Q.length - 1) by omega, cv_top a2 b2]
    exact Int.mul_ne_zero a1 b1
theorem cf_zero_nil {P : List Int} (hT : Trim P) : P = [] ↔ ∀ k, cf P k = 0 :=
  ⟨fun h k => by rw [h, cf_nil], fun h => hT.elim id fun e => absurd (h _) e⟩
/-- Q divides P just where the rest is [] -/
theorem rem_nil {P Q A R : List Int} {f : Int} (hf : f ≠ 0) (hP : Trim P) (hT : Trim Q) (h0 : Q ≠ []) (hR : R.length < Q.length) (tR : Trim R) (h : ∀ k, f * cf P k = cv A Q k + cf R k) : remL P Q = [] ↔ R = [] := by
  have hp := facL_pos (P := P) hT h0
  rw [cf_zero_nil (trim_rem hP), cf_zero_nil tR]
  constructor
  · intro hz k
    have := (rest_unique hT h0 hR h k).1
    rw [hz k, Int.mul_zero] at this
    rcases Int.mul_eq_zero.mp this with e | e
    · omega
    · exact e
  · intro hz k
    have := (rest_unique hT h0 hR h k).1
    rw [hz k, Int.mul_zero] at this
    rcases Int.mul_eq_zero.mp this.symm with e | e
    · exact absurd e hf
    · exact e
end MR

set_option linter.all false
/-! Polynomials that differ by a factor. -/
namespace MQ
open ML MD MP MR MG
theorem plain_mul (A : List Int) : ∃ a : Int, (A ≠ [] → Trim A → a ≠ 0) ∧ ∀ k, cf A k = a * cf (plainL A) k := by
  by_cases h : shrunkL A ≠ [] ∧ cf (shrunkL A) ((shrunkL A).length - 1) < 0
  · refine ⟨-gcdL A, fun h0 ht => ?_, fun k => ?_⟩
    · have := gcdL_trim_pos ht h0; omega
    · unfold plainL
      rw [if_pos h, cf_negL, Int.neg_mul_neg, mul_shrunkL]
  · refine ⟨gcdL A, fun h0 ht => ?_, fun k => ?_⟩
    · have := gcdL_trim_pos ht h0; omega
    · unfold plainL
      rw [if_neg h, mul_shrunkL]
theorem len_le_of {A B : List Int} (tA : Trim A) (h : ∀ k, cf B k = 0 → cf A k = 0) : A.length ≤ B.length := by
  rcases tA with e | e
  · rw [e]; simp
  · apply Classical.byContradiction
    intro hl
    exact e (h _ (cf_beyond (by omega)))
theorem gcd_one_of {p : List Int} {A : List Int} (h0 : A ≠ []) (tA : Trim A) : gcdN (plainL A) = 1 := by
  refine gcdN_plainL fun e => ?_
  have := gcdL_trim_pos tA h0
  unfold gcdL at this
  omega
/-- what divides all of y * p, p of the shared divisor 1, divides y -/
theorem dvd_all {p : List Int} (h : gcdN p = 1) {y z : Int} (hd : ∀ k, y ∣ z * cf p k) : y ∣ z := by
  have h1 := gcdN_mul z p
  rw [h, Nat.mul_one] at h1
  have h2 : y.natAbs ∣ gcdN (p.map (z * ·)) := dvd_gcdN fun x hx => by
    rw [Int.natAbs_dvd]
    obtain ⟨w, hw, rfl⟩ := List.mem_map.mp hx
    obtain ⟨k, hk, e⟩ := List.getElem_of_mem hw
    have := hd k
    rw [cf_get hk, e] at this
    exact this
  rw [h1] at h2
  exact Int.natAbs_dvd_natAbs.mp h2
theorem plain_prop {A B : List Int} {x y : Int} (tA : Trim A) (tB : Trim B) (hx : x ≠ 0) (hy : y ≠ 0) (h : ∀ k, x * cf A k = y * cf B k) : plainL A = plainL B := by
  have ab : ∀ k, cf A k = 0 → cf B k = 0 := fun k e => by
    have := h k
    rw [e, Int.mul_zero] at this
    exact (Int.mul_eq_zero.mp this.symm).resolve_left hy
  have ba : ∀ k, cf B k = 0 → cf A k = 0 := fun k e => by
    have := h k
    rw [e, Int.mul_zero] at this
    exact (Int.mul_eq_zero.mp this).resolve_left hx
  have hl : A.length = B.length := Nat.le_antisymm (len_le_of tA ba) (len_le_of tB ab)
  by_cases h0 : A = []
  · subst h0
    have : B = [] := List.eq_nil_of_length_eq_zero hl.symm
    rw [this]
  obtain ⟨a, ha, hA⟩ := plain_mul A
  have ha := ha h0 tA
  have h1 := gcd_one_of (p := []) h0 tA
  have hlast := plainL_last tA h0
  have hlen := plainL_len A
  generalize plainL A = p at *
  have hd : y ∣ x * a := dvd_all h1 fun k => ⟨cf B k, by rw [Int.mul_assoc, ← hA, h]⟩
  obtain ⟨b, hb⟩ := hd
  have hb0 : b ≠ 0 := fun e => by
    rw [e, Int.mul_zero] at hb
    exact (Int.mul_ne_zero hx ha) hb
  refine (plainL_of (c := b) hb0 (by omega) (fun k => ?_) h1 fun _ => hlast).symm
  have := h k
  rw [hA, ← Int.mul_assoc, hb, Int.mul_assoc] at this
  exact (Int.eq_of_mul_eq_mul_left hy this).symm
end MQ

set_option linter.all false
set_option exponentiation.threshold 100000
/-! Polynomials of degree one. -/
namespace MN
open ML MD MP
theorem gcd_one (c : Int) : MG.gcdL [c] = (c.natAbs : Int) := by
  unfold MG.gcdL MG.gcdN
  simp
theorem gcd_two (f c : Int) : MG.gcdL [f, c] = (Int.gcd f c : Int) := by
  unfold MG.gcdL MG.gcdN Int.gcd
  simp
/-- what a fraction's polynomial asks -/
structure Frc (n : Nat) (t d : Int) : Prop where
  d0 : 0 < d
  g1 : Int.gcd t d = 1
  st : t.natAbs < 2 ^ n
  sd : d.natAbs < 2 ^ n
  n0 : 0 < n
  n9 : n ≤ 4000
variable {n : Nat} {t d : Int}
theorem gcdN_lin (h : Frc n t d) : MG.gcdN [-t, d] = 1 := by
  have e := gcd_two (-t) d
  rw [Int.neg_gcd, h.g1] at e
  unfold MG.gcdL at e
  omega
theorem plain_lin (h : Frc n t d) : plainL [-t, d] = [-t, d] := plainL_self (gcdN_lin h) fun _ => by
  show 0 ≤ d
  have := h.d0
  omega
theorem shrunk_lin (h : Frc n t d) : shrunkL [-t, d] = [-t, d] := shrunkL_one (gcdN_lin h)
theorem shrunk_one (h : 0 < d) : shrunkL [d] = [1] := shrunkL_of (c := d) h rfl (fun k => by
  cases k with
  | zero => show d = d * 1; omega
  | succ k => show (0 : Int) = d * 0; omega) (by decide)
theorem plain_one (h : 0 < d) : plainL [d] = [1] := plainL_of (c := d) (by omega) rfl (fun k => by
  cases k with
  | zero => show d = d * 1; omega
  | succ k => show (0 : Int) = d * 0; omega) (by decide) (fun _ => by decide)
theorem slope_lin (f c : Int) : slopeL [f, c] = [c] := by
  have e : slopeL [f, c] = [(((0 : Nat) : Int) + 1) * c] := rfl
  rw [e]; simp
theorem rem_one (A : List Int) : remL A [1] = [] := by
  have := rem_len (P := A) (Q := [1]) (.inr (by decide)) (by simp)
  exact List.eq_nil_of_length_eq_zero (Nat.lt_one_iff.mp this)
theorem trim_lin (h : d ≠ 0) : Trim [t, d] := .inr h
theorem cv_one_right (P : List Int) (k : Nat) : cv P [1] k = cf P k := by
  unfold cv
  rw [sm_single (j := k) (by omega) fun i hi hn => by
    have : cf [1] (k - i) = 0 := cf_beyond (by show 1 ≤ k - i; omega)
    rw [this, Int.mul_zero], Nat.sub_self]
  show cf P k * 1 = _
  omega
theorem fac_one (A : List Int) : facL A [1] = 1 := by
  unfold facL
  split
  · rfl
  · show ((1 : Nat) : Int) ^ _ = 1
    exact Int.one_pow
theorem quo_one {A : List Int} (hA : Trim A) : quoL A [1] = A := trim_ext (trim_quo _ _) hA fun k => by
  have h := div_eq (P := A) (Q := [1]) (.inr (by decide)) (by simp) k
  rw [fac_one, cv_one_right, rem_one, cf_nil] at h
  omega
theorem sz_lin (h : Frc n t d) : Sz n [-t, d] := fun x hx => by
  simp only [List.mem_cons, List.not_mem_nil, or_false] at hx
  have h1 := h.st
  have h2 := h.sd
  rcases hx with rfl | rfl
  · rw [Int.natAbs_neg]; exact h1
  · exact h2
theorem row_lin (h : Frc n t d) : MS.rowL 2 [-t, d] = [[-t, d], [1]] := by
  unfold MS.rowL
  rw [if_neg (by simp), slope_lin, shrunk_one h.d0, shrunk_lin h]
  show _ :: (if [1] = [] then [] else [1] :: MS.rowG 1 [1] (MS.nextL _ [1])) = _
  have e : MS.nextL [-t, d] [1] = [] := by unfold MS.nextL; rw [rem_one]; rfl
  rw [if_neg (by simp), e]
  rfl
theorem row_ok (h : Frc n t d) : MS.RowOk 2 (shrunkL [-t, d]) (shrunkL (slopeL [-t, d])) := by
  have n0 := h.n0
  have n9 := h.n9
  rw [slope_lin, shrunk_one h.d0, shrunk_lin h]
  have e : MS.nextL [-t, d] [1] = [] := by unfold MS.nextL; rw [rem_one]; rfl
  refine .inr ⟨.inr (by decide), ⟨n, 1, sz_lin h, fun x hx => ?_, by simp, by simp, n0, by decide, by decide, ?_⟩, fun hn => absurd (rem_one _) hn, .inl e⟩
  · rw [List.mem_singleton] at hx
    rw [hx]; decide
  · show n + (2 * 1 + 1) * (2 + 1) ≤ 900000
    omega
theorem log_gcd (h : Frc n t d) : MG.gcdL [-t, d] ≠ 0 ∧ (MG.gcdL [-t, d]).natAbs.log2 < 9000 := by
  have e := gcd_two (-t) d
  rw [Int.neg_gcd, h.g1] at e
  rw [e]
  exact ⟨by decide, by decide⟩
theorem top_lin (t d x y : Int) : MH.topL [-t, d] x y = d * x - t * y := by
  show (0 * x + d * 1) * x + -t * (1 * y) = _
  grind
theorem top_one (x y : Int) : MH.topL [1] x y = 1 := by
  show 0 * x + 1 * 1 = 1
  omega
/-- one change between what is below and what is not -/
theorem chg_below {x y : Int} (h : d * x < t * y) : (MH.chg [[-t, d], [1]] x y).1 = 1 := by
  show (MH.stp (MH.stp (0, 0) (RB.ordI (MH.topL [-t, d] x y) 0)) (RB.ordI (MH.topL [1] x y) 0)).1 = 1
  rw [top_lin, top_one, RB.ordI_lt (show d * x - t * y < 0 by omega)]
  rfl
theorem chg_above {x y : Int} (h : t * y ≤ d * x) : (MH.chg [[-t, d], [1]] x y).1 = 0 := by
  show (MH.stp (MH.stp (0, 0) (RB.ordI (MH.topL [-t, d] x y) 0)) (RB.ordI (MH.topL [1] x y) 0)).1 = 0
  rw [top_lin, top_one]
  by_cases h1 : d * x - t * y = 0
  · rw [h1]; rfl
  · rw [RB.ordI_gt (show 0 < d * x - t * y by omega)]
    rfl
end MN

set_option linter.all false
set_option maxRecDepth 100000
/-! Fractions as they are made; figures. -/
namespace RB
theorem low_unique {p q p' q' : Int} (hq : 0 < q) (hq' : 0 < q') (h1 : Int.gcd p q = 1) (h2 : Int.gcd p' q' = 1) (h : p * q' = p' * q) : p = p' ∧ q = q' := by
  have e : p.natAbs * q'.natAbs = p'.natAbs * q.natAbs := by rw [← Int.natAbs_mul, h, Int.natAbs_mul]
  have c1 : Nat.Coprime q.natAbs p.natAbs := by
    show Nat.gcd q.natAbs p.natAbs = 1
    rw [Nat.gcd_comm]; exact h1
  have c2 : Nat.Coprime q'.natAbs p'.natAbs := by
    show Nat.gcd q'.natAbs p'.natAbs = 1
    rw [Nat.gcd_comm]; exact h2
  have d1 : q.natAbs ∣ q'.natAbs := c1.dvd_of_dvd_mul_left (by rw [e]; exact Nat.dvd_mul_left ..)
  have d2 : q'.natAbs ∣ q.natAbs := c2.dvd_of_dvd_mul_left (by rw [← e]; exact Nat.dvd_mul_left ..)
  have d3 := Nat.dvd_antisymm d1 d2
  have eq_ : q = q' := by omega
  subst eq_
  exact ⟨Int.eq_of_mul_eq_mul_right (by omega) h, rfl⟩
theorem made_same {X Y X' Y' : Int} (hY : 0 < Y) (hY' : 0 < Y') (h : X * Y' = X' * Y) : rT X Y = rT X' Y' ∧ rB X Y = rB X' Y' := by
  have e1 := r_cross (t := X) (b := Y) (by omega)
  have e2 := r_cross (t := X') (b := Y') (by omega)
  have b1 := rB_pos (t := X) (b := Y) (by omega)
  have b2 := rB_pos (t := X') (b := Y') (by omega)
  refine low_unique b1 b2 (r_low (by omega)) (r_low (by omega)) ?_
  generalize rT X Y = p at *
  generalize rB X Y = q at *
  generalize rT X' Y' = p' at *
  generalize rB X' Y' = q' at *
  have hYY : Y * Y' ≠ 0 := Int.mul_ne_zero (by omega) (by omega)
  refine Int.eq_of_mul_eq_mul_right hYY ?_
  -- p q' Y Y' = X q q' Y' = X' Y q q' = p' Y' q Y
  have a1 : p * q' * (Y * Y') = (p * Y) * (q' * Y') := by grind
  have a2 : p' * q * (Y * Y') = (p' * Y') * (q * Y) := by grind
  rw [a1, a2, e1, e2]
  have a3 : X * q * (q' * Y') = (X * Y') * (q * q') := by grind
  have a4 : X' * q' * (q * Y) = (X' * Y) * (q * q') := by grind
  rw [a3, a4, h]
theorem IsR.same {C p : PySem.Addr} {H : L2.Hp} {X Y X' Y' : Int} (h : IsR C H p (rT X Y) (rB X Y)) (hY : 0 < Y) (hY' : 0 < Y') (e : X * Y' = X' * Y) : IsR C H p (rT X' Y') (rB X' Y') := by
  obtain ⟨h1, h2⟩ := made_same hY hY' e
  rw [← h1, ← h2]; exact h
theorem ord_le0 {a b : Int} : ordI a b ≤ 0 ↔ a ≤ b := by
  unfold ordI
  split
  · constructor <;> intro <;> omega
  · split
    · constructor <;> intro <;> omega
    · constructor <;> intro <;> omega
theorem ord_gt0 {a b : Int} : ordI a b > 0 ↔ b < a := by
  unfold ordI
  split
  · constructor <;> intro <;> omega
  · split
    · constructor <;> intro <;> omega
    · constructor <;> intro <;> omega
end RB
namespace MX
open RB
theorem fd_eq {x q w : Int} (hq : 0 < q) (h1 : w * q ≤ x) (h2 : x < (w + 1) * q) : x.fdiv q = w := by
  obtain ⟨h3, h4⟩ := fdiv_two (p := x) hq
  generalize x.fdiv q = v at *
  have a1 : v < w + 1 := by
    apply Classical.byContradiction
    intro h
    have := Int.mul_le_mul_of_nonneg_right (show w + 1 ≤ v by omega) (show 0 ≤ q by omega)
    omega
  have a2 : w < v + 1 := by
    apply Classical.byContradiction
    intro h
    have := Int.mul_le_mul_of_nonneg_right (show v + 1 ≤ w by omega) (show 0 ≤ q by omega)
    omega
  omega
/-- halves of a floor -/
theorem half_floor {x d : Int} (hd : 0 < d) : ((2 * x).fdiv d + 1).fdiv 2 = (2 * x + d).fdiv (2 * d) := by
  obtain ⟨h1, h2⟩ := fdiv_two (p := 2 * x) hd
  obtain ⟨h3, h4⟩ := fdiv_two (p := (2 * x).fdiv d + 1) (show (0 : Int) < 2 by decide)
  generalize (2 * x).fdiv d = m at *
  generalize (m + 1).fdiv 2 = w at *
  refine (fd_eq (by omega) ?_ ?_).symm
  · have a := Int.mul_le_mul_of_nonneg_right (show 2 * w - 1 ≤ m by omega) (show 0 ≤ d by omega)
    have e : w * (2 * d) = (2 * w - 1) * d + d := by grind
    omega
  · have a := Int.mul_le_mul_of_nonneg_right (show m + 1 ≤ 2 * w + 1 by omega) (show 0 ≤ d by omega)
    have e : (w + 1) * (2 * d) = (2 * w + 1) * d + d := by grind
    omega
theorem fd_cross {x q x' q' : Int} (hq : 0 < q) (hq' : 0 < q') (h : x * q' = x' * q) : x.fdiv q = x'.fdiv q' := by
  obtain ⟨h1, h2⟩ := fdiv_two (p := x') hq'
  generalize x'.fdiv q' = w at *
  refine fd_eq hq ?_ ?_
  · have a := Int.mul_le_mul_of_nonneg_right h1 (show 0 ≤ q by omega)
    rw [← h] at a
    have e : w * q' * q = (w * q) * q' := by grind
    rw [e] at a
    exact Int.le_of_mul_le_mul_right a hq'
  · have a := Int.mul_lt_mul_of_pos_right h2 hq
    rw [← h] at a
    have e : (w + 1) * q' * q = ((w + 1) * q) * q' := by grind
    rw [e] at a
    exact Int.lt_of_mul_lt_mul_right a (by omega)
/-- the floor, from a fraction that is a little greater -/
theorem steps_eq {A t d b p : Int} (hd : 0 < d) (hp : 0 < p) (hb : 0 < b) (h1 : A < t * p) (h2 : t * p ≤ A + d) (h3 : b ≤ p) {w : Int} (hw1 : w * (d * p) ≤ (A + d) * b) (hw2 : (A + d) * b < (w + 1) * (d * p)) : (if t * b < w * d then w - 1 else w) = (t * b).fdiv d := by
  have dp : 0 < d * p := Int.mul_pos hd hp
  have k1 : (t * b) * p ≤ (A + d) * b := by
    have := Int.mul_le_mul_of_nonneg_right h2 (show 0 ≤ b by omega)
    have e : t * p * b = t * b * p := by grind
    omega
  have k2 : (A + d) * b < (t * b) * p + d * p := by
    have := Int.mul_lt_mul_of_pos_right h1 hb
    have e : t * p * b = t * b * p := by grind
    have e2 : (A + d) * b = A * b + d * b := by grind
    have := Int.mul_le_mul_of_nonneg_left h3 (show 0 ≤ d by omega)
    omega
  have c1 : w * (d * p) = (w * d) * p := by grind
  have c2 : (w + 1) * (d * p) = ((w + 1) * d) * p := by grind
  have c3 : t * b * p + d * p = (t * b + d) * p := by grind
  have l1 : w * d < t * b + d := by
    have : (w * d) * p < (t * b + d) * p := by omega
    exact Int.lt_of_mul_lt_mul_right this (by omega)
  have l2 : t * b < (w + 1) * d := by
    have : (t * b) * p < ((w + 1) * d) * p := by omega
    exact Int.lt_of_mul_lt_mul_right this (by omega)
  have e1 : (w + 1) * d = w * d + d := by grind
  have e2 : (w - 1) * d = w * d - d := by grind
  split
  · next h =>
    refine (fd_eq hd (by omega) ?_).symm
    rw [show w - 1 + 1 = w by omega]; exact h
  · next h => exact (fd_eq hd (by omega) l2).symm
end MX

set_option linter.all false
set_option maxRecDepth 100000
/-! Figures: texts of whole numbers, filled with noughts, cut. -/
namespace RB
open PySem PySem.Spec PyProof.Rows L2 TL
open PySem.Builtin.Str (tooLong)
def rZfill : V → List V → Hp → VK → Prop := fun x xs H Q => ∃ (a : Str) (i : Int), x = .str a ∧ xs = [.int i] ∧ PadOk i = true ∧ Q (.str (Txt.zfill a i)) H
def numS (W : Nat) : Str := Str.ofString (toString ((W : Nat) : Int))
theorem numS_list (W : Nat) : (numS W).cps.toList = numL W := tl_num W
theorem str_len (z : Str) : z.length = z.cps.toList.length := by
  show z.cps.size = _
  rw [Array.length_toList]
theorem str_ext {a b : Str} (h : a.cps.toList = b.cps.toList) : a = b := by
  cases a; cases b
  simp at h
  rw [h]
theorem app_list (a b : Str) : (a ++ b).cps.toList = a.cps.toList ++ b.cps.toList := by
  show (a.cps ++ b.cps).toList = _
  rw [Array.toList_append]
/-- so many noughts ahead -/
def zs (k : Nat) (t : Str) : Str := ⟨(List.replicate k 48 ++ t.cps.toList).toArray⟩
theorem zs_list (k : Nat) (t : Str) : (zs k t).cps.toList = List.replicate k 48 ++ t.cps.toList := by
  show (List.replicate k 48 ++ t.cps.toList).toArray.toList = _
  rw [List.toList_toArray]
theorem zs_zero (t : Str) : zs 0 t = t := str_ext (by rw [zs_list]; rfl)
theorem zs_succ (k : Nat) (t : Str) : ("0" : Str) ++ zs k t = zs (k + 1) t := str_ext (by rw [app_list, zs_list, zs_list, List.replicate_succ]; rfl)
theorem zs_len (k : Nat) (t : Str) : (zs k t).length = k + t.length := by
  rw [str_len, str_len, zs_list, List.length_append, List.length_replicate]
def padT (t : Str) (n : Nat) : Str := zs (n - t.length) t
theorem padT_len (t : Str) (n : Nat) : (padT t n).length = max n t.length := by
  unfold padT
  rw [zs_len]; omega
theorem zfill_num (W n : Nat) : Txt.zfill (numS W) (n : Int) = padT (numS W) n := by
  unfold Txt.zfill padT
  by_cases h : (n : Int) ≤ ((numS W).length : Int)
  · rw [if_pos h, show n - (numS W).length = 0 by omega, zs_zero]
  · rw [if_neg h, Int.toNat_natCast]
    generalize hk : n - (numS W).length = k
    obtain ⟨c, r, hc⟩ : ∃ c r, numL W = c :: r := by
      cases e : numL W with
      | nil => exact absurd e (numL_ne W)
      | cons c r => exact ⟨c, r, rfl⟩
    have hd : (numS W).cps[0]? = some c := by
      rw [← Array.getElem?_toList, numS_list, hc]; rfl
    have hc0 : 48 ≤ c ∧ c ≤ 57 := by
      have := numL_digits W c (by rw [hc]; exact List.mem_cons_self ..)
      omega
    have e : PySem.zfilled (numS W) k = Builtin.Str.padded (numS W) k 0 48 := by
      unfold PySem.zfilled
      rw [hd]
      split
      · next h1 => cases h1; omega
      · next h1 => cases h1; omega
      · rfl
    first
    | rw [e]
    | (show PySem.zfilled (numS W) k = _; rw [e])
    refine str_ext ?_
    rw [zs_list]
    unfold Builtin.Str.padded
    simp
theorem cut_to {z : Str} {p : Nat} (h1 : 0 < p) (h2 : p ≤ z.length) : cutS z none (some (-(p : Int))) = cutS z none (some ((z.length : Int) - p)) := by
  have e : HT.sIx z.length z.length (some (-(p : Int))) = HT.sIx z.length z.length (some ((z.length : Int) - p)) := by
    show (if -(p : Int) < 0 then (-(p : Int) + (z.length : Int)).toNat else _) = (if (z.length : Int) - p < 0 then _ else min ((z.length : Int) - p).toNat z.length)
    rw [if_pos (by omega), if_neg (by omega)]
    omega
  unfold cutS
  rw [e]
theorem cut_from {z : Str} {p : Nat} (h1 : 0 < p) (h2 : p ≤ z.length) : cutS z (some (-(p : Int))) none = cutS z (some ((z.length : Int) - p)) none := by
  have e : HT.sIx z.length 0 (some (-(p : Int))) = HT.sIx z.length 0 (some ((z.length : Int) - p)) := by
    show (if -(p : Int) < 0 then (-(p : Int) + (z.length : Int)).toNat else _) = (if (z.length : Int) - p < 0 then _ else min ((z.length : Int) - p).toNat z.length)
    rw [if_pos (by omega), if_neg (by omega)]
    omega
  unfold cutS
  rw [e]
theorem cut_len (z : Str) (lo hi : Option Int) : (cutS z lo hi).length ≤ z.length := by
  rw [str_len, str_len]
  unfold cutS
  rw [List.toList_toArray, List.length_take, List.length_drop]
  omega
/-- with the point -/
def ptT (z : Str) (p : Nat) : Str := if 0 < p then cutS z none (some ((z.length : Int) - p)) ++ "." ++ cutS z (some ((z.length : Int) - p)) none else z
/-- the figures -/
def figT (W p : Nat) (neg : Prop) [Decidable neg] : Str := if neg ∧ 0 < W then "-" ++ ptT (padT (numS W) (p + 1)) p else ptT (padT (numS W) (p + 1)) p
theorem r_zfill {z : Str} {n : Nat} {H : Hp} {Q : VK} (h : n ≤ 100000) (q : Q (.str (Txt.zfill z (n : Int))) H) : rZfill (.str z) [.int (n : Int)] H Q := ⟨z, n, rfl, rfl, by
  unfold PadOk
  have h1 : fitsSsize (n : Int) = true := by
    unfold fitsSsize
    simp
    omega
  have h2 : tooLong (n : Int).toNat = false := by
    rw [Int.toNat_natCast]
    unfold tooLong
    exact decide_eq_false (by have := small0 (show n ≤ 16777216 by omega); omega)
  rw [h1, h2]; rfl, q⟩
theorem r_slS {z : Str} {lo hi : Option Int} {H : Hp} {Q : VK} (h : z.length ≤ sizeLine) (q : Q (.str (cutS z lo hi)) H) : rSlS (.str z) lo hi H Q := ⟨z, rfl, h, q⟩
theorem r_lenS {z : Str} {H : Hp} {Q : VK} (h : z.length ≤ sizeLine) (q : Q (.int z.length) H) : rLenStr [.str z] H Q := ⟨z, rfl, h, q⟩
set_option exponentiation.threshold 100000
theorem ten_lt (p : Nat) : ((10 : Int) ^ p).natAbs < 2 ^ (4 * p + 1) := by
  induction p with
  | zero => decide
  | succ p ih =>
    rw [Int.pow_succ, show 4 * (p + 1) + 1 = 4 * p + 1 + 4 by omega]
    exact wide_lt ih (by decide)
theorem ten_pos (p : Nat) : (0 : Int) < 10 ^ p := Int.pow_pos (by decide)
/-- what is rounded -/
def rndV (t d : Int) (p : Nat) : Int := (2 * (t.natAbs : Int) * 10 ^ p + d).fdiv (2 * d)
theorem rnd_nonneg {t d : Int} {p : Nat} (hd : 0 < d) : 0 ≤ rndV t d p := by
  obtain ⟨h1, h2⟩ := fdiv_two (p := 2 * (t.natAbs : Int) * 10 ^ p + d) (show 0 < 2 * d by omega)
  have h3 : 0 ≤ 2 * (t.natAbs : Int) * 10 ^ p := Int.mul_nonneg (by omega) (by have : (0 : Int) < 10 ^ p := Int.pow_pos (by decide); omega)
  unfold rndV
  generalize (2 * (t.natAbs : Int) * 10 ^ p + d).fdiv (2 * d) = w at *
  apply Classical.byContradiction
  intro hh
  have := Int.mul_le_mul_of_nonneg_right (show w + 1 ≤ 0 by omega) (show 0 ≤ 2 * d by omega)
  omega
theorem rnd_lt {t d : Int} {p n : Nat} (hd : 0 < d) (st : t.natAbs < 2 ^ n) (sd : d.natAbs < 2 ^ n) (hp : p ≤ 100) : (2 * (t.natAbs : Int)).natAbs < 2 ^ (n + 1) ∧ (2 * (t.natAbs : Int) * 10 ^ p + d).natAbs < 2 ^ (n + 403) ∧ (rndV t d p).natAbs < 2 ^ (n + 403) := by
  have h1 : (2 * (t.natAbs : Int)).natAbs < 2 ^ (n + 1) := by rw [Nat.pow_succ]; omega
  have h2 := wide_lt h1 (ten_lt p)
  have h3 : (2 : Nat) ^ (n + 1 + (4 * p + 1)) ≤ 2 ^ (n + 402) := Nat.pow_le_pow_right (by decide) (by omega)
  have h4 : (2 : Nat) ^ n ≤ 2 ^ (n + 402) := Nat.pow_le_pow_right (by decide) (by omega)
  have h5 : (2 * (t.natAbs : Int) * 10 ^ p + d).natAbs < 2 ^ (n + 403) := by
    rw [show n + 403 = n + 402 + 1 by omega, Nat.pow_succ]
    omega
  refine ⟨h1, h5, Nat.lt_of_le_of_lt (fdiv_abs (by omega)) h5⟩
theorem num_len {W : Nat} {k : Nat} (h : W < 2 ^ k) (hk : 0 < k ∧ k ≤ 1920) : (numS W).length ≤ 1921 := by
  refine text_len ?_
  have : ((W : Nat) : Int).natAbs = W := by omega
  rw [this]
  exact Nat.lt_of_lt_of_le (PySem.Flt.log2_lt_of hk.1 h) hk.2
theorem figT_congr {W p : Nat} {A B : Prop} [Decidable A] [Decidable B] (h : A ↔ B) : figT W p A = figT W p B := by
  unfold figT
  by_cases ha : A
  · have hb := h.mp ha
    by_cases hW : 0 < W
    · rw [if_pos ⟨ha, hW⟩, if_pos ⟨hb, hW⟩]
    · rw [if_neg fun z => hW z.2, if_neg fun z => hW z.2]
  · have hb : ¬ B := fun z => ha (h.mpr z)
    rw [if_neg fun z => ha z.1, if_neg fun z => hb z.1]
/-- of a fraction as it is made: the same figures -/
theorem fig_made {t b : Int} {p : Nat} (hb : 0 < b) : figT (rndV (rT t b) (rB t b) p).toNat p (rT t b < 0) = figT (rndV t b p).toNat p (t < 0) := by
  have q := rB_pos (t := t) (b := b) (by omega)
  have x := r_cross (t := t) (b := b) (by omega)
  have e : rndV (rT t b) (rB t b) p = rndV t b p := by
    unfold rndV
    have xa : ((rT t b).natAbs : Int) * b = (t.natAbs : Int) * rB t b := by
      have h1 : ((rT t b * b).natAbs : Int) = ((t * rB t b).natAbs : Int) := by rw [x]
      rw [Int.natAbs_mul, Int.natAbs_mul, Int.natCast_mul, Int.natCast_mul] at h1
      have h2 : ((b.natAbs : Nat) : Int) = b := by omega
      have h3 : (((rB t b).natAbs : Nat) : Int) = rB t b := by omega
      rw [h2, h3] at h1
      exact h1
    refine MX.fd_cross (by omega) (by omega) ?_
    generalize rT t b = P at *
    generalize rB t b = S at *
    generalize (10 : Int) ^ p = T
    have f : (2 * (P.natAbs : Int) * T + S) * (2 * b) = 2 * T * 2 * ((P.natAbs : Int) * b) + 2 * S * b := by grind
    rw [f, xa]
    grind
  have hs : rT t b < 0 ↔ t < 0 := by
    constructor
    · intro h
      apply Classical.byContradiction
      intro hh
      have h1 := Int.mul_neg_of_neg_of_pos h hb
      have h2 := Int.mul_nonneg (show 0 ≤ t by omega) (show 0 ≤ rB t b by omega)
      omega
    · intro h
      apply Classical.byContradiction
      intro hh
      have h1 := Int.mul_nonneg (show 0 ≤ rT t b by omega) (show 0 ≤ b by omega)
      have h2 := Int.mul_neg_of_neg_of_pos h q
      omega
  rw [e, figT_congr hs]
theorem tyS (K : PySem.W.Frag) (z : Str) (H : Hp) : tyV K "str" (.str z) H := rfl
end RB

set_option linter.all false
set_option maxRecDepth 100000
/-! Texts cut into marks; a polynomial read of marks. -/
namespace TX
open PySem TL
abbrev sS (l : List Nat) : Str := ⟨l.toArray⟩
def fig (c : Nat) : Bool := decide (48 ≤ c) && decide (c ≤ 57)
def lett (c : Nat) : Bool := decide (97 ≤ c) && decide (c ≤ 122)
def run (p : Nat → Bool) (l : List Nat) : Nat := (l.takeWhile p).length
def sizeAt (l : List Nat) : Nat := if l.take 2 = [46, 46] then 2 else max 1 (max (run fig l) (run lett l))
abbrev Mk := List Nat × Nat
theorem run_le (p : Nat → Bool) (l : List Nat) : run p l ≤ l.length := (List.takeWhile_sublist p).length_le
theorem size_pos (l : List Nat) : 1 ≤ sizeAt l := by unfold sizeAt; split <;> omega
theorem size_le {l : List Nat} (h : l ≠ []) : sizeAt l ≤ l.length := by
  have p := List.length_pos_iff.mpr h
  have h1 := run_le fig l
  have h2 := run_le lett l
  unfold sizeAt
  split
  · next e =>
    have := congrArg List.length e
    rw [List.length_take] at this
    simp at this
    omega
  · omega
def marks (l : List Nat) (a : Nat) : List Mk := if h : l = [] then [([], a)] else
  (if l.head? = some 32 then [] else [(l.take (sizeAt l), a)]) ++ marks (l.drop (sizeAt l)) (a + sizeAt l)
termination_by l.length
decreasing_by
  have := size_pos l
  have := List.length_pos_iff.mpr h
  rw [List.length_drop]; omega
theorem marks_nil (a : Nat) : marks [] a = [([], a)] := by rw [marks]; rfl
theorem marks_eq {l : List Nat} (h : l ≠ []) (a : Nat) : marks l a = (if l.head? = some 32 then [] else [(l.take (sizeAt l), a)]) ++ marks (l.drop (sizeAt l)) (a + sizeAt l) := by
  rw [marks, dif_neg h]
theorem marks_words : ∀ (n : Nat) (l : List Nat) (a : Nat), l.length ≤ n → ∀ x ∈ marks l a, x.1.length ≤ l.length
  | n, l, a, hn, x, hx => by
    by_cases h : l = []
    · subst h; rw [marks_nil] at hx; rw [List.mem_singleton.mp hx]; exact Nat.le_refl _
    · have p := List.length_pos_iff.mpr h
      have p1 := size_pos l
      rw [marks_eq h] at hx
      rcases List.mem_append.mp hx with hx | hx
      · split at hx
        · cases hx
        · rw [List.mem_singleton.mp hx]; show (l.take _).length ≤ _; rw [List.length_take]; omega
      · match n, hn with
        | 0, hn => omega
        | n + 1, hn =>
          have h1 : (l.drop (sizeAt l)).length = l.length - sizeAt l := List.length_drop ..
          have := marks_words n (l.drop (sizeAt l)) (a + sizeAt l) (by omega) x hx
          omega
/-! ### marks from the left -/
inductive IsMark : List Nat → Prop where
  | figs {w : List Nat} (h : w ≠ []) (a : ∀ c ∈ w, fig c = true) : IsMark w
  | letts {w : List Nat} (h : w ≠ []) (a : ∀ c ∈ w, lett c = true) : IsMark w
  | dots : IsMark [46, 46]
  | one {c : Nat} (hf : fig c = false) (hl : lett c = false) (hb : c ≠ 32) : IsMark [c]
/-- the last sign of the one and the first of the other do not grow together -/
def Ngl (w r : List Nat) : Prop := ∀ c d, w.getLast? = some c → r.head? = some d → ¬ (fig c = true ∧ fig d = true) ∧ ¬ (lett c = true ∧ lett d = true) ∧ ¬ (c = 46 ∧ d = 46)
theorem fig_lett {c : Nat} (h : fig c = true) : lett c = false := by
  unfold fig lett at *
  simp only [Bool.and_eq_true, decide_eq_true_eq, Bool.and_eq_false_iff, decide_eq_false_iff_not] at *
  omega
theorem lett_fig {c : Nat} (h : lett c = true) : fig c = false := by
  unfold fig lett at *
  simp only [Bool.and_eq_true, decide_eq_true_eq, Bool.and_eq_false_iff, decide_eq_false_iff_not] at *
  omega
theorem run_app {p : Nat → Bool} : ∀ {w r : List Nat}, (∀ c ∈ w, p c = true) → (∀ d, r.head? = some d → p d = false) → run p (w ++ r) = w.length
  | [], r, _, h => by
    cases r with
    | nil => rfl
    | cons d r => unfold run; rw [List.nil_append, List.takeWhile_cons, h d rfl]; rfl
  | c :: w, r, h, h' => by
    have := run_app (p := p) (w := w) (r := r) (fun x hx => h x (List.mem_cons_of_mem _ hx)) h'
    unfold run at *
    rw [List.cons_append, List.takeWhile_cons, h c (List.mem_cons_self ..)]
    simp only [if_true, List.length_cons, this]
theorem run_zero {p : Nat → Bool} {c : Nat} {r : List Nat} (h : p c = false) : run p (c :: r) = 0 := by
  unfold run; rw [List.takeWhile_cons, h]; rfl
theorem last_some {w : List Nat} (h : w ≠ []) : ∃ c, w.getLast? = some c ∧ c ∈ w := ⟨w.getLast h, List.getLast?_eq_some_getLast h, List.getLast_mem h⟩
theorem not46 {c : Nat} (h : fig c = true ∨ lett c = true) : c ≠ 46 ∧ c ≠ 32 := by
  unfold fig lett at h
  simp only [Bool.and_eq_true, decide_eq_true_eq] at h
  omega
theorem take2 {c : Nat} {l : List Nat} (h : c ≠ 46) : (c :: l).take 2 ≠ [46, 46] := fun z => by
  cases l with
  | nil => simp at z
  | cons d l => simp at z; exact h z.1
theorem size_app {w r : List Nat} (h : IsMark w) (g : Ngl w r) : sizeAt (w ++ r) = w.length ∧ w ≠ [] ∧ w.head? ≠ some 32 := by
  cases h with
  | figs hw a =>
    obtain ⟨c, hc, hm⟩ := last_some hw
    have e := run_app (p := fig) (w := w) (r := r) a (fun d hd => by
      have := (g c d hc hd).1
      rw [a c hm] at this
      cases z : fig d with
      | true => exact absurd ⟨rfl, z⟩ this
      | false => rfl)
    cases w with
    | nil => exact absurd rfl hw
    | cons x w =>
      have fx := a x (List.mem_cons_self ..)
      have n := not46 (.inl fx)
      have e0 : run lett ((x :: w) ++ r) = 0 := run_zero (fig_lett fx)
      refine ⟨?_, by simp, fun z => n.2 (by simpa using z)⟩
      unfold sizeAt
      rw [if_neg (show ¬ ((x :: w) ++ r).take 2 = [46, 46] from take2 n.1), e, e0]
      simp
  | letts hw a =>
    obtain ⟨c, hc, hm⟩ := last_some hw
    have e := run_app (p := lett) (w := w) (r := r) a (fun d hd => by
      have := (g c d hc hd).2.1
      rw [a c hm] at this
      cases z : lett d with
      | true => exact absurd ⟨rfl, z⟩ this
      | false => rfl)
    cases w with
    | nil => exact absurd rfl hw
    | cons x w =>
      have fx := a x (List.mem_cons_self ..)
      have n := not46 (.inr fx)
      have e0 : run fig ((x :: w) ++ r) = 0 := run_zero (lett_fig fx)
      refine ⟨?_, by simp, fun z => n.2 (by simpa using z)⟩
      unfold sizeAt
      rw [if_neg (show ¬ ((x :: w) ++ r).take 2 = [46, 46] from take2 n.1), e, e0]
      simp
  | dots => exact ⟨by unfold sizeAt; show (if ([46, 46] : List Nat) = [46, 46] then 2 else _) = 2; rw [if_pos rfl], by simp, by simp⟩
  | one hf hl hb =>
    next c =>
    refine ⟨?_, by simp, fun z => hb (by simpa using z)⟩
    have e1 : run fig ([c] ++ r) = 0 := run_zero hf
    have e2 : run lett ([c] ++ r) = 0 := run_zero hl
    unfold sizeAt
    rw [if_neg, e1, e2]
    · rfl
    · intro z
      cases r with
      | nil => simp at z
      | cons d r =>
        simp at z
        exact (g c d rfl rfl).2.2 z
theorem marks_app {w r : List Nat} (h : IsMark w) (g : Ngl w r) (a : Nat) : marks (w ++ r) a = (w, a) :: marks r (a + w.length) := by
  obtain ⟨e, n, b⟩ := size_app h g
  rw [marks_eq (by simp [n]), e, if_neg, List.take_left, List.drop_left]
  · rfl
  · cases w with
    | nil => exact absurd rfl n
    | cons x w => exact b
theorem marks_gap (r : List Nat) (a : Nat) : marks (32 :: r) a = marks r (a + 1) := by
  have e : sizeAt (32 :: r) = 1 := by
    unfold sizeAt
    rw [if_neg (take2 (by decide)), run_zero (p := fig) (by decide), run_zero (p := lett) (by decide)]; rfl
  rw [marks_eq (by simp), e, if_pos (show (32 :: r).head? = some 32 from rfl)]; rfl
/-! ### reading -/
def whole (w : List Nat) : Bool := decide (w = [48]) || (decide (w.head? ≠ some 48) && (w.all fig && decide (w ≠ [])))
def val (w : List Nat) : Int := (NumText.digitsVal w : Int)
def powE : List Mk → Except Nat (Nat × List Mk)
  | (w, a) :: R => if w = [94] then (match R with
    | (v, b) :: R' => if v.length = 1 ∧ 48 ≤ v.headD 0 ∧ v.headD 0 ≤ 56 then .ok (v.headD 0 - 48, R') else .error b
    | [] => .error 0) else .ok (1, (w, a) :: R)
  | [] => .error 0
def withF (f : Int) : Except Nat (Nat × List Mk) → Except Nat (Int × Nat × List Mk)
  | .ok (k, R) => .ok (f, k, R)
  | .error e => .error e
def termE : List Mk → Except Nat (Int × Nat × List Mk)
  | (w, a) :: R => if w = [120] then withF 1 (powE R) else if whole w = true then (match R with
    | (v, b) :: R' => if v = [42] then (match R' with
      | (x, c) :: R'' => if x = [120] then withF (val w) (powE R'') else .error c
      | [] => .error 0) else .ok (val w, 0, (v, b) :: R')
    | [] => .error 0) else .error a
  | [] => .error 0
def addR (row : List Int) (k : Nat) (f : Int) : List Int := row.set k (row.getD k 0 + f)
def sgn (w : List Nat) : Int := if w = [43] then 1 else -1
def loopE : Nat → List Int → List Mk → Except Nat (List Int × List Mk)
  | n + 1, row, (w, a) :: R => if w = [43] ∨ w = [45] then (match termE R with
    | .ok (f, k, R') => loopE n (addR row k (sgn w * f)) R'
    | .error e => .error e) else .ok (row, (w, a) :: R)
  | _, _, _ => .error 0
def nine : List Int := List.replicate 9 0
def polyE (n : Nat) : List Mk → Except Nat (List Int × List Mk)
  | (w, a) :: R => match termE (if w = [45] then R else (w, a) :: R) with
    | .ok (f, k, R') => loopE n (addR nine k ((if w = [45] then -1 else 1) * f)) R'
    | .error e => .error e
  | [] => .error 0
def readE (l : List Nat) : Except Nat (List Int) := match polyE (l.length + 10) (marks l 0) with
  | .ok (row, (w, a) :: _) => if w = [] then .ok (ML.trimL row) else .error a
  | .ok (_, []) => .error 0
  | .error e => .error e
end TX
namespace TX
open PySem TL
/-! ### writing -/
def pw (k : Nat) : List Nat := if k = 1 then [120] else [120, 94] ++ numL k
def term (m k : Nat) : List Nat := if k = 0 then numL m else if m = 1 then pw k else numL m ++ [42] ++ pw k
def sgT (c : Int) (k : Nat) : List Nat := if c = 0 then [] else (if c < 0 then [32, 45, 32] else [32, 43, 32]) ++ term c.natAbs k
def leadT (c : Int) (k : Nat) : List Nat := (if c < 0 then [45] else []) ++ term c.natAbs k
def accT (P : List Int) (last : Nat) : Nat → List Nat
  | 0 => leadT (ML.cf P last) last
  | j + 1 => accT P last j ++ sgT (ML.cf P (last - 1 - j)) (last - 1 - j)
def polyT (P : List Int) : List Nat := if P = [] then [48] else accT P (P.length - 1) (P.length - 1)
theorem pw_ne (k : Nat) : pw k ≠ [] := by unfold pw; split <;> simp
theorem term_ne (m k : Nat) : term m k ≠ [] := by
  unfold term
  split
  · exact numL_ne m
  · split
    · exact pw_ne k
    · simp
theorem acc_ne (P : List Int) (last : Nat) : ∀ j, accT P last j ≠ []
  | 0 => by
    unfold accT leadT
    intro z
    exact term_ne _ _ (List.append_eq_nil_iff.mp z).2
  | j + 1 => fun z => acc_ne P last j (List.append_eq_nil_iff.mp z).1
theorem pw_len {k : Nat} (h : k < 1000) : (pw k).length ≤ 5 := by
  unfold pw
  split
  · simp
  · have := numL_len (n := k) (k := 3) (by decide) h
    rw [List.length_append]; show 2 + _ ≤ 5; omega
theorem term_len {m k : Nat} (hm : m < 10 ^ 50) (h : k < 1000) : (term m k).length ≤ 60 := by
  have h1 := numL_len (n := m) (k := 50) (by decide) hm
  have h2 := pw_len h
  unfold term
  split
  · omega
  · split
    · omega
    · rw [List.length_append, List.length_append]; show _ + 1 + _ ≤ 60; omega
theorem sg_len {c : Int} {k : Nat} (hm : c.natAbs < 10 ^ 50) (h : k < 1000) : (sgT c k).length ≤ 63 := by
  have := term_len hm h
  unfold sgT
  split
  · simp
  · rw [List.length_append]; split <;> (show 3 + _ ≤ 63; omega)
theorem lead_len {c : Int} {k : Nat} (hm : c.natAbs < 10 ^ 50) (h : k < 1000) : (leadT c k).length ≤ 63 := by
  have := term_len hm h
  unfold leadT
  rw [List.length_append]; split <;> simp <;> omega
theorem acc_len {P : List Int} {last : Nat} (hP : ∀ k, (ML.cf P k).natAbs < 10 ^ 50) (hl : last < 1000) : ∀ j, (accT P last j).length ≤ 63 * (j + 1)
  | 0 => lead_len (hP _) hl
  | j + 1 => by
    have := acc_len hP hl j
    have h2 := sg_len (hP (last - 1 - j)) (show last - 1 - j < 1000 by omega)
    show (accT P last j ++ sgT (ML.cf P (last - 1 - j)) (last - 1 - j)).length ≤ _
    rw [List.length_append]; omega
end TX

set_option linter.all false
set_option maxRecDepth 100000
/-! Lists of lists of ints. -/
namespace RB
open PySem PySem.Spec PyProof.Rows L2
open Evl (Ex rLenS rListS rMax2 tCut pss_cut)
def Rws (H : Hp) : List Addr → List (List Int) → Prop
  | [], [] => True
  | p :: ps, R :: Rs => H p = some (.lst (R.map V.int)) ∧ Rws H ps Rs
  | _, _ => False
theorem Rws.len {H : Hp} : ∀ {ps : List Addr} {Rs : List (List Int)}, Rws H ps Rs → ps.length = Rs.length
  | [], [], _ => rfl
  | p :: ps, R :: Rs, h => by rw [List.length_cons, List.length_cons, Rws.len h.2]
theorem Rws.ex {H H' : Hp} (e : Ex H H') : ∀ {ps : List Addr} {Rs : List (List Int)}, Rws H ps Rs → Rws H' ps Rs
  | [], [], _ => trivial
  | p :: ps, R :: Rs, h => ⟨e _ _ h.1, Rws.ex e h.2⟩
theorem Rws.exb {l : Addr} {H H' : Hp} (e : Exb l H H') : ∀ {ps : List Addr} {Rs : List (List Int)}, l ∉ ps → Rws H ps Rs → Rws H' ps Rs
  | [], [], _, _ => trivial
  | p :: ps, R :: Rs, hn, h => ⟨e _ (fun x => hn (by rw [x]; exact List.mem_cons_self ..)) _ h.1, Rws.exb e (fun x => hn (List.mem_cons_of_mem _ x)) h.2⟩
theorem Rws.append {H : Hp} : ∀ {ps qs : List Addr} {Rs Ss : List (List Int)}, Rws H ps Rs → Rws H qs Ss → Rws H (ps ++ qs) (Rs ++ Ss)
  | [], _, [], _, _, h => h
  | p :: ps, _, R :: Rs, _, h, h' => ⟨h.1, Rws.append h.2 h'⟩
theorem Rws.get {H : Hp} : ∀ {ps : List Addr} {Rs : List (List Int)} {i : Nat} {p : Addr}, Rws H ps Rs → ps[i]? = some p → ∃ R, Rs[i]? = some R ∧ H p = some (.lst (R.map V.int))
  | p :: ps, R :: Rs, 0, q, h, e => by
    simp only [List.getElem?_cons_zero, Option.some.injEq] at e
    exact ⟨R, rfl, by rw [← e]; exact h.1⟩
  | p :: ps, R :: Rs, i + 1, q, h, e => by
    simp only [List.getElem?_cons_succ] at e
    obtain ⟨S, h1, h2⟩ := Rws.get (i := i) h.2 e
    exact ⟨S, by simpa using h1, h2⟩
theorem dp_rows {K : PySem.W.Frag} {H : Hp} : ∀ {ps : List Addr} {Rs : List (List Int)}, Rws H ps Rs → DpAll K H (ps.map V.ref) (Rs.map dI)
  | [], [], _ => .nil
  | p :: ps, R :: Rs, h => .cons (dp_listI (SqL.inj h.1)) (dp_rows h.2)
theorem canLay_rows : ∀ Rs : List (List Int), PyData.canLayAll0 (Rs.map dI) = true
  | [] => by simp [PyData.canLayAll0]
  | n :: r => by
    rw [List.map_cons, PyData.canLayAll0, canLay_rows r]
    show (PyData.canLay0 (dI n) && true) = true
    unfold dI
    rw [PyData.canLay0, canLay_ints]; rfl
theorem depth_dI (n : List Int) : PyData.depth (dI n) ≤ 2 := by
  have := depth_ints n
  unfold dI
  rw [PyData.depth]
  omega
theorem depth_rows : ∀ Rs : List (List Int), PyData.depthAll (Rs.map dI) ≤ 2
  | [] => by simp [PyData.depthAll]
  | n :: r => by
    have h1 := depth_rows r
    have h2 := depth_dI n
    rw [List.map_cons, PyData.depthAll]
    omega
def dR (Rs : List (List Int)) : PyData := .list (Rs.map dI)
theorem shaped_dR (Rs : List (List Int)) : SeqAt.shaped (dR Rs) = true := by
  have h1 := canLay_rows Rs
  have h2 := depth_rows Rs
  unfold SeqAt.shaped dR
  rw [Bool.and_eq_true, PyData.canLay0, PyData.depth]
  exact ⟨h1, decide_eq_true (by omega)⟩
theorem eqvAll_rows : ∀ Rs Ss : List (List Int), PyData.eqvAll (Rs.map dI) (Ss.map dI) = decide (Rs = Ss)
  | [], [] => by simp [PyData.eqvAll]
  | [], m :: r => by simp [PyData.eqvAll]
  | n :: r, [] => by simp [PyData.eqvAll]
  | n :: r, m :: s => by
    rw [List.map_cons, List.map_cons, PyData.eqvAll, eqvAll_rows r s, eqv_dI]
    simp
theorem eqv_dR (Rs Ss : List (List Int)) : PyData.eqv (dR Rs) (dR Ss) = decide (Rs = Ss) := by
  unfold dR
  rw [PyData.eqv, eqvAll_rows]
def RowsK (K : PySem.W.Frag) (H : Hp) (a : Addr) (Rs : List (List Int)) : Prop := ∃ ps, SqL K H a (ps.map V.ref) ∧ Rws H ps Rs
theorem dp_listR {K : PySem.W.Frag} {H : Hp} {a : Addr} {ps : List Addr} {Rs : List (List Int)} (h : SqL K H a (ps.map V.ref)) (h' : Rws H ps Rs) : Dp K H (.ref a) (dR Rs) := .lst h (dp_rows h')
theorem r_eqRows {K : PySem.W.Frag} {H : Hp} {Q : VK} {a b : Addr} {ps qs : List Addr} {Rs Ss : List (List Int)} (h1 : SqL K H a (ps.map V.ref)) (h1' : Rws H ps Rs) (h2 : SqL K H b (qs.map V.ref)) (h2' : Rws H qs Ss) (q : Q (.bl (decide (Rs = Ss))) H) : rEqD K (.ref a) (.ref b) H Q :=
  ⟨_, _, dp_listR h1 h1', dp_listR h2 h2', shaped_dR Rs, shaped_dR Ss, by rw [eqv_dR]; exact q⟩
/-- what a row tells: new lists -/
def RetRow (Rs : List (List Int)) (H : Hp) (Q : VK) : Prop := ∀ (a : Addr) (ps : List Addr) (H' : Hp), H a = none → (∀ p ∈ ps, H p = none) → a ∉ ps → Ex H H' → H' a = some (.lst (ps.map V.ref)) → Rws H' ps Rs → Q (.ref a) H'
/-- the last two items -/
theorem r_ix2 {K : PySem.W.Frag} {H : Hp} {Q : VK} {p : Addr} {xs : List V} {x y : V} (h : SqL K H p (xs ++ [x, y])) (q : Q x H) : rIxL K (.ref p) (.int (-2)) H Q :=
  r_ixL h (by
    unfold atI
    have e : ixN (xs ++ [x, y]).length (-2) = some xs.length := by
      unfold ixN
      rw [if_neg (by decide), if_pos (by simp; omega)]
      simp
      omega
    rw [e]; simp) q
theorem r_ix1 {K : PySem.W.Frag} {H : Hp} {Q : VK} {p : Addr} {xs : List V} {x y : V} (h : SqL K H p (xs ++ [x, y])) (q : Q y H) : rIxL K (.ref p) (.int (-1)) H Q :=
  r_ixL h (by
    have : xs ++ [x, y] = (xs ++ [x]) ++ [y] := by simp
    rw [this]; exact atI_last _ _) q
end RB
namespace RB
open PySem PySem.Spec PyProof.Rows L2
open Evl (Ex)
theorem Rws.take {H : Hp} : ∀ (n : Nat) {ps : List Addr} {Rs : List (List Int)}, Rws H ps Rs → Rws H (ps.take n) (Rs.take n)
  | 0, _, _, _ => by rw [List.take_zero, List.take_zero]; trivial
  | n + 1, [], [], _ => trivial
  | n + 1, p :: ps, R :: Rs, h => ⟨h.1, Rws.take n h.2⟩
theorem Rws.flat {H : Hp} {ps : List Addr} {Rs : List (List Int)} (h : Rws H ps Rs) : ∀ n : Nat, Rws H (List.replicate n ps).flatten (List.replicate n Rs).flatten
  | 0 => trivial
  | n + 1 => by
    rw [List.replicate_succ, List.replicate_succ, List.flatten_cons, List.flatten_cons]
    exact Rws.append h (Rws.flat h n)
theorem flat_map {α β : Type} (f : α → β) (xs : List α) : ∀ n : Nat, (List.replicate n (xs.map f)).flatten = ((List.replicate n xs).flatten).map f
  | 0 => rfl
  | n + 1 => by rw [List.replicate_succ, List.replicate_succ, List.flatten_cons, List.flatten_cons, flat_map f xs n, List.map_append]
theorem flat_len {α : Type} (xs : List α) : ∀ n : Nat, ((List.replicate n xs).flatten).length = n * xs.length
  | 0 => by simp
  | n + 1 => by rw [List.replicate_succ, List.flatten_cons, List.length_append, flat_len xs n, Nat.add_mul]; omega
theorem flat_mem {α : Type} {xs : List α} {x : α} : ∀ {n : Nat}, x ∈ (List.replicate n xs).flatten → x ∈ xs
  | 0, h => by cases h
  | n + 1, h => by
    rw [List.replicate_succ, List.flatten_cons, List.mem_append] at h
    exact h.elim id flat_mem
/-- a list of lists times a number -/
theorem r_repR {H : Hp} {Q : VK} {l : Addr} {ps : List Addr} {k : Int} (h1 : H l = some (.lst (ps.map V.ref))) (hk : k < 2 ^ 63) (z : ps.length * k.toNat ≤ 16777216) (q : ∀ p H', H p = none → Ex H H' → H' p = some (.lst (((List.replicate k.toNat ps).flatten).map V.ref)) → Q (.ref p) H') (h0 : -(2 ^ 63) ≤ k := by omega) : rRep (.ref l) (.int k) H Q :=
  ⟨l, k, ps.map V.ref, rfl, rfl, h1, h0, hk, by rw [List.length_map]; exact small_le z, newL fun p H' hp e h => q p H' hp e (by rw [← flat_map]; exact h)⟩
theorem cutV_to {xs : List V} {n : Int} (h0 : 0 ≤ n) : cutV xs none (some n) = xs.take n.toNat := by
  obtain ⟨k, rfl⟩ : ∃ k : Nat, n = (k : Int) := ⟨n.toNat, by omega⟩
  unfold cutV
  rw [HT.sIx_none, HT.sIx_nat, List.drop_zero, Int.toNat_natCast, Nat.sub_zero]
  by_cases h : k ≤ xs.length
  · rw [Nat.min_eq_left h]
  · rw [Nat.min_eq_right (by omega), List.take_length, List.take_of_length_le (by omega)]
/-- over a list of lists, each giving a new list -/
theorem lc_rowsN {K : PySem.W.Frag} {σ : L2.St} {H : Hp} {te : TE} {Q : VK} {a : Addr} {ps : List Addr} {Rs : List (List Int)} {j : Nat} (f : List Int → List Int) (hx : SqL K H a (ps.map V.ref)) (hW : Rws H ps Rs) (hz : ps.length < 1000000)
    (he : ∀ p R H1, R ∈ Rs → H1 p = some (.lst (R.map V.int)) → Ex H H1 → ∀ Q' : VK, (∀ q H2, H1 q = none → Ex H1 H2 → H2 q = some (.lst ((f R).map V.int)) → Q' (.ref q) H2) → te (σ.set j (some (.ref p))) H1 Q')
    (q : ∀ D H' qs, H D = none → Ex H H' → H' D = some (.lst (qs.map V.ref)) → Rws H' qs (Rs.map f) → D ∉ qs → Q (.ref D) H') : Lc (Itl K a) (gName j) tYes te [j] σ H Q := fun D hD =>
  lc_list (xs := ps.map V.ref) (fun i H' => Ex H H' ∧ ∃ qs : List Addr, H' D = some (.lst (qs.map V.ref)) ∧ Rws H' qs ((Rs.take i).map f) ∧ D ∉ qs ∧ qs.length ≤ i) ⟨Evl.Ex.new hD, [], upd_same, trivial, (fun h => by cases h), Nat.le_refl _⟩ (fun i H' _ p => p.1.l hx)
    (fun i x H' hi p => ⟨by show ((σ.set j none).set j (some x)).set j none = σ.set j none; rw [set_set, set_set], by
      show te ((σ.set j none).set j (some x)) H' _
      rw [set_set]
      rw [List.getElem?_map] at hi
      obtain ⟨p', hp', rfl⟩ := Option.map_eq_some_iff.mp hi
      obtain ⟨e, qs, hq, hR, hn, hl⟩ := p
      obtain ⟨R, hRm, hpR⟩ := hW.get hp'
      have hlt : i < ps.length := (List.getElem?_eq_some_iff.mp hp').1
      refine he p' R H' (List.mem_of_getElem? hRm) (e _ _ hpR) e _ fun r H2 hr e2 hr2 => ⟨_, e2 D _ hq, ?_, Evl.Ex.mut (e.trans e2) hD, qs ++ [r], ?_, ?_, ?_, ?_⟩
      · rw [List.length_map]; exact small_lt (by omega)
      · rw [upd_same, List.map_append]; rfl
      · rw [List.take_add_one, hRm, List.map_append]
        have nD : r ≠ D := fun z => by rw [z, hq] at hr; cases hr
        refine Rws.append ?_ ⟨by rw [upd_ne nD]; exact hr2, trivial⟩
        exact (hR.ex e2).exb (l := D) (fun c n o h => by rw [upd_ne n]; exact h) hn
      · intro h
        rcases List.mem_append.mp h with h | h
        · exact hn h
        · rw [List.mem_singleton] at h
          rw [← h, hq] at hr
          cases hr
      · rw [List.length_append]; simp; omega⟩)
    (fun H' p => by
      obtain ⟨e, qs, hq, hR, hn, hl⟩ := p
      rw [List.length_map, hW.len, List.take_length] at hR
      exact q D H' qs hD e hq hR hn)
theorem lc_rows {K : PySem.W.Frag} {σ : L2.St} {H : Hp} {te : TE} {Q : VK} {a : Addr} {ps : List Addr} {Rs : List (List Int)} {j : Nat} (f : List Int → List Int) (hx : SqL K H a (ps.map V.ref)) (hW : Rws H ps Rs) (hz : ps.length < 1000000)
    (he : ∀ p R H1, R ∈ Rs → H1 p = some (.lst (R.map V.int)) → Ex H H1 → ∀ Q' : VK, (∀ q H2, H1 q = none → Ex H1 H2 → H2 q = some (.lst ((f R).map V.int)) → Q' (.ref q) H2) → te (σ.set j (some (.ref p))) H1 Q')
    (q : ∀ D H' qs, H D = none → Ex H H' → H' D = some (.lst (qs.map V.ref)) → Rws H' qs (Rs.map f) → Q (.ref D) H') : Lc (Itl K a) (gName j) tYes te [j] σ H Q := lc_rowsN f hx hW hz he fun D H' qs h1 h2 h3 h4 _ => q D H' qs h1 h2 h3 h4
theorem Rws.set {H : Hp} {p : Addr} {R : List Int} (hp : H p = some (.lst (R.map V.int))) : ∀ {ps : List Addr} {Rs : List (List Int)} (i : Nat), Rws H ps Rs → Rws H (ps.set i p) (Rs.set i R)
  | [], [], _, _ => trivial
  | _ :: _, _ :: _, 0, h => ⟨hp, h.2⟩
  | _ :: ps, _ :: Rs, i + 1, h => ⟨h.1, Rws.set hp i h.2⟩
end RB
namespace RB
open PySem PySem.Spec PyProof.Rows L2
theorem Rws.notin {H : Hp} {p : Addr} (hp : H p = none) : ∀ {ps : List Addr} {Rs : List (List Int)}, Rws H ps Rs → p ∉ ps
  | [], [], _ => fun h => by cases h
  | r :: ps, R :: Rs, h => fun hm => by
    rcases List.mem_cons.mp hm with e | e
    · have := h.1
      rw [← e, hp] at this
      cases this
    · exact Rws.notin hp h.2 e
end RB
namespace RB
open PySem PySem.Spec PyProof.Rows L2
theorem r_neRows {K : PySem.W.Frag} {H : Hp} {Q : VK} {a b : Addr} {ps qs : List Addr} {Rs Ss : List (List Int)} (h1 : SqL K H a (ps.map V.ref)) (h1' : Rws H ps Rs) (h2 : SqL K H b (qs.map V.ref)) (h2' : Rws H qs Ss) (q : Q (.bl (!decide (Rs = Ss))) H) : rNeD K (.ref a) (.ref b) H Q :=
  ⟨_, _, dp_listR h1 h1', dp_listR h2 h2', shaped_dR Rs, shaped_dR Ss, by rw [eqv_dR]; exact q⟩
end RB
namespace RB
open PySem PySem.Spec PyProof.Rows L2
/-- two pairs of lists of ints, alike -/
theorem r_neT2 {K : PySem.W.Frag} {H : Hp} {Q : VK} {p q a b c d : Addr} {ns ms : List Int} (h1 : SqT K H p [.ref a, .ref b]) (ha : SqL K H a (ns.map V.int)) (hb : SqL K H b (ms.map V.int)) (h2 : SqT K H q [.ref c, .ref d]) (hc : SqL K H c (ns.map V.int)) (hd : SqL K H d (ms.map V.int)) (k : Q (.bl false) H) : rNeD K (.ref p) (.ref q) H Q := by
  have sh : SeqAt.shaped (PyData.tuple [dI ns, dI ms]) = true := by
    have h1 := depth_dI ns
    have h2 := depth_dI ms
    have l1 : PyData.canLay0 (dI ns) = true := by unfold dI; rw [PyData.canLay0, canLay_ints]
    have l2 : PyData.canLay0 (dI ms) = true := by unfold dI; rw [PyData.canLay0, canLay_ints]
    unfold SeqAt.shaped
    rw [Bool.and_eq_true]
    refine ⟨?_, ?_⟩
    · simp [PyData.canLay0, PyData.canLayAll0, l1, l2]
    · refine decide_eq_true ?_
      simp only [PyData.depth, PyData.depthAll]
      omega
  refine ⟨_, _, .tup h1 (.cons (dp_listI ha) (.cons (dp_listI hb) .nil)), .tup h2 (.cons (dp_listI hc) (.cons (dp_listI hd) .nil)), sh, sh, ?_⟩
  have e : PyData.eqv (.tuple [dI ns, dI ms]) (.tuple [dI ns, dI ms]) = true := by
    simp [PyData.eqv, PyData.eqvAll, eqv_dI]
  show Q (.bl (!PyData.eqv (.tuple [dI ns, dI ms]) (.tuple [dI ns, dI ms]))) H
  rw [e]; exact k
end RB

set_option linter.all false
set_option exponentiation.threshold 10000
set_option maxRecDepth 100000
/-! Marks: the object, its row. -/
namespace RB
open PySem PySem.Spec PyProof.Rows L2 TX
open Evl (Ex rLenS rListS rMax2 tCut pss_cut)
theorem sS_inj {a b : List Nat} : (sS a = sS b) ↔ a = b := ⟨fun h => by have := congrArg (fun z : Str => z.cps.toList) h; simpa using this, fun h => by rw [h]⟩
theorem d_sS (a b : List Nat) : decide (sS a = sS b) = decide (a = b) := decide_eq_decide.mpr sS_inj
theorem sS_app (a b : List Nat) : sS a ++ sS b = sS (a ++ b) := str_ext (by rw [app_list])
theorem sS_len (a : List Nat) : (sS a).length = a.length := by rw [str_len]
theorem sS_list (a : List Nat) : (sS a).cps.toList = a := rfl
theorem line_ok {n : Nat} (h : n ≤ 16777216) : n ≤ sizeLine := by rw [sizeLine_eq]; exact h
/-! ### readings of texts -/
def rInT : R2 := fun x y H Q => ∃ (c : Nat) (z : Str), x = .str ⟨#[c]⟩ ∧ y = .str z ∧ Q (.bl (decide (c ∈ z.cps.toList))) H
def rNotInT : R2 := fun x y H Q => ∃ (c : Nat) (z : Str), x = .str ⟨#[c]⟩ ∧ y = .str z ∧ Q (.bl (!decide (c ∈ z.cps.toList))) H
def rIntT : List V → Hp → VK → Prop := fun xs H Q => ∃ a n, xs = [.str a] ∧ PySem.intText? a = some n ∧ a.length ≤ 640 ∧ Q (.int n) H
theorem op_inT {X : Cx} : OpR X (compareOp .In) rInT := op_in_sign
theorem op_notInT {X : Cx} : OpR X (compareOp .NotIn) rNotInT := op_notIn_sign
theorem call_intT {X : Cx} : CallR X (.type "int") rIntT := call_int_str
section
variable {K : PySem.W.Frag} {σ : L2.St} {H : Hp} {Q : VK}
theorem r_eqT {a b : List Nat} (q : Q (.bl (decide (a = b))) H) : rEq (.str (sS a)) (.str (sS b)) H Q := r_eqS (by rw [d_sS]; exact q)
theorem r_neT {a b : List Nat} (q : Q (.bl (!decide (a = b))) H) : rNe (.str (sS a)) (.str (sS b)) H Q := r_neS (by rw [d_sS]; exact q)
theorem r_eqTl {a b : List Nat} {z : Str} (hz : z = sS b) (q : Q (.bl (decide (a = b))) H) : rEq (.str (sS a)) (.str z) H Q := by rw [hz]; exact r_eqT q
theorem r_neTl {a b : List Nat} {z : Str} (hz : z = sS b) (q : Q (.bl (!decide (a = b))) H) : rNe (.str (sS a)) (.str z) H Q := by rw [hz]; exact r_neT q
theorem r_addT {a b : List Nat} (h : a.length + b.length ≤ 16777216) (q : Q (.str (sS (a ++ b))) H) : rAddS (.str (sS a)) (.str (sS b)) H Q := ⟨_, _, rfl, rfl, by rw [sS_len, sS_len]; exact line_ok h, by rw [sS_app]; exact q⟩
theorem r_lenT' {a : List Nat} (h : a.length ≤ 16777216) (q : Q (.int a.length) H) : rLenStr [.str (sS a)] H Q := ⟨_, rfl, by rw [sS_len]; exact line_ok h, by rw [sS_len]; exact q⟩
theorem r_ixS {a : List Nat} {i : Int} (hl : a.length ≤ 16777216) (h0 : 0 ≤ i) (h1 : i < a.length) (q : Q (.str (sS [a.getD i.toNat 0])) H) : rIxS (.str (sS a)) (.int i) H Q := by
  obtain ⟨k, rfl⟩ : ∃ k : Nat, i = (k : Int) := ⟨i.toNat, by omega⟩
  have hk : k < a.length := by omega
  refine ⟨_, _, a[k], rfl, rfl, by rw [sS_len]; exact line_ok hl, ?_, ?_⟩
  · show atI a (k : Int) = _
    exact atI_nat (by rw [List.getElem?_eq_getElem hk])
  · rw [Int.toNat_natCast, List.getD_eq_getElem?_getD, List.getElem?_eq_getElem hk] at q
    exact q
theorem r_inSg {c : Nat} {z : List Nat} (q : Q (.bl (decide (c ∈ z))) H) : rInT (.str (sS [c])) (.str (sS z)) H Q := ⟨c, _, rfl, rfl, q⟩
theorem r_notSg {c : Nat} {z : List Nat} (q : Q (.bl (!decide (c ∈ z))) H) : rNotInT (.str (sS [c])) (.str (sS z)) H Q := ⟨c, _, rfl, rfl, q⟩
theorem cutS_both {a : List Nat} {n m : Int} (h0 : 0 ≤ n) (h1 : n ≤ m) : cutS (sS a) (some n) (some m) = sS ((a.drop n.toNat).take (m.toNat - n.toNat)) := by
  obtain ⟨k, rfl⟩ : ∃ k : Nat, n = (k : Int) := ⟨n.toNat, by omega⟩
  obtain ⟨l, rfl⟩ : ∃ l : Nat, m = (l : Int) := ⟨m.toNat, by omega⟩
  unfold cutS
  rw [sS_len, HT.sIx_nat, HT.sIx_nat, Int.toNat_natCast, Int.toNat_natCast]
  congr 2
  show List.take _ (List.drop _ a) = _
  by_cases h : k ≤ a.length
  · rw [Nat.min_eq_left h]
    by_cases h' : l ≤ a.length
    · rw [Nat.min_eq_left h']
    · rw [Nat.min_eq_right (by omega), List.take_of_length_le (by rw [List.length_drop]; omega), List.take_of_length_le (by rw [List.length_drop]; omega)]
  · rw [Nat.min_eq_right (show a.length ≤ k by omega), List.drop_length, List.drop_eq_nil_of_le (by omega : a.length ≤ k)]; simp
theorem r_slT {a : List Nat} {n m : Int} (hl : a.length ≤ 16777216) (h0 : 0 ≤ n) (h1 : n ≤ m) (q : Q (.str (sS ((a.drop n.toNat).take (m.toNat - n.toNat)))) H) : rSlS (.str (sS a)) (some n) (some m) H Q :=
  r_slS (by rw [sS_len]; exact line_ok hl) (by rw [cutS_both h0 h1]; exact q)
theorem cutS_to {a : List Nat} {m : Int} (h1 : 0 ≤ m) : cutS (sS a) none (some m) = sS (a.take m.toNat) := by
  have := cutS_both (a := a) (n := 0) (m := m) (by omega) h1
  rw [show (0 : Int).toNat = 0 from rfl, List.drop_zero, Nat.sub_zero] at this
  rw [← this]
  unfold cutS
  rw [HT.sIx_none, show ((some (0 : Int)) : Option Int) = some ((0 : Nat) : Int) from rfl, HT.sIx_nat, Nat.zero_min]
theorem r_slT1 {a : List Nat} {m : Int} (hl : a.length ≤ 16777216) (h1 : 0 ≤ m) (q : Q (.str (sS (a.take m.toNat))) H) : rSlS (.str (sS a)) none (some m) H Q :=
  r_slS (by rw [sS_len]; exact line_ok hl) (by rw [cutS_to h1]; exact q)
theorem r_max3 {i j k : Int} (q : Q (.int (max i (max j k))) H) : rNuC3 nuMax3 [.int i, .int j, .int k] H Q := ⟨_, _, _, .int (max i (max j k)), rfl, by
  show (((some (decide (i < j))).map fun c => if c = true then (V.int j) else V.int i).bind fun m => nuMax2 m (V.int k)) = _
  simp only [Option.map_some, Option.bind_some]
  split
  · show some (if decide (j < k) = true then V.int k else V.int j) = _
    split <;> simp_all <;> omega
  · show some (if decide (i < k) = true then V.int k else V.int i) = _
    split <;> simp_all <;> omega, q⟩
theorem r_strN {n : Nat} (h : n < 2 ^ 1900) (q : Q (.str (sS (TL.numL n))) H) : rStrInt [.int (n : Int)] H Q := ⟨n, rfl, PySem.Flt.log2_lt_of (by decide) (show ((n : Int)).natAbs < 2 ^ 1920 by rw [Int.natAbs_natCast]; exact Nat.lt_trans h (Nat.pow_lt_pow_right (by decide) (by decide))), by rw [show (toString ((n : Nat) : Int) : Str) = sS (TL.numL n) from SX.num_S n]; exact q⟩
theorem r_intT {w : List Nat} (h : whole w = true) (hl : w.length ≤ 600) (q : Q (.int (val w)) H) : rIntT [.str (sS w)] H Q := by
  have ⟨n0, ha⟩ : w ≠ [] ∧ NumText.AllDigits w := by
    unfold whole at h
    simp only [Bool.or_eq_true, Bool.and_eq_true, decide_eq_true_eq, List.all_eq_true] at h
    rcases h with rfl | ⟨_, h, hn⟩
    · exact ⟨by simp, fun c hc => by rw [List.mem_singleton.mp hc]; omega⟩
    · exact ⟨hn, fun c hc => by have := h c hc; unfold fig at this; simpa using this⟩
  exact ⟨_, val w, rfl, PySem.intText_digits (x := sS w) ha n0 (by rw [sS_len]; omega), by rw [sS_len]; omega, q⟩
end
/-! ### the row of marks -/
def MkP (H : Hp) : List Addr → List Mk → Prop
  | [], [] => True
  | p :: ps, q :: qs => H p = some (.tup [.str (sS q.1), .int (q.2 : Int)]) ∧ MkP H ps qs
  | _, _ => False
theorem MkP.len {H : Hp} : ∀ {ps : List Addr} {qs : List Mk}, MkP H ps qs → ps.length = qs.length
  | [], [], _ => rfl
  | p :: ps, q :: qs, h => by rw [List.length_cons, List.length_cons, MkP.len h.2]
theorem MkP.ex {H H' : Hp} (e : Ex H H') : ∀ {ps : List Addr} {qs : List Mk}, MkP H ps qs → MkP H' ps qs
  | [], [], _ => trivial
  | p :: ps, q :: qs, h => ⟨e _ _ h.1, MkP.ex e h.2⟩
theorem MkP.exb {l : Addr} {H H' : Hp} (e : Exb l H H') : ∀ {ps : List Addr} {qs : List Mk}, l ∉ ps → MkP H ps qs → MkP H' ps qs
  | [], [], _, _ => trivial
  | p :: ps, q :: qs, hn, h => ⟨e _ (fun x => hn (by rw [x]; exact List.mem_cons_self ..)) _ h.1, MkP.exb e (fun x => hn (List.mem_cons_of_mem _ x)) h.2⟩
theorem MkP.append {H : Hp} : ∀ {ps qs : List Addr} {Rs Ss : List Mk}, MkP H ps Rs → MkP H qs Ss → MkP H (ps ++ qs) (Rs ++ Ss)
  | [], _, [], _, _, h => h
  | p :: ps, _, R :: Rs, _, h, h' => ⟨h.1, MkP.append h.2 h'⟩
  | [], _, _ :: _, _, h, _ => h.elim
  | _ :: _, _, [], _, h, _ => h.elim
theorem MkP.mem {H : Hp} : ∀ {ps : List Addr} {qs : List Mk} {l : Addr}, MkP H ps qs → l ∈ ps → ∃ q : Mk, H l = some (.tup [.str (sS q.1), .int (q.2 : Int)])
  | p :: ps, q :: qs, l, h, hl => by
    rcases List.mem_cons.mp hl with rfl | hl
    · exact ⟨q, h.1⟩
    · exact MkP.mem h.2 hl
theorem MkP.get {H : Hp} : ∀ {ps : List Addr} {qs : List Mk} {i : Nat} {q : Mk}, MkP H ps qs → qs[i]? = some q → ∃ p, ps[i]? = some p ∧ H p = some (.tup [.str (sS q.1), .int (q.2 : Int)])
  | p :: ps, q :: qs, 0, r, h, e => by
    simp only [List.getElem?_cons_zero, Option.some.injEq] at e
    exact ⟨p, rfl, by rw [← e]; exact h.1⟩
  | p :: ps, q :: qs, i + 1, r, h, e => by
    simp only [List.getElem?_cons_succ] at e
    obtain ⟨s, h1, h2⟩ := MkP.get (i := i) h.2 e
    exact ⟨s, by simpa using h1, h2⟩
  | [], [], _, _, _, e => by simp at e
  | [], _ :: _, _, _, h, _ => h.elim
  | _ :: _, [], _, _, h, _ => h.elim
/-! ### the object -/
def mF (r : Addr) (s : Nat) (d : Int) : List (Str × V) := [("row", .ref r), ("spot", .int (s : Int)), ("depth", .int d)]
theorem mF_row (r : Addr) (s : Nat) (d : Int) : (mF r s d).lookup ("row" : Str) = some (.ref r) := by
  unfold mF
  simp [List.lookup]
theorem mF_spot (r : Addr) (s : Nat) (d : Int) : (mF r s d).lookup ("spot" : Str) = some (.int (s : Int)) := by
  unfold mF
  have e : (("spot" : Str) == ("row" : Str)) = false := by decide +kernel
  simp [List.lookup, e]
theorem mF_depth (r : Addr) (s : Nat) (d : Int) : (mF r s d).lookup ("depth" : Str) = some (.int d) := by
  unfold mF
  have e : (("depth" : Str) == ("row" : Str)) = false := by decide +kernel
  have e2 : (("depth" : Str) == ("spot" : Str)) = false := by decide +kernel
  simp [List.lookup, e, e2]
theorem mF_none (r : Addr) (s : Nat) (d : Int) {m : Str} (h1 : (m == ("row" : Str)) = false) (h2 : (m == ("spot" : Str)) = false) (h3 : (m == ("depth" : Str)) = false) : (mF r s d).lookup m = none := by
  unfold mF
  simp [List.lookup, h1, h2, h3]
def MkR (C : Addr) (H : Hp) (m : Addr) (R : List Mk) (d : Int) : Prop := ∃ (dx r : Addr) (s : Nat) (ps : List Addr) (L : List Mk), H m = some (.ins C dx (mF r s d)) ∧ H r = some (.lst (ps.map V.ref)) ∧ MkP H ps L ∧ L.drop s = R ∧ ∀ x ∈ L, x.1.length ≤ 600
theorem MkR.ex {C : Addr} {H H' : Hp} {m : Addr} {R : List Mk} {d : Int} (e : Ex H H') (h : MkR C H m R d) : MkR C H' m R d := by
  obtain ⟨dx, r, s, ps, L, h1, h2, h3, h4⟩ := h
  exact ⟨dx, r, s, ps, L, e _ _ h1, e _ _ h2, h3.ex e, h4⟩
theorem MkR.exb {C : Addr} {H H' : Hp} {m l : Addr} {R : List Mk} {d : Int} {ns : List Int} (e : Exb l H H') (hl : H l = some (.lst (ns.map V.int))) (hn : ns ≠ []) (h : MkR C H m R d) : MkR C H' m R d := by
  obtain ⟨dx, r, s, ps, L, h1, h2, h3, h4, h5⟩ := h
  refine ⟨dx, r, s, ps, L, e _ (fun z => ?_) _ h1, e _ (fun z => ?_) _ h2, h3.exb e (fun z => ?_), h4, h5⟩
  · rw [z, hl] at h1; cases h1
  · rw [z, hl] at h2
    have h2 := congrArg (fun x : Option HO => match x with | some (.lst xs) => xs.head? | _ => none) h2
    cases ns with
    | nil => exact hn rfl
    | cons n ns =>
      cases ps with
      | nil => cases h2
      | cons p ps => cases h2
  · obtain ⟨q, hq⟩ := h3.mem z
    rw [hl] at hq; cases hq
theorem MkR.bd {C : Addr} {H : Hp} {m : Addr} {R : List Mk} {d : Int} (h : MkR C H m R d) : ∀ x ∈ R, x.1.length ≤ 600 := by
  obtain ⟨dx, r, s, ps, L, h1, h2, h3, rfl, h5⟩ := h
  exact fun x hx => h5 x (List.mem_of_mem_drop hx)
theorem r_methM {C : Addr} {nm : Str} {sp : Sp} {dvs : List V} {E : XK} {ta : TA} {σ : L2.St} {Q : VK} {H : Hp} {m : Addr} {R : List Mk} {d : Int} (h : MkR C H m R d) (h1 : (nm == ("row" : Str)) = false) (h2 : (nm == ("spot" : Str)) = false) (h3 : (nm == ("depth" : Str)) = false) (q : ta σ H fun vs H2 => sp (.ref m :: (vs ++ dvs)) H2 Q E) : MethK C nm sp dvs E ta σ Q (.ref m) H := by
  obtain ⟨dx, r, s, ps, L, h, _⟩ := h
  exact ⟨m, dx, _, rfl, h, mF_none r s d h1 h2 h3, q⟩
/-- what a method that takes a mark promises -/
def Took (C : Addr) (H : Hp) (m : Addr) (R : List Mk) (d : Int) (v : V) (Q : VK) : Prop := ∀ H', Exb m H H' → MkR C H' m R d → Q v H'
end RB
namespace RB
open PySem PySem.Spec PyProof.Rows L2 TX
open Evl (Ex rLenS rListS rMax2 tCut pss_cut)
theorem r_chain {r r' : R2} {ta tb tc : TE} {σ : L2.St} {H : Hp} {Q : VK} (h : ta σ H fun x H1 => tb σ H1 fun y H2 => r x y H2 fun z H3 => ∃ k, z = .bl k ∧ (if k = true then tc σ H3 fun w' H4 => r' y w' H4 Q else Q (.bl false) H3)) : tChain r r' ta tb tc σ H Q := h
theorem r_retN {D : Ends} {σ : L2.St} {H : Hp} (h : D.rt .non H) : tRetN D σ H := h
def figL : List Nat := [48, 49, 50, 51, 52, 53, 54, 55, 56, 57]
def letL : List Nat := [97, 98, 99, 100, 101, 102, 103, 104, 105, 106, 107, 108, 109, 110, 111, 112, 113, 114, 115, 116, 117, 118, 119, 120, 121, 122]
theorem fig_in (c : Nat) : fig c = decide (c ∈ figL) := by
  have h : (48 ≤ c ∧ c ≤ 57) ↔ c ∈ figL := by
    unfold figL
    simp only [List.mem_cons, List.not_mem_nil, or_false]
    omega
  unfold fig
  cases h2 : decide (c ∈ figL) with
  | true => have := h.mpr (of_decide_eq_true h2); simp [this]
  | false => have := mt h.mp (of_decide_eq_false h2); simp; omega
theorem lett_in (c : Nat) : lett c = decide (c ∈ letL) := by
  have h : (97 ≤ c ∧ c ≤ 122) ↔ c ∈ letL := by
    unfold letL
    simp only [List.mem_cons, List.not_mem_nil, or_false]
    omega
  unfold lett
  cases h2 : decide (c ∈ letL) with
  | true => have := h.mpr (of_decide_eq_true h2); simp [this]
  | false => have := mt h.mp (of_decide_eq_false h2); simp; omega
theorem lit_figs : ("0123456789" : Str) = sS figL := by decide +kernel
theorem lit_letts : ("abcdefghijklmnopqrstuvwxyz" : Str) = sS letL := by decide +kernel
theorem lit_0 : ("0" : Str) = sS [48] := by decide +kernel
theorem lit_x : ("x" : Str) = sS [120] := by decide +kernel
theorem lit_xp : ("x^" : Str) = sS [120, 94] := by decide +kernel
theorem lit_e : ("" : Str) = sS [] := by decide +kernel
theorem lit_b : (" " : Str) = sS [32] := by decide +kernel
theorem lit_dd : (".." : Str) = sS [46, 46] := by decide +kernel
theorem lit_star : ("*" : Str) = sS [42] := by decide +kernel
theorem lit_plus : ("+" : Str) = sS [43] := by decide +kernel
theorem lit_minus : ("-" : Str) = sS [45] := by decide +kernel
theorem lit_pow : ("^" : Str) = sS [94] := by decide +kernel
theorem lit_bp : (" + " : Str) = sS [32, 43, 32] := by decide +kernel
theorem lit_bm : (" - " : Str) = sS [32, 45, 32] := by decide +kernel
theorem lit_exp : ("012345678" : Str) = sS [48, 49, 50, 51, 52, 53, 54, 55, 56] := by decide +kernel
theorem eq_lit {a b : List Nat} {z : Str} (h : z = sS b) : decide (sS a = z) = decide (a = b) := by rw [h, d_sS]
theorem run_nil (p : Nat → Bool) : TX.run p [] = 0 := rfl
theorem run_cons (p : Nat → Bool) (c : Nat) (l : List Nat) : TX.run p (c :: l) = if p c = true then TX.run p l + 1 else 0 := by
  unfold TX.run
  rw [List.takeWhile_cons]
  split <;> rfl
theorem drop_at {l : List Nat} {i : Nat} (h : i < l.length) : l.drop i = l.getD i 0 :: l.drop (i + 1) := by
  rw [List.drop_eq_getElem_cons h, List.getD_eq_getElem?_getD, List.getElem?_eq_getElem h]; rfl
end RB
namespace RB
open PySem PySem.Spec PyProof.Rows L2 TX
open Evl (Ex rLenS rListS rMax2 tCut pss_cut)
/-- the next mark -/
theorem stepped {C m dx r : Addr} {s : Nat} {ps : List Addr} {L : List Mk} {R : List Mk} {x : Mk} {d : Int} {H : Hp} (h1 : H m = some (.ins C dx (mF r s d))) (h2 : H r = some (.lst (ps.map V.ref))) (h3 : MkP H ps L) (h4 : L.drop s = x :: R) (h5 : ∀ x ∈ L, x.1.length ≤ 600) :
    MkR C (upd H m (.ins C dx (putF ("spot" : Str) (.int ((s : Int) + 1)) (mF r s d)))) m R d := by
  have nr : r ≠ m := fun z => by rw [z, h1] at h2; cases h2
  have nx : m ∉ ps := fun z => by
    obtain ⟨_, hz⟩ := h3.mem z
    rw [h1] at hz; cases hz
  have ex : Exb m H (upd H m (.ins C dx (putF ("spot" : Str) (.int ((s : Int) + 1)) (mF r s d)))) := fun a n o h => by rw [upd_ne n]; exact h
  refine ⟨dx, r, s + 1, ps, L, ?_, ex r nr _ h2, h3.exb ex nx, ?_, h5⟩
  · rw [upd_same]; rfl
  · rw [← List.drop_drop, h4]; rfl
theorem one_whole {c : Nat} (h0 : 48 ≤ c) (h1 : c ≤ 57) : whole [c] = true := by
  unfold whole
  by_cases h : c = 48
  · simp [h]
  · simp [h, fig, h0, h1]
theorem one_val (c : Nat) : val [c] = ((c - 48 : Nat) : Int) := by
  unfold val NumText.digitsVal
  simp
end RB
namespace RB
open PySem PySem.Spec PyProof.Rows L2 TX
open Evl (Ex rLenS rListS rMax2 tCut pss_cut)
/-- all but two objects stay -/
def Exb2 (m l : Addr) (H H' : Hp) : Prop := ∀ a, a ≠ m → a ≠ l → ∀ o, H a = some o → H' a = some o
theorem Exb2.l {m l : Addr} {H H' : Hp} (e : Exb m H H') : Exb2 m l H H' := fun a n _ o h => e a n o h
theorem Exb2.r {m l : Addr} {H H' : Hp} (e : Exb l H H') : Exb2 m l H H' := fun a _ n o h => e a n o h
theorem Exb2.ex {m l : Addr} {H H' : Hp} (e : Ex H H') : Exb2 m l H H' := fun a _ _ o h => e a o h
theorem Exb2.trans {m l : Addr} {H H1 H2 : Hp} (a : Exb2 m l H H1) (b : Exb2 m l H1 H2) : Exb2 m l H H2 := fun c n n' o h => b c n n' o (a c n n' o h)
theorem Exb2.back {m l : Addr} {H0 H H' : Hp} (e : Ex H0 H) (b : Exb2 m l H H') (hm : H0 m = none) (hl : H0 l = none) : Ex H0 H' := fun a o h => b a (ne_of_none h hm) (ne_of_none h hl) o (e a o h)
theorem MkR.ne {C m l : Addr} {H : Hp} {R : List Mk} {d : Int} {xs : List V} (h : MkR C H m R d) (hl : H l = some (.lst xs)) : l ≠ m := fun z => by
  obtain ⟨dx, r, s, ps, L, h1, _⟩ := h
  rw [z, h1] at hl; cases hl
theorem val_lt {w : List Nat} (h : whole w = true) (hl : w.length ≤ 600) : (val w).natAbs < 2 ^ 2400 := by
  have ha : ∀ c ∈ w, c ≤ 57 := by
    unfold whole at h
    simp only [Bool.or_eq_true, Bool.and_eq_true, decide_eq_true_eq, List.all_eq_true] at h
    rcases h with rfl | ⟨_, h, hn⟩
    · intro c hc; rw [List.mem_singleton.mp hc]; omega
    · intro c hc; have := h c hc; unfold fig at this; simp at this; omega
  have key : ∀ (w : List Nat) (n k : Nat), (∀ c ∈ w, c ≤ 57) → n < 2 ^ k → w.foldl (fun acc c => acc * 10 + (c - 48)) n < 2 ^ (k + 4 * w.length) := by
    intro w
    induction w with
    | nil => intro n k _ h; exact h
    | cons c w ih =>
      intro n k hc h
      have := ih (n * 10 + (c - 48)) (k + 4) (fun x hx => hc x (List.mem_cons_of_mem _ hx)) (by
        have := hc c (List.mem_cons_self ..)
        rw [Nat.pow_add]; omega)
      rw [List.foldl_cons, List.length_cons]
      rw [show k + 4 * (w.length + 1) = k + 4 + 4 * w.length by omega]
      exact this
  have := key w 0 0 ha (by decide)
  unfold val NumText.digitsVal
  rw [Int.natAbs_natCast]
  exact Nat.lt_of_lt_of_le this (Nat.pow_le_pow_right (by decide) (by omega))
theorem pow_ok {R R' : List Mk} {k : Nat} (h : powE R = .ok (k, R')) : (∃ b c e R3, R = ([94], b) :: ([c], e) :: R3 ∧ 48 ≤ c ∧ c ≤ 56 ∧ k = c - 48 ∧ R' = R3) ∨ (∃ v b R2, R = (v, b) :: R2 ∧ v ≠ [94] ∧ k = 1 ∧ R' = R) := by
  match R with
  | [] => cases h
  | (v, b) :: R2 =>
    by_cases hv : v = [94]
    · subst hv
      match R2 with
      | [] => cases h
      | (u, e) :: R3 =>
        have h' : (if u.length = 1 ∧ 48 ≤ u.headD 0 ∧ u.headD 0 ≤ 56 then (Except.ok (u.headD 0 - 48, R3) : Except Nat (Nat × List Mk)) else .error e) = .ok (k, R') := h
        split at h'
        · next hc =>
          cases h'
          match u, hc with
          | [c], hc => exact .inl ⟨b, c, e, _, rfl, hc.2.1, hc.2.2, rfl, rfl⟩
        · cases h'
    · refine .inr ⟨v, b, R2, rfl, hv, ?_⟩
      have h' : (if v = [94] then _ else (Except.ok (1, (v, b) :: R2) : Except Nat (Nat × List Mk))) = .ok (k, R') := h
      rw [if_neg hv] at h'
      cases h'
      exact ⟨rfl, rfl⟩
theorem term_ok {R R' : List Mk} {f : Int} {k : Nat} (h : termE R = .ok (f, k, R')) : (∃ a R1, R = ([120], a) :: R1 ∧ f = 1 ∧ powE R1 = .ok (k, R')) ∨
    (∃ w a b c R3, R = (w, a) :: ([42], b) :: ([120], c) :: R3 ∧ w ≠ [120] ∧ whole w = true ∧ f = val w ∧ powE R3 = .ok (k, R')) ∨
    (∃ w a v b R2, R = (w, a) :: (v, b) :: R2 ∧ w ≠ [120] ∧ whole w = true ∧ f = val w ∧ v ≠ [42] ∧ k = 0 ∧ R' = (v, b) :: R2) := by
  have wf : ∀ {x : Except Nat (Nat × List Mk)} {g : Int}, withF g x = .ok (f, k, R') → f = g ∧ x = .ok (k, R') := fun {x g} h => by
    match x with
    | .ok (k', R2) => cases h; exact ⟨rfl, rfl⟩
    | .error e => cases h
  match R with
  | [] => cases h
  | (w, a) :: R1 =>
    by_cases hw : w = [120]
    · subst hw
      obtain ⟨h1, h2⟩ := wf (show withF 1 (powE R1) = _ from h)
      exact .inl ⟨a, R1, rfl, h1, h2⟩
    · refine .inr ?_
      simp only [termE, hw, if_false] at h
      split at h
      · next hh =>
        match R1 with
        | [] => cases h
        | (v, b) :: R2 =>
          by_cases hv : v = [42]
          · subst hv
            match R2 with
            | [] => cases h
            | (x, c) :: R3 =>
              have h' : (if x = [120] then withF (val w) (powE R3) else (.error c : Except Nat (Int × Nat × List Mk))) = .ok (f, k, R') := h
              split at h'
              · next hx =>
                subst hx
                obtain ⟨h1, h2⟩ := wf h'
                exact .inl ⟨w, a, b, c, R3, rfl, hw, hh, h1, h2⟩
              · cases h'
          · have h' : (if v = [42] then _ else (Except.ok (val w, 0, (v, b) :: R2) : Except Nat (Int × Nat × List Mk))) = .ok (f, k, R') := h
            rw [if_neg hv] at h'
            cases h'
            exact .inr ⟨w, a, v, b, R2, rfl, hw, hh, rfl, hv, rfl, rfl⟩
      · cases h
theorem pow_k {R R' : List Mk} {k : Nat} (h : powE R = .ok (k, R')) : k ≤ 8 := by
  rcases pow_ok h with ⟨b, c, e, R3, _, _, h2, h3, _⟩ | ⟨_, _, _, _, _, h, _⟩ <;> omega
theorem term_k {R R' : List Mk} {f : Int} {k : Nat} (h : termE R = .ok (f, k, R')) : k ≤ 8 := by
  rcases term_ok h with ⟨_, _, _, _, h⟩ | ⟨_, _, _, _, _, _, _, _, _, h⟩ | ⟨_, _, _, _, _, _, _, _, _, _, h, _⟩
  · exact pow_k h
  · exact pow_k h
  · omega
end RB
namespace RB
open PySem PySem.Spec PyProof.Rows L2 TX
open Evl (Ex rLenS rListS rMax2 tCut pss_cut)
theorem r_inTup2 {K : PySem.W.Frag} {H : Hp} {Q : VK} {p : Addr} {w a b : List Nat} {x y : Str} (hx : x = sS a) (hy : y = sS b) (h : SqT K H p [.str x, .str y]) (q : Q (.bl (decide (w = a ∨ w = b))) H) : rIn K false (.str (sS w)) (.ref p) H Q := by
  refine ⟨p, _, rfl, .inr h, rfl, rfl, ?_⟩
  have e : inV (.str (sS w)) [.str x, .str y] = decide (w = a ∨ w = b) := by
    rw [hx, hy]
    show ((sS a == sS w) || ((sS b == sS w) || false)) = _
    rw [Bool.or_false]
    have k : ∀ u v : List Nat, (sS u == sS v) = decide (v = u) := fun u v => by
      by_cases h : v = u
      · rw [h, decide_eq_true rfl]; exact beq_self_eq_true _
      · rw [decide_eq_false h]; exact beq_false_of_ne (fun z => h (sS_inj.mp z).symm)
    rw [k, k, ← Bool.decide_or]
  rw [e]; exact q
theorem loop_ok {n : Nat} {row row' : List Int} {w : List Nat} {a : Nat} {R R' : List Mk} (h : loopE (n + 1) row ((w, a) :: R) = .ok (row', R')) : ((w = [43] ∨ w = [45]) ∧ ∃ f k R1, termE R = .ok (f, k, R1) ∧ loopE n (addR row k (sgn w * f)) R1 = .ok (row', R')) ∨ (¬ (w = [43] ∨ w = [45]) ∧ row' = row ∧ R' = (w, a) :: R) := by
  by_cases hw : w = [43] ∨ w = [45]
  · refine .inl ⟨hw, ?_⟩
    simp only [loopE, hw, if_true] at h
    match ht : termE R, h with
    | .ok (f, k, R1), h => exact ⟨f, k, R1, rfl, h⟩
  · refine .inr ⟨hw, ?_⟩
    simp only [loopE, hw, if_false] at h
    cases h
    exact ⟨rfl, rfl⟩
theorem loop_hd {n : Nat} {row row' : List Int} {R R' : List Mk} (h : loopE n row R = .ok (row', R')) : ∃ m w a R1, n = m + 1 ∧ R = (w, a) :: R1 := by
  match n, R, h with
  | n + 1, (w, a) :: R1, _ => exact ⟨n, w, a, R1, rfl, rfl⟩
  | 0, _, h => cases h
  | n + 1, [], h => cases h
theorem sgn_or (w : List Nat) : sgn w = 1 ∨ sgn w = -1 := by unfold sgn; split <;> simp
theorem addR_len (row : List Int) (k : Nat) (f : Int) : (addR row k f).length = row.length := by unfold addR; rw [List.length_set]
theorem poly_hd {n : Nat} {R R' : List Mk} {row : List Int} (h : polyE n R = .ok (row, R')) : ∃ w a R1 f k R2, R = (w, a) :: R1 ∧ termE (if w = [45] then R1 else (w, a) :: R1) = .ok (f, k, R2) ∧ loopE n (addR nine k ((if w = [45] then -1 else 1) * f)) R2 = .ok (row, R') := by
  match R, h with
  | [], h => cases h
  | (w, a) :: R1, h =>
    have h' : (match termE (if w = [45] then R1 else (w, a) :: R1) with
      | .ok (f, k, R') => loopE n (addR nine k ((if w = [45] then -1 else 1) * f)) R'
      | .error e => (.error e : Except Nat (List Int × List Mk))) = .ok (row, R') := h
    match ht : termE (if w = [45] then R1 else (w, a) :: R1), h' with
    | .ok (f, k, R2), h' => exact ⟨w, a, R1, f, k, R2, rfl, ht, h'⟩
theorem read_ok {l : List Nat} {P : List Int} (h : readE l = .ok P) : ∃ row a R, polyE (l.length + 10) (marks l 0) = .ok (row, ([], a) :: R) ∧ P = ML.trimL row := by
  unfold readE at h
  match hp : polyE (l.length + 10) (marks l 0), h with
  | .ok (row, (w, a) :: R), h =>
    by_cases hw : w = []
    · subst hw
      exact ⟨row, a, R, rfl, (Except.ok.inj h).symm⟩
    · simp only [hw, if_false] at h
      cases h
  | .ok (row, []), h => cases h
  | .error e, h => cases h
end RB

set_option linter.all false
set_option maxRecDepth 100000
/-! Reading that is refused. -/
namespace TX
open PySem TL
/-- the marks' end stands at the end -/
def Endd : List Mk → Prop
  | [] => False
  | [(w, _)] => w = []
  | _ :: R => Endd R
theorem Endd.ne {R : List Mk} (h : Endd R) : R ≠ [] := fun z => by rw [z] at h; exact h
theorem Endd.tail {w : List Nat} {a : Nat} {R : List Mk} (h : Endd ((w, a) :: R)) (hw : w ≠ []) : Endd R := by
  match R, h with
  | [], h => exact absurd h hw
  | x :: R, h => exact h
theorem Endd.cons {x : Mk} {R : List Mk} (h : Endd R) : Endd (x :: R) := by
  match R, h with
  | [], h => exact h.elim
  | y :: R, h => exact h
theorem marks_endd : ∀ (n : Nat) (l : List Nat) (a : Nat), l.length ≤ n → Endd (marks l a)
  | n, l, a, hn => by
    by_cases h : l = []
    · subst h; rw [marks_nil]; rfl
    · have p := List.length_pos_iff.mpr h
      have p1 := size_pos l
      rw [marks_eq h]
      match n, hn with
      | 0, hn => omega
      | n + 1, hn =>
        have h1 : (l.drop (sizeAt l)).length = l.length - sizeAt l := List.length_drop ..
        have := marks_endd n (l.drop (sizeAt l)) (a + sizeAt l) (by omega)
        split
        · exact this
        · exact this.cons
theorem pow_err {R : List Mk} {e : Nat} (E : Endd R) (h : powE R = .error e) : ∃ b v R2, R = ([94], b) :: (v, e) :: R2 ∧ ¬ (v.length = 1 ∧ 48 ≤ v.headD 0 ∧ v.headD 0 ≤ 56) := by
  match R, E with
  | [], E => exact E.elim
  | (w, b) :: R, E =>
    by_cases hw : w = [94]
    · subst hw
      have E2 := E.tail (by simp)
      match R, E2 with
      | [], E2 => exact E2.elim
      | (v, c) :: R2, _ =>
        have h' : (if v.length = 1 ∧ 48 ≤ v.headD 0 ∧ v.headD 0 ≤ 56 then (Except.ok (v.headD 0 - 48, R2) : Except Nat (Nat × List Mk)) else .error c) = .error e := h
        split at h'
        · cases h'
        · next hc => cases h'; exact ⟨b, v, R2, rfl, hc⟩
    · have h' : (if w = [94] then _ else (Except.ok (1, (w, b) :: R) : Except Nat (Nat × List Mk))) = .error e := h
      rw [if_neg hw] at h'
      cases h'
theorem whole_ne {w : List Nat} (h : whole w = true) : w ≠ [] := fun z => by subst z; simp [whole] at h
theorem term_err {R : List Mk} {e : Nat} (E : Endd R) (h : termE R = .error e) : (∃ a R1, R = ([120], a) :: R1 ∧ Endd R1 ∧ powE R1 = .error e) ∨
    (∃ w a b c R3, R = (w, a) :: ([42], b) :: ([120], c) :: R3 ∧ w ≠ [120] ∧ whole w = true ∧ Endd R3 ∧ powE R3 = .error e) ∨
    (∃ w a b x R3, R = (w, a) :: ([42], b) :: (x, e) :: R3 ∧ w ≠ [120] ∧ whole w = true ∧ x ≠ [120]) ∨
    (∃ w R1, R = (w, e) :: R1 ∧ w ≠ [120] ∧ whole w = false) := by
  have wf : ∀ {x : Except Nat (Nat × List Mk)} {g : Int}, withF g x = .error e → x = .error e := fun {x g} h => by
    match x with
    | .ok (k', R2) => cases h
    | .error e' => cases h; rfl
  match R, E with
  | [], E => exact E.elim
  | (w, a) :: R1, E =>
    by_cases hw : w = [120]
    · subst hw
      exact .inl ⟨a, R1, rfl, E.tail (by simp), wf (show withF 1 (powE R1) = _ from h)⟩
    · refine .inr ?_
      simp only [termE, hw, if_false] at h
      by_cases hh : whole w = true
      · simp only [hh, if_true] at h
        have E1 := E.tail (whole_ne hh)
        match R1, E1, h with
        | [], E1, _ => exact E1.elim
        | (v, b) :: R2, E1, h =>
          by_cases hv : v = [42]
          · subst hv
            have E2 := E1.tail (by simp)
            match R2, E2, h with
            | [], E2, _ => exact E2.elim
            | (x, c) :: R3, E2, h =>
              have h' : (if x = [120] then withF (val w) (powE R3) else (.error c : Except Nat (Int × Nat × List Mk))) = .error e := h
              by_cases hx : x = [120]
              · subst hx
                rw [if_pos rfl] at h'
                exact .inl ⟨w, a, b, c, R3, rfl, hw, hh, E2.tail (by simp), wf h'⟩
              · rw [if_neg hx] at h'
                cases h'
                exact .inr (.inl ⟨w, a, b, x, R3, rfl, hw, hh, hx⟩)
          · have h' : (if v = [42] then _ else (Except.ok (val w, 0, (v, b) :: R2) : Except Nat (Int × Nat × List Mk))) = .error e := h
            rw [if_neg hv] at h'
            cases h'
      · have hf : whole w = false := by simpa using hh
        rw [hf] at h
        cases h
        exact .inr (.inr ⟨w, R1, rfl, hw, hf⟩)
theorem pow_endd {R R' : List Mk} {k : Nat} (E : Endd R) (h : powE R = .ok (k, R')) : Endd R' := by
  rcases RB.pow_ok h with ⟨b, c, e, R3, rfl, _, _, _, rfl⟩ | ⟨v, b, R2, rfl, _, _, rfl⟩
  · exact (E.tail (by simp)).tail (by simp)
  · exact E
theorem term_endd {R R' : List Mk} {f : Int} {k : Nat} (E : Endd R) (h : termE R = .ok (f, k, R')) : Endd R' := by
  rcases RB.term_ok h with ⟨a, R1, rfl, _, hp⟩ | ⟨w, a, b, c, R3, rfl, _, hh, _, hp⟩ | ⟨w, a, v, b, R2, rfl, _, hh, _, _, _, rfl⟩
  · exact pow_endd (E.tail (by simp)) hp
  · exact pow_endd (((E.tail (whole_ne hh)).tail (by simp)).tail (by simp)) hp
  · exact E.tail (whole_ne hh)
/-- fuel for the marks that come -/
theorem loop_err {n : Nat} {row : List Int} {w : List Nat} {a : Nat} {R : List Mk} {e : Nat} (h : loopE (n + 1) row ((w, a) :: R) = .error e) : (w = [43] ∨ w = [45]) ∧ ((termE R = .error e) ∨ ∃ f k R1, termE R = .ok (f, k, R1) ∧ loopE n (addR row k (sgn w * f)) R1 = .error e) := by
  by_cases hw : w = [43] ∨ w = [45]
  · refine ⟨hw, ?_⟩
    simp only [loopE, hw, if_true] at h
    match ht : termE R, h with
    | .ok (f, k, R1), h => exact .inr ⟨f, k, R1, rfl, h⟩
    | .error e', h => cases h; exact .inl rfl
  · simp only [loopE, hw, if_false] at h
    cases h
theorem poly_err {n : Nat} {R : List Mk} {e : Nat} (E : Endd R) (h : polyE n R = .error e) : ∃ w a R1, R = (w, a) :: R1 ∧ ((termE (if w = [45] then R1 else (w, a) :: R1) = .error e) ∨ ∃ f k R2, termE (if w = [45] then R1 else (w, a) :: R1) = .ok (f, k, R2) ∧ loopE n (addR nine k ((if w = [45] then -1 else 1) * f)) R2 = .error e) := by
  match R, E, h with
  | [], E, _ => exact E.elim
  | (w, a) :: R1, _, h =>
    have h' : (match termE (if w = [45] then R1 else (w, a) :: R1) with
      | .ok (f, k, R') => loopE n (addR nine k ((if w = [45] then -1 else 1) * f)) R'
      | .error e => (.error e : Except Nat (List Int × List Mk))) = .error e := h
    match ht : termE (if w = [45] then R1 else (w, a) :: R1), h' with
    | .ok (f, k, R2), h' => exact ⟨w, a, R1, rfl, .inr ⟨f, k, R2, ht, h'⟩⟩
    | .error e', h' => cases h'; exact ⟨w, a, R1, rfl, .inl ht⟩
theorem loop_endd : ∀ {n : Nat} {row row' : List Int} {R R' : List Mk}, Endd R → loopE n row R = .ok (row', R') → Endd R'
  | 0, _, _, _, _, _, h => by cases h
  | n + 1, row, row', R, R', E, h => by
    obtain ⟨m, w, a, R1, e1, rfl⟩ := RB.loop_hd h
    rcases RB.loop_ok h with ⟨hw, f, k, R2, ht, hl⟩ | ⟨_, _, rfl⟩
    · exact loop_endd (term_endd (E.tail (by rcases hw with rfl | rfl <;> simp)) ht) hl
    · exact E
theorem read_err {l : List Nat} {e : Nat} (h : readE l = .error e) : polyE (l.length + 10) (marks l 0) = .error e ∨ ∃ row w R, polyE (l.length + 10) (marks l 0) = .ok (row, (w, e) :: R) ∧ w ≠ [] := by
  unfold readE at h
  match hp : polyE (l.length + 10) (marks l 0), h with
  | .error e', h => cases h; exact .inl rfl
  | .ok (row, (w, a) :: R), h =>
    by_cases hw : w = []
    · simp only [hw, if_true] at h; cases h
    · simp only [hw, if_false] at h
      cases h
      exact .inr ⟨row, w, R, rfl, hw⟩
  | .ok (row, []), h =>
    have E := marks_endd l.length l 0 (Nat.le_refl _)
    obtain ⟨w, a, R1, f, k, R2, e1, ht, hl⟩ := RB.poly_hd hp
    rw [e1] at E
    have E2 : Endd (if w = [45] then R1 else (w, a) :: R1) := by
      split
      · next hw => exact E.tail (by rw [hw]; simp)
      · exact E
    exact (loop_endd (term_endd E2 ht) hl).elim
end TX
namespace RB
open PySem PySem.Spec PyProof.Rows L2 TX
open Evl (Ex rLenS rListS rMax2 tCut pss_cut)
/-- an error is let out, an object may have changed -/
def ErrB (m : Addr) (C : Addr) (f : Str) (y : V) (E : XK) (H : Hp) : Prop := ∀ d H', H d = none → Exb m H H' → H' d = some (.xd [(f, y)]) → E (.ref C) (some d) H'
theorem ErrB.to {m C : Addr} {f : Str} {y : V} {E : XK} {H H1 : Hp} {R : List Mk} {dp : Int} {CM : Addr} (q : ErrB m C f y E H) (b : Exb m H H1) (h : MkR CM H1 m R dp) : Err C f y E H1 := fun d H' hd e hx => q d H' (by
  cases hh : H d with
  | none => rfl
  | some o =>
    have n : d ≠ m := fun z => by
      obtain ⟨_, _, _, _, _, hm, _⟩ := h
      rw [z, hm] at hd; cases hd
    have := b d n _ hh
    rw [hd] at this; cases this) (b.ex e) hx
theorem ErrB.go {m C : Addr} {f : Str} {y : V} {E : XK} {H H1 : Hp} {R : List Mk} {dp : Int} {CM : Addr} (q : ErrB m C f y E H) (b : Exb m H H1) (h : MkR CM H1 m R dp) : ErrB m C f y E H1 := fun d H' hd e hx => q d H' (by
  cases hh : H d with
  | none => rfl
  | some o =>
    have n : d ≠ m := fun z => by
      obtain ⟨_, _, _, _, _, hm, _⟩ := h
      rw [z, hm] at hd; cases hd
    have := b d n _ hh
    rw [hd] at this; cases this) (b.trans e) hx
end RB
namespace TX
open PySem TL
theorem pow_lt {R R' : List Mk} {k : Nat} (h : powE R = .ok (k, R')) : R'.length ≤ R.length := by
  rcases RB.pow_ok h with ⟨b, c, e, R3, rfl, _, _, _, rfl⟩ | ⟨v, b, R2, rfl, _, _, rfl⟩
  · simp; omega
  · omega
theorem term_lt {R R' : List Mk} {f : Int} {k : Nat} (h : termE R = .ok (f, k, R')) : R'.length < R.length := by
  rcases RB.term_ok h with ⟨a, R1, rfl, _, hp⟩ | ⟨w, a, b, c, R3, rfl, _, hh, _, hp⟩ | ⟨w, a, v, b, R2, rfl, _, hh, _, _, _, rfl⟩
  · have := pow_lt hp; simp; omega
  · have := pow_lt hp; simp; omega
  · simp
theorem marks_cnt : ∀ (n : Nat) (l : List Nat) (a : Nat), l.length ≤ n → (marks l a).length ≤ l.length + 1
  | n, l, a, hn => by
    by_cases h : l = []
    · subst h; rw [marks_nil]; exact Nat.le_refl _
    · have p := List.length_pos_iff.mpr h
      have p1 := size_pos l
      rw [marks_eq h]
      match n, hn with
      | 0, hn => omega
      | n + 1, hn =>
        have h1 : (l.drop (sizeAt l)).length = l.length - sizeAt l := List.length_drop ..
        have := marks_cnt n (l.drop (sizeAt l)) (a + sizeAt l) (by omega)
        rw [List.length_append]
        split
        · simp; omega
        · simp; omega
end TX

set_option linter.all false
set_option maxRecDepth 100000
/-! A polynomial's text is read back. -/
namespace TX
open PySem TL
theorem ngl_of {w r : List Nat} (h : ∀ d, r.head? = some d → fig d = false ∧ lett d = false ∧ d ≠ 46) : Ngl w r := fun c d _ hd => by
  obtain ⟨h1, h2, h3⟩ := h d hd
  rw [h1, h2]
  exact ⟨fun z => by simp at z, fun z => by simp at z, fun z => h3 z.2⟩
theorem ngl_l {c : Nat} {r : List Nat} (h1 : fig c = false) (h2 : lett c = false) (h3 : c ≠ 46) : Ngl [c] r := fun c' d hc _ => by
  have : c = c' := by simpa using hc
  subst this
  rw [h1, h2]
  exact ⟨fun z => by simp at z, fun z => by simp at z, fun z => h3 z.1⟩
def Stp (r : List Nat) : Prop := ∀ d, r.head? = some d → d = 32
theorem Stp.ngl {w r : List Nat} (h : Stp r) : Ngl w r := ngl_of fun d hd => by rw [h d hd]; decide
theorem num_mark (n : Nat) : IsMark (numL n) := .figs (numL_ne n) fun c hc => by
  have := numL_digits n c hc
  unfold fig; simp; omega
theorem num_head {n : Nat} (h : 0 < n) : (numL n).head? ≠ some 48 := by
  induction n using Nat.strongRecOn with
  | ind n ih =>
    by_cases h10 : n < 10
    · rw [numL_lt h10]
      simp; omega
    · rw [numL_step (by omega)]
      have := ih (n / 10) (by omega) (by omega)
      cases hh : numL (n / 10) with
      | nil => exact absurd hh (numL_ne _)
      | cons x r => rw [hh] at this; simpa using this
theorem num_whole (n : Nat) : whole (numL n) = true := by
  unfold whole
  by_cases h : n = 0
  · subst h
    rw [show numL 0 = [48] from numL_lt (by decide)]; rfl
  · have h1 := num_head (show 0 < n by omega)
    have h2 : (numL n).all fig = true := List.all_eq_true.mpr fun c hc => by
      have := numL_digits n c hc
      unfold fig; simp; omega
    rw [decide_eq_true h1, h2, decide_eq_true (numL_ne n)]; simp
theorem num_val (n : Nat) : val (numL n) = (n : Int) := by unfold val; rw [numL_val]
theorem num_not {n c : Nat} (h : c < 48 ∨ 57 < c) : numL n ≠ [c] := fun z => by
  have := numL_digits n c (by rw [z]; simp)
  omega
/-- what comes behind a term -/
structure Beh (r : List Nat) : Prop where
  s : Stp r
  h : ∀ b, ∃ w c R, marks r b = (w, c) :: R ∧ w ≠ [42] ∧ w ≠ [94]
theorem x_mark : IsMark [120] := .letts (by simp) fun c hc => by rw [List.mem_singleton.mp hc]; decide
theorem pow_read {k : Nat} {r : List Nat} (k0 : 0 < k) (hk : k ≤ 8) (B : Beh r) (a : Nat) : ∃ e b, marks (pw k ++ r) a = ([120], a) :: e ∧ powE e = .ok (k, marks r b) := by
  unfold pw
  split
  · next h =>
    subst h
    refine ⟨_, a + 1, marks_app x_mark (Stp.ngl B.s) a, ?_⟩
    obtain ⟨w, c, R, e, _, n2⟩ := B.h (a + 1)
    show powE (marks r (a + 1)) = _
    rw [e]
    show (if w = [94] then _ else (Except.ok (1, (w, c) :: R) : Except Nat (Nat × List Mk))) = _
    rw [if_neg n2]
  · next h =>
    have e1 : [120, 94] ++ numL k ++ r = [120] ++ ([94] ++ (numL k ++ r)) := by simp
    rw [e1, marks_app x_mark (ngl_of fun d hd => by
      have : d = 94 := by simpa using hd.symm
      subst this; decide), marks_app (.one (by decide) (by decide) (by decide)) (ngl_l (by decide) (by decide) (by decide)), marks_app (num_mark k) B.s.ngl]
    refine ⟨_, a + [120].length + [94].length + (numL k).length, rfl, ?_⟩
    rw [show numL k = [48 + k] from numL_lt (by omega)]
    show (if ([48 + k] : List Nat).length = 1 ∧ 48 ≤ 48 + k ∧ 48 + k ≤ 56 then (Except.ok (48 + k - 48, _) : Except Nat (Nat × List Mk)) else _) = _
    rw [if_pos ⟨rfl, by omega, by omega⟩, show 48 + k - 48 = k by omega]
theorem term_read {m k : Nat} {r : List Nat} (hk : k ≤ 8) (B : Beh r) (a : Nat) : ∃ w R b, marks (term m k ++ r) a = (w, a) :: R ∧ w ≠ [45] ∧ termE ((w, a) :: R) = .ok ((m : Int), k, marks r b) := by
  unfold term
  by_cases k0 : k = 0
  · rw [if_pos k0, marks_app (num_mark m) B.s.ngl]
    refine ⟨_, _, a + (numL m).length, rfl, num_not (by omega), ?_⟩
    obtain ⟨w, c, R, e, n1, _⟩ := B.h (a + (numL m).length)
    rw [e]
    simp only [termE, num_not (n := m) (c := 120) (by omega), num_whole, if_true, if_false, n1, num_val, k0]
  · rw [if_neg k0]
    by_cases m1 : m = 1
    · rw [if_pos m1]
      obtain ⟨e, b, h1, h2⟩ := pow_read (by omega) hk B a
      refine ⟨_, _, b, h1, by simp, ?_⟩
      simp only [termE, if_true, h2, m1]; rfl
    · rw [if_neg m1]
      obtain ⟨e, b, h1, h2⟩ := pow_read (by omega) hk B (a + (numL m).length + 1)
      have e1 : numL m ++ [42] ++ pw k ++ r = numL m ++ ([42] ++ (pw k ++ r)) := by simp
      rw [e1, marks_app (num_mark m) (ngl_of fun d hd => by
        have : d = 42 := by simpa using hd.symm
        subst this; decide), marks_app (.one (by decide) (by decide) (by decide)) (ngl_l (by decide) (by decide) (by decide))]
      refine ⟨_, _, b, rfl, num_not (by omega), ?_⟩
      show termE ((numL m, a) :: ([42], a + (numL m).length) :: marks (pw k ++ r) (a + (numL m).length + 1)) = _
      rw [h1]
      simp only [termE, num_not (n := m) (c := 120) (by omega), num_whole, if_true, if_false, num_val, h2]
      rfl
/-! ### the terms behind the first -/
def tailT (P : List Int) : Nat → List Nat
  | 0 => []
  | n + 1 => sgT (ML.cf P n) n ++ tailT P n
theorem acc_tail (P : List Int) (last : Nat) : ∀ j, j ≤ last → accT P last j ++ tailT P (last - j) = leadT (ML.cf P last) last ++ tailT P last
  | 0, _ => rfl
  | j + 1, h => by
    rw [← acc_tail P last j (by omega), show last - j = (last - (j + 1)) + 1 by omega]
    show (accT P last j ++ sgT _ _) ++ _ = _ ++ (sgT _ _ ++ _)
    rw [show last - 1 - j = last - (j + 1) by omega, List.append_assoc]
theorem tail_stp (P : List Int) : ∀ n, Stp (tailT P n)
  | 0 => fun d hd => by cases hd
  | n + 1 => by
    unfold tailT sgT
    split
    · exact tail_stp P n
    · intro d hd
      split at hd <;> simpa using hd.symm
theorem sg_eq {c : Int} {k : Nat} (h : c ≠ 0) : sgT c k = [32] ++ ([if c < 0 then 45 else 43] ++ ([32] ++ term c.natAbs k)) := by
  unfold sgT
  rw [if_neg h]
  split <;> simp
theorem sg_marks {c : Int} {k : Nat} {r : List Nat} (h : c ≠ 0) (a : Nat) : marks (sgT c k ++ r) a = ([if c < 0 then 45 else 43], a + 1) :: marks (term c.natAbs k ++ r) (a + 3) := by
  rw [sg_eq h]
  have e : [32] ++ ([if c < 0 then 45 else 43] ++ ([32] ++ term c.natAbs k)) ++ r = 32 :: ([if c < 0 then 45 else 43] ++ (32 :: (term c.natAbs k ++ r))) := by simp
  rw [e, marks_gap, marks_app (.one (by split <;> decide) (by split <;> decide) (by split <;> decide)) (ngl_l (by split <;> decide) (by split <;> decide) (by split <;> decide)), marks_gap]
  rfl
theorem tail_beh (P : List Int) : ∀ n, Beh (tailT P n)
  | 0 => ⟨tail_stp P 0, fun b => ⟨[], b, [], marks_nil b, by simp, by simp⟩⟩
  | n + 1 => ⟨tail_stp P (n + 1), fun b => by
    by_cases h : ML.cf P n = 0
    · have : tailT P (n + 1) = tailT P n := by
        show sgT _ _ ++ _ = _
        rw [h]; rfl
      rw [this]
      exact (tail_beh P n).h b
    · show ∃ w c R, marks (sgT _ _ ++ _) b = _ ∧ _
      rw [sg_marks h]
      exact ⟨_, _, _, rfl, by split <;> simp, by split <;> simp⟩⟩
def addAll (row : List Int) (P : List Int) : Nat → List Int
  | 0 => row
  | n + 1 => addAll (if ML.cf P n = 0 then row else addR row n (ML.cf P n)) P n
theorem loop_read (P : List Int) : ∀ (n m : Nat) (row : List Int) (a : Nat), n ≤ 9 → n < m → ∃ e, loopE m row (marks (tailT P n) a) = .ok (addAll row P n, [([], e)])
  | 0, m + 1, row, a, _, _ => ⟨a, by
    show loopE (m + 1) row (marks [] a) = _
    rw [marks_nil]; rfl⟩
  | n + 1, m + 1, row, a, h9, hm => by
    by_cases h : ML.cf P n = 0
    · have e1 : tailT P (n + 1) = tailT P n := by
        show sgT _ _ ++ _ = _
        rw [h]; rfl
      have e2 : addAll row P (n + 1) = addAll row P n := by
        show addAll (if _ then _ else _) P n = _
        rw [if_pos h]
      rw [e1, e2]
      exact loop_read P n (m + 1) row a (by omega) (by omega)
    · show ∃ e, loopE (m + 1) row (marks (sgT _ _ ++ _) a) = _
      rw [sg_marks h]
      obtain ⟨w, R, b, h1, _, h2⟩ := term_read (m := (ML.cf P n).natAbs) (k := n) (by omega) (tail_beh P n) (a + 3)
      obtain ⟨e, he⟩ := loop_read P n m (addR row n (ML.cf P n)) b (by omega) (by omega)
      refine ⟨e, ?_⟩
      rw [h1]
      have hs : sgn [if ML.cf P n < 0 then 45 else 43] * ((ML.cf P n).natAbs : Int) = ML.cf P n := by
        unfold sgn
        by_cases hn : ML.cf P n < 0
        · rw [if_pos hn, if_neg (by decide)]; omega
        · rw [if_neg hn, if_pos rfl]; omega
      have hw : ([if ML.cf P n < 0 then 45 else 43] : List Nat) = [43] ∨ ([if ML.cf P n < 0 then 45 else 43] : List Nat) = [45] := by
        split <;> simp
      simp only [loopE, hw, if_true, h2, hs]
      rw [he]
      show _ = Except.ok (addAll (if _ then _ else _) P n, _)
      rw [if_neg h]
theorem getD_add {row : List Int} {k : Nat} {f : Int} (hk : k < row.length) (i : Nat) : (addR row k f).getD i 0 = row.getD i 0 + (if i = k then f else 0) := by
  unfold addR
  rw [List.getD_eq_getElem?_getD, List.getElem?_set, List.getD_eq_getElem?_getD (l := row) (i := i)]
  by_cases h : k = i
  · subst h
    rw [if_pos rfl, if_pos hk, if_pos rfl, List.getD_eq_getElem?_getD]; rfl
  · rw [if_neg h, if_neg (fun z => h z.symm)]; omega
theorem addAll_cf (P : List Int) : ∀ (n : Nat) (row : List Int), n ≤ row.length → ∀ i, ML.cf (addAll row P n) i = ML.cf row i + (if i < n then ML.cf P i else 0)
  | 0, row, _, i => by show ML.cf row i = _; rw [if_neg (by omega)]; omega
  | n + 1, row, h, i => by
    have key : ∀ r' : List Int, r'.length = row.length → ML.cf r' i = ML.cf row i + (if i = n then ML.cf P n else 0) → ML.cf (addAll r' P n) i = ML.cf row i + (if i < n + 1 then ML.cf P i else 0) := fun r' hl he => by
      rw [addAll_cf P n r' (by omega) i, he]
      by_cases hi : i = n
      · subst hi
        rw [if_pos rfl, if_neg (by omega), if_pos (by omega)]; omega
      · rw [if_neg hi]
        by_cases h2 : i < n
        · rw [if_pos h2, if_pos (by omega)]; omega
        · rw [if_neg h2, if_neg (by omega)]; omega
    show ML.cf (addAll (if ML.cf P n = 0 then row else addR row n (ML.cf P n)) P n) i = _
    by_cases h0 : ML.cf P n = 0
    · rw [if_pos h0]
      refine key row rfl ?_
      split <;> omega
    · rw [if_neg h0]
      refine key _ (by unfold addR; rw [List.length_set]) ?_
      exact getD_add (by omega) i
theorem nine_cf (i : Nat) : ML.cf nine i = 0 := by
  unfold ML.cf nine
  rw [List.getD_eq_getElem?_getD, List.getElem?_replicate]
  split <;> rfl
theorem read_text {P : List Int} (tP : ML.Trim P) (hl : P.length ≤ 9) : readE (polyT P) = .ok P := by
  by_cases nP : P = []
  · subst nP
    obtain ⟨w, R, b, h1, h2, h3⟩ := term_read (m := 0) (k := 0) (r := []) (by omega) (tail_beh [] 0) 0
    have e1 : polyT [] = term 0 0 ++ [] := by
      unfold polyT term
      rw [if_pos rfl, if_pos rfl, show numL 0 = [48] from numL_lt (by decide)]; rfl
    unfold readE
    rw [e1, h1]
    simp only [polyE, h2, if_false, h3]
    rw [marks_nil]
    show (match (Except.ok (addR nine 0 (1 * ((0 : Nat) : Int)), [([], b)]) : Except Nat (List Int × List Mk)) with
      | .ok (row, (w, a) :: _) => if w = [] then (.ok (ML.trimL row) : Except Nat (List Int)) else .error a
      | .ok (_, []) => .error 0
      | .error e => .error e) = _
    simp only [if_true]
    rfl
  have p := List.length_pos_iff.mpr nP
  have e1 : polyT P = (if ML.cf P (P.length - 1) < 0 then [45] else []) ++ (term (ML.cf P (P.length - 1)).natAbs (P.length - 1) ++ tailT P (P.length - 1)) := by
    have := acc_tail P (P.length - 1) (P.length - 1) (Nat.le_refl _)
    rw [Nat.sub_self] at this
    unfold polyT
    rw [if_neg nP]
    have h2 : accT P (P.length - 1) (P.length - 1) ++ tailT P 0 = accT P (P.length - 1) (P.length - 1) := List.append_nil _
    rw [← h2, this]
    unfold leadT
    rw [List.append_assoc]
  have B := tail_beh P (P.length - 1)
  have fin : ∀ (a : Nat) (m : Nat), P.length ≤ m → ∃ w R, marks (term (ML.cf P (P.length - 1)).natAbs (P.length - 1) ++ tailT P (P.length - 1)) a = (w, a) :: R ∧ w ≠ [45] ∧ ∃ b e, termE ((w, a) :: R) = .ok (((ML.cf P (P.length - 1)).natAbs : Int), P.length - 1, b) ∧ loopE m (addR nine (P.length - 1) (ML.cf P (P.length - 1))) b = .ok (addAll (addR nine (P.length - 1) (ML.cf P (P.length - 1))) P (P.length - 1), [([], e)]) := fun a m hm => by
    obtain ⟨w, R, b, h1, h2, h3⟩ := term_read (m := (ML.cf P (P.length - 1)).natAbs) (k := P.length - 1) (by omega) B a
    obtain ⟨e, he⟩ := loop_read P (P.length - 1) m (addR nine (P.length - 1) (ML.cf P (P.length - 1))) b (by omega) (by omega)
    exact ⟨w, R, h1, h2, _, e, h3, he⟩
  have hrow : ML.trimL (addAll (addR nine (P.length - 1) (ML.cf P (P.length - 1))) P (P.length - 1)) = P := ML.trimL_eq tP fun k => by
    rw [addAll_cf P _ _ (by unfold addR; rw [List.length_set]; show _ ≤ 9; omega)]
    rw [show ML.cf (addR nine (P.length - 1) (ML.cf P (P.length - 1))) k = ML.cf nine k + (if k = P.length - 1 then ML.cf P (P.length - 1) else 0) from getD_add (by show _ < 9; omega) k, nine_cf]
    by_cases h : k = P.length - 1
    · subst h
      rw [if_pos rfl, if_neg (by omega)]; omega
    · rw [if_neg h]
      by_cases h2 : k < P.length - 1
      · rw [if_pos h2]; omega
      · rw [if_neg h2, ML.cf_beyond (by omega)]; rfl
  have hlen : P.length ≤ (polyT P).length + 10 := by omega
  unfold readE
  rw [e1] at hlen ⊢
  by_cases hn : ML.cf P (P.length - 1) < 0
  · rw [if_pos hn] at hlen ⊢
    rw [marks_app (.one (by decide) (by decide) (by decide)) (ngl_l (by decide) (by decide) (by decide))]
    obtain ⟨w, R, h1, _, b, e, h3, h4⟩ := fin (0 + [45].length) _ hlen
    rw [h1]
    simp only [polyE, if_true, h3]
    rw [show (-1 : Int) * ((ML.cf P (P.length - 1)).natAbs : Int) = ML.cf P (P.length - 1) by omega, h4]
    simp only [if_true, hrow]
  · rw [if_neg hn, List.nil_append] at hlen ⊢
    obtain ⟨w, R, h1, h2, b, e, h3, h4⟩ := fin 0 _ hlen
    rw [h1]
    simp only [polyE, h2, if_false, h3]
    rw [show (1 : Int) * ((ML.cf P (P.length - 1)).natAbs : Int) = ML.cf P (P.length - 1) by omega, h4]
    simp only [if_true, hrow]
end TX

set_option linter.all false
set_option exponentiation.threshold 10000
set_option maxRecDepth 100000
/-! The law's automaton for a polynomial's marks, and what is read of them. -/
namespace TX
open PySem TL
inductive PS where
  | p0 | p1 | pn | px | pm | pe | pd
  deriving DecidableEq
def PS.nm : PS → List Nat
  | .p0 => [112, 48] | .p1 => [112, 49] | .pn => [112, 110] | .px => [112, 120] | .pm => [112, 109] | .pe => [112, 101] | .pd => [112, 100]
def small (w : List Nat) : Prop := w.length = 1 ∧ 48 ≤ w.headD 0 ∧ w.headD 0 ≤ 56
instance (w : List Nat) : Decidable (small w) := by unfold small; exact inferInstance
def nextS : PS → List Nat → Option PS
  | .p0, w => if whole w = true then some .pn else if w = [120] then some .px else if w = [45] then some .p1 else none
  | .p1, w => if whole w = true then some .pn else if w = [120] then some .px else none
  | .pm, w => if w = [120] then some .px else none
  | .pe, w => if small w then some .pd else none
  | .pn, w => if w = [42] then some .pm else if w = [43] ∨ w = [45] then some .p1 else none
  | .px, w => if w = [94] then some .pe else if w = [43] ∨ w = [45] then some .p1 else none
  | .pd, w => if w = [43] ∨ w = [45] then some .p1 else none
structure Acc where
  row : List Int
  s : Int
  f : Int
  k : Nat
def Acc.add (c : Acc) : List Int := addR c.row c.k (c.s * c.f)
def accS (pw w : List Nat) (c : Acc) : Acc :=
  if w = [43] ∨ w = [45] then ⟨c.add, if w = [45] then -1 else 1, 0, 0⟩
  else if w = [120] then { c with k := 1, f := if pw = [42] then c.f else 1 }
  else if (w ≠ [42] ∧ w ≠ [94]) ∧ pw = [94] then { c with k := (val w).toNat }
  else if w ≠ [42] ∧ w ≠ [94] then { c with f := val w } else c
def acc0 : Acc := ⟨nine, 1, 0, 0⟩
def lastE : Except Nat (List Int × List Mk) → Except Nat (List Int)
  | .ok (row, (w, a) :: _) => if w = [] then .ok (ML.trimL row) else .error a
  | .ok (_, []) => .error 0
  | .error e => .error e
def tailE (n : Nat) (row : List Int) (R : List Mk) : Except Nat (List Int) := lastE (loopE n row R)
def powR (n : Nat) (c : Acc) : Except Nat (Nat × List Mk) → Except Nat (List Int)
  | .ok (k, R) => tailE n (addR c.row k (c.s * c.f)) R
  | .error e => .error e
def termR (n : Nat) (row : List Int) (s : Int) : Except Nat (Int × Nat × List Mk) → Except Nat (List Int)
  | .ok (f, k, R) => tailE n (addR row k (s * f)) R
  | .error e => .error e
def resE (n : Nat) (c : Acc) : PS → List Mk → Except Nat (List Int)
  | .p0, R => lastE (polyE n R)
  | .p1, R => termR n c.row c.s (termE R)
  | .pn, (v, b) :: R => if v = [42] then (match R with
    | (x, e) :: R' => if x = [120] then powR n c (powE R') else .error e
    | [] => .error 0) else tailE n (addR c.row 0 (c.s * c.f)) ((v, b) :: R)
  | .pm, (x, e) :: R => if x = [120] then powR n c (powE R) else .error e
  | .px, R => powR n c (powE R)
  | .pe, (v, b) :: R => if small v then tailE n (addR c.row (v.headD 0 - 48) (c.s * c.f)) R else .error b
  | .pd, R => tailE n c.add R
  | _, [] => .error 0
/-- what the law's reckoning keeps -/
structure Ok (c : Acc) (st : PS) (pw : List Nat) : Prop where
  r9 : c.row.length = 9
  s1 : c.s = 1 ∨ c.s = -1
  k0 : st = .p0 ∨ st = .p1 ∨ st = .pn ∨ st = .pm → c.k = 0
  f0 : st = .p0 ∨ st = .p1 → c.f = 0
  z0 : st = .p0 → c.row = nine ∧ c.s = 1
  kx : st = .px ∨ st = .pe → c.k = 1
  k8 : c.k ≤ 8
  pm : pw = [42] ↔ st = .pm
  pe : pw = [94] ↔ st = .pe
  fb : c.f.natAbs < 2 ^ 2400
theorem whole_not {w : List Nat} (h : whole w = true) {c : Nat} (hc : c < 48 ∨ 57 < c) : w ≠ [c] := fun z => by
  subst z
  unfold whole at h
  have h1 : ([c] : List Nat) ≠ [48] := fun z => by have := List.head_eq_of_cons_eq z; omega
  have h2 : fig c = false := by
    unfold fig
    rcases hc with h | h
    · rw [decide_eq_false (show ¬ 48 ≤ c by omega), Bool.false_and]
    · rw [decide_eq_false (show ¬ c ≤ 57 by omega), Bool.and_false]
  simp [h1, h2] at h
theorem small_eq {w : List Nat} (h : small w) : ∃ c, w = [c] ∧ 48 ≤ c ∧ c ≤ 56 := by
  obtain ⟨h1, h2, h3⟩ := h
  match w, h1 with
  | [c], _ => exact ⟨c, rfl, h2, h3⟩
theorem small_whole {w : List Nat} (h : small w) : whole w = true := by
  obtain ⟨c, rfl, h1, h2⟩ := small_eq h
  exact RB.one_whole h1 (by omega)
theorem add_zero0 : addR nine 0 (1 * 0) = nine := by decide
theorem step_ok {c : Acc} {st st' : PS} {pw w : List Nat} (h : Ok c st pw) (hn : nextS st w = some st') (hl : w.length ≤ 600) : Ok (accS pw w c) st' w := by
  have pl : ∀ {c' : Acc}, (w = [43] ∨ w = [45]) → accS pw w c = c' → c' = ⟨c.add, if w = [45] then -1 else 1, 0, 0⟩ := fun hw e => by
    rw [← e]; unfold accS; rw [if_pos hw]
  have add9 : c.add.length = 9 := by unfold Acc.add addR; rw [List.length_set]; exact h.r9
  have plus : (w = [43] ∨ w = [45]) → st' = .p1 → Ok (accS pw w c) st' w := fun hw e => by
    subst e
    rw [pl hw rfl]
    refine ⟨add9, by split <;> simp, fun _ => rfl, fun _ => rfl, fun z => by simp at z, fun z => by simp at z, by simp, ?_, ?_, Nat.two_pow_pos _⟩
    · rcases hw with rfl | rfl <;> simp
    · rcases hw with rfl | rfl <;> simp
  have num : whole w = true → (st = .p0 ∨ st = .p1) → st' = .pn → Ok (accS pw w c) st' w := fun hw hs e => by
    subst e
    have n1 := whole_not hw (c := 43) (by omega)
    have n2 := whole_not hw (c := 45) (by omega)
    have n3 := whole_not hw (c := 120) (by omega)
    have n4 := whole_not hw (c := 42) (by omega)
    have n5 := whole_not hw (c := 94) (by omega)
    have np : pw ≠ [94] := fun z => by have := h.pe.mp z; rcases hs with rfl | rfl <;> cases this
    have e : accS pw w c = { c with f := val w } := by
      unfold accS
      rw [if_neg (by simp [n1, n2]), if_neg n3, if_neg (fun z => np z.2), if_pos ⟨n4, n5⟩]
    rw [e]
    refine ⟨h.r9, h.s1, fun _ => h.k0 (by rcases hs with rfl | rfl <;> simp), fun z => by simp at z, fun z => by simp at z, fun z => by simp at z, h.k8, ⟨fun z => absurd z n4, fun z => by simp at z⟩, ⟨fun z => absurd z n5, fun z => by simp at z⟩, RB.val_lt hw hl⟩
  have xx : w = [120] → (st = .p0 ∨ st = .p1 ∨ st = .pm) → st' = .px → Ok (accS pw w c) st' w := fun hw hs e => by
    subst e hw
    have e : accS pw [120] c = { c with k := 1, f := if pw = [42] then c.f else 1 } := by
      unfold accS
      rw [if_neg (by simp), if_pos rfl]
    rw [e]
    refine ⟨h.r9, h.s1, fun z => by simp at z, fun z => by simp at z, fun z => by simp at z, fun _ => rfl, by show 1 ≤ 8; decide, by simp, by simp, ?_⟩
    show (if pw = [42] then c.f else 1).natAbs < _
    split
    · exact h.fb
    · decide
  cases st with
  | p0 =>
    simp only [nextS] at hn
    split at hn
    · next hw => exact num hw (.inl rfl) (Option.some.inj hn).symm
    · split at hn
      · next hw => exact xx hw (.inl rfl) (Option.some.inj hn).symm
      · split at hn
        · next hw => exact plus (.inr hw) (Option.some.inj hn).symm
        · cases hn
  | p1 =>
    simp only [nextS] at hn
    split at hn
    · next hw => exact num hw (.inr rfl) (Option.some.inj hn).symm
    · split at hn
      · next hw => exact xx hw (.inr (.inl rfl)) (Option.some.inj hn).symm
      · cases hn
  | pm =>
    simp only [nextS] at hn
    split at hn
    · next hw => exact xx hw (.inr (.inr rfl)) (Option.some.inj hn).symm
    · cases hn
  | pe =>
    simp only [nextS] at hn
    split at hn
    · next hw =>
      cases hn
      obtain ⟨d, rfl, d0, d8⟩ := small_eq hw
      have e : accS pw [d] c = { c with k := (val [d]).toNat } := by
        unfold accS
        rw [if_neg (by simp; omega), if_neg (by simp; omega), if_pos ⟨⟨by simp; omega, by simp; omega⟩, h.pe.mpr rfl⟩]
      rw [e, RB.one_val]
      refine ⟨h.r9, h.s1, fun z => by simp at z, fun z => by simp at z, fun z => by simp at z, fun z => by simp at z, by show ((d - 48 : Nat) : Int).toNat ≤ 8; omega, ⟨fun z => ?_, fun z => by simp at z⟩, ⟨fun z => ?_, fun z => by simp at z⟩, h.fb⟩
      · have := List.head_eq_of_cons_eq z; omega
      · have := List.head_eq_of_cons_eq z; omega
    · cases hn
  | pn =>
    simp only [nextS] at hn
    split at hn
    · next hw =>
      cases hn
      subst hw
      have e : accS pw [42] c = c := by
        unfold accS
        rw [if_neg (by simp), if_neg (by simp), if_neg (by simp), if_neg (by simp)]
      rw [e]
      exact ⟨h.r9, h.s1, fun _ => h.k0 (by simp), fun z => by simp at z, fun z => by simp at z, fun z => by simp at z, h.k8, by simp, by simp, h.fb⟩
    · split at hn
      · next hw => exact plus hw (Option.some.inj hn).symm
      · cases hn
  | px =>
    simp only [nextS] at hn
    split at hn
    · next hw =>
      cases hn
      subst hw
      have e : accS pw [94] c = c := by
        unfold accS
        rw [if_neg (by simp), if_neg (by simp), if_neg (by simp), if_neg (by simp)]
      rw [e]
      exact ⟨h.r9, h.s1, fun z => by simp at z, fun z => by simp at z, fun z => by simp at z, fun _ => h.kx (by simp), h.k8, by simp, by simp, h.fb⟩
    · split at hn
      · next hw => exact plus hw (Option.some.inj hn).symm
      · cases hn
  | pd =>
    simp only [nextS] at hn
    split at hn
    · next hw => exact plus hw (Option.some.inj hn).symm
    · cases hn
/-! ### the reading goes as the automaton -/
theorem loop_fuel : ∀ (n m : Nat) (row : List Int) (R : List Mk), R.length < n → R.length < m → loopE n row R = loopE m row R
  | n + 1, m + 1, row, [], _, _ => rfl
  | n + 1, m + 1, row, (w, a) :: R, hn, hm => by
    simp only [List.length_cons] at hn hm
    by_cases hw : w = [43] ∨ w = [45]
    · simp only [loopE, hw, if_true]
      match ht : termE R with
      | .ok (f, k, R') =>
        have := term_lt ht
        exact loop_fuel n m _ R' (by omega) (by omega)
      | .error e => rfl
    · simp only [loopE, hw, if_false]
  | 0, _, _, _, h, _ => absurd h (by omega)
  | _ + 1, 0, _, _, _, h => absurd h (by omega)
theorem tail_pm {n : Nat} {row : List Int} {w : List Nat} {a : Nat} {R : List Mk} (hw : w = [43] ∨ w = [45]) (hn : R.length + 1 < n) : tailE n row ((w, a) :: R) = termR n row (if w = [45] then -1 else 1) (termE R) := by
  match n, hn with
  | m + 1, hn =>
    unfold tailE
    have es : sgn w = if w = [45] then -1 else 1 := by
      rcases hw with rfl | rfl <;> rfl
    simp only [loopE, hw, if_true]
    match ht : termE R with
    | .ok (f, k, R') =>
      have := term_lt ht
      rw [es]
      show lastE (loopE m _ R') = lastE (loopE (m + 1) _ R')
      rw [loop_fuel m (m + 1) _ R' (by omega) (by omega)]
    | .error e => rfl
theorem tail_no {n : Nat} {row : List Int} {w : List Nat} {a : Nat} {R : List Mk} (hw : ¬ (w = [43] ∨ w = [45])) (hn : 0 < n) : tailE n row ((w, a) :: R) = if w = [] then .ok (ML.trimL row) else .error a := by
  match n, hn with
  | m + 1, _ =>
    unfold tailE
    simp only [loopE, hw, if_false]
    rfl
theorem p0_p1 {n : Nat} {c : Acc} {w : List Nat} {a : Nat} {R : List Mk} {pw : List Nat} (h : Ok c .p0 pw) (hw : w ≠ [45]) : resE n c .p0 ((w, a) :: R) = resE n c .p1 ((w, a) :: R) := by
  obtain ⟨e1, e2⟩ := h.z0 rfl
  simp only [resE, polyE, hw, if_false, e1, e2]
  match termE ((w, a) :: R) with
  | .ok (f, k, R') => rfl
  | .error e => rfl
theorem p1_num {n : Nat} {c : Acc} {w : List Nat} {a : Nat} {R : List Mk} (hw : whole w = true) : resE n c .p1 ((w, a) :: R) = resE n { c with f := val w } .pn R := by
  have n3 := whole_not hw (c := 120) (by omega)
  simp only [resE, termE, n3, if_false, hw, if_true]
  match R with
  | [] => rfl
  | (v, b) :: R' =>
    by_cases hv : v = [42]
    · subst hv
      match R' with
      | [] => rfl
      | (x, e) :: R'' =>
        by_cases hx : x = [120]
        · simp only [resE, hx, if_true]
          match powE R'' with
          | .ok (k, R3) => rfl
          | .error e => rfl
        · simp only [resE, hx, if_true, if_false]; rfl
    · simp only [resE, hv, if_false]; rfl
theorem p1_x {n : Nat} {c : Acc} {a : Nat} {R : List Mk} {c' : Acc} (h1 : c'.row = c.row) (h2 : c'.s = c.s) (h3 : c'.f = 1) : resE n c .p1 (([120], a) :: R) = resE n c' .px R := by
  simp only [resE, termE, if_true]
  match powE R with
  | .ok (k, R') => simp only [withF, termR, powR, h1, h2, h3]
  | .error e => rfl
theorem res_step {n : Nat} {c : Acc} {st st' : PS} {pw w : List Nat} {a : Nat} {R : List Mk} (h : Ok c st pw) (hn : nextS st w = some st') (hR : R.length + 1 < n) : resE n c st ((w, a) :: R) = resE n (accS pw w c) st' R := by
  have pe : (w = [43] ∨ w = [45]) → accS pw w c = ⟨c.add, if w = [45] then -1 else 1, 0, 0⟩ := fun hw => by unfold accS; rw [if_pos hw]
  have num : whole w = true → pw ≠ [94] → accS pw w c = { c with f := val w } := fun hw np => by
    have n1 := whole_not hw (c := 43) (by omega)
    have n2 := whole_not hw (c := 45) (by omega)
    have n3 := whole_not hw (c := 120) (by omega)
    have n4 := whole_not hw (c := 42) (by omega)
    have n5 := whole_not hw (c := 94) (by omega)
    unfold accS
    rw [if_neg (by simp [n1, n2]), if_neg n3, if_neg (fun z => np z.2), if_pos ⟨n4, n5⟩]
  have ex : w = [120] → accS pw w c = { c with k := 1, f := if pw = [42] then c.f else 1 } := fun hw => by
    subst hw; unfold accS; rw [if_neg (by simp), if_pos rfl]
  cases st with
  | p0 =>
    have np : pw ≠ [94] := fun z => by have := h.pe.mp z; cases this
    have nm : pw ≠ [42] := fun z => by have := h.pm.mp z; cases this
    simp only [nextS] at hn
    split at hn
    · next hw =>
      cases hn
      rw [p0_p1 h (whole_not hw (by omega)), p1_num hw, num hw np]
    · split at hn
      · next hw =>
        cases hn
        subst hw
        rw [p0_p1 h (by simp), ex rfl, if_neg nm]
        exact p1_x rfl rfl rfl
      · split at hn
        · next hw =>
          cases hn
          subst hw
          obtain ⟨e1, e2⟩ := h.z0 rfl
          have e3 := h.f0 (.inl rfl)
          have e4 := h.k0 (.inl rfl)
          rw [pe (.inr rfl)]
          have e5 : c.add = nine := by unfold Acc.add; rw [e1, e2, e3, e4]; decide
          rw [e5]
          simp only [resE, polyE, if_true]
          match termE R with
          | .ok (f, k, R') => rfl
          | .error e => rfl
        · cases hn
  | p1 =>
    have np : pw ≠ [94] := fun z => by have := h.pe.mp z; cases this
    have nm : pw ≠ [42] := fun z => by have := h.pm.mp z; cases this
    simp only [nextS] at hn
    split at hn
    · next hw =>
      cases hn
      rw [p1_num hw, num hw np]
    · split at hn
      · next hw =>
        cases hn
        subst hw
        rw [ex rfl, if_neg nm]
        exact p1_x rfl rfl rfl
      · cases hn
  | pm =>
    simp only [nextS] at hn
    split at hn
    · next hw =>
      cases hn
      subst hw
      rw [ex rfl, if_pos (h.pm.mpr rfl)]
      simp only [resE, if_true]
      match powE R with
      | .ok (k, R') => rfl
      | .error e => rfl
    · cases hn
  | pe =>
    simp only [nextS] at hn
    split at hn
    · next hw =>
      cases hn
      obtain ⟨d, rfl, d0, d8⟩ := small_eq hw
      have e : accS pw [d] c = { c with k := (val [d]).toNat } := by
        unfold accS
        rw [if_neg (by simp; omega), if_neg (by simp; omega), if_pos ⟨⟨by simp; omega, by simp; omega⟩, h.pe.mpr rfl⟩]
      rw [e, RB.one_val]
      simp only [resE, hw, if_true, Acc.add, Int.toNat_natCast]
      rfl
    · cases hn
  | pn =>
    have k0 := h.k0 (by simp)
    simp only [nextS] at hn
    split at hn
    · next hw =>
      cases hn
      subst hw
      have e : accS pw [42] c = c := by
        unfold accS
        rw [if_neg (by simp), if_neg (by simp), if_neg (by simp), if_neg (by simp)]
      rw [e]
      simp only [resE, if_true]
      match R with
      | [] => rfl
      | (x, e) :: R' => rfl
    · split at hn
      · next h42 hw =>
        cases hn
        rw [pe hw]
        simp only [resE, h42, if_false]
        rw [tail_pm hw hR, Acc.add, k0]
      · cases hn
  | px =>
    have k1 := h.kx (by simp)
    simp only [nextS] at hn
    split at hn
    · next hw =>
      cases hn
      subst hw
      have e : accS pw [94] c = c := by
        unfold accS
        rw [if_neg (by simp), if_neg (by simp), if_neg (by simp), if_neg (by simp)]
      rw [e]
      simp only [resE, powE, if_true]
      match R with
      | [] => rfl
      | (v, b) :: R' =>
        by_cases hv : small v
        · have hv' : v.length = 1 ∧ 48 ≤ v.headD 0 ∧ v.headD 0 ≤ 56 := hv
          simp only [resE, hv, if_true, hv']
          rfl
        · have hv' : ¬ (v.length = 1 ∧ 48 ≤ v.headD 0 ∧ v.headD 0 ≤ 56) := hv
          simp only [resE, hv, if_false, hv']
          rfl
    · split at hn
      · next h94 hw =>
        cases hn
        rw [pe hw]
        simp only [resE, powE, h94, if_false, powR]
        rw [tail_pm hw hR, Acc.add, k1]
      · cases hn
  | pd =>
    simp only [nextS] at hn
    split at hn
    · next hw =>
      cases hn
      rw [pe hw]
      simp only [resE]
      rw [tail_pm hw hR]
    · cases hn
theorem res_none {n : Nat} {c : Acc} {st : PS} {pw w : List Nat} {a : Nat} {R : List Mk} (h : Ok c st pw) (hn : nextS st w = none) (hw : w ≠ [] ∨ st = .p0 ∨ st = .p1 ∨ st = .pm ∨ st = .pe) (n0 : 0 < n) : resE n c st ((w, a) :: R) = .error a := by
  have one : ¬ whole w = true → w ≠ [120] → resE n c .p1 ((w, a) :: R) = .error a := fun h1 h2 => by
    simp only [resE, termE, h2, if_false, h1]
    rfl
  cases st with
  | p0 =>
    simp only [nextS] at hn
    split at hn
    · cases hn
    · split at hn
      · cases hn
      · split at hn
        · cases hn
        · next h1 h2 h3 => rw [p0_p1 h h3]; exact one h1 h2
  | p1 =>
    simp only [nextS] at hn
    split at hn
    · cases hn
    · split at hn
      · cases hn
      · next h1 h2 => exact one h1 h2
  | pm =>
    simp only [nextS] at hn
    split at hn
    · cases hn
    · next h1 => simp only [resE, h1, if_false]
  | pe =>
    simp only [nextS] at hn
    split at hn
    · cases hn
    · next h1 => simp only [resE, h1, if_false]
  | pn =>
    have hw' : w ≠ [] := by rcases hw with h | h | h | h | h <;> first | exact h | cases h
    simp only [nextS] at hn
    split at hn
    · cases hn
    · split at hn
      · cases hn
      · next h1 h2 =>
        simp only [resE, h1, if_false]
        rw [tail_no h2 n0, if_neg hw']
  | px =>
    have hw' : w ≠ [] := by rcases hw with h | h | h | h | h <;> first | exact h | cases h
    simp only [nextS] at hn
    split at hn
    · cases hn
    · split at hn
      · cases hn
      · next h1 h2 =>
        simp only [resE, powE, h1, if_false, powR]
        rw [tail_no h2 n0, if_neg hw']
  | pd =>
    have hw' : w ≠ [] := by rcases hw with h | h | h | h | h <;> first | exact h | cases h
    simp only [nextS] at hn
    split at hn
    · cases hn
    · next h2 =>
      simp only [resE]
      rw [tail_no h2 n0, if_neg hw']
theorem res_end {n : Nat} {c : Acc} {st : PS} {pw : List Nat} {a : Nat} {R : List Mk} (h : Ok c st pw) (hs : st = .pn ∨ st = .px ∨ st = .pd) (n0 : 0 < n) : resE n c st (([], a) :: R) = .ok (ML.trimL c.add) := by
  rcases hs with rfl | rfl | rfl
  · have k0 := h.k0 (by simp)
    simp only [resE, show ([] : List Nat) ≠ [42] by simp, if_false]
    rw [tail_no (by simp) n0, if_pos rfl, Acc.add, k0]
  · have k1 := h.kx (by simp)
    simp only [resE, powE, show ([] : List Nat) ≠ [94] by simp, if_false, powR]
    rw [tail_no (by simp) n0, if_pos rfl, Acc.add, k1]
  · simp only [resE]
    rw [tail_no (by simp) n0, if_pos rfl]
def runA : PS → List Nat → Acc → List (List Nat) → Option (PS × List Nat × Acc)
  | st, pw, c, [] => some (st, pw, c)
  | st, pw, c, w :: ws => match nextS st w with
    | some st' => runA st' w (accS pw w c) ws
    | none => none
theorem run_res : ∀ {L : List Mk} {n : Nat} {c c' : Acc} {st st' : PS} {pw pw' : List Nat} {R : List Mk}, Ok c st pw → runA st pw c (L.map Prod.fst) = some (st', pw', c') → (∀ x ∈ L, x.1.length ≤ 600) → (L ++ R).length < n → resE n c st (L ++ R) = resE n c' st' R ∧ Ok c' st' pw'
  | [], n, c, c', st, st', pw, pw', R, h, hr, _, _ => by
    cases hr
    exact ⟨rfl, h⟩
  | (w, a) :: L, n, c, c', st, st', pw, pw', R, h, hr, hl, hn => by
    have hr' : (match nextS st w with
      | some st' => runA st' w (accS pw w c) (L.map Prod.fst)
      | none => none) = some (st', pw', c') := hr
    match hx : nextS st w, hr' with
    | some s2, hr' =>
      rw [List.cons_append, List.length_cons] at hn
      obtain ⟨e1, o1⟩ := run_res (step_ok h hx (hl _ (List.mem_cons_self ..))) hr' (fun x hx => hl x (List.mem_cons_of_mem _ hx)) (show (L ++ R).length < n by omega)
      refine ⟨?_, o1⟩
      rw [List.cons_append, res_step h hx (by omega), e1]
theorem runA_app : ∀ {ws vs : List (List Nat)} {st st' : PS} {pw pw' : List Nat} {c c' : Acc}, runA st pw c ws = some (st', pw', c') → runA st pw c (ws ++ vs) = runA st' pw' c' vs
  | [], vs, st, st', pw, pw', c, c', h => by cases h; rfl
  | w :: ws, vs, st, st', pw, pw', c, c', h => by
    have h' : (match nextS st w with
      | some st' => runA st' w (accS pw w c) ws
      | none => none) = some (st', pw', c') := h
    match hx : nextS st w, h' with
    | some s2, h' =>
      show (match nextS st w with
      | some st' => runA st' w (accS pw w c) (ws ++ vs)
      | none => none) = _
      rw [hx]
      exact runA_app h'
theorem acc0_ok : Ok acc0 .p0 [] := ⟨rfl, .inl rfl, fun _ => rfl, fun _ => rfl, fun _ => ⟨rfl, rfl⟩, fun z => by simp at z, by decide, by simp, by simp, Nat.two_pow_pos _⟩
theorem read_eq (l : List Nat) : readE l = resE (l.length + 10) acc0 .p0 (marks l 0) := by
  show _ = lastE (polyE (l.length + 10) (marks l 0))
  unfold readE
  match polyE (l.length + 10) (marks l 0) with
  | .ok (row, (w, a) :: R) => rfl
  | .ok (row, []) => rfl
  | .error e => rfl
/-! ### the law's kinds of marks -/
def known : List (List Nat) := [[43], [45], [42], [47], [94], [40], [41], [44], [46, 46], [115, 113, 114, 116], [99, 98, 114, 116], [114, 111, 111, 116], [120]]
def kNum : List Nat := [110, 117, 109, 98, 101, 114]
def kNone : List Nat := [110, 111, 110, 101]
def kName : List Nat := [110, 97, 109, 101]
def kindL (w : List Nat) : List Nat := if w ∈ known then w else if fig (w.headD 0) = true then (if w.headD 0 = 48 ∧ w ≠ [48] then kNone else kNum) else if lett (w.headD 0) = true ∧ w.length < 9 then kName else kNone
theorem kind_one {w : List Nat} {c : Nat} (hc : [c] ∈ known) : kindL w = [c] ↔ w = [c] := by
  constructor
  · intro h
    unfold kindL at h
    split at h
    · exact h
    · exfalso
      have k : ∀ z : List Nat, z.length ≠ 1 → z ≠ [c] := fun z hz e => hz (by rw [e]; rfl)
      split at h
      · split at h
        · exact k _ (by decide) h
        · exact k _ (by decide) h
      · split at h
        · exact k _ (by decide) h
        · exact k _ (by decide) h
  · rintro rfl
    unfold kindL
    rw [if_pos hc]
theorem IsMark.ne {w : List Nat} (h : IsMark w) : w ≠ [] := by
  cases h with
  | figs h _ => exact h
  | letts h _ => exact h
  | dots => simp
  | one => simp
theorem whole_fig {w : List Nat} (h : whole w = true) : fig (w.headD 0) = true := by
  unfold whole at h
  simp only [Bool.or_eq_true, Bool.and_eq_true, decide_eq_true_eq, List.all_eq_true] at h
  rcases h with rfl | ⟨_, h, hn⟩
  · rfl
  · match w, hn with
    | c :: r, _ => exact h c (List.mem_cons_self ..)
theorem known_nofig : ∀ w ∈ known, fig (w.headD 0) = false := by decide
theorem kind_num {w : List Nat} (h : IsMark w) : kindL w = kNum ↔ whole w = true := by
  have nk : kNum ∉ known := by decide
  constructor
  · intro e
    unfold kindL at e
    split at e
    · next hk => exact absurd (e ▸ hk) nk
    · split at e
      · next hf =>
        split at e
        · exact absurd e (by decide)
        · next hz =>
          cases h with
          | figs hn ha =>
            unfold whole
            have h2 : w.all fig = true := List.all_eq_true.mpr ha
            by_cases h48 : w = [48]
            · rw [decide_eq_true h48]; rfl
            · have h3 : w.head? ≠ some 48 := fun z => by
                match w, z with
                | c :: r, z => exact hz ⟨by simpa using z, h48⟩
              rw [decide_eq_true h3, h2, decide_eq_true hn]; simp
          | letts hn ha =>
            match w, hn with
            | c :: r, _ =>
              have := fig_lett (show fig c = true from hf)
              rw [ha c (List.mem_cons_self ..)] at this
              cases this
          | dots => exact absurd hf (by decide)
          | one h1 h2 h3 =>
            exact absurd (h1.symm.trans hf) (by simp)
      · split at e
        · exact absurd e (by decide)
        · exact absurd e (by decide)
  · intro hw
    have hf := whole_fig hw
    unfold kindL
    rw [if_neg (fun hk => by rw [known_nofig w hk] at hf; cases hf), if_pos hf, if_neg]
    rintro ⟨h1, h2⟩
    unfold whole at hw
    rw [decide_eq_false h2, Bool.false_or] at hw
    simp only [Bool.and_eq_true, decide_eq_true_eq] at hw
    match w, h.ne with
    | c :: r, _ => exact hw.1 (by rw [show c = 48 from h1]; rfl)
/-! ### what stands while marks are put -/
structure Put (T : List Nat) (st : PS) (pl : Int) (ms : List (List Nat)) (L : List Mk) : Prop where
  cut : ∀ r, Ngl T r → marks (T ++ r) 0 = L ++ marks r T.length
  wd : ∀ x ∈ L, x.1 ≠ []
  run : pl < 0 → ms = L.map Prod.fst ∧ ∃ pw c, runA .p0 [] acc0 ms = some (st, pw, c)
  bad : 0 ≤ pl → ∃ (L1 : List Mk) (w : List Nat) (a : Nat) (L2 : List Mk) (st1 : PS) (pw : List Nat) (c : Acc), L = L1 ++ (w, a) :: L2 ∧ pl = (a : Int) ∧ runA .p0 [] acc0 (L1.map Prod.fst) = some (st1, pw, c) ∧ nextS st1 w = none
theorem ngl_nil (T : List Nat) : Ngl T [] := fun c d _ hd => by cases hd
theorem Put.zero : Put [] .p0 (-1) [] [] := ⟨fun r _ => rfl, fun x hx => by simp at hx, fun _ => ⟨rfl, [], acc0, rfl⟩, fun h => absurd h (by decide)⟩
theorem marks_gaps : ∀ (g : Nat) (r : List Nat) (a : Nat), marks (List.replicate g 32 ++ r) a = marks r (a + g)
  | 0, r, a => rfl
  | g + 1, r, a => by
    rw [List.replicate_succ, List.cons_append, marks_gap, marks_gaps g r (a + 1), show a + 1 + g = a + (g + 1) by omega]
theorem Put.put {T w : List Nat} {st : PS} {pl : Int} {ms : List (List Nat)} {L : List Mk} {g : Nat} (h : Put T st pl ms L) (hw : IsMark w) (hg : g = 0 → Ngl T w) :
    ∃ L', (0 ≤ pl → Put (T ++ List.replicate g 32 ++ w) st pl ms L') ∧
      (pl < 0 → (∀ st', nextS st w = some st' → Put (T ++ List.replicate g 32 ++ w) st' pl (ms ++ [w]) L') ∧ (nextS st w = none → Put (T ++ List.replicate g 32 ++ w) st ((T.length + g : Nat) : Int) ms L')) := by
  refine ⟨L ++ [(w, T.length + g)], ?_⟩
  have mk : ∀ r, Ngl (T ++ List.replicate g 32 ++ w) r → marks (T ++ List.replicate g 32 ++ w ++ r) 0 = L ++ [(w, T.length + g)] ++ marks r (T ++ List.replicate g 32 ++ w).length := fun r hr => by
    have hr' : Ngl w r := fun c d hc hd => hr c d (by rw [List.getLast?_append, hc]; rfl) hd
    have e : T ++ List.replicate g 32 ++ w ++ r = T ++ (List.replicate g 32 ++ (w ++ r)) := by simp
    have hT : Ngl T (List.replicate g 32 ++ (w ++ r)) := by
      cases g with
      | zero =>
        intro c d hc hd
        refine hg rfl c d hc ?_
        obtain ⟨x, w', rfl⟩ := List.exists_cons_of_ne_nil hw.ne
        exact hd
      | succ g =>
        refine ngl_of fun d hd => ?_
        have : d = 32 := by simpa [List.replicate_succ] using hd.symm
        subst this; decide
    rw [e, h.cut _ hT, marks_gaps, marks_app hw hr']
    simp only [List.length_append, List.length_replicate, List.append_assoc, List.singleton_append, Nat.add_assoc]
  have wd : ∀ x ∈ L ++ [(w, T.length + g)], x.1 ≠ [] := fun x hx => by
    rcases List.mem_append.mp hx with hx | hx
    · exact h.wd x hx
    · rw [List.mem_singleton.mp hx]; exact hw.ne
  refine ⟨fun hp => ⟨mk, wd, fun z => absurd hp (by omega), fun _ => ?_⟩, fun hp => ?_⟩
  · obtain ⟨L1, w1, a1, L2, st1, pw, c, rfl, h2⟩ := h.bad hp
    exact ⟨L1, w1, a1, L2 ++ [(w, T.length + g)], st1, pw, c, by simp, h2⟩
  · obtain ⟨e1, pw, c, hr⟩ := h.run hp
    refine ⟨fun st' hs => ⟨mk, wd, fun _ => ⟨by rw [e1]; simp, w, accS pw w c, ?_⟩, fun z => absurd hp (by omega)⟩, fun hs => ⟨mk, wd, fun z => absurd z (by omega), fun _ => ⟨L, w, T.length + g, [], st, pw, c, rfl, rfl, by rw [← e1]; exact hr, hs⟩⟩⟩
    rw [runA_app hr]
    show (match nextS st w with
      | some st' => runA st' w (accS pw w c) []
      | none => none) = _
    rw [hs]; rfl
/-- the end: refused at a place -/
theorem Put.refused {T : List Nat} {st : PS} {pl : Int} {ms : List (List Nat)} {L : List Mk} (h : Put T st pl ms L) (hp : 0 ≤ pl) (hT : T.length ≤ 600) (g : Nat) : ∃ a : Nat, pl = (a : Int) ∧ readE (T ++ List.replicate g 32) = .error a := by
  obtain ⟨L1, w, a, L2, st1, pw, c, rfl, e2, hr, hs⟩ := h.bad hp
  refine ⟨a, e2, ?_⟩
  have hN : Ngl T (List.replicate g 32) := ngl_of fun d hd => by
    cases g with
    | zero => cases hd
    | succ g =>
      have : d = 32 := by simpa [List.replicate_succ] using hd.symm
      subst this; decide
  have em := h.cut _ hN
  have hwd : ∀ x ∈ L1, x.1.length ≤ 600 := fun x hx => by
    have e0 := h.cut [] (ngl_nil T)
    have := marks_words T.length T 0 (Nat.le_refl _) x (by
      rw [List.append_nil] at e0
      rw [e0]; simp [hx])
    omega
  have cnt := marks_cnt _ (T ++ List.replicate g 32) 0 (Nat.le_refl _)
  rw [em] at cnt
  rw [read_eq, em]
  have e3 : L1 ++ (w, a) :: L2 ++ marks (List.replicate g 32) T.length = L1 ++ ((w, a) :: (L2 ++ marks (List.replicate g 32) T.length)) := by simp
  rw [e3] at cnt ⊢
  obtain ⟨e4, o4⟩ := run_res (R := (w, a) :: (L2 ++ marks (List.replicate g 32) T.length)) acc0_ok hr hwd (show _ < (T ++ List.replicate g 32).length + 10 by omega)
  rw [e4]
  exact res_none o4 hs (.inl (h.wd (w, a) (by simp))) (by omega)
/-- the end: nothing is refused till the end -/
theorem Put.ended {T : List Nat} {st : PS} {pl : Int} {ms : List (List Nat)} {L : List Mk} (h : Put T st pl ms L) (hp : pl < 0) (hT : T.length ≤ 600) (g : Nat) :
    ((st = .p0 ∨ st = .p1 ∨ st = .pm ∨ st = .pe) → readE (T ++ List.replicate g 32) = .error (T ++ List.replicate g 32).length) ∧
    ((st = .pn ∨ st = .px ∨ st = .pd) → ∃ pw c, runA .p0 [] acc0 ms = some (st, pw, c) ∧ readE (T ++ List.replicate g 32) = .ok (ML.trimL c.add) ∧ c.add.length = 9 ∧ ∀ w ∈ ms, w.length ≤ 600) := by
  obtain ⟨e1, pw, c, hr⟩ := h.run hp
  have hN : Ngl T (List.replicate g 32) := ngl_of fun d hd => by
    cases g with
    | zero => cases hd
    | succ g =>
      have : d = 32 := by simpa [List.replicate_succ] using hd.symm
      subst this; decide
  have em := h.cut _ hN
  have em2 : marks (List.replicate g 32) T.length = [([], (T ++ List.replicate g 32).length)] := by
    have := marks_gaps g [] T.length
    rw [List.append_nil] at this
    rw [this, marks_nil]; simp
  have hwd : ∀ x ∈ L, x.1.length ≤ 600 := fun x hx => by
    have e0 := h.cut [] (ngl_nil T)
    have := marks_words T.length T 0 (Nat.le_refl _) x (by
      rw [List.append_nil] at e0
      rw [e0]; simp [hx])
    omega
  have cnt := marks_cnt _ (T ++ List.replicate g 32) 0 (Nat.le_refl _)
  rw [em] at cnt
  rw [read_eq, em]
  have hr' : runA .p0 [] acc0 (L.map Prod.fst) = some (st, pw, c) := by rw [← e1]; exact hr
  obtain ⟨e4, o4⟩ := run_res (R := marks (List.replicate g 32) T.length) acc0_ok hr' hwd (show _ < (T ++ List.replicate g 32).length + 10 by omega)
  rw [e4, em2]
  refine ⟨fun hs => ?_, fun hs => ⟨pw, c, hr, res_end o4 hs (by omega), by unfold Acc.add addR; rw [List.length_set]; exact o4.r9, fun w hw => by
    rw [e1] at hw
    obtain ⟨x, hx, rfl⟩ := List.mem_map.mp hw
    exact hwd x hx⟩⟩
  refine res_none o4 ?_ (.inr hs) (by omega)
  rcases hs with rfl | rfl | rfl | rfl <;> rfl
end TX
namespace RB
open PySem PySem.Spec PyProof.Rows L2 TX
open Evl (Ex rLenS rListS rMax2 tCut pss_cut)
/-- a text in a row of texts -/
theorem r_inT {K : PySem.W.Frag} {H : Hp} {Q : VK} {p : Addr} {w : List Nat} {ws : List (List Nat)} {xs : List V} (hx : xs = ws.map fun z => V.str (sS z)) (h : SqT K H p xs) (q : Q (.bl (decide (w ∈ ws))) H) : rIn K false (.str (sS w)) (.ref p) H Q := by
  subst hx
  refine ⟨p, _, rfl, .inr h, rfl, ?_, ?_⟩
  · rw [List.all_map]; exact List.all_eq_true.mpr fun _ _ => rfl
  · have e : inV (.str (sS w)) (ws.map fun z => V.str (sS z)) = decide (w ∈ ws) := by
      unfold inV
      rw [List.any_map]
      have k : ∀ u : List Nat, (sS u == sS w) = decide (w = u) := fun u => by
        by_cases h : w = u
        · rw [h, decide_eq_true rfl]; exact beq_self_eq_true _
        · rw [decide_eq_false h]; exact beq_false_of_ne (fun z => h (sS_inj.mp z).symm)
      have : ((fun y => eqV y (V.str (sS w))) ∘ fun z => V.str (sS z)) = fun u => decide (w = u) := funext fun u => k u
      rw [this]
      by_cases hm : w ∈ ws
      · rw [decide_eq_true hm]; exact List.any_eq_true.mpr ⟨w, hm, by simp⟩
      · rw [decide_eq_false hm]
        refine List.any_eq_false.mpr fun u hu => ?_
        simp only [decide_eq_true_eq]
        exact fun z => hm (z ▸ hu)
    show Q (.bl (if false = true then _ else _)) H
    rw [e]; exact q
theorem r_notT {K : PySem.W.Frag} {H : Hp} {Q : VK} {p : Addr} {w : List Nat} {ws : List (List Nat)} {xs : List V} (hx : xs = ws.map fun z => V.str (sS z)) (h : SqT K H p xs) (q : Q (.bl (!decide (w ∈ ws))) H) : rIn K true (.str (sS w)) (.ref p) H Q := by
  have := r_inT (K := K) (H := H) (Q := fun v H' => ∃ b, v = .bl b ∧ Q (.bl (!b)) H') hx h ⟨_, rfl, q⟩
  obtain ⟨p', xs', e1, h1, h2, h3, b, e2, h4⟩ := this
  exact ⟨p', xs', e1, h1, h2, h3, by
    have : inV (.str (sS w)) xs' = b := V.bl.inj e2
    show Q (.bl (if true = true then !inV _ xs' else _)) H
    rw [this]; exact h4⟩
theorem r_ixTx {K : PySem.W.Frag} {H : Hp} {Q : VK} {p : Addr} {i : Int} {ws : List (List Nat)} (h : SqL K H p (ws.map fun z => V.str (sS z))) (h0 : 0 ≤ i) (h1 : i < ws.length) (q : Q (.str (sS (ws.getD i.toNat []))) H) : rIxL K (.ref p) (.int i) H Q := by
  obtain ⟨k, rfl⟩ : ∃ k : Nat, i = (k : Int) := ⟨i.toNat, by omega⟩
  have hk : k < ws.length := by omega
  refine r_ixL h (atI_nat (j := k) (v := .str (sS ws[k])) ?_) ?_
  · rw [List.getElem?_map, List.getElem?_eq_getElem hk]; rfl
  · rw [Int.toNat_natCast, List.getD_eq_getElem?_getD, List.getElem?_eq_getElem hk] at q
    exact q
/-- one of two -/
theorem r_two {K : PySem.W.Frag} {H : Hp} {Q : VK} {p : Addr} {b : Bool} {x y : V} (h : SqL K H p [x, y]) (q : Q (if b = true then y else x) H) : rIxL K (.ref p) (.int (if b = true then 1 else 0)) H Q := by
  cases b with
  | true => exact r_ixL h (atI_nat (j := 1) rfl) q
  | false => exact r_ixL h (atI_nat (j := 0) rfl) q
theorem r_ixS1 {H : Hp} {Q : VK} {a : List Nat} {c : Nat} (hl : a.length + 1 ≤ 16777216) (q : Q (.str (sS [c])) H) : rIxS (.str (sS (a ++ [c]))) (.int (-1)) H Q :=
  ⟨_, _, c, rfl, rfl, by rw [sS_len, List.length_append]; exact line_ok hl, atI_last _ _, q⟩
end RB
namespace TX
theorem nm_inj {a b : PS} : a.nm = b.nm ↔ a = b := by cases a <;> cases b <;> decide
def NxOk (st : PS) (w z : List Nat) : Prop := match nextS st w with
  | some s => z = s.nm
  | none => z = [] ∨ z = [108, 48]
end TX
namespace RB
open PySem PySem.Spec PyProof.Rows L2 TX
theorem lit_p0 : ("p0" : Str) = sS PS.p0.nm := by decide +kernel
theorem lit_p1 : ("p1" : Str) = sS PS.p1.nm := by decide +kernel
theorem lit_pn : ("pn" : Str) = sS PS.pn.nm := by decide +kernel
theorem lit_px : ("px" : Str) = sS PS.px.nm := by decide +kernel
theorem lit_pm : ("pm" : Str) = sS PS.pm.nm := by decide +kernel
theorem lit_pe : ("pe" : Str) = sS PS.pe.nm := by decide +kernel
theorem lit_pd : ("pd" : Str) = sS PS.pd.nm := by decide +kernel
theorem lit_l0 : ("l0" : Str) = sS [108, 48] := by decide +kernel
theorem lit_number : ("number" : Str) = sS kNum := by decide +kernel
theorem lit_comma : ("," : Str) = sS [44] := by decide +kernel
theorem eq_st {st s : PS} {z : Str} (h : z = sS s.nm) : decide (sS st.nm = z) = decide (st = s) := by rw [h, d_sS]; exact decide_eq_decide.mpr nm_inj
end RB
namespace RB
open PySem PySem.Spec PyProof.Rows L2 TX
open Evl (Ex rLenS rListS rMax2 tCut pss_cut)
/-- what the law keeps of a text -/
def AtK (H : Hp) (a l : Addr) (T : List Nat) (st : PS) (pl : Int) (ms : List (List Nat)) : Prop := H a = some (.lst [.str (sS T), .str (sS st.nm), .int pl, .ref l]) ∧ H l = some (.lst (ms.map fun z => V.str (sS z)))
theorem atk_ne {ms : List (List Nat)} {x y z : V} {l : Addr} (h : HO.lst [x, y, z, .ref l] = .lst (ms.map fun z => V.str (sS z))) : False := by
  have h2 : [x, y, z, V.ref l] = ms.map fun z => V.str (sS z) := by injection h
  have h3 := congrArg (fun xs => xs[3]?) h2
  simp only [List.getElem?_map] at h3
  match ms[3]?, h3 with
  | none, h3 => cases h3
  | some v, h3 => cases h3
/-- blanks -/
def rRepS : R2 := fun x y H Q => ∃ n : Nat, x = .str (sS [32]) ∧ y = .int (n : Int) ∧ n ≤ 1000 ∧ Q (.str (sS (List.replicate n 32))) H
theorem mul_blank (n : Nat) : Txt.mul (sS [32]) (n : Int) = sS (List.replicate n 32) := by
  unfold Txt.mul
  have key : ∀ (n : Nat) (acc : Array Nat), ((List.replicate n (#[32] : Array Nat)).foldl (· ++ ·) acc) = acc ++ (List.replicate n 32).toArray := by
    intro n
    induction n with
    | zero => intro acc; simp
    | succ n ih =>
      intro acc
      rw [List.replicate_succ, List.foldl_cons, ih, List.replicate_succ, Array.append_assoc]
      congr 1
      exact Array.ext' (by simp)
  split
  · next h =>
    have : n = 0 := by omega
    subst this; rfl
  · split
    · next h =>
      have : n = 1 := by
        have h' : (n : Int) = 1 := by simpa [sS_len] using h
        omega
      subst this; rfl
    · show (⟨(List.replicate n (#[32] : Array Nat)).foldl (· ++ ·) #[]⟩ : Str) = _
      rw [key, Array.empty_append]
theorem op_repS {X : Cx} : OpR X (binaryOp .Mult) rRepS := by
  intro pins s σ H x y v u Q I rx ry h
  obtain ⟨n, rfl, rfl, hn, q⟩ := h
  obtain ⟨t, rfl⟩ := rx
  obtain ⟨t', rfl⟩ := ry
  refine PySem.SB.mul ⟨by simp; omega, fun h0 _ => ?_, fun h0 _ => ?_⟩ fun t2 k => ⟨.str (sS (List.replicate n 32)), H, I.kept (t' := k) fun _ _ z => z, ⟨t2, by rw [mul_blank]⟩, q⟩
  · rw [sS_len]
    show ¬ ((1 : Nat) : Int) > (2 ^ 63 - 1) / (n : Int)
    have : (1 : Int) ≤ (2 ^ 63 - 1) / (n : Int) := (Int.le_ediv_iff_mul_le (by omega)).mpr (by omega)
    omega
  · rw [sS_len]
    exact decide_eq_false (Nat.not_lt.mpr (line_ok (show 1 * (n : Int).toNat ≤ 16777216 by omega)))
theorem r_repT {n : Nat} {H : Hp} {Q : VK} (hn : n ≤ 1000) (q : Q (.str (sS (List.replicate n 32))) H) : rRepS (.str (sS [32])) (.int (n : Int)) H Q := ⟨n, rfl, rfl, hn, q⟩
theorem hk_len {T : List Nat} {st : PS} {pl : Int} {ms : List (List Nat)} {L : List Mk} (h : Put T st pl ms L) (hp : pl < 0) (hT : T.length ≤ 600) : ms.length < 16777216 := by
  obtain ⟨e, _⟩ := h.run hp
  have e0 := h.cut [] (ngl_nil T)
  have := marks_cnt T.length T 0 (Nat.le_refl _)
  rw [List.append_nil] at e0
  rw [e0, List.length_append] at this
  rw [e, List.length_map]; omega
end RB
namespace TX
theorem run_cons {st : PS} {pw : List Nat} {c : Acc} {w : List Nat} {ws : List (List Nat)} {x : PS × List Nat × Acc} (h : runA st pw c (w :: ws) = some x) : ∃ st', nextS st w = some st' ∧ runA st' w (accS pw w c) ws = some x := by
  have h' : (match nextS st w with
      | some st' => runA st' w (accS pw w c) ws
      | none => none) = some x := h
  match hx : nextS st w, h' with
  | some st', h' => exact ⟨st', rfl, h'⟩
theorem next_whole {st st' : PS} {w : List Nat} (h : nextS st w = some st') (h1 : ¬ (w = [43] ∨ w = [45])) (h2 : w ≠ [120]) (h3 : w ≠ [42] ∧ w ≠ [94]) : whole w = true := by
  have h45 : w ≠ [45] := fun z => h1 (.inr z)
  cases st with
  | p0 =>
    simp only [nextS, h2, h45, if_false] at h
    split at h
    · assumption
    · cases h
  | p1 =>
    simp only [nextS, h2, if_false] at h
    split at h
    · assumption
    · cases h
  | pm => simp only [nextS, h2, if_false] at h; cases h
  | pe =>
    simp only [nextS] at h
    split at h
    · next hs => exact small_whole hs
    · cases h
  | pn => simp only [nextS, h3.1, h1, if_false] at h; cases h
  | px => simp only [nextS, h3.2, h1, if_false] at h; cases h
  | pd => simp only [nextS, h1, if_false] at h; cases h
theorem val_nn (w : List Nat) : 0 ≤ val w := by unfold val; omega
end TX
namespace TX
def isMk (w : List Nat) : Bool := (decide (w ≠ []) && w.all fig) || (decide (w ≠ []) && w.all lett) || decide (w = [46, 46]) || (decide (w.length = 1) && (!fig (w.headD 0) && (!lett (w.headD 0) && decide (w.headD 0 ≠ 32))))
theorem isMk_ok {w : List Nat} (h : isMk w = true) : IsMark w := by
  unfold isMk at h
  simp only [Bool.or_eq_true, Bool.and_eq_true, decide_eq_true_eq, List.all_eq_true, Bool.not_eq_true'] at h
  rcases h with ((⟨h1, h2⟩ | ⟨h1, h2⟩) | h) | ⟨h1, h2, h3, h4⟩
  · exact .figs h1 h2
  · exact .letts h1 h2
  · subst h; exact .dots
  · match w, h1 with
    | [c], _ => exact .one h2 h3 h4
/-- a mark that can be put -/
def Mkd (w : List Nat) : Prop := IsMark w ∧ w.length ≤ 30
theorem mkd_of {w : List Nat} (h : isMk w = true) (hl : w.length ≤ 30) : Mkd w := ⟨isMk_ok h, hl⟩
theorem mkd_num {n : Nat} (h : n < 10 ^ 30) : Mkd (TL.numL n) := ⟨num_mark n, TL.numL_len (by decide) h⟩
def wild1 : List (List Nat) := [[43], [45], [42], [47], [94], [40], [41], [44], [46, 46], [115, 113, 114, 116], [99, 98, 114, 116], [114, 111, 111, 116], [120], [48, 48, 55], [48, 48], [46], [65]]
def wild2 : List (List Nat) := [[97, 98, 99, 100, 101, 102, 103, 104, 105], [97, 98, 99, 100, 101, 102, 103, 104], [57], [49, 50], [48], [115, 113, 114, 116, 120], [36], [10], [120, 120], [56], [95], [61], [114, 111, 111, 116, 115]]
theorem wild_mk : ∀ w ∈ wild1 ++ wild2, isMk w = true ∧ w.length ≤ 30 := by decide
end TX

set_option linter.all false
/-! Products of linear factors, at fractions. -/
namespace MH
open ML MR
/-- times b * x - a, the coefficient ahead given -/
def linM (a b : Int) : List Int → Int → List Int
  | [], p => [b * p]
  | x :: r, p => (b * p - a * x) :: linM a b r x
theorem linM_len (a b : Int) : ∀ (P : List Int) (p : Int), (linM a b P p).length = P.length + 1
  | [], _ => rfl
  | x :: r, p => by
    show (linM a b r x).length + 1 = _
    rw [linM_len a b r x]; rfl
theorem cf_linM (a b : Int) : ∀ (P : List Int) (p : Int) (k : Nat), cf (linM a b P p) k = b * (if k = 0 then p else cf P (k - 1)) - a * cf P k
  | [], p, 0 => by
    show b * p = _
    rw [if_pos rfl, cf_nil, Int.mul_zero, Int.sub_zero]
  | [], p, k + 1 => by
    rw [if_neg (by omega), cf_nil, cf_nil, Int.mul_zero, Int.mul_zero, Int.sub_zero]
    exact cf_beyond (by show 1 ≤ k + 1; omega)
  | x :: r, p, 0 => by
    show b * p - a * x = _
    rw [if_pos rfl, cf_zero]
  | x :: r, p, k + 1 => by
    have h := cf_linM a b r x k
    show cf ((b * p - a * x) :: linM a b r x) (k + 1) = _
    rw [cf_succ, h, cf_succ, if_neg (Nat.succ_ne_zero k), Nat.add_sub_cancel]
    cases k with
    | zero => rw [if_pos rfl, cf_zero]
    | succ k => rw [if_neg (Nat.succ_ne_zero k), cf_succ, Nat.add_sub_cancel]
theorem hs_linM (a b t u : Int) : ∀ (P : List Int) (p : Int), hs t u (linM a b P p) = ((hs t u P).1 * (b * t - a * u) + b * p * (hs t u P).2, (hs t u P).2 * u)
  | [], p => by
    show ((0 : Int) * t + b * p * 1, (1 : Int) * u) = (0 * (b * t - a * u) + b * p * 1, 1 * u)
    rw [Int.zero_mul, Int.zero_mul]
  | x :: r, p => by
    have h := hs_linM a b t u r x
    show ((hs t u (linM a b r x)).1 * t + (b * p - a * x) * (hs t u (linM a b r x)).2, (hs t u (linM a b r x)).2 * u) = (((hs t u r).1 * t + x * (hs t u r).2) * (b * t - a * u) + b * p * ((hs t u r).2 * u), (hs t u r).2 * u * u)
    rw [h]
    refine Prod.ext ?_ rfl
    show ((hs t u r).1 * (b * t - a * u) + b * x * (hs t u r).2) * t + (b * p - a * x) * ((hs t u r).2 * u) = ((hs t u r).1 * t + x * (hs t u r).2) * (b * t - a * u) + b * p * ((hs t u r).2 * u)
    grind
theorem topL_linM (a b t u : Int) (P : List Int) : topL (linM a b P 0) t u = topL P t u * (b * t - a * u) := by
  unfold topL
  rw [hs_linM, Int.mul_zero, Int.zero_mul, Int.add_zero]
theorem cv_lin (a b : Int) (P : List Int) (k : Nat) : cv P [a, b] k = (if k = 0 then 0 else cf P (k - 1) * b) + cf P k * a := by
  have h2 : ∀ j, 2 ≤ j → cf [a, b] j = 0 := fun j hj => cf_beyond (by show 2 ≤ j; exact hj)
  unfold cv
  cases k with
  | zero =>
    rw [if_pos rfl]
    show 0 + cf P 0 * cf [a, b] 0 = _
    rfl
  | succ k =>
    rw [if_neg (by omega), sm_succ, sm_succ]
    have z : sm k (fun i => cf P i * cf [a, b] (k + 1 - i)) = 0 := sm_zero fun i hi => by rw [h2 _ (by omega), Int.mul_zero]
    rw [z, show k + 1 - k = 1 by omega, Nat.sub_self, Nat.add_sub_cancel, Int.zero_add]
    rfl
theorem mul_lin {a b : Int} {P : List Int} (hT : Trim P) (h0 : P ≠ []) (hb : b ≠ 0) : mulL P [-a, b] = linM a b P 0 := by
  have hl := MD.len_pos h0
  refine trim_ext (trim_mulL _ _) (.inr ?_) fun k => ?_
  · rw [linM_len, Nat.add_sub_cancel, cf_linM, if_neg (by omega), cf_beyond (P := P) (Nat.le_refl _), Int.mul_zero, Int.sub_zero]
    exact Int.mul_ne_zero hb (MD.lc_ne hT h0)
  · rw [cf_mulL, cv_lin, cf_linM]
    cases k with
    | zero => rw [if_pos rfl, if_pos rfl, Int.mul_zero, Int.zero_add, Int.zero_sub, Int.mul_neg, Int.mul_comm]
    | succ k => rw [if_neg (by omega), if_neg (by omega), Int.mul_neg, Int.mul_comm b, Int.mul_comm a]; rfl
/-- the product of the factors b * t - a * u -/
def prodF (ab : List (Int × Int)) (t u : Int) : Int := ab.foldl (fun s q => s * (q.2 * t - q.1 * u)) 1
theorem prodF_take {ab : List (Int × Int)} {t u : Int} {i : Nat} {q : Int × Int} (h : ab[i]? = some q) : prodF (ab.take (i + 1)) t u = prodF (ab.take i) t u * (q.2 * t - q.1 * u) := by
  unfold prodF
  rw [List.take_add_one, h]
  simp [List.foldl_append]
theorem prodF_zero {ab : List (Int × Int)} {t u : Int} {q : Int × Int} (h : q ∈ ab) (hz : q.2 * t - q.1 * u = 0) : prodF ab t u = 0 := by
  have gen : ∀ (ab : List (Int × Int)) (s : Int), (s = 0 ∨ q ∈ ab) → ab.foldl (fun s q => s * (q.2 * t - q.1 * u)) s = 0 := by
    intro ab
    induction ab with
    | nil => intro s hs; exact hs.elim id (fun h => by cases h)
    | cons x r ih =>
      intro s hs
      rw [List.foldl_cons]
      apply ih
      rcases hs with hs | hs
      · left; rw [hs, Int.zero_mul]
      · rcases List.mem_cons.mp hs with e | e
        · left; rw [← e, hz, Int.mul_zero]
        · exact .inr e
  exact gen ab 1 (.inr h)
end MH

set_option linter.all false
/-! The bound of the roots. -/
namespace MB
open ML MR MH
/-- at K / M, K far from 0, a polynomial is not small -/
theorem cauchy {K M B l : Int} (hM : 0 < M) (hB : 1 ≤ B) (hK : B * M ≤ (K.natAbs : Int)) : ∀ (r : List Int), (∀ c ∈ r, (c.natAbs : Int) ≤ (B - 1) * (l.natAbs : Int)) → ((l.natAbs : Int) * M ^ r.length ≤ (((hs K M (r ++ [l])).1).natAbs : Int)) ∧ (hs K M (r ++ [l])).2 = M ^ (r.length + 1)
  | [], _ => by
    show (l.natAbs : Int) * M ^ 0 ≤ ((0 * K + l * 1).natAbs : Int) ∧ 1 * M = M ^ (0 + 1)
    constructor
    · have : 0 * K + l * 1 = l := by omega
      rw [this, Int.pow_zero]; omega
    · rw [Int.pow_succ, Int.pow_zero]
  | x :: r, h => by
    obtain ⟨h1, h2⟩ := cauchy hM hB hK r fun c hc => h c (List.mem_cons_of_mem _ hc)
    have hx := h x (List.mem_cons_self ..)
    rw [List.cons_append, hs_cons, h2, List.length_cons]
    generalize (hs K M (r ++ [l])).1 = v at h1
    refine ⟨?_, (Int.pow_succ M (r.length + 1)).symm⟩
    show (l.natAbs : Int) * M ^ (r.length + 1) ≤ ((v * K + x * M ^ (r.length + 1)).natAbs : Int)
    have hP : (0 : Int) < M ^ r.length := Int.pow_pos hM
    have e : M ^ (r.length + 1) = M ^ r.length * M := Int.pow_succ _ _
    rw [e]
    generalize M ^ r.length = p at *
    have hL : (0 : Int) ≤ (l.natAbs : Int) := by omega
    -- |v K| is at least l p B M
    have a1 : (l.natAbs : Int) * p * (B * M) ≤ (v.natAbs : Int) * (K.natAbs : Int) := Int.mul_le_mul h1 hK (Int.mul_nonneg (by omega) (by omega)) (by omega)
    have a2 : ((v * K).natAbs : Int) = (v.natAbs : Int) * (K.natAbs : Int) := by rw [Int.natAbs_mul]; omega
    have pM : 0 < p * M := Int.mul_pos hP hM
    have a3 : ((x * (p * M)).natAbs : Int) ≤ (B - 1) * (l.natAbs : Int) * (p * M) := by
      have : ((x * (p * M)).natAbs : Int) = (x.natAbs : Int) * (p * M) := by
        rw [Int.natAbs_mul]
        have : ((p * M).natAbs : Int) = p * M := by omega
        rw [Int.natCast_mul, this]
      rw [this]
      exact Int.mul_le_mul_of_nonneg_right hx (by omega)
    have a4 : (l.natAbs : Int) * p * (B * M) = (B - 1) * (l.natAbs : Int) * (p * M) + (l.natAbs : Int) * (p * M) := by grind
    omega
/-- the value of a product -/
theorem cv_cons_right (S : List Int) (x : Int) (r : List Int) (k : Nat) : cv S (x :: r) k = cf S k * x + (if k = 0 then 0 else cv S r (k - 1)) := by
  cases k with
  | zero =>
    show sm 1 _ = _
    simp [sm, cf_zero]
  | succ k =>
    rw [if_neg (by omega), Nat.add_sub_cancel]
    show sm (k + 1 + 1) (fun i => cf S i * cf (x :: r) (k + 1 - i)) = _
    rw [sm_succ, Nat.sub_self, cf_zero]
    have e : sm (k + 1) (fun i => cf S i * cf (x :: r) (k + 1 - i)) = cv S r k := sm_congr fun i hi => by
      rw [show k + 1 - i = (k - i) + 1 by omega, cf_succ]
    rw [e]; omega
theorem pair {S : List Int} {c : Int} : ∀ (R : List Int) (g h : Nat → Int) (N : Nat), S.length + R.length ≤ N → (∀ i, i < R.length → sm S.length (fun j => cf S j * g (i + j)) = c * h i) → sm N (fun k => cv S R k * g k) = c * sm R.length (fun i => cf R i * h i)
  | [], g, h, N, _, _ => by
    show _ = c * 0
    rw [Int.mul_zero]
    exact sm_zero fun i _ => by
      have : cv S [] i = 0 := sm_zero fun j _ => by rw [cf_nil, Int.mul_zero]
      rw [this, Int.zero_mul]
  | x :: r, g, h, N, hN, hr => by
    obtain ⟨N', rfl⟩ : ∃ N', N = N' + 1 := ⟨N - 1, by rw [List.length_cons] at hN; omega⟩
    rw [List.length_cons] at hN hr
    have ih := pair (S := S) (c := c) r (fun k => g (k + 1)) (fun i => h (i + 1)) N' (by omega) fun i hi => by
      have := hr (i + 1) (by omega)
      rw [← this]
      exact sm_congr fun j _ => by
        show cf S j * g (i + j + 1) = cf S j * g (i + 1 + j)
        rw [show i + j + 1 = i + 1 + j by omega]
    have e1 : sm (N' + 1) (fun k => cv S (x :: r) k * g k) = sm (N' + 1) (fun k => cf S k * g k * x) + sm (N' + 1) (fun k => (if k = 0 then 0 else cv S r (k - 1)) * g k) := by
      rw [← sm_add]
      exact sm_congr fun k _ => by rw [cv_cons_right]; grind
    have e2 : sm (N' + 1) (fun k => (if k = 0 then 0 else cv S r (k - 1)) * g k) = sm N' (fun k => cv S r k * g (k + 1)) := by
      rw [sm_shift]
      have : sm N' (fun i => (if i + 1 = 0 then 0 else cv S r (i + 1 - 1)) * g (i + 1)) = sm N' (fun k => cv S r k * g (k + 1)) := sm_congr fun i _ => by rw [if_neg (by omega), Nat.add_sub_cancel]
      rw [this]
      simp
    have e3 : sm (N' + 1) (fun k => cf S k * g k) = c * h 0 := by
      rw [← hr 0 (by omega), sm_ext (n := S.length) (by omega) fun i h1 _ => by rw [cf_beyond h1, Int.zero_mul]]
      exact sm_congr fun j _ => by rw [Nat.zero_add]
    rw [e1, sm_mul_r, e2, e3, ih, List.length_cons, sm_shift]
    have e4 : sm r.length (fun i => cf (x :: r) (i + 1) * h (i + 1)) = sm r.length (fun i => cf r i * h (i + 1)) := sm_congr fun i _ => by rw [cf_succ]
    rw [e4, cf_zero]
    grind
/-- Horner's value as a sum -/
theorem hs_sm (K M : Int) : ∀ P : List Int, (hs K M P).1 = sm P.length (fun k => cf P k * (K ^ k * M ^ (P.length - 1 - k))) ∧ (hs K M P).2 = M ^ P.length
  | [] => ⟨rfl, by simp [hs]⟩
  | x :: r => by
    obtain ⟨h1, h2⟩ := hs_sm K M r
    rw [hs_cons, h1, h2, List.length_cons]
    refine ⟨?_, by rw [Int.pow_succ]⟩
    show sm r.length _ * K + x * M ^ r.length = _
    rw [sm_shift, cf_zero, Int.pow_zero, Int.one_mul, Nat.add_sub_cancel, Nat.sub_zero, Int.add_comm, ← sm_mul_r]
    congr 1
    exact sm_congr fun i hi => by
      rw [cf_succ, Int.pow_succ, show r.length - (i + 1) = r.length - 1 - i by omega]
      grind
theorem top_sm (P : List Int) (K M : Int) : topL P K M = sm P.length (fun k => cf P k * (K ^ k * M ^ (P.length - 1 - k))) := (hs_sm K M P).1
/-- the value of a product is the product of the values -/
theorem top_prod {P S R : List Int} (hS : S ≠ []) (hR : R ≠ []) (hl : P.length = S.length + R.length - 1) (h : ∀ k, cf P k = cv S R k) (K M : Int) : topL P K M = topL S K M * topL R K M := by
  have lS := List.length_pos_iff.mpr hS
  have lR := List.length_pos_iff.mpr hR
  rw [top_sm P, top_sm R]
  have e1 : sm P.length (fun k => cf P k * (K ^ k * M ^ (P.length - 1 - k))) = sm (S.length + R.length) (fun k => cv S R k * (K ^ k * M ^ (P.length - 1 - k))) := by
    rw [sm_ext (n := P.length) (m := S.length + R.length) (by omega) fun i h1 _ => by rw [← h, cf_beyond h1, Int.zero_mul]]
    exact sm_congr fun i _ => by rw [h]
  rw [e1]
  refine pair R _ (fun i => K ^ i * M ^ (R.length - 1 - i)) _ (Nat.le_refl _) fun i hi => ?_
  rw [top_sm S, ← sm_mul_r]
  exact sm_congr fun j hj => by
    rw [Int.pow_add, show P.length - 1 - (i + j) = (S.length - 1 - j) + (R.length - 1 - i) by omega, Int.pow_add]
    grind
/-- how great a value can be -/
theorem top_le {K M A : Int} (hM : 0 < M) (hA : 0 ≤ A) (hK : (K.natAbs : Int) ≤ A * M) : ∀ R : List Int, ((topL R K M).natAbs : Int) * M ≤ topL (R.map fun c => (c.natAbs : Int)) A 1 * M ^ R.length
  | [] => by
    show ((0 : Int).natAbs : Int) * M ≤ 0 * M ^ 0
    simp
  | x :: r => by
    have ih := top_le hM hA hK r
    have h2 := (hs_sm K M r).2
    have h3 := (hs_sm A 1 (r.map fun c => (c.natAbs : Int))).2
    unfold topL at ih ⊢
    rw [List.map_cons, hs_cons, hs_cons, h2, h3, Int.one_pow, List.length_cons, Int.pow_succ]
    show ((((hs K M r).1 * K + x * M ^ r.length).natAbs : Nat) : Int) * M ≤ ((hs A 1 (r.map fun c => (c.natAbs : Int))).1 * A + (x.natAbs : Int) * 1) * (M ^ r.length * M)
    have hp : (0 : Int) < M ^ r.length := Int.pow_pos hM
    generalize (hs K M r).1 = v at *
    generalize (hs A 1 (r.map fun c => (c.natAbs : Int))).1 = y at *
    generalize M ^ r.length = p at *
    have a1 : ((v * K + x * p).natAbs : Int) ≤ (v.natAbs : Int) * (K.natAbs : Int) + (x.natAbs : Int) * p := by
      have b1 : ((v * K).natAbs : Int) = (v.natAbs : Int) * (K.natAbs : Int) := by rw [Int.natAbs_mul]; omega
      have b2 : ((x * p).natAbs : Int) = (x.natAbs : Int) * p := by
        rw [Int.natAbs_mul, Int.natCast_mul]
        have : ((p.natAbs : Nat) : Int) = p := by omega
        rw [this]
      omega
    have a2 : (v.natAbs : Int) * (K.natAbs : Int) ≤ (v.natAbs : Int) * (A * M) := Int.mul_le_mul_of_nonneg_left hK (by omega)
    have a3 : (v.natAbs : Int) * (A * M) ≤ A * (y * p) := by
      have := Int.mul_le_mul_of_nonneg_left ih hA
      have e : (v.natAbs : Int) * (A * M) = A * ((v.natAbs : Int) * M) := by grind
      rw [e]; exact this
    have a4 : ((v * K + x * p).natAbs : Int) ≤ (y * A + (x.natAbs : Int) * 1) * p := by
      have e : (y * A + (x.natAbs : Int) * 1) * p = A * (y * p) + (x.natAbs : Int) * p := by grind
      rw [e]; omega
    have := Int.mul_le_mul_of_nonneg_right a4 (show (0 : Int) ≤ M by omega)
    have e : (y * A + (x.natAbs : Int) * 1) * p * M = (y * A + (x.natAbs : Int) * 1) * (p * M) := by grind
    omega
theorem least_ (p : Nat → Prop) (h : ∃ n, p n) : ∃ n, p n ∧ ∀ m, m < n → ¬ p m := by
  obtain ⟨n, hn⟩ := h
  induction n using Nat.strongRecOn with
  | _ n ih =>
    by_cases hm : ∃ m, m < n ∧ p m
    · obtain ⟨m, h1, h2⟩ := hm
      exact ih m h1 h2
    · exact ⟨n, hn, fun m h1 h2 => hm ⟨m, h1, h2⟩⟩
end MB
namespace MB
open ML MR MH MP
/-- the polynomial of a factor -/
def shp (u e b : Int) : List Int := if e = 0 then plainL [0 - u, b] else plainL [u * u - e, -2 * b * u, b * b]
theorem top_scale {A S : List Int} {a : Int} (hl : A.length = S.length) (h : ∀ k, cf A k = a * cf S k) (K M : Int) : topL A K M = a * topL S K M := by
  rw [top_sm A, top_sm S, ← sm_mul, hl]
  exact sm_congr fun k _ => by rw [h]; grind
theorem shp_lin {u b : Int} (hb : b ≠ 0) : ∃ a : Int, a ≠ 0 ∧ (shp u 0 b).length = 2 ∧ ∀ K M, a * topL (shp u 0 b) K M = b * K - u * M := by
  unfold shp
  rw [if_pos rfl]
  obtain ⟨a, h1, h2⟩ := MQ.plain_mul [0 - u, b]
  refine ⟨a, h1 (by simp) (.inr hb), plainL_len _, fun K M => ?_⟩
  rw [← top_scale (plainL_len _).symm h2]
  show (0 * K + b * 1) * K + (0 - u) * (1 * M) = _
  grind
theorem shp_sq {u e b : Int} (he : e ≠ 0) (hb : b ≠ 0) : ∃ a : Int, a ≠ 0 ∧ (shp u e b).length = 3 ∧ ∀ K M, a * topL (shp u e b) K M = (b * K - u * M) * (b * K - u * M) - e * (M * M) := by
  unfold shp
  rw [if_neg he]
  obtain ⟨a, h1, h2⟩ := MQ.plain_mul [u * u - e, -2 * b * u, b * b]
  refine ⟨a, h1 (by simp) (.inr (Int.mul_ne_zero hb hb)), plainL_len _, fun K M => ?_⟩
  rw [← top_scale (plainL_len _).symm h2]
  show ((0 * K + b * b * 1) * K + -2 * b * u * (1 * M)) * K + (u * u - e) * (1 * M * M) = _
  grind
theorem sq_le {x y : Int} (hx : 0 ≤ x) (h : x ≤ y) : x * x ≤ y * y := Int.mul_le_mul h h hx (by omega)
theorem sq_lt {x y : Int} (hx : 0 ≤ x) (h : x < y) : x * x < y * y := by
  have h1 : x * x ≤ x * y := Int.mul_le_mul_of_nonneg_left (by omega) hx
  have h2 : x * y < y * y := Int.mul_lt_mul_of_pos_right h (by omega)
  omega
/-- what the bound is above -/
theorem below {r R : List Int} {l u e b B : Int} (hl : l ≠ 0) (hB : 1 ≤ B) (hb : 1 ≤ b) (he : 0 ≤ e) (hbd : ∀ c ∈ r, (c.natAbs : Int) ≤ (B - 1) * (l.natAbs : Int))
    (hR : R ≠ []) (hlen : (r ++ [l]).length = (shp u e b).length + R.length - 1) (hcf : ∀ k, cf (r ++ [l]) k = cv (shp u e b) R k) : (u.natAbs : Int) < b * B ∧ e < (b * B - (u.natAbs : Int)) * (b * B - (u.natAbs : Int)) := by
  have lR := List.length_pos_iff.mpr hR
  by_cases e0 : e = 0
  · subst e0
    obtain ⟨a, a0, hs, ht⟩ := shp_lin (u := u) (b := b) (by omega)
    have hS : shp u 0 b ≠ [] := fun z => by rw [z] at hs; simp at hs
    have key : (u.natAbs : Int) < b * B := by
      apply Classical.byContradiction
      intro hn
      have hK : B * b ≤ (u.natAbs : Int) := by rw [Int.mul_comm]; omega
      have c := (cauchy (l := l) (K := u) (M := b) (by omega) hB hK r hbd).1
      have z : topL (shp u 0 b) u b = 0 := by
        have := ht u b
        rw [Int.mul_comm b u, Int.sub_self] at this
        exact (Int.mul_eq_zero.mp this).resolve_left a0
      have p := top_prod hS hR hlen hcf u b
      rw [z, Int.zero_mul] at p
      unfold topL at p
      rw [p] at c
      have : 0 < (l.natAbs : Int) * b ^ r.length := Int.mul_pos (by omega) (Int.pow_pos (by omega))
      have : ((0 : Int).natAbs : Int) = 0 := rfl
      omega
    refine ⟨key, ?_⟩
    have := Int.mul_pos (show 0 < b * B - (u.natAbs : Int) by omega) (show 0 < b * B - (u.natAbs : Int) by omega)
    omega
  · obtain ⟨a, a0, hs, ht⟩ := shp_sq (u := u) (e := e) (b := b) e0 (by omega)
    have hS : shp u e b ≠ [] := fun z => by rw [z] at hs; simp at hs
    apply Classical.byContradiction
    intro hn
    generalize hv : (u.natAbs : Int) = v at hn
    have v0 : 0 ≤ v := by omega
    -- the sizes
    have hA : 0 ≤ v + e + 1 := by omega
    generalize hC : topL (R.map fun c => (c.natAbs : Int)) (v + e + 1) 1 = C
    generalize hC1 : b * b * (2 * (v + e + 1) + 1) = C1
    have bb : 0 < b * b := Int.mul_pos (by omega) (by omega)
    have C1p : 0 < C1 := by rw [← hC1]; exact Int.mul_pos bb (by omega)
    have Cn : 0 ≤ C := by
      have := top_le (K := 0) (M := 1) (A := v + e + 1) (by decide) hA (by omega) R
      rw [hC, Int.one_pow] at this
      omega
    have CC : 0 ≤ C1 * C := Int.mul_nonneg (by omega) Cn
    obtain ⟨M, hM⟩ : ∃ M : Int, M = C1 * C + 1 := ⟨_, rfl⟩
    have M0 : 0 < M := by omega
    have MM : 0 < M * M := Int.mul_pos M0 M0
    obtain ⟨k, ⟨hk1, hk2⟩, hmin⟩ := least_ (fun k => 0 ≤ b * (k : Int) - v * M ∧ e * (M * M) ≤ (b * (k : Int) - v * M) * (b * (k : Int) - v * M)) ⟨((v + e + 1) * M).toNat, by
      have h0 : 0 ≤ (v + e + 1) * M := Int.mul_nonneg hA (by omega)
      rw [Int.toNat_of_nonneg h0]
      have h1 : (v + e + 1) * M ≤ b * ((v + e + 1) * M) := by
        have := Int.mul_le_mul_of_nonneg_right hb h0
        omega
      have h2 : (e + 1) * M ≤ b * ((v + e + 1) * M) - v * M := by
        have : (v + e + 1) * M = v * M + (e + 1) * M := by grind
        omega
      have h3 : 0 ≤ (e + 1) * M := Int.mul_nonneg (by omega) (by omega)
      refine ⟨by omega, ?_⟩
      have h4 := sq_le h3 h2
      have h5 : (e + 1) * M * ((e + 1) * M) = e * (M * M) + (e * e + e + 1) * (M * M) := by grind
      have h6 : 0 ≤ (e * e + e + 1) * (M * M) := Int.mul_nonneg (by have := Int.mul_nonneg he he; omega) (by omega)
      omega⟩
    have hkA : (k : Int) ≤ (v + e + 1) * M := by
      have h0 : 0 ≤ (v + e + 1) * M := Int.mul_nonneg hA (by omega)
      apply Classical.byContradiction
      intro hh
      refine hmin ((v + e + 1) * M).toNat (by omega) ?_
      rw [Int.toNat_of_nonneg h0]
      have h1 : (v + e + 1) * M ≤ b * ((v + e + 1) * M) := by
        have := Int.mul_le_mul_of_nonneg_right hb h0
        omega
      have h2 : (e + 1) * M ≤ b * ((v + e + 1) * M) - v * M := by
        have : (v + e + 1) * M = v * M + (e + 1) * M := by grind
        omega
      have h3 : 0 ≤ (e + 1) * M := Int.mul_nonneg (by omega) (by omega)
      refine ⟨by omega, ?_⟩
      have h4 := sq_le h3 h2
      have h5 : (e + 1) * M * ((e + 1) * M) = e * (M * M) + (e * e + e + 1) * (M * M) := by grind
      have h6 : 0 ≤ (e * e + e + 1) * (M * M) := Int.mul_nonneg (by have := Int.mul_nonneg he he; omega) (by omega)
      omega
    have eM : 0 < e * (M * M) := Int.mul_pos (by omega) MM
    have hk0 : 0 < k := by
      apply Classical.byContradiction
      intro hh
      have : k = 0 := by omega
      subst this
      have hvM : 0 ≤ v * M := Int.mul_nonneg v0 (by omega)
      have z : b * ((0 : Nat) : Int) - v * M = 0 := by
        have : b * ((0 : Nat) : Int) = 0 := by simp
        omega
      rw [z] at hk2
      omega
    -- far enough
    have hKB : B * M ≤ (k : Int) := by
      apply Classical.byContradiction
      intro hh
      have h1 : b * (k : Int) - v * M < (b * B - v) * M := by
        have h3 : b * (k : Int) < b * (B * M) := Int.mul_lt_mul_of_pos_left (by omega) (by omega)
        have h4 : (b * B - v) * M = b * (B * M) - v * M := by grind
        omega
      by_cases hbv : v < b * B
      · have h5 : (b * B - v) * (b * B - v) ≤ e := by
          apply Classical.byContradiction
          intro h6
          exact hn ⟨hbv, by omega⟩
        have h6 := sq_lt hk1 h1
        have h7 : (b * B - v) * M * ((b * B - v) * M) = (b * B - v) * (b * B - v) * (M * M) := by grind
        have h8 : (b * B - v) * (b * B - v) * (M * M) ≤ e * (M * M) := Int.mul_le_mul_of_nonneg_right h5 (by omega)
        omega
      · have h9 : (b * B - v) * M ≤ 0 := Int.mul_nonpos_of_nonpos_of_nonneg (by omega) (by omega)
        omega
    -- near enough
    have hq : (b * (k : Int) - v * M) * (b * (k : Int) - v * M) - e * (M * M) ≤ C1 * M := by
      have hp := hmin (k - 1) (by omega)
      have ek : ((k - 1 : Nat) : Int) = (k : Int) - 1 := by omega
      have et : b * ((k : Int) - 1) - v * M = (b * (k : Int) - v * M) - b := by rw [Int.mul_sub]; omega
      rw [ek, et] at hp
      have htA : b * (k : Int) - v * M ≤ b * ((v + e + 1) * M) := by
        have h1 : b * (k : Int) ≤ b * ((v + e + 1) * M) := Int.mul_le_mul_of_nonneg_left hkA (by omega)
        have h2 : 0 ≤ v * M := Int.mul_nonneg v0 (by omega)
        omega
      generalize b * (k : Int) - v * M = t at *
      have hC1M : C1 * M = 2 * (b * (b * ((v + e + 1) * M))) + b * b * M := by rw [← hC1]; grind
      have hbbM : b * b ≤ b * b * M := by
        have := Int.mul_le_mul_of_nonneg_left (show 1 ≤ M by omega) (show 0 ≤ b * b by omega)
        omega
      have hnn : 0 ≤ b * (b * ((v + e + 1) * M)) := Int.mul_nonneg (by omega) (Int.mul_nonneg (by omega) (Int.mul_nonneg hA (by omega)))
      by_cases htb : t < b
      · have := sq_lt hk1 htb
        omega
      · have h1 : (t - b) * (t - b) < e * (M * M) := by
          apply Classical.byContradiction
          intro h2
          exact hp ⟨by omega, by omega⟩
        have h2 : (t - b) * (t - b) = t * t - 2 * (b * t) + b * b := by grind
        have h3 : b * t ≤ b * (b * ((v + e + 1) * M)) := Int.mul_le_mul_of_nonneg_left htA (by omega)
        omega
    -- the place
    obtain ⟨K, hK1, hK2⟩ : ∃ K : Int, (K.natAbs : Int) = k ∧ (b * K - u * M) * (b * K - u * M) = (b * (k : Int) - v * M) * (b * (k : Int) - v * M) := by
      by_cases hu : u < 0
      · refine ⟨-(k : Int), by omega, ?_⟩
        have : u = -v := by omega
        rw [this]; grind
      · refine ⟨(k : Int), by omega, ?_⟩
        have : u = v := by omega
        rw [this]
    have c := (cauchy (l := l) (K := K) (M := M) M0 hB (by omega) r hbd).1
    have p := top_prod hS hR hlen hcf K M
    have t1 := ht K M
    rw [hK2] at t1
    have t2 := top_le (K := K) (M := M) M0 hA (by omega) R
    rw [hC] at t2
    unfold topL at p
    rw [p] at c
    have hlr : r.length = R.length + 1 := by
      rw [List.length_append, List.length_singleton, hs] at hlen
      omega
    change (l.natAbs : Int) * M ^ r.length ≤ ((topL (shp u e b) K M * topL R K M).natAbs : Int) at c
    generalize topL (shp u e b) K M = x at *
    generalize topL R K M = y at *
    have hx : (x.natAbs : Int) ≤ C1 * M := by
      have h1 : ((a * x).natAbs : Int) = (a.natAbs : Int) * (x.natAbs : Int) := by rw [Int.natAbs_mul]; omega
      have h2 : (x.natAbs : Int) ≤ (a.natAbs : Int) * (x.natAbs : Int) := by
        have := Int.mul_le_mul_of_nonneg_right (show 1 ≤ (a.natAbs : Int) by omega) (show 0 ≤ (x.natAbs : Int) by omega)
        omega
      omega
    have hxy : ((x * y).natAbs : Int) * M ≤ C1 * M * (C * M ^ R.length) := by
      have h1 : ((x * y).natAbs : Int) * M = (x.natAbs : Int) * ((y.natAbs : Int) * M) := by rw [Int.natAbs_mul, Int.natCast_mul]; grind
      rw [h1]
      exact Int.mul_le_mul hx t2 (Int.mul_nonneg (by omega) (by omega)) (Int.mul_nonneg (by omega) (by omega))
    have c2 := Int.mul_le_mul_of_nonneg_right c (show 0 ≤ M by omega)
    rw [hlr] at c2
    have hp : 0 < M ^ R.length := Int.pow_pos M0
    rw [Int.pow_succ] at c2
    generalize M ^ R.length = q at *
    have f1 : (l.natAbs : Int) * (q * M) * M = (l.natAbs : Int) * M * (q * M) := by grind
    have f2 : C1 * M * (C * q) = (C1 * C) * (q * M) := by grind
    have qM : 0 < q * M := Int.mul_pos hp M0
    have f3 : (l.natAbs : Int) * M * (q * M) ≤ (C1 * C) * (q * M) := by omega
    have f4 := Int.le_of_mul_le_mul_right f3 qM
    have f5 : M ≤ (l.natAbs : Int) * M := by
      have := Int.mul_le_mul_of_nonneg_right (show 1 ≤ (l.natAbs : Int) by omega) (show 0 ≤ M by omega)
      omega
    omega
end MB

set_option linter.all false
set_option maxRecDepth 100000
/-! Lists of tuples of ints. -/
namespace RB
open PySem PySem.Spec PyProof.Rows L2
open Evl (Ex)
theorem units1 {k : Nat} {A : Around} (r : Room k A) : A.units + 65 < cLine := by have := r.un; omega
def Tws (H : Hp) : List Addr → List (List Int) → Prop
  | [], [] => True
  | p :: ps, R :: Rs => H p = some (.tup (R.map V.int)) ∧ Tws H ps Rs
  | _, _ => False
theorem Tws.len {H : Hp} : ∀ {ps : List Addr} {Rs : List (List Int)}, Tws H ps Rs → ps.length = Rs.length
  | [], [], _ => rfl
  | p :: ps, R :: Rs, h => by rw [List.length_cons, List.length_cons, Tws.len h.2]
theorem Tws.ex {H H' : Hp} (e : Ex H H') : ∀ {ps : List Addr} {Rs : List (List Int)}, Tws H ps Rs → Tws H' ps Rs
  | [], [], _ => trivial
  | p :: ps, R :: Rs, h => ⟨e _ _ h.1, Tws.ex e h.2⟩
theorem Tws.exb {l : Addr} {H H' : Hp} (e : Exb l H H') : ∀ {ps : List Addr} {Rs : List (List Int)}, l ∉ ps → Tws H ps Rs → Tws H' ps Rs
  | [], [], _, _ => trivial
  | p :: ps, R :: Rs, hn, h => ⟨e _ (fun x => hn (by rw [x]; exact List.mem_cons_self ..)) _ h.1, Tws.exb e (fun x => hn (List.mem_cons_of_mem _ x)) h.2⟩
theorem Tws.append {H : Hp} : ∀ {ps qs : List Addr} {Rs Ss : List (List Int)}, Tws H ps Rs → Tws H qs Ss → Tws H (ps ++ qs) (Rs ++ Ss)
  | [], _, [], _, _, h => h
  | p :: ps, _, R :: Rs, _, h, h' => ⟨h.1, Tws.append h.2 h'⟩
theorem Tws.get {H : Hp} : ∀ {ps : List Addr} {Rs : List (List Int)} {i : Nat} {p : Addr}, Tws H ps Rs → ps[i]? = some p → ∃ R, Rs[i]? = some R ∧ H p = some (.tup (R.map V.int))
  | p :: ps, R :: Rs, 0, q, h, e => by
    simp only [List.getElem?_cons_zero, Option.some.injEq] at e
    exact ⟨R, rfl, by rw [← e]; exact h.1⟩
  | p :: ps, R :: Rs, i + 1, q, h, e => by
    simp only [List.getElem?_cons_succ] at e
    obtain ⟨S, h1, h2⟩ := Tws.get (i := i) h.2 e
    exact ⟨S, by simpa using h1, h2⟩
/-- x not in a list of lists: whichever -/
theorem r_notInR {K : PySem.W.Frag} {H : Hp} {Q : VK} {a b : Addr} {ns : List Int} {qs : List Addr} {Ss : List (List Int)} (h1 : SqL K H a (ns.map V.int)) (h2 : SqL K H b (qs.map V.ref)) (h2' : Rws H qs Ss) (q : ∀ c, Q (.bl c) H) : rNotInD K (.ref a) (.ref b) H Q :=
  ⟨_, _, dp_listI h1, dp_listR h2 h2', shaped_dI ns, shaped_dR Ss, q _⟩
/-- an item of a tuple of ints -/
theorem r_ixT' {K : PySem.W.Frag} {H : Hp} {Q : VK} {p : Addr} {i : Nat} {ns : List Int} {x : Int} (h : H p = some (.tup (ns.map V.int))) (hi : ns[i]? = some x) (q : Q (.int x) H) : rIxT K (.ref p) (.int (i : Int)) H Q :=
  r_ixT (.inl (.inl h)) (atI_nat (j := i) (by rw [List.getElem?_map, hi]; rfl)) q
end RB

set_option linter.all false
set_option maxRecDepth 100000
/-! The factors that the laws draw. -/
namespace RB
open PySem PySem.Spec PyProof.Rows L2
/-- a factor as it is drawn, u of at most m -/
structure Fac (m u e b : Int) : Prop where
  su : (u.natAbs : Int) ≤ m
  m9 : m ≤ 1000000000
  se : e.natAbs ≤ 36
  sq : e = 0 ∨ ∃ k : Int, 0 ≤ k ∧ k * k < e.natAbs ∧ (e.natAbs : Int) < (k + 1) * (k + 1)
  b1 : 1 ≤ b
  b3 : b ≤ 3
/-- the factor in a row of three -/
def isF (m : Int) (F : List Int) : Prop := ∃ u e b, F = [u, e, b] ∧ Fac m u e b
/-- the degree that a factor brings -/
def dgF : List Int → Nat
  | [u, e, b] => (MB.shp u e b).length - 1
  | _ => 0
def dgs (FS : List (List Int)) : Nat := (FS.map dgF).sum
def shpF : List Int → List Int
  | [u, e, b] => MB.shp u e b
  | _ => []
/-- the product of the factors' polynomials -/
def prodS (M : List Int) (FS : List (List Int)) : List Int := FS.foldl (fun M F => ML.mulU M (shpF F)) M
theorem Fac.su' {m u e b : Int} (f : Fac m u e b) : u.natAbs ≤ 1000000000 := by have := f.su; have := f.m9; omega
theorem shp_len {m u e b : Int} (f : Fac m u e b) : (MB.shp u e b).length = 2 ∨ (MB.shp u e b).length = 3 := by
  have b1 := f.b1
  by_cases e0 : e = 0
  · subst e0
    obtain ⟨a, _, h, _⟩ := MB.shp_lin (u := u) (b := b) (by omega)
    exact .inl h
  · obtain ⟨a, _, h, _⟩ := MB.shp_sq (u := u) (e := e) (b := b) e0 (by omega)
    exact .inr h
theorem mulU_length {P Q : List Int} (hP : P ≠ []) (hQ : Q ≠ []) : (ML.mulU P Q).length = P.length + Q.length - 1 := by
  unfold ML.mulU
  rw [if_neg fun z => z.elim hP hQ, List.length_map, List.length_range]
theorem shp_ne {m u e b : Int} (f : Fac m u e b) : MB.shp u e b ≠ [] := fun z => by
  have := shp_len f
  rw [z] at this
  simp at this
theorem lin_sz {u b : Int} (hu : u.natAbs ≤ 1000000000) (b1 : 1 ≤ b) (b3 : b ≤ 3) : ML.Sz 62 [0 - u, b] := fun x hx => by
  simp only [List.mem_cons, List.not_mem_nil, or_false] at hx
  rcases hx with rfl | rfl <;> omega
theorem sq_sz {u e b : Int} (hu : u.natAbs ≤ 1000000000) (he : e.natAbs ≤ 36) (b1 : 1 ≤ b) (b3 : b ≤ 3) : ML.Sz 62 [u * u - e, -2 * b * u, b * b] := fun x hx => by
  have h1 : (u * u).natAbs < 2 ^ (30 + 30) := wide_lt (show u.natAbs < 2 ^ 30 by omega) (show u.natAbs < 2 ^ 30 by omega)
  have h2 : (-2 * b * u).natAbs < 2 ^ (4 + 30) := wide_lt (show (-2 * b).natAbs < 2 ^ 4 by omega) (show u.natAbs < 2 ^ 30 by omega)
  have h3 : (b * b).natAbs < 2 ^ (2 + 2) := wide_lt (show b.natAbs < 2 ^ 2 by omega) (show b.natAbs < 2 ^ 2 by omega)
  simp only [List.mem_cons, List.not_mem_nil, or_false] at hx
  rcases hx with rfl | rfl | rfl <;> omega
theorem plain_log {P : List Int} (hT : ML.Trim P) (hs : ML.Sz 62 P) : P ≠ [] → MG.gcdL P ≠ 0 ∧ (MG.gcdL P).natAbs.log2 < 9000 := fun h0 => by
  have h1 := MP.gcdL_trim_pos hT h0
  have h2 := MP.gcdL_log (by decide) hs hT h0
  exact ⟨by omega, Nat.lt_of_lt_of_le (PySem.Flt.log2_lt_of (by decide) h2) (by decide)⟩
theorem shp_sz {m u e b : Int} (f : Fac m u e b) : ML.Sz 62 (MB.shp u e b) := by
  unfold MB.shp
  split
  · exact MP.Sz.plainL (lin_sz f.su' f.b1 f.b3)
  · exact MP.Sz.plainL (sq_sz f.su' f.se f.b1 f.b3)
/-- the product so far -/
structure Prd (M : List Int) (d n : Nat) : Prop where
  ln : M.length = d + 1
  sz : ML.Sz (n + 80 * d) M
theorem Prd.step {M : List Int} {d n : Nat} (h : Prd M d n) {m u e b : Int} (f : Fac m u e b) (hd : d ≤ 15) : Prd (ML.mulU M (MB.shp u e b)) (d + ((MB.shp u e b).length - 1)) n := by
  have ln := h.ln
  have ls := shp_len f
  have nM : M ≠ [] := fun z => by rw [z] at ln; simp at ln
  refine ⟨by rw [mulU_length nM (shp_ne f)]; omega, (ML.Sz.mulU h.sz (shp_sz f)).mono ?_⟩
  rw [ln]
  rcases ls with e | e <;> rw [e] <;> omega
theorem dgs_take {FS : List (List Int)} {i : Nat} {F : List Int} (h : FS[i]? = some F) : dgs (FS.take (i + 1)) = dgs (FS.take i) + dgF F := by
  unfold dgs
  rw [List.take_add_one, h, List.map_append, List.sum_append]; simp
theorem dgs_le (FS : List (List Int)) (i : Nat) : dgs (FS.take i) ≤ dgs FS := by
  unfold dgs
  conv => rhs; rw [← List.take_append_drop i FS, List.map_append, List.sum_append]
  omega
theorem prodS_take {FS : List (List Int)} {i : Nat} {F : List Int} (M : List Int) (h : FS[i]? = some F) : prodS M (FS.take (i + 1)) = ML.mulU (prodS M (FS.take i)) (shpF F) := by
  unfold prodS
  rw [List.take_add_one, h, List.foldl_append]; rfl
theorem prodS_len {m : Int} : ∀ (FS : List (List Int)) (M : List Int), (∀ F ∈ FS, isF m F) → M ≠ [] → (prodS M FS).length = M.length + dgs FS
  | [], M, _, _ => by show M.length = M.length + 0; omega
  | F :: FS, M, hF, hM => by
    obtain ⟨u, e, b, rfl, f⟩ := hF F (List.mem_cons_self ..)
    have hs := shp_ne f
    have ls := shp_len f
    have h1 := mulU_length hM hs
    have hMs : ML.mulU M (MB.shp u e b) ≠ [] := fun z => by
      rw [z] at h1
      simp at h1
      have := List.length_pos_iff.mpr hM
      omega
    have := prodS_len FS (ML.mulU M (MB.shp u e b)) (fun G hG => hF G (List.mem_cons_of_mem _ hG)) hMs
    show (prodS (ML.mulU M (MB.shp u e b)) FS).length = M.length + dgs ([u, e, b] :: FS)
    have e2 : dgs ([u, e, b] :: FS) = ((MB.shp u e b).length - 1) + dgs FS := rfl
    rw [this, h1, e2]; omega
theorem prodS_prd {m : Int} : ∀ (FS : List (List Int)) (M : List Int) (d n : Nat), (∀ F ∈ FS, isF m F) → d + dgs FS ≤ 15 → Prd M d n → Prd (prodS M FS) (d + dgs FS) n
  | [], M, d, n, _, _, h => h
  | F :: FS, M, d, n, hF, hd, h => by
    obtain ⟨u, e, b, rfl, f⟩ := hF F (List.mem_cons_self ..)
    have e2 : dgs ([u, e, b] :: FS) = ((MB.shp u e b).length - 1) + dgs FS := rfl
    rw [e2] at hd
    have := prodS_prd FS (ML.mulU M (MB.shp u e b)) (d + ((MB.shp u e b).length - 1)) n (fun G hG => hF G (List.mem_cons_of_mem _ hG)) (by omega) (h.step f (by omega))
    rw [e2, show d + ((MB.shp u e b).length - 1 + dgs FS) = d + ((MB.shp u e b).length - 1) + dgs FS by omega]
    exact this
theorem shp_lc {m u e b : Int} (f : Fac m u e b) : 0 < ML.cf (MB.shp u e b) ((MB.shp u e b).length - 1) := by
  have b1 := f.b1
  unfold MB.shp
  split
  · have hT : ML.Trim [0 - u, b] := .inr (show b ≠ 0 by omega)
    exact MP.plainL_last hT (by simp)
  · have hT : ML.Trim [u * u - e, -2 * b * u, b * b] := .inr (show b * b ≠ 0 from Int.mul_ne_zero (by omega) (by omega))
    exact MP.plainL_last hT (by simp)
theorem prodS_lc {m : Int} : ∀ (FS : List (List Int)) (M : List Int), (∀ F ∈ FS, isF m F) → M ≠ [] → ML.cf M (M.length - 1) ≠ 0 → ML.cf (prodS M FS) ((prodS M FS).length - 1) ≠ 0
  | [], M, _, _, h => h
  | F :: FS, M, hF, hM, h => by
    obtain ⟨u, e, b, rfl, f⟩ := hF F (List.mem_cons_self ..)
    have hs := shp_ne f
    have lM := List.length_pos_iff.mpr hM
    have ls := List.length_pos_iff.mpr hs
    have h1 := mulU_length hM hs
    refine prodS_lc FS (ML.mulU M (MB.shp u e b)) (fun G hG => hF G (List.mem_cons_of_mem _ hG)) (fun z => ?_) ?_
    · rw [z] at h1
      simp at h1
      omega
    · rw [h1, ML.cf_mulU, show M.length + (MB.shp u e b).length - 1 - 1 = (M.length - 1) + ((MB.shp u e b).length - 1) by omega, MR.cv_top (fun i hi => ML.cf_beyond (by omega)) (fun i hi => ML.cf_beyond (by omega))]
      have := shp_lc f
      exact Int.mul_ne_zero h (by omega)
theorem len_dgs {m : Int} : ∀ FS : List (List Int), (∀ F ∈ FS, isF m F) → FS.length ≤ dgs FS
  | [], _ => Nat.zero_le _
  | F :: FS, hF => by
    obtain ⟨u, e, b, rfl, f⟩ := hF F (List.mem_cons_self ..)
    have ls := shp_len f
    have ih := len_dgs FS fun G hG => hF G (List.mem_cons_of_mem _ hG)
    have e2 : dgs ([u, e, b] :: FS) = ((MB.shp u e b).length - 1) + dgs FS := rfl
    rw [e2, List.length_cons]; omega
/-! ### spots that differ -/
theorem shp_same {u e b u' e' b' : Int} (hb : 1 ≤ b) (hb' : 1 ≤ b') (h : (e = 0 ∧ e' = 0 ∧ u * b' = u' * b) ∨ (e ≠ 0 ∧ e' ≠ 0 ∧ b * b * (-2 * b' * u') = b' * b' * (-2 * b * u) ∧ b * b * (u' * u' - e') = b' * b' * (u * u - e))) : MB.shp u e b = MB.shp u' e' b' := by
  unfold MB.shp
  rcases h with ⟨rfl, rfl, h⟩ | ⟨h0, h0', h1, h2⟩
  · rw [if_pos rfl, if_pos rfl]
    refine MQ.plain_prop (x := b') (y := b) (.inr (show b ≠ 0 by omega)) (.inr (show b' ≠ 0 by omega)) (by omega) (by omega) fun k => ?_
    match k with
    | 0 => show b' * (0 - u) = b * (0 - u'); grind
    | 1 => show b' * b = b * b'; grind
    | k + 2 => rw [ML.cf_beyond (by simp), ML.cf_beyond (by simp)]; omega
  · rw [if_neg h0, if_neg h0']
    refine MQ.plain_prop (x := b' * b') (y := b * b) (.inr (show b * b ≠ 0 from Int.mul_ne_zero (by omega) (by omega))) (.inr (show b' * b' ≠ 0 from Int.mul_ne_zero (by omega) (by omega))) (Int.mul_ne_zero (by omega) (by omega)) (Int.mul_ne_zero (by omega) (by omega)) fun k => ?_
    match k with
    | 0 => show b' * b' * (u * u - e) = b * b * (u' * u' - e'); exact h2.symm
    | 1 => show b' * b' * (-2 * b * u) = b * b * (-2 * b' * u'); exact h1.symm
    | 2 => show b' * b' * (b * b) = b * b * (b' * b'); grind
    | k + 3 => rw [ML.cf_beyond (by simp), ML.cf_beyond (by simp)]; omega
end RB
namespace RB
open PySem PySem.Spec PyProof.Rows L2
theorem any_rows (Ss : List (List Int)) (ns : List Int) : ((Ss.map dI).any fun z => PyData.eqv z (dI ns)) = decide (ns ∈ Ss) := by
  induction Ss with
  | nil => rfl
  | cons S Ss ih =>
    rw [List.map_cons, List.any_cons, ih, eqv_dI]
    by_cases h : S = ns
    · subst h; simp
    · have : ¬ ns = S := fun z => h z.symm
      simp [h, this]
/-- x not in a list of lists -/
theorem r_notInRow {K : PySem.W.Frag} {H : Hp} {Q : VK} {a b : Addr} {ns : List Int} {qs : List Addr} {Ss : List (List Int)} (h1 : SqL K H a (ns.map V.int)) (h2 : SqL K H b (qs.map V.ref)) (h2' : Rws H qs Ss) (q : Q (.bl (!decide (ns ∈ Ss))) H) : rNotInD K (.ref a) (.ref b) H Q :=
  ⟨_, _, dp_listI h1, dp_listR h2 h2', shaped_dI ns, shaped_dR Ss, by rw [show ((Ss.map dI).any fun z => PyData.eqv z (.list (ns.map PyData.int))) = decide (ns ∈ Ss) from any_rows Ss ns]; exact q⟩
theorem r_inRow {K : PySem.W.Frag} {H : Hp} {Q : VK} {a b : Addr} {ns : List Int} {qs : List Addr} {Ss : List (List Int)} (h1 : SqL K H a (ns.map V.int)) (h2 : SqL K H b (qs.map V.ref)) (h2' : Rws H qs Ss) (q : Q (.bl (decide (ns ∈ Ss))) H) : rInD K (.ref a) (.ref b) H Q :=
  ⟨_, _, dp_listI h1, dp_listR h2 h2', shaped_dI ns, shaped_dR Ss, by rw [show ((Ss.map dI).any fun z => PyData.eqv z (.list (ns.map PyData.int))) = decide (ns ∈ Ss) from any_rows Ss ns]; exact q⟩
end RB
namespace RB
open PySem PySem.Spec PyProof.Rows L2
open Evl (Ex)
theorem Tws.take {H : Hp} : ∀ (n : Nat) {ps : List Addr} {Rs : List (List Int)}, Tws H ps Rs → Tws H (ps.take n) (Rs.take n)
  | 0, _, _, _ => by rw [List.take_zero, List.take_zero]; trivial
  | n + 1, [], [], _ => trivial
  | n + 1, p :: ps, R :: Rs, h => ⟨h.1, Tws.take n h.2⟩
/-- over a list of tuples of ints, each giving a new list -/
theorem lc_twsN {K : PySem.W.Frag} {σ : L2.St} {H : Hp} {te : TE} {Q : VK} {a : Addr} {ps : List Addr} {Rs : List (List Int)} {j : Nat} (f : List Int → List Int) (hx : SqL K H a (ps.map V.ref)) (hW : Tws H ps Rs) (hz : ps.length < 1000000)
    (he : ∀ p R H1, R ∈ Rs → H1 p = some (.tup (R.map V.int)) → Ex H H1 → ∀ Q' : VK, (∀ q H2, H1 q = none → Ex H1 H2 → H2 q = some (.lst ((f R).map V.int)) → Q' (.ref q) H2) → te (σ.set j (some (.ref p))) H1 Q')
    (q : ∀ D H' qs, H D = none → Ex H H' → H' D = some (.lst (qs.map V.ref)) → Rws H' qs (Rs.map f) → D ∉ qs → Q (.ref D) H') : Lc (Itl K a) (gName j) tYes te [j] σ H Q := fun D hD =>
  lc_list (xs := ps.map V.ref) (fun i H' => Ex H H' ∧ ∃ qs : List Addr, H' D = some (.lst (qs.map V.ref)) ∧ Rws H' qs ((Rs.take i).map f) ∧ D ∉ qs ∧ qs.length ≤ i) ⟨Evl.Ex.new hD, [], upd_same, trivial, (fun h => by cases h), Nat.le_refl _⟩ (fun i H' _ p => p.1.l hx)
    (fun i x H' hi p => ⟨by show ((σ.set j none).set j (some x)).set j none = σ.set j none; rw [set_set, set_set], by
      show te ((σ.set j none).set j (some x)) H' _
      rw [set_set]
      rw [List.getElem?_map] at hi
      obtain ⟨p', hp', rfl⟩ := Option.map_eq_some_iff.mp hi
      obtain ⟨e, qs, hq, hR, hn, hl⟩ := p
      obtain ⟨R, hRm, hpR⟩ := hW.get hp'
      have hlt : i < ps.length := (List.getElem?_eq_some_iff.mp hp').1
      refine he p' R H' (List.mem_of_getElem? hRm) (e _ _ hpR) e _ fun r H2 hr e2 hr2 => ⟨_, e2 D _ hq, ?_, Evl.Ex.mut (e.trans e2) hD, qs ++ [r], ?_, ?_, ?_, ?_⟩
      · rw [List.length_map]; exact small_lt (by omega)
      · rw [upd_same, List.map_append]; rfl
      · rw [List.take_add_one, hRm, List.map_append]
        have nD : r ≠ D := fun z => by rw [z, hq] at hr; cases hr
        refine Rws.append ?_ ⟨by rw [upd_ne nD]; exact hr2, trivial⟩
        exact (hR.ex e2).exb (l := D) (fun c n o h => by rw [upd_ne n]; exact h) hn
      · intro h
        rcases List.mem_append.mp h with h | h
        · exact hn h
        · rw [List.mem_singleton] at h
          rw [← h, hq] at hr
          cases hr
      · rw [List.length_append]; simp; omega⟩)
    (fun H' p => by
      obtain ⟨e, qs, hq, hR, hn, hl⟩ := p
      rw [List.length_map, hW.len, List.take_length] at hR
      exact q D H' qs hD e hq hR hn)
/-- those of a list of tuples of ints for which a test holds -/
theorem lc_filt {K : PySem.W.Frag} {σ : L2.St} {H : Hp} {tt : TT} {Q : VK} {a : Addr} {ps : List Addr} {Rs : List (List Int)} {j : Nat} (f : List Int → Bool) (hj : j < σ.length) (hx : SqL K H a (ps.map V.ref)) (hW : Tws H ps Rs) (hz : ps.length < 1000000)
    (he : ∀ p R H1, R ∈ Rs → H1 p = some (.tup (R.map V.int)) → Ex H H1 → ∀ Q' : Bool → Hp → Prop, Q' (f R) H1 → tt (σ.set j (some (.ref p))) H1 Q')
    (q : ∀ D H' qs, H D = none → Ex H H' → H' D = some (.lst (qs.map V.ref)) → Tws H' qs (Rs.filter f) → D ∉ qs → Q (.ref D) H') : Lc (Itl K a) (gName j) tt (tVar j) [j] σ H Q := fun D hD =>
  lc_list (xs := ps.map V.ref) (fun i H' => Ex H H' ∧ ∃ qs : List Addr, H' D = some (.lst (qs.map V.ref)) ∧ Tws H' qs ((Rs.take i).filter f) ∧ D ∉ qs ∧ qs.length ≤ i) ⟨Evl.Ex.new hD, [], upd_same, trivial, (fun h => by cases h), Nat.le_refl _⟩ (fun i H' _ p => p.1.l hx)
    (fun i x H' hi p => ⟨by show ((σ.set j none).set j (some x)).set j none = σ.set j none; rw [set_set, set_set], by
      show tt ((σ.set j none).set j (some x)) H' _
      rw [set_set]
      rw [List.getElem?_map] at hi
      obtain ⟨p', hp', rfl⟩ := Option.map_eq_some_iff.mp hi
      obtain ⟨e, qs, hq, hR, hn, hl⟩ := p
      obtain ⟨R, hRm, hpR⟩ := hW.get hp'
      have hlt : i < ps.length := (List.getElem?_eq_some_iff.mp hp').1
      refine he p' R H' (List.mem_of_getElem? hRm) (e _ _ hpR) e _ ?_
      by_cases hf : f R = true
      · rw [if_pos hf]
        refine ⟨.ref p', (by show ((σ.set j none).set j (some (V.ref p')))[j]? = _; rw [set_set, List.getElem?_set_self hj]), _, hq, ?_, Evl.Ex.mut e hD, qs ++ [p'], ?_, ?_, ?_, ?_⟩
        · rw [List.length_map]; exact small_lt (by omega)
        · rw [upd_same, List.map_append]; rfl
        · have nD : p' ≠ D := fun z => by rw [z, hD] at hpR; cases hpR
          rw [List.take_add_one, hRm, List.filter_append]
          refine Tws.append (hR.exb (l := D) (fun c n o h => by rw [upd_ne n]; exact h) hn) ?_
          rw [show (some R).toList.filter f = [R] by simp [hf]]
          exact ⟨by rw [upd_ne nD]; exact e _ _ hpR, trivial⟩
        · intro h
          rcases List.mem_append.mp h with h | h
          · exact hn h
          · rw [List.mem_singleton] at h
            rw [← h, hD] at hpR
            cases hpR
        · rw [List.length_append]; simp; omega
      · rw [if_neg hf]
        refine ⟨e, qs, hq, ?_, hn, by omega⟩
        rw [List.take_add_one, hRm, List.filter_append, show (some R).toList.filter f = [] by simp [hf], List.append_nil]
        exact hR⟩)
    (fun H' p => by
      obtain ⟨e, qs, hq, hR, hn, hl⟩ := p
      rw [List.length_map, hW.len, List.take_length] at hR
      exact q D H' qs hD e hq hR hn)
/-- an and of which the false ways go on alike -/
theorem and_go {t1 t2 : TT} {σ : L2.St} {H : Hp} {Q : Bool → Hp → Prop} (P : Hp → Prop) (go : ∀ H', P H' → Q false H') (h : (∀ H', P H' → Q false H') → t1 σ H fun c H1 => if c = true then t2 σ H1 Q else Q false H1) : tAnd t1 t2 σ H Q := h go
end RB

set_option linter.all false
set_option maxRecDepth 100000
/-! A def that lets no error out, called in an except suite. -/
namespace RB
open PySem PySem.Spec PySem.Calls PyProof.Rows L2
open L2H (RoomH PinOk cxH inv_startH)
theorem roomQ {k : Nat} {A : Around} (r : Room k A) (h : Option Value) : RoomH k (A.mark h) := ⟨r.dp, r.un⟩
/-- what it promises there: the exception that is held stands out of its reach -/
structure FnQ (P : Program) (w : World) (K : PySem.W.Frag) (mg : Str → Option Value) (base : Heap) (k : Nat) (f : Addr) (fd : FuncData) (ps : List Str) (sp : Sp) : Prop where
  len : ∀ vs H Q E, sp vs H Q E → vs.length = ps.length
  run : ∀ (A : Around) (outer : List Env) (s : Shared) (H : Hp) (args : Args) (us : List Value) (vs : List V) (Q : VK) (E : XK) (p : Addr × Obj), RoomH k A → PinOk outer H s p → Env0 P w K mg base A outer s H → BindsTo s fd args (ps.zip us) → Vals vs us → sp vs H Q E →
    codeAny (model P w) A (.call (.ref f) args) (CR CX0 outer P w H s Q E) s
theorem fun_okQ {P : Program} {w : World} {K : PySem.W.Frag} {mg : Str → Option Value} {base : Heap} {x qual : Str} {st : Stmt} {f : Addr} {fd : FuncData} {N ps : List Str} {k : Nat} {sp : Sp} (F : Fun K x qual st f fd) (S : FnScope N ps (defScope st)) (len : ∀ vs H Q E, sp vs H Q E → vs.length = ps.length)
    (hbody : ∀ (cdv : Value) (A : Around) (outer : List Env) (s : Shared) (H : Hp) (vs : List V) (Q : VK) (E : XK) (p : Addr × Obj), RoomH k (A.deeper (envOfC qual (defScope st) s.heap.objs.size f cdv)) → sp vs H Q E →
      ∃ t, PSs (cxH CX0 P w K mg base N qual (defScope st) f cdv A outer s H E p) (defBody st) t ∧ t { nx := fun _ H' => Q .non H', rt := Q } (L2.start N vs) H) : FnQ P w K mg base (k + 1) f fd ps sp := by
  obtain ⟨oc, od, kV, doc, pm, an, cdv, ct, osl, rfl, lk, hcd⟩ := F.ex
  refine ⟨len, fun A outer s H args us vs Q E p hr hpin e0 hb r hsp => ?_⟩
  have hl := len _ _ _ _ hsp
  have KX : K.In s.heap := e0.mod.kin.keeps fun b o e => (e0.bs b o e).1
  have lim : s.heap.NoLimit := e0.mod.nolimit.keeps fun b o e => (e0.bs b o e).1
  have hkind : ∀ y ∈ ps.zip us, (defScope st).names.lookup y.1 = some .local ∨ ((defScope st).names.lookup y.1 = some .cell ∧ ((cellsFrom (s.heap.objs.size + 1) (defScope st).names []).lookup y.1).isSome = true) := fun ⟨n, v⟩ hy => by
    rcases S.par n (List.of_mem_zip hy).1 with q | q
    · exact .inl q
    · exact .inr ⟨q, PySem.W.cellsFrom_some _ _ _ (.inl q)⟩
  refine codeAny_call_function hr.depth (KX _ _ lk) rfl S.co S.gen rfl (PySem.W.codeRec_of KX hcd) (hb _ _ _ _ ?_)
  refine wpAny_newFunctionEnv_cells S.kind hkind fun env he s1 x => ?_
  subst he
  refine ⟨lim.keeps x.toInCall.keep, codeAny_func ?_⟩
  obtain ⟨t, ht, hq⟩ := hbody cdv A outer s H vs Q E p (hr.deeper _) hsp
  have I : Inv (cxH CX0 P w K mg base N qual (defScope st) f cdv A outer s H E p) [] (L2.start N vs) H s1 := inv_startH S hpin e0 hl r x
  refine wpAny_mono (ht.run [] s1 (L2.start N vs) H _ I hq) (fun fl s' hs => ?_) fun e s' hs => hs
  have fin : ∀ {σ' : L2.St} {H' : Hp} {v : V} {u : Value}, Inv (cxH CX0 P w K mg base N qual (defScope st) f cdv A outer s H E p) [] σ' H' s' → RelV v u → Q v H' → CE outer P w H s Q u s' :=
    fun {σ' H' v u} J rv q => ⟨v, H', J.os, J.bare, J.base, J.hok, rv, q⟩
  cases fl with
  | ret u =>
    obtain ⟨v, σ', H', J, rv, q⟩ := hs
    exact fin J rv q
  | next =>
    obtain ⟨σ', H', J, q⟩ := hs
    exact fin (v := V.non) (u := Value.none) J rfl q
  | brk =>
    obtain ⟨_, _, _, q⟩ := hs
    exact False.elim q
  | cont =>
    obtain ⟨_, _, _, q⟩ := hs
    exact False.elim q
section
variable {X : Cx} {k : Nat} {f : Addr} {fd : FuncData} {ps : List Str} {sp : Sp} {x : Str} {q pos : Pos} {e : Expr} {es : List Expr} {t : TA}
theorem pe_callQ (F : FnQ X.prog X.w X.K X.mg X.base k f fd ps sp) (hr : RoomH k X.A) (hc : ∃ p, p ∈ X.pn) (hg : Gl X x) (hm : X.mg x = some (.ref f)) (hk : PySem.W.keepIn X.K (.ref f) = true) (hb : Binds X.K fd ps [])
    (ha : PA X (e :: es) t) (hdb : (x == ("__debug__" : Str)) = false := by decide) (he : starEach (e :: es) X.env = (false, eval e X.env) :: starEach es X.env := by rfl) (hpl : (backTo pos (starEach es X.env)).any (·.1) = false := by rfl) :
    PE X (.Call (.Name x q) (e :: es) [] pos) (tCall sp [] E0 t) := by
  refine ⟨fun pins s σ H Q I h => ?_⟩
  refine wpAny_Call_Name_kw (ld_glob I hg hm ?_ hdb)
  refine PySem.W.callWith_K (h₀ := X.base) I.ok.mod.kin hk (thn (ha.run pos pins s σ H _ I h) fun us s1 ⟨vs, H1, I1, r, q1⟩ => ⟨I1.kIn, ?_⟩) he hpl
  have q1 : sp (vs ++ []) H1 Q E0 := q1
  rw [List.append_nil] at q1
  obtain ⟨p, hp⟩ := hc
  have hl : us.length = ps.length := by rw [← r.length]; exact F.len _ _ _ _ q1
  have b := hb s1 us I1.kIn (by rw [List.append_nil]; exact hl)
  rw [List.append_nil] at b
  have P1 := I1.pin p (List.mem_append_left _ hp)
  have hpin : PinOk X.stack H1 s1 p := ⟨P1.1, P1.2.1, fun hm => (List.mem_cons.mp (I1.stkSub p.1 hm)).elim P1.2.2.1 P1.2.2.2.1, P1.2.2.2.2⟩
  refine wpAny_call (codeAny_mono (F.run X.A X.stack s1 H1 ⟨us, []⟩ us vs Q E0 p hr hpin I1.env0 b r q1) fun r s' hq => ?_)
  cases r with
  | error e => exact False.elim hq
  | ok fl =>
    cases fl with
    | ret u => exact I1.after hq
    | next => exact False.elim hq
    | brk => exact False.elim hq
    | cont => exact False.elim hq
end
end RB

set_option linter.all false
set_option maxRecDepth 100000
set_option maxHeartbeats 4000000
set_option exponentiation.threshold 100000
namespace RP
open PySem PySem.Spec PyProof.Rows L2 RB
open Evl (Ex rLenS rListS rMax2 tCut pss_cut)
local macro_rules | `(tactic| walk_at "ir") => `(tactic| first
  | assumption
  | exact IsR.ex (by assumption) (by walk_at "ir"))
local macro_rules | `(tactic| walk_at "hp") => `(tactic| first
  | assumption
  | exact hx_e (by assumption) (by walk_at "hp")
  | exact hx_b (by assumption) (by walk_at "ne") (by walk_at "hp"))
local macro_rules | `(tactic| walk_at "ne") => `(tactic| first
  | assumption
  | exact Ne.symm (by assumption)
  | exact ne_1 (by assumption) (by walk_at "hp")
  | exact ne_2 (by assumption) (by walk_at "hp"))
local macro_rules | `(tactic| walk_at "sq") => `(tactic| first
  | assumption
  | exact Fx.l (by assumption) (by assumption)
  | exact Evl.Ex.l (by assumption) (by assumption)
  | exact SqL.inj (by walk_at "hp"))
local macro_rules | `(tactic| walk_at "rd") => `(tactic| repeat (first
  | with_reducible refine r_seq ?_
  | with_reducible refine r_asg ?_
  | with_reducible refine r_gn ?_
  | ((with_reducible refine' r_var ?h ?_); (case h => exact rfl))
  | with_reducible refine r_c ?_
  | with_reducible refine r_op ?_
  | with_reducible refine r_un ?_
  | with_reducible refine r_add ?_
  | with_reducible refine r_sub ?_
  | ((with_reducible refine' r_pow ?h ?_); (case h => exact ⟨by decide, by decide, by decide⟩))
  | ((with_reducible refine' r_mod ?h ?_); (case h => first | decide | omega))
  | ((with_reducible refine' r_div ?h ?_); (case h => exact ⟨by decide, by decide⟩))
  | with_reducible refine r_lc ?_
  | ((with_reducible refine' r_cListA ?h ?_); (case h => walk_at "sq"))
  | with_reducible refine r_lt ?_
  | with_reducible refine r_le ?_
  | with_reducible refine r_gt ?_
  | with_reducible refine r_ge ?_
  | with_reducible refine r_eqI ?_
  | with_reducible refine r_neI ?_
  | with_reducible refine r_eqB ?_
  | with_reducible refine r_eqS ?_
  | with_reducible refine r_neg ?_
  | with_reducible refine r_ret ?_
  | with_reducible refine r_retN ?_
  | with_reducible refine r_ifS ?_
  | with_reducible refine r_test ?_
  | with_reducible refine r_B ?_
  | with_reducible refine r_bl ?_
  | with_reducible refine r_int ?_
  | with_reducible refine r_cb ?_
  | with_reducible refine r_cons ?_
  | with_reducible refine r_nil ?_
  | with_reducible refine r_abs ?_
  | with_reducible refine r_max2 ?_
  | with_reducible refine r_min2 ?_
  | ((with_reducible refine' r_lenI ?h ?_); (case h => walk_at "sq"))
  | ((with_reducible refine' r_len ?h ?_); (case h => walk_at "sq"))
  | with_reducible refine r_tru ?_
  | with_reducible refine r_rev ?_
  | with_reducible refine r_iRng3 ?_
  | ((with_reducible refine' r_ixL ?h ?a ?_); (case h => walk_at "sq"); (case a => assumption))
  | ((with_reducible refine' r_ixT ?h ?a ?_); (case h => walk_at "sq"); (case a => assumption))
  | with_reducible refine r_intI ?_
  | with_reducible refine r_intB ?_
  | with_reducible refine r_call ?_
  | with_reducible refine r_lst ?_
  | with_reducible refine r_tup ?_
  | with_reducible refine r_drop ?_
  | with_reducible refine r_and ?_
  | with_reducible refine r_or ?_
  | with_reducible refine r_not ?_
  | with_reducible refine r_andV ?_
  | with_reducible refine r_orV ?_
  | with_reducible refine r_notV ?_
  | with_reducible refine r_if ?_
  | with_reducible refine r_bm ?_
  | with_reducible refine r_bm0 ?_
  | with_reducible refine r_sub_ ?_
  | with_reducible refine r_sl ?_
  | with_reducible refine r_part ?_
  | with_reducible refine r_nopart ?_
  | with_reducible refine r_par ?_
  | with_reducible refine r_par2 ?_
  | with_reducible refine r_for ?_
  | with_reducible refine r_iList ?_
  | ((with_reducible refine' r_iListA ?h ?_); (case h => walk_at "sq"))
  | with_reducible refine r_iTup ?_
  | ((with_reducible refine' r_iTupA ?h ?_); (case h => walk_at "sq"))
  | with_reducible refine r_iRng1 ?_
  | with_reducible refine r_iRng2 ?_
  | with_reducible refine r_iRev ?_
  | ((with_reducible refine' r_iRevA ?h ?_); (case h => walk_at "sq"))
  | with_reducible refine r_iEnum ?_
  | ((with_reducible refine' r_iEnumA ?h ?_); (case h => walk_at "sq"))
  | with_reducible refine r_iRevR ?_
  | with_reducible refine r_rg1 ?_
  | with_reducible refine r_make ?_
  | with_reducible refine r_fld ?_
  | with_reducible refine r_sfld ?_
  | with_reducible refine r_meth ?_
  | ((with_reducible refine' r_top ?c ?n ?h ?_); (case c => assumption); (case n => assumption); (case h => walk_at "ir"))
  | ((with_reducible refine' r_bottom ?c ?n ?h ?_); (case c => assumption); (case n => assumption); (case h => walk_at "ir"))
  | ((with_reducible refine' r_methR ?h ?h1 ?h2 ?_); (case h => walk_at "ir"); (case h1 => decide +kernel); (case h2 => decide +kernel))
  | with_reducible refine r_next ?_
  | ((with_reducible refine' r_ty ?h ?_); (case h => exact tyL (by walk_at "hp")))
  | with_reducible refine i_t ?_
  | with_reducible refine i_f ?_
  | with_reducible refine i_nt ?_
  | with_reducible refine i_nf ?_
  | walk_at "call"))
structure ExT (K : PySem.W.Frag) (Cof : String → Addr) : Prop where
  v_RootError : PySem.W.kitOne K (.ref (Cof "RootError")) (.type "ValueError") = some true
  c_RootError : ExcC K (Cof "RootError")
  m_RootError_RootError : PySem.W.exmOne K (.ref (Cof "RootError")) (.ref (Cof "RootError")) = some true
  i_RootError_RootError : PySem.W.kitOne K (.ref (Cof "RootError")) (.ref (Cof "RootError")) = some true
  m_RootError_NoRow : PySem.W.exmOne K (.ref (Cof "RootError")) (.ref (Cof "NoRow")) = some false
  i_RootError_NoRow : PySem.W.kitOne K (.ref (Cof "RootError")) (.ref (Cof "NoRow")) = some false
  m_RootError_NoText : PySem.W.exmOne K (.ref (Cof "RootError")) (.ref (Cof "NoText")) = some false
  i_RootError_NoText : PySem.W.kitOne K (.ref (Cof "RootError")) (.ref (Cof "NoText")) = some false
  m_RootError_NoName : PySem.W.exmOne K (.ref (Cof "RootError")) (.ref (Cof "NoName")) = some false
  i_RootError_NoName : PySem.W.kitOne K (.ref (Cof "RootError")) (.ref (Cof "NoName")) = some false
  v_NoRow : PySem.W.kitOne K (.ref (Cof "NoRow")) (.type "ValueError") = some true
  c_NoRow : ExcC K (Cof "NoRow")
  m_NoRow_RootError : PySem.W.exmOne K (.ref (Cof "NoRow")) (.ref (Cof "RootError")) = some true
  i_NoRow_RootError : PySem.W.kitOne K (.ref (Cof "NoRow")) (.ref (Cof "RootError")) = some true
  m_NoRow_NoRow : PySem.W.exmOne K (.ref (Cof "NoRow")) (.ref (Cof "NoRow")) = some true
  i_NoRow_NoRow : PySem.W.kitOne K (.ref (Cof "NoRow")) (.ref (Cof "NoRow")) = some true
  m_NoRow_NoText : PySem.W.exmOne K (.ref (Cof "NoRow")) (.ref (Cof "NoText")) = some false
  i_NoRow_NoText : PySem.W.kitOne K (.ref (Cof "NoRow")) (.ref (Cof "NoText")) = some false
  m_NoRow_NoName : PySem.W.exmOne K (.ref (Cof "NoRow")) (.ref (Cof "NoName")) = some false
  i_NoRow_NoName : PySem.W.kitOne K (.ref (Cof "NoRow")) (.ref (Cof "NoName")) = some false
  v_NoText : PySem.W.kitOne K (.ref (Cof "NoText")) (.type "ValueError") = some true
  c_NoText : ExcC K (Cof "NoText")
  oe_NoText : OexC K (Cof "NoText")
  m_NoText_RootError : PySem.W.exmOne K (.ref (Cof "NoText")) (.ref (Cof "RootError")) = some true
  i_NoText_RootError : PySem.W.kitOne K (.ref (Cof "NoText")) (.ref (Cof "RootError")) = some true
  m_NoText_NoRow : PySem.W.exmOne K (.ref (Cof "NoText")) (.ref (Cof "NoRow")) = some false
  i_NoText_NoRow : PySem.W.kitOne K (.ref (Cof "NoText")) (.ref (Cof "NoRow")) = some false
  m_NoText_NoText : PySem.W.exmOne K (.ref (Cof "NoText")) (.ref (Cof "NoText")) = some true
  i_NoText_NoText : PySem.W.kitOne K (.ref (Cof "NoText")) (.ref (Cof "NoText")) = some true
  m_NoText_NoName : PySem.W.exmOne K (.ref (Cof "NoText")) (.ref (Cof "NoName")) = some false
  i_NoText_NoName : PySem.W.kitOne K (.ref (Cof "NoText")) (.ref (Cof "NoName")) = some false
  v_NoName : PySem.W.kitOne K (.ref (Cof "NoName")) (.type "ValueError") = some true
  m_NoName_RootError : PySem.W.exmOne K (.ref (Cof "NoName")) (.ref (Cof "RootError")) = some true
  i_NoName_RootError : PySem.W.kitOne K (.ref (Cof "NoName")) (.ref (Cof "RootError")) = some true
  m_NoName_NoRow : PySem.W.exmOne K (.ref (Cof "NoName")) (.ref (Cof "NoRow")) = some false
  i_NoName_NoRow : PySem.W.kitOne K (.ref (Cof "NoName")) (.ref (Cof "NoRow")) = some false
  m_NoName_NoText : PySem.W.exmOne K (.ref (Cof "NoName")) (.ref (Cof "NoText")) = some false
  i_NoName_NoText : PySem.W.kitOne K (.ref (Cof "NoName")) (.ref (Cof "NoText")) = some false
  m_NoName_NoName : PySem.W.exmOne K (.ref (Cof "NoName")) (.ref (Cof "NoName")) = some true
  i_NoName_NoName : PySem.W.kitOne K (.ref (Cof "NoName")) (.ref (Cof "NoName")) = some true
  cl_Marks : Cls K (Cof "Marks")
  is_Marks : InsC K (Cof "Marks")
  n_Marks_depth : NoAttr K (Cof "Marks") "depth"
  n_Marks_row : NoAttr K (Cof "Marks") "row"
  n_Marks_spot : NoAttr K (Cof "Marks") "spot"
  n_NoText_at : PySem.W.findIn K (.ref (Cof "NoText")) "at" = some none

/-! #### NoText.__init__ -/
--USE RK
def sp_NoText___init__ (K : PySem.W.Frag) (Cof : String → Addr) : Sp := FldI (Cof "NoText") "at"
def t_NoText___init__ (K : PySem.W.Frag) (Cof : String → Addr) (E : XK) : TS :=
  tOst K "at" (tVar 0) (tVar 1)

section
variable {K : PySem.W.Frag} {Cof : String → Addr} {vs : List V} {H : Hp} {Q : VK} {E : XK}
theorem len_NoText___init__ (h : sp_NoText___init__ K Cof vs H Q E) : vs.length = 2 := by
  obtain ⟨a, y, rfl, _⟩ := h; rfl
theorem rd_NoText___init__ (X : ExT K Cof) (h : sp_NoText___init__ K Cof vs H Q E) : t_NoText___init__ K Cof E { nx := fun _ H' => Q .non H', rt := Q } (start ["self", "at"] vs) H := by
  obtain ⟨a, y, rfl, hA, q⟩ := h
  unfold t_NoText___init__
  exact ⟨y, rfl, .ref a, rfl, a, Cof "NoText", rfl, X.oe_NoText, X.n_NoText_at, .inl ⟨hA, fun dx hd hn => q dx hd hn⟩⟩
end

/-! #### poly -/
--USE ML
def sp_poly (K : PySem.W.Frag) (Cof : String → Addr) : Sp := fun vs H Q _ => ∃ (a : Addr) (ns : List Int), vs = [.ref a] ∧ SqL K H a (ns.map V.int) ∧ ns.length ≤ 1000000 ∧ RetI (ML.trimL ns) H Q
def t_poly (K : PySem.W.Frag) (Cof : String → Addr) (E : XK) : TS :=
  tSeq (tAsg (tCB (rLenS K) (tCons (tVar 0) (tNil))) (gName 1))
  (tSeq (tWhile (tAnd (tTest (tOp rGt (tVar 1) (tC (.int 0)))) (tTest (tOp rEq (tOp (rIxL K) (tVar 0) (tOp rISub (tVar 1) (tC (.int 1)))) (tC (.int 0))))) (tAsg (tOp rISub (tVar 1) (tC (.int 1))) (gName 1)))
  (tRet (tSl (rSlL K) (tVar 0) (tNoPart) (tPart (tVar 1)))))

section
variable {K : PySem.W.Frag} {Cof : String → Addr} {vs : List V} {H : Hp} {Q : VK} {E : XK}
theorem len_poly (h : sp_poly K Cof vs H Q E) : vs.length = 1 := by
  obtain ⟨a, ns, rfl, _⟩ := h; rfl
theorem rd_poly (h : sp_poly K Cof vs H Q E) : t_poly K Cof E { nx := fun _ H' => Q .non H', rt := Q } (start ["row", "size"] vs) H := by
  obtain ⟨a, ns, rfl, hS, hl, q⟩ := h
  unfold t_poly
  walk_at "rd"
  try rw [List.length_map]
  refine r_while (fun m σ' H' => σ' = [some (.ref a), some (.int (m : Int))] ∧ H' = H ∧ m ≤ ns.length ∧ ∀ k, m ≤ k → ML.cf ns k = 0) ns.length ⟨rfl, rfl, Nat.le_refl _, fun k hk => ML.cf_beyond hk⟩ (fun m σ' H' hw => ?_)
  obtain ⟨rfl, rfl, hm, h0⟩ := hw
  walk_at "rd"
  refine ite_d (fun hp => ?_) (fun hp => ?_)
  · walk_at "rd"
    refine r_ixI hS (by omega) (by omega) ?_
    walk_at "rd"
    have e : ns.getD ((m : Int) - 1).toNat 0 = ML.cf ns (m - 1) := by
      unfold ML.cf; congr 1; omega
    rw [e]
    refine ite_d (fun hz => wh_in ?_) (fun hz => ?_)
    · walk_at "rd"
      have e1 : (m : Int) - 1 = ((m - 1 : Nat) : Int) := by omega
      exact ⟨m - 1, by omega, by rw [e1]; rfl, rfl, by omega, fun k hk => by
        by_cases hk' : k = m - 1
        · rw [hk', hz]
        · exact h0 k (by omega)⟩
    · walk_at "rd"
      refine r_slI hS fun p H' hp e h => q p H' hp e ?_
      rw [ML.trimL_take hm h0 (.inr hz), ← sliceI_to hm]
      exact h
  · walk_at "rd"
    refine r_slI hS fun p H' hp e h => q p H' hp e ?_
    rw [ML.trimL_take hm h0 (.inl (by omega)), ← sliceI_to hm]
    exact h
theorem c_poly {a : Addr} {ns : List Int} (h : SqL K H a (ns.map V.int)) (hl : ns.length ≤ 1000000) (q : ∀ p H', H p = none → Ex H H' → H' p = some (.lst ((ML.trimL ns).map V.int)) → Q (.ref p) H') : sp_poly K Cof [.ref a] H Q E := ⟨a, ns, rfl, h, hl, q⟩
end

/-! #### run_of -/
--USE TM
def sp_run_of (K : PySem.W.Frag) (Cof : String → Addr) : Sp := fun vs H Q _ => ∃ (l z : List Nat) (i : Nat), vs = [.str (TX.sS l), .int (i : Int), .str (TX.sS z)] ∧ i ≤ l.length ∧ l.length ≤ 1000000 ∧ Q (.int (TX.run (fun c => decide (c ∈ z)) (l.drop i) : Nat)) H
def t_run_of (K : PySem.W.Frag) (Cof : String → Addr) (E : XK) : TS :=
  tSeq (tAsg (tC (.int 0)) (gName 3))
  (tSeq (tWhile (tAnd (tTest (tOp rLt (tOp rIAdd (tVar 1) (tVar 3)) (tCB rLenStr (tCons (tVar 0) (tNil))))) (tTest (tOp rInT (tOp rIxS (tVar 0) (tOp rIAdd (tVar 1) (tVar 3))) (tVar 2)))) (tAsg (tOp rIAdd (tVar 3) (tC (.int 1))) (gName 3)))
  (tRet (tVar 3)))

section
variable {K : PySem.W.Frag} {Cof : String → Addr} {vs : List V} {H : Hp} {Q : VK} {E : XK}
theorem len_run_of (h : sp_run_of K Cof vs H Q E) : vs.length = 3 := by
  obtain ⟨l, z, i, rfl, _⟩ := h; rfl
theorem rd_run_of (h : sp_run_of K Cof vs H Q E) : t_run_of K Cof E { nx := fun _ H' => Q .non H', rt := Q } (start ["text", "at", "signs", "size"] vs) H := by
  obtain ⟨l, z, i, rfl, hi, hl, q⟩ := h
  unfold t_run_of
  walk_at "rd"
  refine r_while (fun m σ' H' => ∃ s : Nat, σ' = [some (.str (TX.sS l)), some (.int (i : Int)), some (.str (TX.sS z)), some (.int (s : Int))] ∧ H' = H ∧ m = l.length - (i + s) ∧ i + s ≤ l.length ∧ TX.run (fun c => decide (c ∈ z)) (l.drop i) = s + TX.run (fun c => decide (c ∈ z)) (l.drop (i + s))) (l.length - i) ⟨0, rfl, rfl, by omega, by omega, by simp⟩ (fun m σ' H' hw => ?_)
  obtain ⟨s, rfl, rfl, rfl, hs, e⟩ := hw
  walk_at "rd"
  refine r_lenT' (by omega) ?_
  walk_at "rd"
  refine ite_d (fun hc => ?_) (fun hc => ?_)
  · walk_at "rd"
    refine r_ixS (by omega) (by omega) (by omega) ?_
    walk_at "rd"
    refine r_inSg ?_
    walk_at "rd"
    have en : ((i : Int) + (s : Int)).toNat = i + s := by omega
    rw [en]
    have ed := drop_at (l := l) (i := i + s) (by omega)
    rw [ed, run_cons] at e
    refine ite_d (fun hm => wh_in ?_) (fun hm => ?_)
    · walk_at "rd"
      rw [if_pos (by simpa using hm)] at e
      exact ⟨_, by omega, s + 1, rfl, rfl, rfl, by omega, by rw [show i + (s + 1) = i + s + 1 by omega]; omega⟩
    · walk_at "rd"
      rw [if_neg (by simpa using hm)] at e
      rw [show (s : Int) = ((s + 0 : Nat) : Int) from rfl, ← e]
      exact q
  · walk_at "rd"
    rw [List.drop_eq_nil_of_le (show l.length ≤ i + s by omega), run_nil] at e
    rw [show (s : Int) = ((s + 0 : Nat) : Int) from rfl, ← e]
    exact q
theorem c_run_of {l z : List Nat} {i : Nat} {y : Str} {p : Nat → Bool} (hy : y = TX.sS z) (hp : ∀ c, p c = decide (c ∈ z)) (hi : i ≤ l.length) (hl : l.length ≤ 1000000) (q : Q (.int (TX.run p (l.drop i) : Nat)) H) : sp_run_of K Cof [.str (TX.sS l), .int (i : Int), .str y] H Q E := ⟨l, z, i, by rw [hy], hi, hl, by rw [← funext hp]; exact q⟩
end

/-! #### marks_of -/
--USE TM
def sp_marks_of (K : PySem.W.Frag) (Cof : String → Addr) : Sp := fun vs H Q _ => ∃ (l : List Nat), vs = [.str (TX.sS l)] ∧ l.length ≤ 1000000 ∧ ∀ (r : Addr) (ps : List Addr) (H' : Hp), H r = none → Ex H H' → H' r = some (.lst (ps.map V.ref)) → MkP H' ps (TX.marks l 0) → Q (.ref r) H'
def t_marks_of (K : PySem.W.Frag) (Cof : String → Addr) (E : XK) : TS :=
  tSeq (tAsg (tLst (tNil)) (gName 1))
  (tSeq (tAsg (tC (.int 0)) (gName 2))
  (tSeq (tWhile (tTest (tOp rLt (tVar 2) (tCB rLenStr (tCons (tVar 0) (tNil))))) (tSeq (tAsg (tCB (rNuC3 nuMax3) (tCons (tC (.int 1)) (tCons (tCall (sp_run_of K Cof) [] E0 (tCons (tVar 0) (tCons (tVar 2) (tCons (tC (.str "0123456789")) (tNil))))) (tCons (tCall (sp_run_of K Cof) [] E0 (tCons (tVar 0) (tCons (tVar 2) (tCons (tC (.str "abcdefghijklmnopqrstuvwxyz")) (tNil))))) (tNil))))) (gName 3))
  (tCut (tIfS (tTest (tOp rEq (tSl rSlS (tVar 0) (tPart (tVar 2)) (tPart (tOp rIAdd (tVar 2) (tC (.int 2))))) (tC (.str "..")))) (tAsg (tC (.int 2)) (gName 3)) (tNext))
  (tCut (tIfS (tTest (tOp rNe (tOp rIxS (tVar 0) (tVar 2)) (tC (.str " ")))) (tDrop (tBM K "list" rAppend (tVar 1) (tCons (tTup (tCons (tSl rSlS (tVar 0) (tPart (tVar 2)) (tPart (tOp rIAdd (tVar 2) (tVar 3)))) (tCons (tVar 2) (tNil)))) (tNil)))) (tNext))
  (tAsg (tOp rIAdd (tVar 2) (tVar 3)) (gName 2))))))
  (tSeq (tDrop (tBM K "list" rAppend (tVar 1) (tCons (tTup (tCons (tC (.str "")) (tCons (tCB rLenStr (tCons (tVar 0) (tNil))) (tNil)))) (tNil))))
  (tRet (tVar 1)))))

section
variable {K : PySem.W.Frag} {Cof : String → Addr} {vs : List V} {H : Hp} {Q : VK} {E : XK}
theorem len_marks_of (h : sp_marks_of K Cof vs H Q E) : vs.length = 1 := by
  obtain ⟨l, rfl, _⟩ := h; rfl
theorem rd_marks_of (h : sp_marks_of K Cof vs H Q E) : t_marks_of K Cof E { nx := fun _ H' => Q .non H', rt := Q } (start ["text", "found", "at", "size"] vs) H := by
  obtain ⟨l, rfl, hl, q⟩ := h
  unfold t_marks_of
  walk_at "rd"
  refine r_lstK fun r H1 hr e1 h1 => ?_
  walk_at "rd"
  refine r_while (fun m σ' H' => ∃ (i : Nat) (u : Option V) (ps : List Addr) (L : List TX.Mk), σ' = [some (.str (TX.sS l)), some (.ref r), some (.int (i : Int)), u] ∧ Ex H H' ∧ H' r = some (.lst (ps.map V.ref)) ∧ MkP H' ps L ∧ m = l.length - i ∧ i ≤ l.length ∧ TX.marks l 0 = L ++ TX.marks (l.drop i) i ∧ L.length ≤ i) l.length ⟨0, none, [], [], rfl, e1, h1, trivial, by omega, by omega, rfl, by simp⟩ (fun m σ' H' hw => ?_)
  obtain ⟨i, u, ps, L, rfl, x1, hr1, hP, rfl, hi, em, lL⟩ := hw
  have lps := hP.len
  walk_at "rd"
  refine r_lenT' (by omega) ?_
  walk_at "rd"
  refine ite_d (fun hc => wh_in ?_) (fun hc => ?_)
  · have hc' : i < l.length := by omega
    have nd : l.drop i ≠ [] := fun z => by
      have := congrArg List.length z
      rw [List.length_drop] at this
      simp at this; omega
    walk_at "rd"
    refine c_run_of lit_figs fig_in (by omega) hl ?_
    walk_at "rd"
    refine c_run_of lit_letts lett_in (by omega) hl ?_
    walk_at "rd"
    refine r_max3 ?_
    walk_at "rd"
    refine ⟨fun σ2 H2 => σ2 = [some (.str (TX.sS l)), some (.ref r), some (.int (i : Int)), some (.int (TX.sizeAt (l.drop i) : Nat))] ∧ H2 = H', ?_, fun σ2 H2 hM => ?_⟩
    · walk_at "rd"
      refine r_slT (by omega) (by omega) (by omega) ?_
      walk_at "rd"
      rw [eq_lit lit_dd, show ((i : Int) + 2).toNat - (i : Int).toNat = 2 by omega, Int.toNat_natCast]
      refine ite_d (fun h => ?_) (fun h => ?_)
      · walk_at "rd"
        exact ⟨by unfold TX.sizeAt; rw [if_pos h]; rfl, rfl⟩
      · walk_at "rd"
        refine ⟨?_, rfl⟩
        unfold TX.sizeAt
        rw [if_neg h]
        have e2 : max (1 : Int) (max (TX.run TX.fig (l.drop i) : Nat) (TX.run TX.lett (l.drop i) : Nat)) = ((max 1 (max (TX.run TX.fig (l.drop i)) (TX.run TX.lett (l.drop i))) : Nat) : Int) := by omega
        rw [← e2]; rfl
    obtain ⟨rfl, rfl⟩ := hM
    have sp1 := TX.size_pos (l.drop i)
    have sp2 := TX.size_le nd
    rw [List.length_drop] at sp2
    refine ⟨fun σ3 H3 => σ3 = [some (.str (TX.sS l)), some (.ref r), some (.int (i : Int)), some (.int (TX.sizeAt (l.drop i) : Nat))] ∧ ∃ (ps : List Addr) (L : List TX.Mk), Ex H H3 ∧ H3 r = some (.lst (ps.map V.ref)) ∧ MkP H3 ps L ∧ TX.marks l 0 = L ++ TX.marks (l.drop (i + TX.sizeAt (l.drop i))) (i + TX.sizeAt (l.drop i)) ∧ L.length ≤ i + 1, ?_, fun σ3 H3 hM => ?_⟩
    · walk_at "rd"
      refine r_ixS (by omega) (by omega) (by omega) ?_
      walk_at "rd"
      refine r_neTl lit_b ?_
      rw [TX.marks_eq nd, List.drop_drop] at em
      have hd : (l.drop i).head? = some (l.getD i 0) := by rw [drop_at hc']; rfl
      rw [hd] at em
      rw [Int.toNat_natCast]
      refine ⟨_, rfl, ?_⟩
      by_cases hb : l.getD i 0 = 32
      · rw [hb, if_pos rfl, List.nil_append] at em
        rw [hb]
        refine i_nt ?_
        walk_at "rd"
        exact ⟨rfl, ps, L, x1, hr1, hP, em, by omega⟩
      · rw [if_neg (fun z => hb (Option.some.inj z))] at em
        rw [decide_eq_false (fun z => hb (List.head_eq_of_cons_eq z))]
        walk_at "rd"
        refine r_slT (by omega) (by omega) (by omega) ?_
        walk_at "rd"
        refine r_tupK fun p H3 hp e3 h3 => ?_
        walk_at "rd"
        refine r_append (e3 _ _ hr1) (by rw [List.length_map]; exact small_lt (by omega)) fun H4 b4 h4 => ?_
        walk_at "rd"
        have np : p ≠ r := fun z => by rw [z] at hp; rw [hp] at hr1; cases hr1
        have nr : r ∉ ps := fun z => by
          obtain ⟨_, hz⟩ := hP.mem z
          rw [hr1] at hz; cases hz
        refine ⟨rfl, ps ++ [p], L ++ [((l.drop i).take (TX.sizeAt (l.drop i)), i)], (x1.trans e3).mutb b4 hr, ?_, ?_, ?_, ?_⟩
        · rw [List.map_append]; exact h4
        · refine MkP.append ((hP.ex e3).exb b4 nr) ⟨?_, trivial⟩
          have := b4 p np _ h3
          rw [show ((i : Int) + (TX.sizeAt (l.drop i) : Nat)).toNat - (i : Int).toNat = TX.sizeAt (l.drop i) by omega, Int.toNat_natCast] at this
          exact this
        · rw [em, List.append_assoc]
        · rw [List.length_append]; show L.length + 1 ≤ _; omega
    obtain ⟨rfl, ps, L, x3, hr3, hP3, em3, lL3⟩ := hM
    walk_at "rd"
    exact ⟨_, by omega, i + TX.sizeAt (l.drop i), _, ps, L, rfl, x3, hr3, hP3, rfl, by omega, em3, by omega⟩
  · have : l.drop i = [] := List.drop_eq_nil_of_le (by omega)
    rw [this, TX.marks_nil] at em
    walk_at "rd"
    refine r_lenT' (by omega) ?_
    walk_at "rd"
    refine r_tupK fun p H3 hp e3 h3 => ?_
    walk_at "rd"
    refine r_append (e3 _ _ hr1) (by rw [List.length_map]; exact small_lt (by omega)) fun H4 b4 h4 => ?_
    walk_at "rd"
    have np : p ≠ r := fun z => by rw [z] at hp; rw [hp] at hr1; cases hr1
    have nr : r ∉ ps := fun z => by
      obtain ⟨_, hz⟩ := hP.mem z
      rw [hr1] at hz; cases hz
    refine q r (ps ++ [p]) H4 hr ((x1.trans e3).mutb b4 hr) (by rw [List.map_append]; exact h4) ?_
    rw [em]
    refine MkP.append ((hP.ex e3).exb b4 nr) ⟨?_, trivial⟩
    have h5 := b4 p np _ h3
    rw [h5, lit_e, show i = l.length by omega]
theorem c_marks_of {l : List Nat} (hl : l.length ≤ 1000000) (q : ∀ (r : Addr) (ps : List Addr) (H' : Hp), H r = none → Ex H H' → H' r = some (.lst (ps.map V.ref)) → MkP H' ps (TX.marks l 0) → Q (.ref r) H') : sp_marks_of K Cof [.str (TX.sS l)] H Q E := ⟨l, rfl, hl, q⟩
end

/-! #### is_whole -/
--USE TM
def sp_is_whole (K : PySem.W.Frag) (Cof : String → Addr) : Sp := fun vs H Q _ => ∃ (w : List Nat), vs = [.str (TX.sS w)] ∧ w.length ≤ 1000000 ∧ Q (.bl (TX.whole w)) H
def t_is_whole (K : PySem.W.Frag) (Cof : String → Addr) (E : XK) : TS :=
  tRet (tOrV (tOp rEq (tVar 0) (tC (.str "0"))) (tAndV (tOp rNe (tSl rSlS (tVar 0) (tNoPart) (tPart (tC (.int 1)))) (tC (.str "0"))) (tChain rEq rGt (tCall (sp_run_of K Cof) [] E0 (tCons (tVar 0) (tCons (tC (.int 0)) (tCons (tC (.str "0123456789")) (tNil))))) (tCB rLenStr (tCons (tVar 0) (tNil))) (tC (.int 0)))))

section
variable {K : PySem.W.Frag} {Cof : String → Addr} {vs : List V} {H : Hp} {Q : VK} {E : XK}
theorem len_is_whole (h : sp_is_whole K Cof vs H Q E) : vs.length = 1 := by
  obtain ⟨w, rfl, _⟩ := h; rfl
theorem run_all (p : Nat → Bool) : ∀ w : List Nat, decide ((TX.run p w : Int) = w.length) = w.all p
  | [] => rfl
  | c :: w => by
    have := run_all p w
    rw [run_cons, List.all_cons]
    cases h : p c with
    | true =>
      rw [if_pos rfl, Bool.true_and, ← this]
      refine decide_eq_decide.mpr ?_
      rw [List.length_cons]; omega
    | false =>
      rw [if_neg (by simp), Bool.false_and, decide_eq_false]
      rw [List.length_cons]; omega
theorem rd_is_whole (h : sp_is_whole K Cof vs H Q E) : t_is_whole K Cof E { nx := fun _ H' => Q .non H', rt := Q } (start ["mark"] vs) H := by
  obtain ⟨w, rfl, hl, q⟩ := h
  unfold t_is_whole
  unfold TX.whole at q
  walk_at "rd"
  rw [eq_lit lit_0]
  refine ite_d (fun h => ?_) (fun h => ?_)
  · rw [decide_eq_true h, Bool.true_or] at q; exact q
  rw [decide_eq_false h, Bool.false_or] at q
  walk_at "rd"
  refine r_slT1 (by omega) (by omega) ?_
  walk_at "rd"
  have e1 : (w.take (1 : Int).toNat = [48]) ↔ ¬ (w.head? ≠ some 48) := by
    cases w with
    | nil => simp
    | cons c w => simp
  refine r_neTl lit_0 ?_
  refine ⟨_, rfl, ?_⟩
  by_cases hz : w.take (1 : Int).toNat = [48]
  · rw [decide_eq_false (e1.mp hz), Bool.false_and] at q
    rw [decide_eq_true hz]
    exact q
  rw [decide_eq_true (Classical.not_not.mp (mt e1.mpr hz)), Bool.true_and] at q
  rw [decide_eq_false hz]
  walk_at "rd"
  refine r_chain ?_
  walk_at "rd"
  refine c_run_of (i := 0) lit_figs fig_in (by omega) hl ?_
  walk_at "rd"
  refine r_lenT' (by omega) ?_
  refine r_eqI ?_
  rw [List.drop_zero, run_all]
  refine ⟨_, rfl, ?_⟩
  cases ha : w.all TX.fig with
  | true =>
    walk_at "rd"
    rw [ha, Bool.true_and] at q
    have : decide ((0 : Int) < (w.length : Int)) = decide (w ≠ []) := decide_eq_decide.mpr ⟨fun h z => by rw [z] at h; simp at h, fun h => by have := List.length_pos_iff.mpr h; omega⟩
    rw [this]; exact q
  | false =>
    rw [ha, Bool.false_and] at q
    exact q
theorem c_is_whole {w : List Nat} (hl : w.length ≤ 1000000) (q : Q (.bl (TX.whole w)) H) : sp_is_whole K Cof [.str (TX.sS w)] H Q E := ⟨w, rfl, hl, q⟩
end

/-! #### Marks.__init__ -/
--USE TM
def sp_Marks___init__ (K : PySem.W.Frag) (Cof : String → Addr) : Sp := fun vs H Q _ => ∃ (x dx : Addr) (l : List Nat), vs = [.ref x, .str (TX.sS l)] ∧ H x = some (.ins (Cof "Marks") dx []) ∧ l.length ≤ 600 ∧ ∀ H', Exb x H H' → MkR (Cof "Marks") H' x (TX.marks l 0) 0 → Q .non H'
def t_Marks___init__ (K : PySem.W.Frag) (Cof : String → Addr) (E : XK) : TS :=
  tSeq (sFld K (tVar 0) (tCall (sp_marks_of K Cof) [] E0 (tCons (tVar 1) (tNil))) "row")
  (tSeq (sFld K (tVar 0) (tC (.int 0)) "spot")
  (sFld K (tVar 0) (tC (.int 0)) "depth"))

section
variable {K : PySem.W.Frag} {Cof : String → Addr} {vs : List V} {H : Hp} {Q : VK} {E : XK}
theorem len_Marks___init__ (h : sp_Marks___init__ K Cof vs H Q E) : vs.length = 2 := by
  obtain ⟨x, dx, l, rfl, _⟩ := h; rfl
theorem rd_Marks___init__ (X : ExT K Cof) (h : sp_Marks___init__ K Cof vs H Q E) : t_Marks___init__ K Cof E { nx := fun _ H' => Q .non H', rt := Q } (start ["self", "text"] vs) H := by
  obtain ⟨x, dx, l, rfl, hx, hl, q⟩ := h
  unfold t_Marks___init__
  walk_at "rd"
  refine c_marks_of (by omega) fun r ps H1 hr e1 h1 hP => ?_
  have hx1 := e1 _ _ hx
  walk_at "rd"
  refine ⟨x, Cof "Marks", dx, [], rfl, hx1, X.cl_Marks, X.n_Marks_row, (by show 0 < 1000; decide), ?_⟩
  walk_at "rd"
  refine ⟨x, Cof "Marks", dx, _, rfl, upd_same, X.cl_Marks, X.n_Marks_spot, (by show 1 < 1000; decide), ?_⟩
  walk_at "rd"
  refine ⟨x, Cof "Marks", dx, _, rfl, upd_same, X.cl_Marks, X.n_Marks_depth, (by show 2 < 1000; decide), ?_⟩
  have nr : r ≠ x := fun z => by rw [z, hx1] at h1; cases h1
  have nx : x ∉ ps := fun z => by
    obtain ⟨_, hz⟩ := hP.mem z
    rw [hx1] at hz; cases hz
  have key : ∀ o1 o2 o3 : HO, Exb x H1 (upd (upd (upd H1 x o1) x o2) x o3) := fun o1 o2 o3 a n o h => by
    rw [upd_ne n, upd_ne n, upd_ne n]; exact h
  exact q _ (fun a n o h => key _ _ _ a n o (e1 _ _ h)) ⟨dx, r, 0, ps, TX.marks l 0, upd_same, key _ _ _ r nr _ h1, hP.exb (key _ _ _) nx, rfl, fun y hy => by have := TX.marks_words l.length l 0 (Nat.le_refl _) y hy; omega⟩
end
def RetM (C : Addr) (l : List Nat) (H : Hp) (Q : VK) : Prop := ∀ m H', H m = none → Ex H H' → MkR C H' m (TX.marks l 0) 0 → Q (.ref m) H'
theorem c_Marks {K : PySem.W.Frag} {Cof : String → Addr} {H : Hp} {Q : VK} {E : XK} {l : List Nat} (hl : l.length ≤ 600) (q : RetM (Cof "Marks") l H Q) : MakeK (Cof "Marks") (sp_Marks___init__ K Cof) [] E Q [.str (TX.sS l)] H := fun x dx hx hdx hne =>
  ⟨x, dx, l, rfl, upd_same, hl, fun H' e h => ⟨rfl, q x H' hx (fun a o ha => e a (ne_of_none ha hx) o (by
    rw [upd_ne (ne_of_none ha hx), upd_ne (ne_of_none ha hdx)]
    exact ha)) h⟩⟩

/-! #### Marks.mark -/
--USE TM
def sp_Marks_mark (K : PySem.W.Frag) (Cof : String → Addr) : Sp := fun vs H Q _ => ∃ (m : Addr) (w : List Nat) (a : Nat) (R : List TX.Mk) (d : Int), vs = [.ref m] ∧ MkR (Cof "Marks") H m ((w, a) :: R) d ∧ Q (.str (TX.sS w)) H
def t_Marks_mark (K : PySem.W.Frag) (Cof : String → Addr) (E : XK) : TS :=
  tRet (tOp (rIxT K) (tOp (rIxL K) (tFld K (tVar 0) "row") (tFld K (tVar 0) "spot")) (tC (.int 0)))

section
variable {K : PySem.W.Frag} {Cof : String → Addr} {vs : List V} {H : Hp} {Q : VK} {E : XK}
theorem len_Marks_mark (h : sp_Marks_mark K Cof vs H Q E) : vs.length = 1 := by
  obtain ⟨m, w, a, R, d, rfl, _⟩ := h; rfl
theorem rd_Marks_mark (X : ExT K Cof) (h : sp_Marks_mark K Cof vs H Q E) : t_Marks_mark K Cof E { nx := fun _ H' => Q .non H', rt := Q } (start ["self"] vs) H := by
  obtain ⟨m, w, a, R, d, rfl, hM, q⟩ := h
  obtain ⟨dx, r, s, ps, L, h1, h2, h3, h4, h5⟩ := hM
  have hs : L[s]? = some (w, a) := by
    have := congrArg (fun l => l[0]?) h4
    rw [List.getElem?_drop] at this
    simpa using this
  obtain ⟨p, hp, hv⟩ := h3.get hs
  unfold t_Marks_mark
  walk_at "rd"
  refine ⟨m, Cof "Marks", dx, _, _, rfl, h1, X.cl_Marks, X.n_Marks_row, mF_row r s d, ?_⟩
  walk_at "rd"
  refine ⟨m, Cof "Marks", dx, _, _, rfl, h1, X.cl_Marks, X.n_Marks_spot, mF_spot r s d, ?_⟩
  refine r_ixL (SqL.inj h2) (atI_nat (j := s) (v := .ref p) (by rw [List.getElem?_map, hp]; rfl)) ?_
  walk_at "rd"
  exact r_ixT (.inl (.inl hv)) rfl q
theorem c_Marks_mark {m : Addr} {w : List Nat} {a : Nat} {R : List TX.Mk} {d : Int} (h : MkR (Cof "Marks") H m ((w, a) :: R) d) (q : Q (.str (TX.sS w)) H) : sp_Marks_mark K Cof [.ref m] H Q E := ⟨m, w, a, R, d, rfl, h, q⟩
end

/-! #### Marks.place -/
--USE TM
def sp_Marks_place (K : PySem.W.Frag) (Cof : String → Addr) : Sp := fun vs H Q _ => ∃ (m : Addr) (w : List Nat) (a : Nat) (R : List TX.Mk) (d : Int), vs = [.ref m] ∧ MkR (Cof "Marks") H m ((w, a) :: R) d ∧ Q (.int (a : Int)) H
def t_Marks_place (K : PySem.W.Frag) (Cof : String → Addr) (E : XK) : TS :=
  tRet (tOp (rIxT K) (tOp (rIxL K) (tFld K (tVar 0) "row") (tFld K (tVar 0) "spot")) (tC (.int 1)))

section
variable {K : PySem.W.Frag} {Cof : String → Addr} {vs : List V} {H : Hp} {Q : VK} {E : XK}
theorem len_Marks_place (h : sp_Marks_place K Cof vs H Q E) : vs.length = 1 := by
  obtain ⟨m, w, a, R, d, rfl, _⟩ := h; rfl
theorem rd_Marks_place (X : ExT K Cof) (h : sp_Marks_place K Cof vs H Q E) : t_Marks_place K Cof E { nx := fun _ H' => Q .non H', rt := Q } (start ["self"] vs) H := by
  obtain ⟨m, w, a, R, d, rfl, hM, q⟩ := h
  obtain ⟨dx, r, s, ps, L, h1, h2, h3, h4, h5⟩ := hM
  have hs : L[s]? = some (w, a) := by
    have := congrArg (fun l => l[0]?) h4
    rw [List.getElem?_drop] at this
    simpa using this
  obtain ⟨p, hp, hv⟩ := h3.get hs
  unfold t_Marks_place
  walk_at "rd"
  refine ⟨m, Cof "Marks", dx, _, _, rfl, h1, X.cl_Marks, X.n_Marks_row, mF_row r s d, ?_⟩
  walk_at "rd"
  refine ⟨m, Cof "Marks", dx, _, _, rfl, h1, X.cl_Marks, X.n_Marks_spot, mF_spot r s d, ?_⟩
  refine r_ixL (SqL.inj h2) (atI_nat (j := s) (v := .ref p) (by rw [List.getElem?_map, hp]; rfl)) ?_
  walk_at "rd"
  exact r_ixT (.inl (.inl hv)) rfl q
theorem c_Marks_place {m : Addr} {w : List Nat} {a : Nat} {R : List TX.Mk} {d : Int} (h : MkR (Cof "Marks") H m ((w, a) :: R) d) (q : Q (.int (a : Int)) H) : sp_Marks_place K Cof [.ref m] H Q E := ⟨m, w, a, R, d, rfl, h, q⟩
end

/-! #### Marks.taken -/
--USE TM
def sp_Marks_taken (K : PySem.W.Frag) (Cof : String → Addr) : Sp := fun vs H Q _ => ∃ (m : Addr) (w : List Nat) (a : Nat) (R : List TX.Mk) (d : Int), vs = [.ref m] ∧ MkR (Cof "Marks") H m ((w, a) :: R) d ∧ Took (Cof "Marks") H m R d (.str (TX.sS w)) Q
def t_Marks_taken (K : PySem.W.Frag) (Cof : String → Addr) (E : XK) : TS :=
  tSeq (tAsg (tMeth (Cof "Marks") "mark" (sp_Marks_mark K Cof) [] E0 (tVar 0) tNil) (gName 1))
  (tSeq (sFld K (tVar 0) (tOp rIAdd (tFld K (tVar 0) "spot") (tC (.int 1))) "spot")
  (tRet (tVar 1)))

section
variable {K : PySem.W.Frag} {Cof : String → Addr} {vs : List V} {H : Hp} {Q : VK} {E : XK}
theorem len_Marks_taken (h : sp_Marks_taken K Cof vs H Q E) : vs.length = 1 := by
  obtain ⟨m, w, a, R, d, rfl, _⟩ := h; rfl
theorem rd_Marks_taken (X : ExT K Cof) (h : sp_Marks_taken K Cof vs H Q E) : t_Marks_taken K Cof E { nx := fun _ H' => Q .non H', rt := Q } (start ["self", "found"] vs) H := by
  obtain ⟨m, w, a, R, d, rfl, hM, q⟩ := h
  unfold t_Marks_taken
  walk_at "rd"
  refine r_methM hM (by decide +kernel) (by decide +kernel) (by decide +kernel) ?_
  walk_at "rd"
  refine c_Marks_mark hM ?_
  walk_at "rd"
  obtain ⟨dx, r, s, ps, L, h1, h2, h3, h4, h5⟩ := hM
  refine ⟨m, Cof "Marks", dx, _, _, rfl, h1, X.cl_Marks, X.n_Marks_spot, mF_spot r s d, ?_⟩
  walk_at "rd"
  refine ⟨m, Cof "Marks", dx, _, rfl, h1, X.cl_Marks, X.n_Marks_spot, (by show 3 < 1000; decide), ?_⟩
  walk_at "rd"
  exact q _ (fun a n o h => by rw [upd_ne n]; exact h) (stepped h1 h2 h3 h4 h5)
theorem c_Marks_taken {m : Addr} {w : List Nat} {a : Nat} {R : List TX.Mk} {d : Int} (h : MkR (Cof "Marks") H m ((w, a) :: R) d) (q : Took (Cof "Marks") H m R d (.str (TX.sS w)) Q) : sp_Marks_taken K Cof [.ref m] H Q E := ⟨m, w, a, R, d, rfl, h, q⟩
end

/-! #### Marks.take -/
--USE TM
def sq_Marks_take (K : PySem.W.Frag) (Cof : String → Addr) : Sp := fun vs H Q _ => ∃ (m : Addr) (w : List Nat) (a : Nat) (R : List TX.Mk) (d : Int), vs = [.ref m, .str (TX.sS w)] ∧ MkR (Cof "Marks") H m ((w, a) :: R) d ∧ Took (Cof "Marks") H m R d .non Q
def t_Marks_take (K : PySem.W.Frag) (Cof : String → Addr) (E : XK) : TS :=
  tSeq (tIfS (tTest (tOp rNe (tMeth (Cof "Marks") "mark" (sp_Marks_mark K Cof) [] E0 (tVar 0) tNil) (tVar 1))) (tRzI (Cof "NoText") (sp_NoText___init__ K Cof) E (tCons (tMeth (Cof "Marks") "place" (sp_Marks_place K Cof) [] E0 (tVar 0) tNil) (tNil))) (tNext))
  (sFld K (tVar 0) (tOp rIAdd (tFld K (tVar 0) "spot") (tC (.int 1))) "spot")

section
variable {K : PySem.W.Frag} {Cof : String → Addr} {vs : List V} {H : Hp} {Q : VK} {E : XK}
theorem lq_Marks_take (h : sq_Marks_take K Cof vs H Q E) : vs.length = 2 := by
  obtain ⟨m, w, a, R, d, rfl, _⟩ := h; rfl
theorem rq_Marks_take (X : ExT K Cof) (h : sq_Marks_take K Cof vs H Q E) : t_Marks_take K Cof E { nx := fun _ H' => Q .non H', rt := Q } (start ["self", "wanted"] vs) H := by
  obtain ⟨m, w, a, R, d, rfl, hM, q⟩ := h
  unfold t_Marks_take
  walk_at "rd"
  refine r_methM hM (by decide +kernel) (by decide +kernel) (by decide +kernel) ?_
  walk_at "rd"
  refine c_Marks_mark hM ?_
  walk_at "rd"
  refine r_neT ?_
  rw [decide_eq_true rfl]
  walk_at "rd"
  obtain ⟨dx, r, s, ps, L, h1, h2, h3, h4, h5⟩ := hM
  refine ⟨m, Cof "Marks", dx, _, _, rfl, h1, X.cl_Marks, X.n_Marks_spot, mF_spot r s d, ?_⟩
  walk_at "rd"
  refine ⟨m, Cof "Marks", dx, _, rfl, h1, X.cl_Marks, X.n_Marks_spot, (by show 3 < 1000; decide), ?_⟩
  exact q _ (fun a n o h => by rw [upd_ne n]; exact h) (stepped h1 h2 h3 h4 h5)
theorem cq_Marks_take {m : Addr} {w : List Nat} {a : Nat} {R : List TX.Mk} {d : Int} {y : Str} (hy : y = TX.sS w) (h : MkR (Cof "Marks") H m ((w, a) :: R) d) (q : Took (Cof "Marks") H m R d .non Q) : sq_Marks_take K Cof [.ref m, .str y] H Q E := ⟨m, w, a, R, d, by rw [hy], h, q⟩
end

def sp_Marks_take (K : PySem.W.Frag) (Cof : String → Addr) : Sp := fun vs H Q E => sq_Marks_take K Cof vs H Q E ∨ ∃ (m : Addr) (w v : List Nat) (a : Nat) (R : List TX.Mk) (d : Int), vs = [.ref m, .str (TX.sS v)] ∧ MkR (Cof "Marks") H m ((w, a) :: R) d ∧ w ≠ v ∧ Err (Cof "NoText") "at" (.int (a : Int)) E H
section
variable {K : PySem.W.Frag} {Cof : String → Addr} {vs : List V} {H : Hp} {Q : VK} {E : XK}
theorem len_Marks_take (h : sp_Marks_take K Cof vs H Q E) : vs.length = 2 := by
  rcases h with h | ⟨m, w, v, a, R, d, rfl, _⟩
  · exact lq_Marks_take h
  · rfl
theorem rd_Marks_take (X : ExT K Cof) (h : sp_Marks_take K Cof vs H Q E) : t_Marks_take K Cof E { nx := fun _ H' => Q .non H', rt := Q } (start ["self", "wanted"] vs) H := by
  rcases h with h | ⟨m, w, v, a, R, d, rfl, hM, hn, q⟩
  · exact rq_Marks_take X h
  unfold t_Marks_take
  walk_at "rd"
  refine r_methM hM (by decide +kernel) (by decide +kernel) (by decide +kernel) ?_
  walk_at "rd"
  refine c_Marks_mark hM ?_
  walk_at "rd"
  refine r_neT ?_
  rw [decide_eq_false hn]
  walk_at "rd"
  refine r_rzI ?_
  walk_at "rd"
  refine r_methM hM (by decide +kernel) (by decide +kernel) (by decide +kernel) ?_
  walk_at "rd"
  refine c_Marks_place hM ?_
  walk_at "rd"
  exact rzK q
theorem c_Marks_take {m : Addr} {w : List Nat} {a : Nat} {R : List TX.Mk} {d : Int} {y : Str} (hy : y = TX.sS w) (h : MkR (Cof "Marks") H m ((w, a) :: R) d) (q : Took (Cof "Marks") H m R d .non Q) : sp_Marks_take K Cof [.ref m, .str y] H Q E := .inl (cq_Marks_take hy h q)
theorem c_Marks_takeX {m : Addr} {w v : List Nat} {a : Nat} {R : List TX.Mk} {d : Int} {y : Str} (hy : y = TX.sS v) (h : MkR (Cof "Marks") H m ((w, a) :: R) d) (hn : w ≠ v) (q : Err (Cof "NoText") "at" (.int (a : Int)) E H) : sp_Marks_take K Cof [.ref m, .str y] H Q E := .inr ⟨m, w, v, a, R, d, by rw [hy], h, hn, q⟩
end

/-! #### Marks.whole -/
--USE TM
def sq_Marks_whole (K : PySem.W.Frag) (Cof : String → Addr) : Sp := fun vs H Q _ => ∃ (m : Addr) (w : List Nat) (a : Nat) (R : List TX.Mk) (d : Int), vs = [.ref m] ∧ MkR (Cof "Marks") H m ((w, a) :: R) d ∧ TX.whole w = true ∧ Took (Cof "Marks") H m R d (.int (TX.val w)) Q
def t_Marks_whole (K : PySem.W.Frag) (Cof : String → Addr) (E : XK) : TS :=
  tSeq (tIfS (tNot (tB (tCall (sp_is_whole K Cof) [] E0 (tCons (tMeth (Cof "Marks") "mark" (sp_Marks_mark K Cof) [] E0 (tVar 0) tNil) (tNil))))) (tRzI (Cof "NoText") (sp_NoText___init__ K Cof) E (tCons (tMeth (Cof "Marks") "place" (sp_Marks_place K Cof) [] E0 (tVar 0) tNil) (tNil))) (tNext))
  (tRet (tCB rIntT (tCons (tMeth (Cof "Marks") "taken" (sp_Marks_taken K Cof) [] E0 (tVar 0) tNil) (tNil))))

section
variable {K : PySem.W.Frag} {Cof : String → Addr} {vs : List V} {H : Hp} {Q : VK} {E : XK}
theorem lq_Marks_whole (h : sq_Marks_whole K Cof vs H Q E) : vs.length = 1 := by
  obtain ⟨m, w, a, R, d, rfl, _⟩ := h; rfl
theorem rq_Marks_whole (h : sq_Marks_whole K Cof vs H Q E) : t_Marks_whole K Cof E { nx := fun _ H' => Q .non H', rt := Q } (start ["self"] vs) H := by
  obtain ⟨m, w, a, R, d, rfl, hM, hw, q⟩ := h
  have hl : w.length ≤ 600 := hM.bd _ (List.mem_cons_self ..)
  unfold t_Marks_whole
  walk_at "rd"
  refine r_methM hM (by decide +kernel) (by decide +kernel) (by decide +kernel) ?_
  walk_at "rd"
  refine c_Marks_mark hM ?_
  walk_at "rd"
  refine c_is_whole (by omega) ?_
  rw [hw]
  walk_at "rd"
  refine r_methM hM (by decide +kernel) (by decide +kernel) (by decide +kernel) ?_
  walk_at "rd"
  refine c_Marks_taken hM fun H1 e1 h1 => ?_
  walk_at "rd"
  refine r_intT hw hl ?_
  exact q H1 e1 h1
theorem cq_Marks_whole {m : Addr} {w : List Nat} {a : Nat} {R : List TX.Mk} {d : Int} (h : MkR (Cof "Marks") H m ((w, a) :: R) d) (hw : TX.whole w = true) (q : Took (Cof "Marks") H m R d (.int (TX.val w)) Q) : sq_Marks_whole K Cof [.ref m] H Q E := ⟨m, w, a, R, d, rfl, h, hw, q⟩
end

def sp_Marks_whole (K : PySem.W.Frag) (Cof : String → Addr) : Sp := fun vs H Q E => sq_Marks_whole K Cof vs H Q E ∨ ∃ (m : Addr) (w : List Nat) (a : Nat) (R : List TX.Mk) (d : Int), vs = [.ref m] ∧ MkR (Cof "Marks") H m ((w, a) :: R) d ∧ TX.whole w = false ∧ Err (Cof "NoText") "at" (.int (a : Int)) E H
section
variable {K : PySem.W.Frag} {Cof : String → Addr} {vs : List V} {H : Hp} {Q : VK} {E : XK}
theorem len_Marks_whole (h : sp_Marks_whole K Cof vs H Q E) : vs.length = 1 := by
  rcases h with h | ⟨m, w, a, R, d, rfl, _⟩
  · exact lq_Marks_whole h
  · rfl
theorem rd_Marks_whole (h : sp_Marks_whole K Cof vs H Q E) : t_Marks_whole K Cof E { nx := fun _ H' => Q .non H', rt := Q } (start ["self"] vs) H := by
  rcases h with h | ⟨m, w, a, R, d, rfl, hM, hn, q⟩
  · exact rq_Marks_whole h
  have hl : w.length ≤ 600 := hM.bd _ (List.mem_cons_self ..)
  unfold t_Marks_whole
  walk_at "rd"
  refine r_methM hM (by decide +kernel) (by decide +kernel) (by decide +kernel) ?_
  walk_at "rd"
  refine c_Marks_mark hM ?_
  walk_at "rd"
  refine c_is_whole (by omega) ?_
  rw [hn]
  walk_at "rd"
  refine r_rzI ?_
  walk_at "rd"
  refine r_methM hM (by decide +kernel) (by decide +kernel) (by decide +kernel) ?_
  walk_at "rd"
  refine c_Marks_place hM ?_
  walk_at "rd"
  exact rzK q
theorem c_Marks_whole {m : Addr} {w : List Nat} {a : Nat} {R : List TX.Mk} {d : Int} (h : MkR (Cof "Marks") H m ((w, a) :: R) d) (hw : TX.whole w = true) (q : Took (Cof "Marks") H m R d (.int (TX.val w)) Q) : sp_Marks_whole K Cof [.ref m] H Q E := .inl (cq_Marks_whole h hw q)
theorem c_Marks_wholeX {m : Addr} {w : List Nat} {a : Nat} {R : List TX.Mk} {d : Int} (h : MkR (Cof "Marks") H m ((w, a) :: R) d) (hn : TX.whole w = false) (q : Err (Cof "NoText") "at" (.int (a : Int)) E H) : sp_Marks_whole K Cof [.ref m] H Q E := .inr ⟨m, w, a, R, d, rfl, h, hn, q⟩
end

/-! #### Marks.exponent -/
--USE TM
def sq_Marks_exponent (K : PySem.W.Frag) (Cof : String → Addr) : Sp := fun vs H Q _ => ∃ (m : Addr) (c : Nat) (a : Nat) (R : List TX.Mk) (d : Int), vs = [.ref m] ∧ MkR (Cof "Marks") H m (([c], a) :: R) d ∧ 48 ≤ c ∧ c ≤ 56 ∧ Took (Cof "Marks") H m R d (.int ((c - 48 : Nat) : Int)) Q
def t_Marks_exponent (K : PySem.W.Frag) (Cof : String → Addr) (E : XK) : TS :=
  tSeq (tIfS (tOr (tTest (tOp rNe (tCB rLenStr (tCons (tMeth (Cof "Marks") "mark" (sp_Marks_mark K Cof) [] E0 (tVar 0) tNil) (tNil))) (tC (.int 1)))) (tTest (tOp rNotInT (tMeth (Cof "Marks") "mark" (sp_Marks_mark K Cof) [] E0 (tVar 0) tNil) (tC (.str "012345678"))))) (tRzI (Cof "NoText") (sp_NoText___init__ K Cof) E (tCons (tMeth (Cof "Marks") "place" (sp_Marks_place K Cof) [] E0 (tVar 0) tNil) (tNil))) (tNext))
  (tRet (tCB rIntT (tCons (tMeth (Cof "Marks") "taken" (sp_Marks_taken K Cof) [] E0 (tVar 0) tNil) (tNil))))

section
variable {K : PySem.W.Frag} {Cof : String → Addr} {vs : List V} {H : Hp} {Q : VK} {E : XK}
theorem lq_Marks_exponent (h : sq_Marks_exponent K Cof vs H Q E) : vs.length = 1 := by
  obtain ⟨m, c, a, R, d, rfl, _⟩ := h; rfl
theorem rq_Marks_exponent (h : sq_Marks_exponent K Cof vs H Q E) : t_Marks_exponent K Cof E { nx := fun _ H' => Q .non H', rt := Q } (start ["self"] vs) H := by
  obtain ⟨m, c, a, R, d, rfl, hM, c0, c8, q⟩ := h
  unfold t_Marks_exponent
  walk_at "rd"
  refine r_methM hM (by decide +kernel) (by decide +kernel) (by decide +kernel) ?_
  walk_at "rd"
  refine c_Marks_mark hM ?_
  walk_at "rd"
  refine r_lenT' (by show 1 ≤ 16777216; decide) ?_
  walk_at "rd"
  refine i_nt ?_
  walk_at "rd"
  refine r_methM hM (by decide +kernel) (by decide +kernel) (by decide +kernel) ?_
  walk_at "rd"
  refine c_Marks_mark hM ?_
  walk_at "rd"
  rw [lit_exp]
  refine r_notSg ?_
  rw [decide_eq_true (show c ∈ [48, 49, 50, 51, 52, 53, 54, 55, 56] by simp only [List.mem_cons, List.not_mem_nil, or_false]; omega)]
  walk_at "rd"
  refine r_methM hM (by decide +kernel) (by decide +kernel) (by decide +kernel) ?_
  walk_at "rd"
  refine c_Marks_taken hM fun H1 e1 h1 => ?_
  walk_at "rd"
  refine r_intT (w := [c]) (one_whole c0 (by omega)) (by show 1 ≤ 600; decide) ?_
  rw [one_val]
  exact q H1 e1 h1
theorem cq_Marks_exponent {m : Addr} {c : Nat} {a : Nat} {R : List TX.Mk} {d : Int} (h : MkR (Cof "Marks") H m (([c], a) :: R) d) (c0 : 48 ≤ c) (c8 : c ≤ 56) (q : Took (Cof "Marks") H m R d (.int ((c - 48 : Nat) : Int)) Q) : sq_Marks_exponent K Cof [.ref m] H Q E := ⟨m, c, a, R, d, rfl, h, c0, c8, q⟩
end

def sp_Marks_exponent (K : PySem.W.Frag) (Cof : String → Addr) : Sp := fun vs H Q E => sq_Marks_exponent K Cof vs H Q E ∨ ∃ (m : Addr) (w : List Nat) (a : Nat) (R : List TX.Mk) (d : Int), vs = [.ref m] ∧ MkR (Cof "Marks") H m ((w, a) :: R) d ∧ ¬ (w.length = 1 ∧ 48 ≤ w.headD 0 ∧ w.headD 0 ≤ 56) ∧ Err (Cof "NoText") "at" (.int (a : Int)) E H
section
variable {K : PySem.W.Frag} {Cof : String → Addr} {vs : List V} {H : Hp} {Q : VK} {E : XK}
theorem len_Marks_exponent (h : sp_Marks_exponent K Cof vs H Q E) : vs.length = 1 := by
  rcases h with h | ⟨m, w, a, R, d, rfl, _⟩
  · exact lq_Marks_exponent h
  · rfl
theorem rd_Marks_exponent (h : sp_Marks_exponent K Cof vs H Q E) : t_Marks_exponent K Cof E { nx := fun _ H' => Q .non H', rt := Q } (start ["self"] vs) H := by
  rcases h with h | ⟨m, w, a, R, d, rfl, hM, hn, q⟩
  · exact rq_Marks_exponent h
  have hl : w.length ≤ 600 := hM.bd _ (List.mem_cons_self ..)
  unfold t_Marks_exponent
  walk_at "rd"
  refine r_methM hM (by decide +kernel) (by decide +kernel) (by decide +kernel) ?_
  walk_at "rd"
  refine c_Marks_mark hM ?_
  walk_at "rd"
  refine r_lenT' (by omega) ?_
  walk_at "rd"
  by_cases h1 : w.length = 1
  · match w, h1 with
    | [c], _ =>
      rw [decide_eq_true (show (([c] : List Nat).length : Int) = 1 from rfl)]
      walk_at "rd"
      refine r_methM hM (by decide +kernel) (by decide +kernel) (by decide +kernel) ?_
      walk_at "rd"
      refine c_Marks_mark hM ?_
      walk_at "rd"
      rw [lit_exp]
      refine r_notSg ?_
      rw [decide_eq_false (show ¬ c ∈ [48, 49, 50, 51, 52, 53, 54, 55, 56] from fun z => hn ⟨rfl, by
        simp only [List.mem_cons, List.not_mem_nil, or_false] at z
        show 48 ≤ c ∧ c ≤ 56
        omega⟩)]
      walk_at "rd"
      refine r_rzI ?_
      walk_at "rd"
      refine r_methM hM (by decide +kernel) (by decide +kernel) (by decide +kernel) ?_
      walk_at "rd"
      refine c_Marks_place hM ?_
      walk_at "rd"
      exact rzK q
  · rw [decide_eq_false (show ¬ (w.length : Int) = 1 by omega)]
    walk_at "rd"
    refine r_rzI ?_
    walk_at "rd"
    refine r_methM hM (by decide +kernel) (by decide +kernel) (by decide +kernel) ?_
    walk_at "rd"
    refine c_Marks_place hM ?_
    walk_at "rd"
    exact rzK q
theorem c_Marks_exponent {m : Addr} {c : Nat} {a : Nat} {R : List TX.Mk} {d : Int} (h : MkR (Cof "Marks") H m (([c], a) :: R) d) (c0 : 48 ≤ c) (c8 : c ≤ 56) (q : Took (Cof "Marks") H m R d (.int ((c - 48 : Nat) : Int)) Q) : sp_Marks_exponent K Cof [.ref m] H Q E := .inl (cq_Marks_exponent h c0 c8 q)
theorem c_Marks_exponentX {m : Addr} {w : List Nat} {a : Nat} {R : List TX.Mk} {d : Int} (h : MkR (Cof "Marks") H m ((w, a) :: R) d) (hn : ¬ (w.length = 1 ∧ 48 ≤ w.headD 0 ∧ w.headD 0 ≤ 56)) (q : Err (Cof "NoText") "at" (.int (a : Int)) E H) : sp_Marks_exponent K Cof [.ref m] H Q E := .inr ⟨m, w, a, R, d, rfl, h, hn, q⟩
end

/-! #### Marks.last -/
--USE TM
def sq_Marks_last (K : PySem.W.Frag) (Cof : String → Addr) : Sp := fun vs H Q _ => ∃ (m : Addr) (a : Nat) (R : List TX.Mk) (d : Int), vs = [.ref m] ∧ MkR (Cof "Marks") H m (([], a) :: R) d ∧ Q .non H
def t_Marks_last (K : PySem.W.Frag) (Cof : String → Addr) (E : XK) : TS :=
  tIfS (tTest (tOp rNe (tMeth (Cof "Marks") "mark" (sp_Marks_mark K Cof) [] E0 (tVar 0) tNil) (tC (.str "")))) (tRzI (Cof "NoText") (sp_NoText___init__ K Cof) E (tCons (tMeth (Cof "Marks") "place" (sp_Marks_place K Cof) [] E0 (tVar 0) tNil) (tNil))) (tNext)

section
variable {K : PySem.W.Frag} {Cof : String → Addr} {vs : List V} {H : Hp} {Q : VK} {E : XK}
theorem lq_Marks_last (h : sq_Marks_last K Cof vs H Q E) : vs.length = 1 := by
  obtain ⟨m, a, R, d, rfl, _⟩ := h; rfl
theorem rq_Marks_last (h : sq_Marks_last K Cof vs H Q E) : t_Marks_last K Cof E { nx := fun _ H' => Q .non H', rt := Q } (start ["self"] vs) H := by
  obtain ⟨m, a, R, d, rfl, hM, q⟩ := h
  unfold t_Marks_last
  walk_at "rd"
  refine r_methM hM (by decide +kernel) (by decide +kernel) (by decide +kernel) ?_
  walk_at "rd"
  refine c_Marks_mark hM ?_
  walk_at "rd"
  refine r_neTl lit_e ?_
  rw [decide_eq_true rfl]
  walk_at "rd"
  exact q
theorem cq_Marks_last {m : Addr} {a : Nat} {R : List TX.Mk} {d : Int} (h : MkR (Cof "Marks") H m (([], a) :: R) d) (q : Q .non H) : sq_Marks_last K Cof [.ref m] H Q E := ⟨m, a, R, d, rfl, h, q⟩
end

def sp_Marks_last (K : PySem.W.Frag) (Cof : String → Addr) : Sp := fun vs H Q E => sq_Marks_last K Cof vs H Q E ∨ ∃ (m : Addr) (w : List Nat) (a : Nat) (R : List TX.Mk) (d : Int), vs = [.ref m] ∧ MkR (Cof "Marks") H m ((w, a) :: R) d ∧ w ≠ [] ∧ Err (Cof "NoText") "at" (.int (a : Int)) E H
section
variable {K : PySem.W.Frag} {Cof : String → Addr} {vs : List V} {H : Hp} {Q : VK} {E : XK}
theorem len_Marks_last (h : sp_Marks_last K Cof vs H Q E) : vs.length = 1 := by
  rcases h with h | ⟨m, w, a, R, d, rfl, _⟩
  · exact lq_Marks_last h
  · rfl
theorem rd_Marks_last (h : sp_Marks_last K Cof vs H Q E) : t_Marks_last K Cof E { nx := fun _ H' => Q .non H', rt := Q } (start ["self"] vs) H := by
  rcases h with h | ⟨m, w, a, R, d, rfl, hM, hn, q⟩
  · exact rq_Marks_last h
  unfold t_Marks_last
  walk_at "rd"
  refine r_methM hM (by decide +kernel) (by decide +kernel) (by decide +kernel) ?_
  walk_at "rd"
  refine c_Marks_mark hM ?_
  walk_at "rd"
  refine r_neTl lit_e ?_
  rw [decide_eq_false hn]
  walk_at "rd"
  refine r_rzI ?_
  walk_at "rd"
  refine r_methM hM (by decide +kernel) (by decide +kernel) (by decide +kernel) ?_
  walk_at "rd"
  refine c_Marks_place hM ?_
  walk_at "rd"
  exact rzK q
theorem c_Marks_last {m : Addr} {a : Nat} {R : List TX.Mk} {d : Int} (h : MkR (Cof "Marks") H m (([], a) :: R) d) (q : Q .non H) : sp_Marks_last K Cof [.ref m] H Q E := .inl (cq_Marks_last h q)
theorem c_Marks_lastX {m : Addr} {w : List Nat} {a : Nat} {R : List TX.Mk} {d : Int} (h : MkR (Cof "Marks") H m ((w, a) :: R) d) (hn : w ≠ []) (q : Err (Cof "NoText") "at" (.int (a : Int)) E H) : sp_Marks_last K Cof [.ref m] H Q E := .inr ⟨m, w, a, R, d, rfl, h, hn, q⟩
end

/-! #### add_term -/
--USE TM
def sq_add_term (K : PySem.W.Frag) (Cof : String → Addr) : Sp := fun vs H Q _ => ∃ (m l : Addr) (s : Int) (row : List Int) (R R' : List TX.Mk) (d f : Int) (k : Nat), vs = [.ref m, .ref l, .int s] ∧ MkR (Cof "Marks") H m R d ∧ H l = some (.lst (row.map V.int)) ∧ row.length = 9 ∧ (s = 1 ∨ s = -1) ∧ TX.termE R = .ok (f, k, R') ∧
  ∀ H', Exb2 m l H H' → MkR (Cof "Marks") H' m R' d → H' l = some (.lst ((TX.addR row k (s * f)).map V.int)) → Q .non H'
def t_add_term (K : PySem.W.Frag) (Cof : String → Addr) (E : XK) : TS :=
  tSeq (tAsg (tVar 2) (gName 3))
  (tCut (tIfS (tTest (tOp rNe (tMeth (Cof "Marks") "mark" (sp_Marks_mark K Cof) [] E0 (tVar 0) tNil) (tC (.str "x")))) (tSeq (tAsg (tOp rMul (tVar 2) (tMeth (Cof "Marks") "whole" (sp_Marks_whole K Cof) [] E (tVar 0) tNil)) (gName 3))
  (tSeq (tIfS (tTest (tOp rNe (tMeth (Cof "Marks") "mark" (sp_Marks_mark K Cof) [] E0 (tVar 0) tNil) (tC (.str "*")))) (tSeq (tAsg (tOp rIAdd (tOp (rIxL K) (tVar 1) (tC (.int 0))) (tVar 3)) (gSub (tVar 1) (tC (.int 0)) rSetL))
  (tRetN)) (tNext))
  (tDrop (tMeth (Cof "Marks") "take" (sp_Marks_take K Cof) [] E (tVar 0) (tCons (tC (.str "*")) (tNil)))))) (tNext))
  (tSeq (tDrop (tMeth (Cof "Marks") "take" (sp_Marks_take K Cof) [] E (tVar 0) (tCons (tC (.str "x")) (tNil))))
  (tSeq (tAsg (tC (.int 1)) (gName 4))
  (tCut (tIfS (tTest (tOp rEq (tMeth (Cof "Marks") "mark" (sp_Marks_mark K Cof) [] E0 (tVar 0) tNil) (tC (.str "^")))) (tSeq (tDrop (tMeth (Cof "Marks") "take" (sp_Marks_take K Cof) [] E (tVar 0) (tCons (tC (.str "^")) (tNil))))
  (tAsg (tMeth (Cof "Marks") "exponent" (sp_Marks_exponent K Cof) [] E (tVar 0) tNil) (gName 4))) (tNext))
  (tAsg (tOp rIAdd (tOp (rIxL K) (tVar 1) (tVar 4)) (tVar 3)) (gSub (tVar 1) (tVar 4) rSetL))))))

section
variable {K : PySem.W.Frag} {Cof : String → Addr} {vs : List V} {H : Hp} {Q : VK} {E : XK}
theorem lq_add_term (h : sq_add_term K Cof vs H Q E) : vs.length = 3 := by
  obtain ⟨m, l, s, row, R, R', d, f, k, rfl, _⟩ := h; rfl
theorem rq_add_term (h : sq_add_term K Cof vs H Q E) : t_add_term K Cof E { nx := fun _ H' => Q .non H', rt := Q } (start ["marks", "row", "sign", "factor", "k"] vs) H := by
  obtain ⟨m, l, s, row, R, R', d, f, k, rfl, hM, hl, h9, hs, ht, q⟩ := h
  have nl := hM.ne hl
  have n9 : row ≠ [] := fun z => by rw [z] at h9; simp at h9
  have s1 : s.natAbs < 2 ^ 1 := by omega
  unfold t_add_term
  walk_at "rd"
  refine ⟨fun σ' H' => ∃ (g : Int) (a : Nat) (R1 : List TX.Mk), σ' = [some (.ref m), some (.ref l), some (.int s), some (.int (s * g)), none] ∧ Exb m H H' ∧ MkR (Cof "Marks") H' m (([120], a) :: R1) d ∧ f = g ∧ TX.powE R1 = .ok (k, R'), ?_, fun σ' H' hMid => ?_⟩
  · rcases term_ok ht with ⟨a, R1, rfl, rfl, hp⟩ | ⟨w, a, b, c, R3, rfl, hw, hh, rfl, hp⟩ | ⟨w, a, v, b, R2, rfl, hw, hh, rfl, hv, rfl, rfl⟩
    · walk_at "rd"
      refine r_methM hM (by decide +kernel) (by decide +kernel) (by decide +kernel) ?_
      walk_at "rd"
      refine c_Marks_mark hM ?_
      walk_at "rd"
      refine r_neTl lit_x ?_
      rw [decide_eq_true rfl]
      walk_at "rd"
      exact ⟨1, a, R1, by rw [Int.mul_one]; rfl, fun _ _ _ h => h, hM, rfl, hp⟩
    · walk_at "rd"
      refine r_methM hM (by decide +kernel) (by decide +kernel) (by decide +kernel) ?_
      walk_at "rd"
      refine c_Marks_mark hM ?_
      walk_at "rd"
      refine r_neTl lit_x ?_
      rw [decide_eq_false hw]
      walk_at "rd"
      refine r_methM hM (by decide +kernel) (by decide +kernel) (by decide +kernel) ?_
      walk_at "rd"
      refine c_Marks_whole hM hh fun H1 b1 hM1 => ?_
      refine r_mul (wide_mul s1 (val_lt hh (hM.bd _ (List.mem_cons_self ..))) (by decide) (by decide) (by decide)) ?_
      walk_at "rd"
      refine r_methM hM1 (by decide +kernel) (by decide +kernel) (by decide +kernel) ?_
      walk_at "rd"
      refine c_Marks_mark hM1 ?_
      walk_at "rd"
      refine r_neTl lit_star ?_
      rw [decide_eq_true rfl]
      walk_at "rd"
      refine r_methM hM1 (by decide +kernel) (by decide +kernel) (by decide +kernel) ?_
      walk_at "rd"
      refine c_Marks_take lit_star hM1 fun H2 b2 hM2 => ?_
      exact ⟨TX.val w, c, R3, rfl, b1.trans b2, hM2, rfl, hp⟩
    · walk_at "rd"
      refine r_methM hM (by decide +kernel) (by decide +kernel) (by decide +kernel) ?_
      walk_at "rd"
      refine c_Marks_mark hM ?_
      walk_at "rd"
      refine r_neTl lit_x ?_
      rw [decide_eq_false hw]
      walk_at "rd"
      refine r_methM hM (by decide +kernel) (by decide +kernel) (by decide +kernel) ?_
      walk_at "rd"
      refine c_Marks_whole hM hh fun H1 b1 hM1 => ?_
      refine r_mul (wide_mul s1 (val_lt hh (hM.bd _ (List.mem_cons_self ..))) (by decide) (by decide) (by decide)) ?_
      walk_at "rd"
      refine r_methM hM1 (by decide +kernel) (by decide +kernel) (by decide +kernel) ?_
      walk_at "rd"
      refine c_Marks_mark hM1 ?_
      walk_at "rd"
      refine r_neTl lit_star ?_
      rw [decide_eq_false hv]
      have hl1 := b1 l nl _ hl
      walk_at "rd"
      refine r_ixI (SqL.inj hl1) (by omega) (by omega) ?_
      walk_at "rd"
      refine r_setL hl1 (j := 0) (show ixN _ ((0 : Nat) : Int) = some 0 from Evl.ixN_nat (by rw [List.length_map]; omega)) fun H2 b2 hl2 => ?_
      walk_at "rd"
      refine q H2 ((Exb2.l b1).trans (Exb2.r b2)) (hM1.exb b2 hl1 n9) ?_
      rw [hl2, TX.addR, List.map_set]; rfl
  obtain ⟨g, a, R1, rfl, b1, hM1, rfl, hp⟩ := hMid
  have hl1 := b1 l nl _ hl
  walk_at "rd"
  refine r_methM hM1 (by decide +kernel) (by decide +kernel) (by decide +kernel) ?_
  walk_at "rd"
  refine c_Marks_take lit_x hM1 fun H2 b2 hM2 => ?_
  have b12 := b1.trans b2
  walk_at "rd"
  refine ⟨fun σ' H' => σ' = [some (.ref m), some (.ref l), some (.int s), some (.int (s * f)), some (.int (k : Int))] ∧ Exb m H H' ∧ MkR (Cof "Marks") H' m R' d, ?_, fun σ' H' hMid => ?_⟩
  · rcases pow_ok hp with ⟨b, c, e, R3, rfl, c0, c8, rfl, rfl⟩ | ⟨v, b, R2, rfl, hv, rfl, rfl⟩
    · walk_at "rd"
      refine r_methM hM2 (by decide +kernel) (by decide +kernel) (by decide +kernel) ?_
      walk_at "rd"
      refine c_Marks_mark hM2 ?_
      walk_at "rd"
      rw [eq_lit lit_pow, decide_eq_true rfl]
      walk_at "rd"
      refine r_methM hM2 (by decide +kernel) (by decide +kernel) (by decide +kernel) ?_
      walk_at "rd"
      refine c_Marks_take lit_pow hM2 fun H3 b3 hM3 => ?_
      walk_at "rd"
      refine r_methM hM3 (by decide +kernel) (by decide +kernel) (by decide +kernel) ?_
      walk_at "rd"
      refine c_Marks_exponent hM3 c0 c8 fun H4 b4 hM4 => ?_
      walk_at "rd"
      exact ⟨rfl, (b12.trans b3).trans b4, hM4⟩
    · walk_at "rd"
      refine r_methM hM2 (by decide +kernel) (by decide +kernel) (by decide +kernel) ?_
      walk_at "rd"
      refine c_Marks_mark hM2 ?_
      walk_at "rd"
      rw [eq_lit lit_pow, decide_eq_false hv]
      walk_at "rd"
      exact ⟨rfl, b12, hM2⟩
  obtain ⟨rfl, b3, hM3⟩ := hMid
  have k8 := pow_k hp
  have hl3 := b3 l nl _ hl
  walk_at "rd"
  refine r_ixI (SqL.inj hl3) (by omega) (by omega) ?_
  walk_at "rd"
  refine r_setL hl3 (j := k) (Evl.ixN_nat (by rw [List.length_map]; omega)) fun H4 b4 hl4 => ?_
  refine q H4 ((Exb2.l b3).trans (Exb2.r b4)) (hM3.exb b4 hl3 n9) ?_
  rw [hl4, TX.addR, List.map_set, Int.toNat_natCast]
theorem cq_add_term {m l : Addr} {s : Int} {row : List Int} {R R' : List TX.Mk} {d f : Int} {k : Nat} (hM : MkR (Cof "Marks") H m R d) (hl : H l = some (.lst (row.map V.int))) (h9 : row.length = 9) (hs : s = 1 ∨ s = -1) (ht : TX.termE R = .ok (f, k, R')) (q : ∀ H', Exb2 m l H H' → MkR (Cof "Marks") H' m R' d → H' l = some (.lst ((TX.addR row k (s * f)).map V.int)) → Q .non H') : sq_add_term K Cof [.ref m, .ref l, .int s] H Q E := ⟨m, l, s, row, R, R', d, f, k, rfl, hM, hl, h9, hs, ht, q⟩
end

--USE TE
def sp_add_term (K : PySem.W.Frag) (Cof : String → Addr) : Sp := fun vs H Q E => sq_add_term K Cof vs H Q E ∨ ∃ (m l : Addr) (s : Int) (row : List Int) (R : List TX.Mk) (d : Int) (e : Nat), vs = [.ref m, .ref l, .int s] ∧ MkR (Cof "Marks") H m R d ∧ (s = 1 ∨ s = -1) ∧ TX.Endd R ∧ TX.termE R = .error e ∧ ErrB m (Cof "NoText") "at" (.int (e : Int)) E H
section
variable {K : PySem.W.Frag} {Cof : String → Addr} {vs : List V} {H : Hp} {Q : VK} {E : XK}
theorem len_add_term (h : sp_add_term K Cof vs H Q E) : vs.length = 3 := by
  rcases h with h | ⟨m, l, s, row, R, d, e, rfl, _⟩
  · exact lq_add_term h
  · rfl
theorem rd_add_term (h : sp_add_term K Cof vs H Q E) : t_add_term K Cof E { nx := fun _ H' => Q .non H', rt := Q } (start ["marks", "row", "sign", "factor", "k"] vs) H := by
  rcases h with h | ⟨m, l, s, row, R, d, e, rfl, hM, hs, hE, ht, q⟩
  · exact rq_add_term h
  have s1 : s.natAbs < 2 ^ 1 := by omega
  unfold t_add_term
  walk_at "rd"
  refine ⟨fun σ' H' => ∃ (g : Int) (x : List Nat) (a : Nat) (R1 : List TX.Mk), σ' = [some (.ref m), some (.ref l), some (.int s), some (.int (s * g)), none] ∧ Exb m H H' ∧ MkR (Cof "Marks") H' m ((x, a) :: R1) d ∧ ((x = [120] ∧ TX.Endd R1 ∧ TX.powE R1 = .error e) ∨ (x ≠ [120] ∧ a = e)), ?_, fun σ' H' hMid => ?_⟩
  · rcases TX.term_err hE ht with ⟨a, R1, rfl, E1, hp⟩ | ⟨w, a, b, c, R3, rfl, hw, hh, E3, hp⟩ | ⟨w, a, b, x, R3, rfl, hw, hh, hx⟩ | ⟨w, R1, rfl, hw, hh⟩
    · walk_at "rd"
      refine r_methM hM (by decide +kernel) (by decide +kernel) (by decide +kernel) ?_
      walk_at "rd"
      refine c_Marks_mark hM ?_
      walk_at "rd"
      refine r_neTl lit_x ?_
      rw [decide_eq_true rfl]
      walk_at "rd"
      exact ⟨1, _, a, R1, by rw [Int.mul_one]; rfl, fun _ _ _ h => h, hM, .inl ⟨rfl, E1, hp⟩⟩
    · walk_at "rd"
      refine r_methM hM (by decide +kernel) (by decide +kernel) (by decide +kernel) ?_
      walk_at "rd"
      refine c_Marks_mark hM ?_
      walk_at "rd"
      refine r_neTl lit_x ?_
      rw [decide_eq_false hw]
      walk_at "rd"
      refine r_methM hM (by decide +kernel) (by decide +kernel) (by decide +kernel) ?_
      walk_at "rd"
      refine c_Marks_whole hM hh fun H1 b1 hM1 => ?_
      refine r_mul (wide_mul s1 (val_lt hh (hM.bd _ (List.mem_cons_self ..))) (by decide) (by decide) (by decide)) ?_
      walk_at "rd"
      refine r_methM hM1 (by decide +kernel) (by decide +kernel) (by decide +kernel) ?_
      walk_at "rd"
      refine c_Marks_mark hM1 ?_
      walk_at "rd"
      refine r_neTl lit_star ?_
      rw [decide_eq_true rfl]
      walk_at "rd"
      refine r_methM hM1 (by decide +kernel) (by decide +kernel) (by decide +kernel) ?_
      walk_at "rd"
      refine c_Marks_take lit_star hM1 fun H2 b2 hM2 => ?_
      exact ⟨TX.val w, _, c, R3, rfl, b1.trans b2, hM2, .inl ⟨rfl, E3, hp⟩⟩
    · walk_at "rd"
      refine r_methM hM (by decide +kernel) (by decide +kernel) (by decide +kernel) ?_
      walk_at "rd"
      refine c_Marks_mark hM ?_
      walk_at "rd"
      refine r_neTl lit_x ?_
      rw [decide_eq_false hw]
      walk_at "rd"
      refine r_methM hM (by decide +kernel) (by decide +kernel) (by decide +kernel) ?_
      walk_at "rd"
      refine c_Marks_whole hM hh fun H1 b1 hM1 => ?_
      refine r_mul (wide_mul s1 (val_lt hh (hM.bd _ (List.mem_cons_self ..))) (by decide) (by decide) (by decide)) ?_
      walk_at "rd"
      refine r_methM hM1 (by decide +kernel) (by decide +kernel) (by decide +kernel) ?_
      walk_at "rd"
      refine c_Marks_mark hM1 ?_
      walk_at "rd"
      refine r_neTl lit_star ?_
      rw [decide_eq_true rfl]
      walk_at "rd"
      refine r_methM hM1 (by decide +kernel) (by decide +kernel) (by decide +kernel) ?_
      walk_at "rd"
      refine c_Marks_take lit_star hM1 fun H2 b2 hM2 => ?_
      exact ⟨TX.val w, x, e, R3, rfl, b1.trans b2, hM2, .inr ⟨hx, rfl⟩⟩
    · walk_at "rd"
      refine r_methM hM (by decide +kernel) (by decide +kernel) (by decide +kernel) ?_
      walk_at "rd"
      refine c_Marks_mark hM ?_
      walk_at "rd"
      refine r_neTl lit_x ?_
      rw [decide_eq_false hw]
      walk_at "rd"
      refine r_methM hM (by decide +kernel) (by decide +kernel) (by decide +kernel) ?_
      walk_at "rd"
      exact c_Marks_wholeX hM hh (q.to (fun _ _ _ h => h) hM)
  obtain ⟨g, x, a, R1, rfl, b1, hM1, ⟨rfl, E1, hp⟩ | ⟨hx, rfl⟩⟩ := hMid
  case inr =>
    walk_at "rd"
    refine r_methM hM1 (by decide +kernel) (by decide +kernel) (by decide +kernel) ?_
    walk_at "rd"
    exact c_Marks_takeX lit_x hM1 hx (q.to b1 hM1)
  obtain ⟨b, v, R2, rfl, hv⟩ := TX.pow_err E1 hp
  walk_at "rd"
  refine r_methM hM1 (by decide +kernel) (by decide +kernel) (by decide +kernel) ?_
  walk_at "rd"
  refine c_Marks_take lit_x hM1 fun H2 b2 hM2 => ?_
  have b12 := b1.trans b2
  walk_at "rd"
  refine ⟨fun σ' H' => False, ?_, fun σ' H' hMid => hMid.elim⟩
  walk_at "rd"
  refine r_methM hM2 (by decide +kernel) (by decide +kernel) (by decide +kernel) ?_
  walk_at "rd"
  refine c_Marks_mark hM2 ?_
  walk_at "rd"
  rw [eq_lit lit_pow, decide_eq_true rfl]
  walk_at "rd"
  refine r_methM hM2 (by decide +kernel) (by decide +kernel) (by decide +kernel) ?_
  walk_at "rd"
  refine c_Marks_take lit_pow hM2 fun H3 b3 hM3 => ?_
  walk_at "rd"
  refine r_methM hM3 (by decide +kernel) (by decide +kernel) (by decide +kernel) ?_
  walk_at "rd"
  exact c_Marks_exponentX hM3 hv (q.to (b12.trans b3) hM3)
theorem c_add_term {m l : Addr} {s : Int} {row : List Int} {R R' : List TX.Mk} {d f : Int} {k : Nat} (hM : MkR (Cof "Marks") H m R d) (hl : H l = some (.lst (row.map V.int))) (h9 : row.length = 9) (hs : s = 1 ∨ s = -1) (ht : TX.termE R = .ok (f, k, R')) (q : ∀ H', Exb2 m l H H' → MkR (Cof "Marks") H' m R' d → H' l = some (.lst ((TX.addR row k (s * f)).map V.int)) → Q .non H') : sp_add_term K Cof [.ref m, .ref l, .int s] H Q E := .inl (cq_add_term hM hl h9 hs ht q)
theorem c_add_termX {m l : Addr} {s : Int} {R : List TX.Mk} {d : Int} {e : Nat} (hM : MkR (Cof "Marks") H m R d) (hs : s = 1 ∨ s = -1) (hE : TX.Endd R) (ht : TX.termE R = .error e) (q : ErrB m (Cof "NoText") "at" (.int (e : Int)) E H) : sp_add_term K Cof [.ref m, .ref l, .int s] H Q E := .inr ⟨m, l, s, [], R, d, e, rfl, hM, hs, hE, ht, q⟩
end

/-! #### poly_of -/
--USE TM
def sq_poly_of (K : PySem.W.Frag) (Cof : String → Addr) : Sp := fun vs H Q _ => ∃ (m : Addr) (row : List Int) (R R' : List TX.Mk) (d : Int) (n : Nat), vs = [.ref m] ∧ MkR (Cof "Marks") H m R d ∧ TX.polyE n R = .ok (row, R') ∧
  ∀ p H', H p = none → Exb m H H' → MkR (Cof "Marks") H' m R' d → H' p = some (.lst ((ML.trimL row).map V.int)) → Q (.ref p) H'
def t_poly_of (K : PySem.W.Frag) (Cof : String → Addr) (E : XK) : TS :=
  tSeq (tAsg (tOp rRep (tLst (tCons (tC (.int 0)) (tNil))) (tC (.int 9))) (gName 1))
  (tSeq (tAsg (tC (.int 1)) (gName 2))
  (tCut (tIfS (tTest (tOp rEq (tMeth (Cof "Marks") "mark" (sp_Marks_mark K Cof) [] E0 (tVar 0) tNil) (tC (.str "-")))) (tSeq (tDrop (tMeth (Cof "Marks") "take" (sp_Marks_take K Cof) [] E (tVar 0) (tCons (tC (.str "-")) (tNil))))
  (tAsg (tUn rNeg (tC (.int 1))) (gName 2))) (tNext))
  (tSeq (tDrop (tCall (sp_add_term K Cof) [] E (tCons (tVar 0) (tCons (tVar 1) (tCons (tVar 2) (tNil))))))
  (tSeq (tWhile (tTest (tOp (rIn K false) (tMeth (Cof "Marks") "mark" (sp_Marks_mark K Cof) [] E0 (tVar 0) tNil) (tTup (tCons (tC (.str "+")) (tCons (tC (.str "-")) (tNil)))))) (tSeq (tAsg (tIf (tTest (tOp rEq (tMeth (Cof "Marks") "taken" (sp_Marks_taken K Cof) [] E0 (tVar 0) tNil) (tC (.str "+")))) (tC (.int 1)) (tUn rNeg (tC (.int 1)))) (gName 2))
  (tDrop (tCall (sp_add_term K Cof) [] E (tCons (tVar 0) (tCons (tVar 1) (tCons (tVar 2) (tNil))))))))
  (tRet (tCall (sp_poly K Cof) [] E0 (tCons (tVar 1) (tNil))))))))

section
variable {K : PySem.W.Frag} {Cof : String → Addr} {vs : List V} {H : Hp} {Q : VK} {E : XK}
theorem lq_poly_of (h : sq_poly_of K Cof vs H Q E) : vs.length = 1 := by
  obtain ⟨m, row, R, R', d, n, rfl, _⟩ := h; rfl
theorem rq_poly_of (h : sq_poly_of K Cof vs H Q E) : t_poly_of K Cof E { nx := fun _ H' => Q .non H', rt := Q } (start ["marks", "row", "sign"] vs) H := by
  obtain ⟨m, row, R, R', d, n, rfl, hM, hp, q⟩ := h
  obtain ⟨w, a, R1, f, k, R2, rfl, ht, hlp⟩ := poly_hd hp
  unfold t_poly_of
  walk_at "rd"
  refine r_lstK fun p0 H0 hp0 e0 h0 => ?_
  walk_at "rd"
  refine r_rep1 h0 (by decide) (fun l H1 hl1 e1 h1 => ?_)
  have h1' : H1 l = some (.lst (TX.nine.map V.int)) := h1
  have e01 := e0.trans e1
  have hl0 : H l = none := Evl.fresh_back e0 hl1
  have hM1 := hM.ex e01
  walk_at "rd"
  refine ⟨fun σ' H' => σ' = [some (.ref m), some (.ref l), some (.int (if w = [45] then -1 else 1))] ∧ Exb m H H' ∧ MkR (Cof "Marks") H' m (if w = [45] then R1 else (w, a) :: R1) d ∧ H' l = some (.lst (TX.nine.map V.int)), ?_, fun σ' H' hMid => ?_⟩
  · walk_at "rd"
    refine r_methM hM1 (by decide +kernel) (by decide +kernel) (by decide +kernel) ?_
    walk_at "rd"
    refine c_Marks_mark hM1 ?_
    walk_at "rd"
    rw [eq_lit lit_minus]
    refine ite_d (fun hw => ?_) (fun hw => ?_)
    · subst hw
      walk_at "rd"
      refine r_methM hM1 (by decide +kernel) (by decide +kernel) (by decide +kernel) ?_
      walk_at "rd"
      refine c_Marks_take lit_minus hM1 fun H2 b2 hM2 => ?_
      walk_at "rd"
      exact ⟨rfl, fun a n o h => b2 a n o (e01 _ _ h), hM2, b2 l (hM1.ne h1') _ h1'⟩
    · walk_at "rd"
      rw [if_neg hw, if_neg hw]
      exact ⟨rfl, fun a n o h => e01 _ _ h, hM1, h1'⟩
  obtain ⟨rfl, b2, hM2, h2⟩ := hMid
  walk_at "rd"
  refine c_add_term hM2 h2 rfl (by split <;> simp) ht fun H3 b3 hM3 h3 => ?_
  have lm : l ≠ m := fun z => by
    obtain ⟨_, _, _, _, _, h, _⟩ := hM
    rw [z, h] at hl0; cases hl0
  have b03 : Exb m H H3 := fun a n o h => b3 a n (fun z => by rw [z, hl0] at h; cases h) o (b2 a n o h)
  walk_at "rd"
  refine r_while (fun n σ' H' => ∃ (u : V) (row1 : List Int) (R3 : List TX.Mk), σ' = [some (.ref m), some (.ref l), some u] ∧ Exb m H H' ∧ MkR (Cof "Marks") H' m R3 d ∧ H' l = some (.lst (row1.map V.int)) ∧ row1.length = 9 ∧ TX.loopE n row1 R3 = .ok (row, R')) n ⟨_, _, R2, rfl, b03, hM3, h3, by rw [addR_len]; rfl, hlp⟩ (fun n σ' H' hw => ?_)
  obtain ⟨u, row1, R3, rfl, b4, hM4, h4, l9, hE⟩ := hw
  obtain ⟨n', w3, a3, R4, rfl, rfl⟩ := loop_hd hE
  walk_at "rd"
  refine r_methM hM4 (by decide +kernel) (by decide +kernel) (by decide +kernel) ?_
  walk_at "rd"
  refine c_Marks_mark hM4 ?_
  walk_at "rd"
  refine r_tupK fun pt H5 hpt e5 h5 => ?_
  walk_at "rd"
  refine r_inTup2 lit_plus lit_minus (.inl (.inl h5)) ?_
  have hM5 := hM4.ex e5
  have hl5 := e5 _ _ h4
  rcases loop_ok hE with ⟨hw, f3, k3, R5, ht3, hE3⟩ | ⟨hw, rfl, rfl⟩
  · rw [decide_eq_true hw]
    walk_at "rd"
    refine wh_in ?_
    walk_at "rd"
    refine r_methM hM5 (by decide +kernel) (by decide +kernel) (by decide +kernel) ?_
    walk_at "rd"
    refine c_Marks_taken hM5 fun H6 b6 hM6 => ?_
    walk_at "rd"
    rw [eq_lit lit_plus]
    have hl6 := b6 l (hM5.ne hl5) _ hl5
    refine ite_d (fun hp => ?_) (fun hp => ?_)
    · walk_at "rd"
      have es : TX.sgn w3 = 1 := by unfold TX.sgn; rw [if_pos hp]
      refine c_add_term hM6 hl6 l9 (by simp) ht3 fun H7 b7 hM7 h7 => ?_
      exact ⟨n', by omega, _, _, R5, rfl, fun a n o h => b7 a n (fun z => by rw [z, hl0] at h; cases h) o (b6 a n o (e5 _ _ (b4 a n o h))), hM7, h7, by rw [addR_len]; exact l9, by rw [es] at hE3; exact hE3⟩
    · walk_at "rd"
      have es : TX.sgn w3 = -1 := by unfold TX.sgn; rw [if_neg hp]
      refine c_add_term hM6 hl6 l9 (by simp) ht3 fun H7 b7 hM7 h7 => ?_
      exact ⟨n', by omega, _, _, R5, rfl, fun a n o h => b7 a n (fun z => by rw [z, hl0] at h; cases h) o (b6 a n o (e5 _ _ (b4 a n o h))), hM7, h7, by rw [addR_len]; exact l9, by rw [es] at hE3; exact hE3⟩
  · rw [decide_eq_false hw]
    walk_at "rd"
    refine c_poly (SqL.inj hl5) (by omega) fun p H6 hp6 e6 h6 => ?_
    refine q p H6 ?_ (fun a n o h => e6 _ _ (e5 _ _ (b4 a n o h))) (hM5.ex e6) h6
    cases hh : H p with
    | none => rfl
    | some o =>
      by_cases z : p = m
      · subst z
        obtain ⟨_, _, _, _, _, h, _⟩ := hM5
        rw [hp6] at h; cases h
      · have := e5 _ _ (b4 p z _ hh)
        rw [hp6] at this; cases this
theorem cq_poly_of {m : Addr} {row : List Int} {R R' : List TX.Mk} {d : Int} {n : Nat} (hM : MkR (Cof "Marks") H m R d) (hp : TX.polyE n R = .ok (row, R')) (q : ∀ p H', H p = none → Exb m H H' → MkR (Cof "Marks") H' m R' d → H' p = some (.lst ((ML.trimL row).map V.int)) → Q (.ref p) H') : sq_poly_of K Cof [.ref m] H Q E := ⟨m, row, R, R', d, n, rfl, hM, hp, q⟩
end

--USE TE
def sp_poly_of (K : PySem.W.Frag) (Cof : String → Addr) : Sp := fun vs H Q E => sq_poly_of K Cof vs H Q E ∨ ∃ (m : Addr) (R : List TX.Mk) (d : Int) (n e : Nat), vs = [.ref m] ∧ MkR (Cof "Marks") H m R d ∧ TX.Endd R ∧ R.length < n ∧ TX.polyE n R = .error e ∧ ErrB m (Cof "NoText") "at" (.int (e : Int)) E H
section
variable {K : PySem.W.Frag} {Cof : String → Addr} {vs : List V} {H : Hp} {Q : VK} {E : XK}
theorem len_poly_of (h : sp_poly_of K Cof vs H Q E) : vs.length = 1 := by
  rcases h with h | ⟨m, R, d, n, e, rfl, _⟩
  · exact lq_poly_of h
  · rfl
theorem rd_poly_of (h : sp_poly_of K Cof vs H Q E) : t_poly_of K Cof E { nx := fun _ H' => Q .non H', rt := Q } (start ["marks", "row", "sign"] vs) H := by
  rcases h with h | ⟨m, R, d, n, e, rfl, hM, hE, hn, hp, q⟩
  · exact rq_poly_of h
  obtain ⟨w, a, R1, rfl, hq⟩ := TX.poly_err hE hp
  clear hp
  have hE1 : TX.Endd (if w = [45] then R1 else (w, a) :: R1) := by
    split
    · next hw => exact hE.tail (by rw [hw]; simp)
    · exact hE
  have hn1 : (if w = [45] then R1 else (w, a) :: R1).length < n := by
    split
    · rw [List.length_cons] at hn; omega
    · exact hn
  unfold t_poly_of
  walk_at "rd"
  refine r_lstK fun p0 H0 hp0 e0 h0 => ?_
  walk_at "rd"
  refine r_rep1 h0 (by decide) (fun l H1 hl1 e1 h1 => ?_)
  have h1' : H1 l = some (.lst (TX.nine.map V.int)) := h1
  have e01 := e0.trans e1
  have hl0 : H l = none := Evl.fresh_back e0 hl1
  have hM1 := hM.ex e01
  walk_at "rd"
  refine ⟨fun σ' H' => σ' = [some (.ref m), some (.ref l), some (.int (if w = [45] then -1 else 1))] ∧ Exb m H H' ∧ MkR (Cof "Marks") H' m (if w = [45] then R1 else (w, a) :: R1) d ∧ H' l = some (.lst (TX.nine.map V.int)), ?_, fun σ' H' hMid => ?_⟩
  · walk_at "rd"
    refine r_methM hM1 (by decide +kernel) (by decide +kernel) (by decide +kernel) ?_
    walk_at "rd"
    refine c_Marks_mark hM1 ?_
    walk_at "rd"
    rw [eq_lit lit_minus]
    refine ite_d (fun hw => ?_) (fun hw => ?_)
    · subst hw
      walk_at "rd"
      refine r_methM hM1 (by decide +kernel) (by decide +kernel) (by decide +kernel) ?_
      walk_at "rd"
      refine c_Marks_take lit_minus hM1 fun H2 b2 hM2 => ?_
      walk_at "rd"
      exact ⟨rfl, fun a n o h => b2 a n o (e01 _ _ h), hM2, b2 l (hM1.ne h1') _ h1'⟩
    · walk_at "rd"
      rw [if_neg hw, if_neg hw]
      exact ⟨rfl, fun a n o h => e01 _ _ h, hM1, h1'⟩
  obtain ⟨rfl, b2, hM2, h2⟩ := hMid
  have lm : l ≠ m := fun z => by
    obtain ⟨_, _, _, _, _, h, _⟩ := hM
    rw [z, h] at hl0; cases hl0
  walk_at "rd"
  rcases hq with ht | ⟨f, k, R2, ht, hlp⟩
  · exact c_add_termX hM2 (by split <;> simp) hE1 ht (q.go b2 hM2)
  refine c_add_term hM2 h2 rfl (by split <;> simp) ht fun H3 b3 hM3 h3 => ?_
  have b03 : Exb m H H3 := fun a n o h => b3 a n (fun z => by rw [z, hl0] at h; cases h) o (b2 a n o h)
  have lt2 := TX.term_lt ht
  walk_at "rd"
  refine r_while (fun n σ' H' => ∃ (u : V) (row1 : List Int) (R3 : List TX.Mk), σ' = [some (.ref m), some (.ref l), some u] ∧ Exb m H H' ∧ MkR (Cof "Marks") H' m R3 d ∧ H' l = some (.lst (row1.map V.int)) ∧ row1.length = 9 ∧ TX.Endd R3 ∧ R3.length < n ∧ TX.loopE n row1 R3 = .error e) n ⟨_, _, R2, rfl, b03, hM3, h3, by rw [addR_len]; rfl, TX.term_endd hE1 ht, by omega, hlp⟩ (fun n σ' H' hw => ?_)
  obtain ⟨u, row1, R3, rfl, b4, hM4, h4, l9, E3, n3, hE3⟩ := hw
  match R3, n, E3, n3 with
  | [], _, E3, _ => exact E3.elim
  | (w3, a3) :: R4, 0, _, n3 => exact absurd n3 (by omega)
  | (w3, a3) :: R4, n' + 1, E3, n3 =>
    obtain ⟨hw, hcs⟩ := TX.loop_err hE3
    walk_at "rd"
    refine r_methM hM4 (by decide +kernel) (by decide +kernel) (by decide +kernel) ?_
    walk_at "rd"
    refine c_Marks_mark hM4 ?_
    walk_at "rd"
    refine r_tupK fun pt H5 hpt e5 h5 => ?_
    walk_at "rd"
    refine r_inTup2 lit_plus lit_minus (.inl (.inl h5)) ?_
    have hM5 := hM4.ex e5
    have hl5 := e5 _ _ h4
    have E4 := E3.tail (by rcases hw with rfl | rfl <;> simp)
    rw [decide_eq_true hw]
    walk_at "rd"
    refine wh_in ?_
    walk_at "rd"
    refine r_methM hM5 (by decide +kernel) (by decide +kernel) (by decide +kernel) ?_
    walk_at "rd"
    refine c_Marks_taken hM5 fun H6 b6 hM6 => ?_
    walk_at "rd"
    rw [eq_lit lit_plus]
    have hl6 := b6 l (hM5.ne hl5) _ hl5
    have b06 : Exb m H H6 := fun a n o h => b6 a n o (e5 _ _ (b4 a n o h))
    rw [List.length_cons] at n3
    refine ite_d (fun hp => ?_) (fun hp => ?_)
    · walk_at "rd"
      have es : TX.sgn w3 = 1 := by unfold TX.sgn; rw [if_pos hp]
      rcases hcs with ht3 | ⟨f3, k3, R5, ht3, hE4⟩
      · exact c_add_termX hM6 (by simp) E4 ht3 (q.go b06 hM6)
      have lt5 := TX.term_lt ht3
      refine c_add_term hM6 hl6 l9 (by simp) ht3 fun H7 b7 hM7 h7 => ?_
      exact ⟨n', by omega, _, _, R5, rfl, fun a n o h => b7 a n (fun z => by rw [z, hl0] at h; cases h) o (b06 a n o h), hM7, h7, by rw [addR_len]; exact l9, TX.term_endd E4 ht3, by omega, by rw [es] at hE4; exact hE4⟩
    · walk_at "rd"
      have es : TX.sgn w3 = -1 := by unfold TX.sgn; rw [if_neg hp]
      rcases hcs with ht3 | ⟨f3, k3, R5, ht3, hE4⟩
      · exact c_add_termX hM6 (by simp) E4 ht3 (q.go b06 hM6)
      have lt5 := TX.term_lt ht3
      refine c_add_term hM6 hl6 l9 (by simp) ht3 fun H7 b7 hM7 h7 => ?_
      exact ⟨n', by omega, _, _, R5, rfl, fun a n o h => b7 a n (fun z => by rw [z, hl0] at h; cases h) o (b06 a n o h), hM7, h7, by rw [addR_len]; exact l9, TX.term_endd E4 ht3, by omega, by rw [es] at hE4; exact hE4⟩
theorem c_poly_of {m : Addr} {row : List Int} {R R' : List TX.Mk} {d : Int} {n : Nat} (hM : MkR (Cof "Marks") H m R d) (hp : TX.polyE n R = .ok (row, R')) (q : ∀ p H', H p = none → Exb m H H' → MkR (Cof "Marks") H' m R' d → H' p = some (.lst ((ML.trimL row).map V.int)) → Q (.ref p) H') : sp_poly_of K Cof [.ref m] H Q E := .inl (cq_poly_of hM hp q)
theorem c_poly_ofX {m : Addr} {R : List TX.Mk} {d : Int} {n e : Nat} (hM : MkR (Cof "Marks") H m R d) (hE : TX.Endd R) (hn : R.length < n) (hp : TX.polyE n R = .error e) (q : ErrB m (Cof "NoText") "at" (.int (e : Int)) E H) : sp_poly_of K Cof [.ref m] H Q E := .inr ⟨m, R, d, n, e, rfl, hM, hE, hn, hp, q⟩
end

/-! #### read_poly -/
--USE TM
def sq_read_poly (K : PySem.W.Frag) (Cof : String → Addr) : Sp := fun vs H Q _ => ∃ (l : List Nat) (P : List Int), vs = [.str (TX.sS l)] ∧ l.length ≤ 600 ∧ TX.readE l = .ok P ∧ RetI P H Q
def t_read_poly (K : PySem.W.Frag) (Cof : String → Addr) (E : XK) : TS :=
  tSeq (tAsg (tMake (Cof "Marks") (sp_Marks___init__ K Cof) [] E0 (tCons (tVar 0) (tNil))) (gName 1))
  (tSeq (tAsg (tCall (sp_poly_of K Cof) [] E (tCons (tVar 1) (tNil))) (gName 2))
  (tSeq (tDrop (tMeth (Cof "Marks") "last" (sp_Marks_last K Cof) [] E (tVar 1) tNil))
  (tRet (tVar 2))))

section
variable {K : PySem.W.Frag} {Cof : String → Addr} {vs : List V} {H : Hp} {Q : VK} {E : XK}
theorem lq_read_poly (h : sq_read_poly K Cof vs H Q E) : vs.length = 1 := by
  obtain ⟨l, P, rfl, _⟩ := h; rfl
theorem rq_read_poly (h : sq_read_poly K Cof vs H Q E) : t_read_poly K Cof E { nx := fun _ H' => Q .non H', rt := Q } (start ["text", "marks", "P"] vs) H := by
  obtain ⟨l, P, rfl, hl, hE, q⟩ := h
  obtain ⟨row, a, R, hp, rfl⟩ := read_ok hE
  unfold t_read_poly
  walk_at "rd"
  refine c_Marks hl fun m H1 hm e1 hM => ?_
  walk_at "rd"
  refine c_poly_of hM hp fun p H2 hp2 b2 hM2 h2 => ?_
  walk_at "rd"
  refine r_methM hM2 (by decide +kernel) (by decide +kernel) (by decide +kernel) ?_
  walk_at "rd"
  refine c_Marks_last hM2 ?_
  walk_at "rd"
  exact q p H2 (Evl.fresh_back e1 hp2) (e1.mutb b2 hm) h2
theorem cq_read_poly {l : List Nat} {P : List Int} (hl : l.length ≤ 600) (hE : TX.readE l = .ok P) (q : RetI P H Q) : sq_read_poly K Cof [.str (TX.sS l)] H Q E := ⟨l, P, rfl, hl, hE, q⟩
end

--USE TE
def sp_read_poly (K : PySem.W.Frag) (Cof : String → Addr) : Sp := fun vs H Q E => sq_read_poly K Cof vs H Q E ∨ ∃ (l : List Nat) (e : Nat), vs = [.str (TX.sS l)] ∧ l.length ≤ 600 ∧ TX.readE l = .error e ∧ Err (Cof "NoText") "at" (.int (e : Int)) E H
section
variable {K : PySem.W.Frag} {Cof : String → Addr} {vs : List V} {H : Hp} {Q : VK} {E : XK}
theorem len_read_poly (h : sp_read_poly K Cof vs H Q E) : vs.length = 1 := by
  rcases h with h | ⟨l, e, rfl, _⟩
  · exact lq_read_poly h
  · rfl
theorem rd_read_poly (h : sp_read_poly K Cof vs H Q E) : t_read_poly K Cof E { nx := fun _ H' => Q .non H', rt := Q } (start ["text", "marks", "P"] vs) H := by
  rcases h with h | ⟨l, e, rfl, hl, hE, q⟩
  · exact rq_read_poly h
  have en := TX.marks_endd l.length l 0 (Nat.le_refl _)
  have cn := TX.marks_cnt l.length l 0 (Nat.le_refl _)
  unfold t_read_poly
  walk_at "rd"
  refine c_Marks hl fun m H1 hm e1 hM => ?_
  have qb : ErrB m (Cof "NoText") "at" (.int (e : Int)) E H1 := fun d H' hd b hx => q d H' (Evl.fresh_back e1 hd) (e1.mutb b hm) hx
  walk_at "rd"
  rcases TX.read_err hE with hp | ⟨row, w, R, hp, hw⟩
  · exact c_poly_ofX hM en (by omega) hp qb
  refine c_poly_of hM hp fun p H2 hp2 b2 hM2 h2 => ?_
  walk_at "rd"
  refine r_methM hM2 (by decide +kernel) (by decide +kernel) (by decide +kernel) ?_
  walk_at "rd"
  exact c_Marks_lastX hM2 hw (qb.to b2 hM2)
theorem c_read_poly {l : List Nat} {P : List Int} (hl : l.length ≤ 600) (hE : TX.readE l = .ok P) (q : RetI P H Q) : sp_read_poly K Cof [.str (TX.sS l)] H Q E := .inl (cq_read_poly hl hE q)
theorem c_read_polyX {l : List Nat} {e : Nat} (hl : l.length ≤ 600) (hE : TX.readE l = .error e) (q : Err (Cof "NoText") "at" (.int (e : Int)) E H) : sp_read_poly K Cof [.str (TX.sS l)] H Q E := .inr ⟨l, e, rfl, hl, hE, q⟩
end

/-! #### _law_cell -/
/-- the k-th cell, 0 beyond the last one -/
def cellOf (ns : List Int) (k : Int) : Int := ns.getD k.toNat 0
def sp__law_cell (K : PySem.W.Frag) (Cof : String → Addr) : Sp := fun vs H Q _ => ∃ (a : Addr) (ns : List Int) (k : Int), vs = [.ref a, .int k] ∧ SqL K H a (ns.map V.int) ∧ 0 ≤ k ∧ Q (.int (cellOf ns k)) H
def t__law_cell (K : PySem.W.Frag) (Cof : String → Addr) (E : XK) : TS :=
  tSeq (tIfS (tTest (tOp rLt (tVar 1) (tCB (rLenS K) (tCons (tVar 0) (tNil))))) (tRet (tOp (rIxL K) (tVar 0) (tVar 1))) (tNext))
  (tRet (tC (.int 0)))

section
variable {K : PySem.W.Frag} {Cof : String → Addr} {vs : List V} {H : Hp} {Q : VK} {E : XK}
theorem len__law_cell (h : sp__law_cell K Cof vs H Q E) : vs.length = 2 := by
  obtain ⟨a, ns, k, rfl, _⟩ := h; rfl
theorem rd__law_cell (h : sp__law_cell K Cof vs H Q E) : t__law_cell K Cof E { nx := fun _ H' => Q .non H', rt := Q } (start ["_law_script", "_law_k"] vs) H := by
  obtain ⟨a, ns, k, rfl, hS, h0, q⟩ := h
  obtain ⟨k, rfl⟩ : ∃ n : Nat, k = (n : Int) := ⟨k.toNat, by omega⟩
  unfold t__law_cell
  walk_at "rd"
  try rw [List.length_map]
  refine ite_d (fun h => ?_) (fun h => ?_)
  · walk_at "rd"
    have hk : k < ns.length := by omega
    exact r_ixI hS h0 h q
  · walk_at "rd"
    have e : cellOf ns k = 0 := by
      unfold cellOf
      rw [List.getD_eq_getElem?_getD, List.getElem?_eq_none (by omega)]; rfl
    rw [e] at q
    exact q
theorem c__law_cell {a : Addr} {ns : List Int} {k : Int} (h : SqL K H a (ns.map V.int)) (h0 : 0 ≤ k) (q : Q (.int (cellOf ns k)) H) : sp__law_cell K Cof [.ref a, .int k] H Q E := ⟨a, ns, k, rfl, h, h0, q⟩
end
local macro_rules | `(tactic| walk_at "call") => `(tactic| ((with_reducible refine' c__law_cell ?h ?h0 ?_); (case h => walk_at "sq"); (case h0 => first | decide | omega)))

/-! #### _law_whole -/
def sp__law_whole (K : PySem.W.Frag) (Cof : String → Addr) : Sp := fun vs H Q _ => ∃ i : Int, vs = [.int i] ∧ Q (.bl true) H
def t__law_whole (K : PySem.W.Frag) (Cof : String → Addr) (E : XK) : TS :=
  tRet (tAndV (tCB (rIsi K) (tCons (tVar 0) (tCons (tC (.ty "int")) (tNil)))) (tNotV (tCB (rIsi K) (tCons (tVar 0) (tCons (tC (.ty "bool")) (tNil))))))

section
variable {K : PySem.W.Frag} {Cof : String → Addr} {vs : List V} {H : Hp} {Q : VK} {E : XK}
theorem len__law_whole (h : sp__law_whole K Cof vs H Q E) : vs.length = 1 := by
  obtain ⟨i, rfl, _⟩ := h; rfl
theorem rd__law_whole (h : sp__law_whole K Cof vs H Q E) : t__law_whole K Cof E { nx := fun _ H' => Q .non H', rt := Q } (start ["_law_found"] vs) H := by
  obtain ⟨i, rfl, q⟩ := h
  unfold t__law_whole
  walk_at "rd"
  refine r_isi (.base (.int i)) (.ty _) (kit_ty (r := true) (by decide +kernel)) ?_
  walk_at "rd"
  refine r_isi (.base (.int i)) (.ty _) (kit_ty (r := false) (by decide +kernel)) ?_
  walk_at "rd"
  exact q
end
theorem c__law_whole {K : PySem.W.Frag} {Cof : String → Addr} {H : Hp} {Q : VK} {E : XK} {i : Int} (q : Q (.bl true) H) : sp__law_whole K Cof [.int i] H Q E := ⟨i, rfl, q⟩
local macro_rules | `(tactic| walk_at "call") => `(tactic| with_reducible refine c__law_whole ?_)

/-! #### _law_kind -/
--USE TV
def sp__law_kind (K : PySem.W.Frag) (Cof : String → Addr) : Sp := fun vs H Q _ => ∃ (w : List Nat), vs = [.str (TX.sS w)] ∧ w ≠ [] ∧ w.length ≤ 1000 ∧ ∀ H', Ex H H' → Q (.str (TX.sS (TX.kindL w))) H'
def t__law_kind (K : PySem.W.Frag) (Cof : String → Addr) (E : XK) : TS :=
  tSeq (tIfS (tTest (tOp (rIn K false) (tVar 0) (tTup (tCons (tC (.str "+")) (tCons (tC (.str "-")) (tCons (tC (.str "*")) (tCons (tC (.str "/")) (tCons (tC (.str "^")) (tCons (tC (.str "(")) (tCons (tC (.str ")")) (tCons (tC (.str ",")) (tCons (tC (.str "..")) (tCons (tC (.str "sqrt")) (tCons (tC (.str "cbrt")) (tCons (tC (.str "root")) (tCons (tC (.str "x")) (tNil))))))))))))))))) (tRet (tVar 0)) (tNext))
  (tSeq (tIfS (tTest (tOp rInT (tOp rIxS (tVar 0) (tC (.int 0))) (tC (.str "0123456789")))) (tRet (tOp (rIxL K) (tLst (tCons (tC (.str "number")) (tCons (tC (.str "none")) (tNil)))) (tCB rInt1 (tCons (tAndV (tOp rEq (tOp rIxS (tVar 0) (tC (.int 0))) (tC (.str "0"))) (tOp rNe (tVar 0) (tC (.str "0")))) (tNil))))) (tNext))
  (tSeq (tIfS (tAnd (tTest (tOp rInT (tOp rIxS (tVar 0) (tC (.int 0))) (tC (.str "abcdefghijklmnopqrstuvwxyz")))) (tTest (tOp rLt (tCB rLenStr (tCons (tVar 0) (tNil))) (tC (.int 9))))) (tRet (tC (.str "name"))) (tNext))
  (tRet (tC (.str "none")))))

section
variable {K : PySem.W.Frag} {Cof : String → Addr} {vs : List V} {H : Hp} {Q : VK} {E : XK}
theorem len__law_kind (h : sp__law_kind K Cof vs H Q E) : vs.length = 1 := by
  obtain ⟨w, rfl, _⟩ := h; rfl
theorem rd__law_kind (h : sp__law_kind K Cof vs H Q E) : t__law_kind K Cof E { nx := fun _ H' => Q .non H', rt := Q } (start ["_law_mark_here"] vs) H := by
  obtain ⟨w, rfl, hw, hl, q⟩ := h
  have p := List.length_pos_iff.mpr hw
  have hg : w.getD (0 : Int).toNat 0 = w.headD 0 := by
    match w, hw with
    | c :: r, _ => rfl
  unfold TX.kindL at q
  unfold t__law_kind
  walk_at "rd"
  refine r_tupK fun p1 H1 hp1 e1 h1 => ?_
  walk_at "rd"
  refine r_inT (ws := TX.known) (by decide +kernel) (.inl (.inl h1)) ?_
  refine ⟨_, rfl, ite_d (fun hk => ?_) (fun hk => ?_)⟩
  · walk_at "rd"
    rw [if_pos hk] at q
    exact q _ e1
  rw [if_neg hk] at q
  walk_at "rd"
  refine r_ixS (by omega) (by omega) (by omega) ?_
  rw [hg]
  walk_at "rd"
  rw [lit_figs]
  refine r_inSg ?_
  rw [← fig_in]
  refine ⟨_, rfl, ?_⟩
  cases hf : TX.fig (w.headD 0) with
  | true =>
    rw [hf, if_pos rfl] at q
    walk_at "rd"
    refine r_lstK fun p2 H2 hp2 e2 h2 => ?_
    walk_at "rd"
    refine r_ixS (by omega) (by omega) (by omega) ?_
    rw [hg]
    walk_at "rd"
    rw [eq_lit lit_0, show decide ([w.headD 0] = [48]) = decide (w.headD 0 = 48) from decide_eq_decide.mpr ⟨fun h => List.head_eq_of_cons_eq h, fun h => by rw [h]⟩]
    by_cases h48 : w.headD 0 = 48
    · rw [decide_eq_true h48]
      refine ⟨_, rfl, ?_⟩
      walk_at "rd"
      refine r_neTl lit_0 ?_
      walk_at "rd"
      refine r_two (SqL.inj h2) ?_
      by_cases hz : w = [48]
      · rw [if_neg (fun z => z.2 hz)] at q
        rw [decide_eq_true hz]
        exact q _ (e1.trans e2)
      · rw [if_pos ⟨h48, hz⟩] at q
        rw [decide_eq_false hz]
        exact q _ (e1.trans e2)
    · rw [decide_eq_false h48]
      rw [if_neg (fun z => h48 z.1)] at q
      walk_at "rd"
      refine r_two (b := false) (SqL.inj h2) ?_
      exact q _ (e1.trans e2)
  | false =>
    rw [hf, if_neg (by simp)] at q
    walk_at "rd"
    refine r_ixS (by omega) (by omega) (by omega) ?_
    rw [hg]
    walk_at "rd"
    rw [lit_letts]
    refine r_inSg ?_
    rw [← lett_in]
    refine ⟨_, rfl, ?_⟩
    cases hlt : TX.lett (w.headD 0) with
    | true =>
      rw [hlt] at q
      walk_at "rd"
      refine r_lenT' (by omega) ?_
      walk_at "rd"
      refine ite_d (fun h9 => ?_) (fun h9 => ?_)
      · rw [if_pos ⟨rfl, by omega⟩] at q
        walk_at "rd"
        exact q _ e1
      · rw [if_neg (fun z => h9 (by have := z.2; omega))] at q
        walk_at "rd"
        exact q _ e1
    | false =>
      rw [hlt, if_neg (by simp)] at q
      walk_at "rd"
      exact q _ e1
theorem c__law_kind {w : List Nat} (hw : w ≠ []) (hl : w.length ≤ 1000) (q : ∀ H', Ex H H' → Q (.str (TX.sS (TX.kindL w))) H') : sp__law_kind K Cof [.str (TX.sS w)] H Q E := ⟨w, rfl, hw, hl, q⟩
end

/-! #### _law_small -/
--USE TV
def sp__law_small (K : PySem.W.Frag) (Cof : String → Addr) : Sp := fun vs H Q _ => ∃ (w : List Nat), vs = [.str (TX.sS w)] ∧ w.length ≤ 1000 ∧ Q (.bl (decide (TX.small w))) H
def t__law_small (K : PySem.W.Frag) (Cof : String → Addr) (E : XK) : TS :=
  tRet (tAndV (tOp rEq (tCB rLenStr (tCons (tVar 0) (tNil))) (tC (.int 1))) (tOp rInT (tVar 0) (tC (.str "012345678"))))

section
variable {K : PySem.W.Frag} {Cof : String → Addr} {vs : List V} {H : Hp} {Q : VK} {E : XK}
theorem len__law_small (h : sp__law_small K Cof vs H Q E) : vs.length = 1 := by
  obtain ⟨w, rfl, _⟩ := h; rfl
theorem rd__law_small (h : sp__law_small K Cof vs H Q E) : t__law_small K Cof E { nx := fun _ H' => Q .non H', rt := Q } (start ["_law_mark_here"] vs) H := by
  obtain ⟨w, rfl, hl, q⟩ := h
  unfold t__law_small
  walk_at "rd"
  refine r_lenT' (by omega) ?_
  walk_at "rd"
  by_cases h1 : w.length = 1
  · match w, h1 with
    | [c], _ =>
      rw [decide_eq_true (show (([c] : List Nat).length : Int) = 1 from rfl)]
      refine ⟨_, rfl, ?_⟩
      walk_at "rd"
      rw [lit_exp]
      refine r_inSg ?_
      have : decide (c ∈ [48, 49, 50, 51, 52, 53, 54, 55, 56]) = decide (TX.small [c]) := decide_eq_decide.mpr ⟨fun h => ⟨rfl, by
        simp only [List.mem_cons, List.not_mem_nil, or_false] at h
        show 48 ≤ c ∧ c ≤ 56
        omega⟩, fun h => by
        have : 48 ≤ c ∧ c ≤ 56 := h.2
        simp only [List.mem_cons, List.not_mem_nil, or_false]
        omega⟩
      rw [this]
      exact q
  · rw [decide_eq_false (show ¬ (w.length : Int) = 1 by omega)]
    rw [decide_eq_false (show ¬ TX.small w from fun h => h1 h.1)] at q
    exact q
theorem c__law_small {w : List Nat} (hl : w.length ≤ 1000) (q : Q (.bl (decide (TX.small w))) H) : sp__law_small K Cof [.str (TX.sS w)] H Q E := ⟨w, rfl, hl, q⟩
end

/-! #### _law_next_in_poly -/
--USE TV
def sp__law_next_in_poly (K : PySem.W.Frag) (Cof : String → Addr) : Sp := fun vs H Q _ => ∃ (st : TX.PS) (w : List Nat), vs = [.str (TX.sS st.nm), .str (TX.sS w)] ∧ TX.IsMark w ∧ w.length ≤ 1000 ∧ ∀ z H', Ex H H' → TX.NxOk st w z → Q (.str (TX.sS z)) H'
def t__law_next_in_poly (K : PySem.W.Frag) (Cof : String → Addr) (E : XK) : TS :=
  tSeq (tAsg (tCall (sp__law_kind K Cof) [] E0 (tCons (tVar 1) (tNil))) (gName 2))
  (tSeq (tIfS (tTest (tOp (rIn K false) (tVar 0) (tTup (tCons (tC (.str "p0")) (tCons (tC (.str "p1")) (tNil)))))) (tSeq (tIfS (tTest (tOp rEq (tVar 2) (tC (.str "number")))) (tRet (tC (.str "pn"))) (tNext))
  (tSeq (tIfS (tTest (tOp rEq (tVar 2) (tC (.str "x")))) (tRet (tC (.str "px"))) (tNext))
  (tRet (tOp (rIxL K) (tLst (tCons (tC (.str "")) (tCons (tC (.str "p1")) (tNil)))) (tCB rInt1 (tCons (tAndV (tOp rEq (tVar 2) (tC (.str "-"))) (tOp rEq (tVar 0) (tC (.str "p0")))) (tNil))))))) (tNext))
  (tSeq (tIfS (tTest (tOp rEq (tVar 0) (tC (.str "pm")))) (tRet (tOp (rIxL K) (tLst (tCons (tC (.str "")) (tCons (tC (.str "px")) (tNil)))) (tCB rInt1 (tCons (tOp rEq (tVar 2) (tC (.str "x"))) (tNil))))) (tNext))
  (tSeq (tIfS (tTest (tOp rEq (tVar 0) (tC (.str "pe")))) (tRet (tOp (rIxL K) (tLst (tCons (tC (.str "")) (tCons (tC (.str "pd")) (tNil)))) (tCB rInt1 (tCons (tCall (sp__law_small K Cof) [] E0 (tCons (tVar 1) (tNil))) (tNil))))) (tNext))
  (tSeq (tIfS (tAnd (tTest (tOp rEq (tVar 2) (tC (.str "*")))) (tTest (tOp rEq (tVar 0) (tC (.str "pn"))))) (tRet (tC (.str "pm"))) (tNext))
  (tSeq (tIfS (tAnd (tTest (tOp rEq (tVar 2) (tC (.str "^")))) (tTest (tOp rEq (tVar 0) (tC (.str "px"))))) (tRet (tC (.str "pe"))) (tNext))
  (tSeq (tIfS (tTest (tOp (rIn K false) (tVar 2) (tTup (tCons (tC (.str "+")) (tCons (tC (.str "-")) (tNil)))))) (tRet (tC (.str "p1"))) (tNext))
  (tRet (tOp (rIxL K) (tLst (tCons (tC (.str "")) (tCons (tC (.str "l0")) (tNil)))) (tCB rInt1 (tCons (tOp rEq (tVar 2) (tC (.str ","))) (tNil)))))))))))

section
variable {K : PySem.W.Frag} {Cof : String → Addr} {vs : List V} {H : Hp} {Q : VK} {E : XK}
theorem len__law_next_in_poly (h : sp__law_next_in_poly K Cof vs H Q E) : vs.length = 2 := by
  obtain ⟨st, w, rfl, _⟩ := h; rfl
theorem rd__law_next_in_poly (h : sp__law_next_in_poly K Cof vs H Q E) : t__law_next_in_poly K Cof E { nx := fun _ H' => Q .non H', rt := Q } (start ["_law_state", "_law_mark_here", "_law_kind_here"] vs) H := by
  obtain ⟨st, w, rfl, hw, hl, q⟩ := h
  have kN := TX.kind_num hw
  have kx := TX.kind_one (w := w) (c := 120) (by decide)
  have km := TX.kind_one (w := w) (c := 45) (by decide)
  have kp := TX.kind_one (w := w) (c := 43) (by decide)
  have ks := TX.kind_one (w := w) (c := 42) (by decide)
  have kc := TX.kind_one (w := w) (c := 94) (by decide)
  have kk := TX.kind_one (w := w) (c := 44) (by decide)
  unfold TX.NxOk at q
  unfold t__law_next_in_poly
  walk_at "rd"
  refine c__law_kind hw.ne hl fun H1 e1 => ?_
  generalize TX.kindL w = kd at *
  walk_at "rd"
  refine r_tupK fun p2 H2 hp2 e2 h2 => ?_
  have e12 := e1.trans e2
  walk_at "rd"
  refine r_inT (ws := [TX.PS.p0.nm, TX.PS.p1.nm]) (by decide +kernel) (.inl (.inl h2)) ?_
  refine ⟨_, rfl, ite_d (fun h01 => ?_) (fun h01 => ?_)⟩
  · have h01' : st = .p0 ∨ st = .p1 := by
      rcases List.mem_cons.mp h01 with h | h
      · exact .inl (TX.nm_inj.mp h)
      · exact .inr (TX.nm_inj.mp (List.mem_singleton.mp h))
    walk_at "rd"
    rw [eq_lit lit_number]
    refine ite_d (fun hN => ?_) (fun hN => ?_)
    · walk_at "rd"
      rw [lit_pn]
      refine q _ _ e12 ?_
      rcases h01' with rfl | rfl <;> simp only [TX.nextS, kN.mp hN, if_true]
    have hN' : ¬ TX.whole w = true := mt kN.mpr hN
    walk_at "rd"
    rw [eq_lit lit_x]
    refine ite_d (fun hX => ?_) (fun hX => ?_)
    · walk_at "rd"
      rw [lit_px]
      refine q _ _ e12 ?_
      rcases h01' with rfl | rfl <;> (simp only [TX.nextS]; rw [if_neg hN', if_pos (kx.mp hX)])
    have hX' : ¬ w = [120] := mt kx.mpr hX
    walk_at "rd"
    refine r_lstK fun p3 H3 hp3 e3 h3 => ?_
    have e13 := e12.trans e3
    walk_at "rd"
    rw [eq_lit lit_minus]
    by_cases hM : kd = [45]
    · rw [decide_eq_true hM]
      walk_at "rd"
      rw [eq_st lit_p0]
      refine r_two (SqL.inj h3) ?_
      by_cases h0 : st = .p0
      · subst h0
        rw [decide_eq_true rfl, if_pos rfl, lit_p1]
        refine q _ _ e13 ?_
        simp only [TX.nextS]; rw [if_neg hN', if_neg hX', if_pos (km.mp hM)]
      · rw [decide_eq_false h0, if_neg (by simp), lit_e]
        refine q _ _ e13 ?_
        have : st = .p1 := h01'.resolve_left h0
        subst this
        simp only [TX.nextS]; rw [if_neg hN', if_neg hX']; trivial
    · rw [decide_eq_false hM]
      walk_at "rd"
      refine r_two (b := false) (SqL.inj h3) ?_
      rw [if_neg (by simp), lit_e]
      refine q _ _ e13 ?_
      have hM' := mt km.mpr hM
      rcases h01' with rfl | rfl
      · simp only [TX.nextS]; rw [if_neg hN', if_neg hX', if_neg hM']; trivial
      · simp only [TX.nextS]; rw [if_neg hN', if_neg hX']; trivial
  have n0 : st ≠ .p0 := fun z => h01 (by rw [z]; simp)
  have n1 : st ≠ .p1 := fun z => h01 (by rw [z]; simp)
  walk_at "rd"
  rw [eq_st lit_pm]
  refine ite_d (fun hs => ?_) (fun hs => ?_)
  · subst hs
    walk_at "rd"
    refine r_lstK fun p3 H3 hp3 e3 h3 => ?_
    have e13 := e12.trans e3
    walk_at "rd"
    rw [eq_lit lit_x]
    refine r_two (SqL.inj h3) ?_
    by_cases hX : kd = [120]
    · rw [decide_eq_true hX, if_pos rfl, lit_px]
      refine q _ _ e13 ?_
      simp only [TX.nextS, kx.mp hX, if_true]
    · rw [decide_eq_false hX, if_neg (by simp), lit_e]
      refine q _ _ e13 ?_
      simp only [TX.nextS, mt kx.mpr hX, if_false, true_or]
  walk_at "rd"
  rw [eq_st lit_pe]
  refine ite_d (fun hs => ?_) (fun hs => ?_)
  · subst hs
    walk_at "rd"
    refine r_lstK fun p3 H3 hp3 e3 h3 => ?_
    have e13 := e12.trans e3
    walk_at "rd"
    refine c__law_small hl ?_
    walk_at "rd"
    refine r_two (SqL.inj h3) ?_
    by_cases hX : TX.small w
    · rw [decide_eq_true hX, if_pos rfl, lit_pd]
      refine q _ _ e13 ?_
      simp only [TX.nextS, hX, if_true]
    · rw [decide_eq_false hX, if_neg (by simp), lit_e]
      refine q _ _ e13 ?_
      simp only [TX.nextS, hX, if_false, true_or]
  next hs2 =>
  walk_at "rd"
  rw [eq_lit lit_star]
  -- what is left: pn, px, pd
  have rest : ∀ (H3 : Hp), Ex H H3 → (st = .pn → w ≠ [42]) → (st = .px → w ≠ [94]) → (kd = [43] ∨ kd = [45]) → Q (.str (TX.sS TX.PS.p1.nm)) H3 := fun H3 e3 h1 h2 hk => by
    have hk' : w = [43] ∨ w = [45] := hk.imp kp.mp km.mp
    refine q _ _ e3 ?_
    cases st with
    | p0 => exact absurd rfl n0
    | p1 => exact absurd rfl n1
    | pm => exact absurd rfl hs2
    | pe => exact absurd rfl hs
    | pn => simp only [TX.nextS, h1 rfl, if_false, hk', if_true]
    | px => simp only [TX.nextS, h2 rfl, if_false, hk', if_true]
    | pd => simp only [TX.nextS, hk', if_true]
  have no : ∀ (H3 : Hp) z, Ex H H3 → (st = .pn → w ≠ [42]) → (st = .px → w ≠ [94]) → ¬ (kd = [43] ∨ kd = [45]) → (z = [] ∨ z = [108, 48]) → Q (.str (TX.sS z)) H3 := fun H3 z e3 h1 h2 hk hz => by
    have hk' : ¬ (w = [43] ∨ w = [45]) := fun z => hk (z.imp kp.mpr km.mpr)
    refine q _ _ e3 ?_
    cases st with
    | p0 => exact absurd rfl n0
    | p1 => exact absurd rfl n1
    | pm => exact absurd rfl hs2
    | pe => exact absurd rfl hs
    | pn => simp only [TX.nextS, h1 rfl, if_false, hk']; exact hz
    | px => simp only [TX.nextS, h2 rfl, if_false, hk']; exact hz
    | pd => simp only [TX.nextS, hk', if_false]; exact hz
  have tail : ∀ (H3 : Hp), Ex H H3 → (st = .pn → w ≠ [42]) → (st = .px → w ≠ [94]) → tSeq (tIfS (tTest (tOp (rIn K false) (tVar 2) (tTup (tCons (tC (.str "+")) (tCons (tC (.str "-")) (tNil)))))) (tRet (tC (.str "p1"))) (tNext)) (tRet (tOp (rIxL K) (tLst (tCons (tC (.str "")) (tCons (tC (.str "l0")) (tNil)))) (tCB rInt1 (tCons (tOp rEq (tVar 2) (tC (.str ","))) (tNil))))) { nx := fun _ H' => Q .non H', rt := Q } [some (.str (TX.sS st.nm)), some (.str (TX.sS w)), some (.str (TX.sS kd))] H3 := fun H3 e3 h1 h2 => by
    walk_at "rd"
    refine r_tupK fun p4 H4 hp4 e4 h4 => ?_
    have e14 := e3.trans e4
    walk_at "rd"
    refine r_inTup2 lit_plus lit_minus (.inl (.inl h4)) ?_
    refine ⟨_, rfl, ite_d (fun hk => ?_) (fun hk => ?_)⟩
    · walk_at "rd"
      rw [lit_p1]
      exact rest _ e14 h1 h2 hk
    · walk_at "rd"
      refine r_lstK fun p5 H5 hp5 e5 h5 => ?_
      walk_at "rd"
      refine r_two (SqL.inj h5) ?_
      split
      · rw [lit_l0]; exact no _ _ (e14.trans e5) h1 h2 hk (.inr rfl)
      · rw [lit_e]; exact no _ _ (e14.trans e5) h1 h2 hk (.inl rfl)
  have powt : ∀ (H3 : Hp), Ex H H3 → (st = .pn → w ≠ [42]) → tSeq (tIfS (tAnd (tTest (tOp rEq (tVar 2) (tC (.str "^")))) (tTest (tOp rEq (tVar 0) (tC (.str "px"))))) (tRet (tC (.str "pe"))) (tNext)) (tSeq (tIfS (tTest (tOp (rIn K false) (tVar 2) (tTup (tCons (tC (.str "+")) (tCons (tC (.str "-")) (tNil)))))) (tRet (tC (.str "p1"))) (tNext)) (tRet (tOp (rIxL K) (tLst (tCons (tC (.str "")) (tCons (tC (.str "l0")) (tNil)))) (tCB rInt1 (tCons (tOp rEq (tVar 2) (tC (.str ","))) (tNil)))))) { nx := fun _ H' => Q .non H', rt := Q } [some (.str (TX.sS st.nm)), some (.str (TX.sS w)), some (.str (TX.sS kd))] H3 := fun H3 e3 h1 => by
    walk_at "rd"
    rw [eq_lit lit_pow]
    refine ite_d (fun hc => ?_) (fun hc => ?_)
    · walk_at "rd"
      rw [eq_st lit_px]
      refine ite_d (fun hp => ?_) (fun hp => ?_)
      · subst hp
        walk_at "rd"
        rw [lit_pe]
        refine q _ _ e3 ?_
        simp only [TX.nextS, kc.mp hc, if_true]
      · exact tail H3 e3 h1 (fun z => absurd z hp)
    · exact tail H3 e3 h1 (fun _ z => hc (kc.mpr z))
  refine ite_d (fun hc => ?_) (fun hc => ?_)
  · walk_at "rd"
    rw [eq_st lit_pn]
    refine ite_d (fun hp => ?_) (fun hp => ?_)
    · subst hp
      walk_at "rd"
      rw [lit_pm]
      refine q _ _ e12 ?_
      simp only [TX.nextS, ks.mp hc, if_true]
    · exact powt _ e12 (fun z => absurd z hp)
  · exact powt _ e12 (fun _ z => hc (ks.mpr z))
theorem c__law_next_in_poly {st : TX.PS} {w : List Nat} (hw : TX.IsMark w) (hl : w.length ≤ 1000) (q : ∀ z H', Ex H H' → TX.NxOk st w z → Q (.str (TX.sS z)) H') : sp__law_next_in_poly K Cof [.str (TX.sS st.nm), .str (TX.sS w)] H Q E := ⟨st, w, rfl, hw, hl, q⟩
end

/-! #### _law_wild -/
--USE TV
def sp__law_wild (K : PySem.W.Frag) (Cof : String → Addr) : Sp := fun vs H Q _ => ∃ (c : Int), vs = [.int c] ∧ ∀ w H', Ex H H' → TX.Mkd w → Q (.str (TX.sS w)) H'
def t__law_wild (K : PySem.W.Frag) (Cof : String → Addr) (E : XK) : TS :=
  tSeq (tAsg (tLst (tCons (tC (.str "+")) (tCons (tC (.str "-")) (tCons (tC (.str "*")) (tCons (tC (.str "/")) (tCons (tC (.str "^")) (tCons (tC (.str "(")) (tCons (tC (.str ")")) (tCons (tC (.str ",")) (tCons (tC (.str "..")) (tCons (tC (.str "sqrt")) (tCons (tC (.str "cbrt")) (tCons (tC (.str "root")) (tCons (tC (.str "x")) (tCons (tC (.str "007")) (tCons (tC (.str "00")) (tCons (tC (.str ".")) (tCons (tC (.str "A")) (tNil))))))))))))))))))) (gName 1))
  (tSeq (tAsg (tOp rCat (tVar 1) (tLst (tCons (tC (.str "abcdefghi")) (tCons (tC (.str "abcdefgh")) (tCons (tC (.str "9")) (tCons (tC (.str "12")) (tCons (tC (.str "0")) (tCons (tC (.str "sqrtx")) (tCons (tC (.str "$")) (tCons (tC (.str "\n")) (tCons (tC (.str "xx")) (tCons (tC (.str "8")) (tCons (tC (.str "_")) (tCons (tC (.str "=")) (tCons (tC (.str "roots")) (tNil)))))))))))))))) (gName 1))
  (tRet (tOp (rIxL K) (tVar 1) (tOp rMod (tVar 0) (tC (.int 30))))))

section
variable {K : PySem.W.Frag} {Cof : String → Addr} {vs : List V} {H : Hp} {Q : VK} {E : XK}
theorem len__law_wild (h : sp__law_wild K Cof vs H Q E) : vs.length = 1 := by
  obtain ⟨c, rfl, _⟩ := h; rfl
theorem rd__law_wild (h : sp__law_wild K Cof vs H Q E) : t__law_wild K Cof E { nx := fun _ H' => Q .non H', rt := Q } (start ["_law_cell_here", "_law_some"] vs) H := by
  obtain ⟨c, rfl, q⟩ := h
  unfold t__law_wild
  walk_at "rd"
  refine r_lstK fun p1 H1 hp1 e1 h1 => ?_
  walk_at "rd"
  refine r_lstK fun p2 H2 hp2 e2 h2 => ?_
  have h1' := e2 _ _ h1
  refine r_cat h1' h2 (line_ok (by decide)) fun p3 H3 hp3 e3 h3 => ?_
  walk_at "rd"
  have m0 := Int.fmod_nonneg_of_pos c (show (0 : Int) < 30 by decide)
  have m1 := Int.fmod_lt_of_pos c (show (0 : Int) < 30 by decide)
  refine r_ixTx (ws := TX.wild1 ++ TX.wild2) (SqL.inj (by rw [h3]; exact congrArg (fun xs => some (HO.lst xs)) (by decide +kernel))) m0 (by show _ < (30 : Int); exact m1) ?_
  have hi : (c.fmod 30).toNat < (TX.wild1 ++ TX.wild2).length := by show _ < 30; omega
  have := TX.wild_mk ((TX.wild1 ++ TX.wild2).getD (c.fmod 30).toNat []) (by
    rw [List.getD_eq_getElem?_getD, List.getElem?_eq_getElem hi]; exact List.getElem_mem hi)
  exact q _ H3 ((e1.trans e2).trans e3) (TX.mkd_of this.1 this.2)
theorem c__law_wild {c : Int} (q : ∀ w H', Ex H H' → TX.Mkd w → Q (.str (TX.sS w)) H') : sp__law_wild K Cof [.int c] H Q E := ⟨c, rfl, q⟩
end

/-! #### _law_glued -/
--USE TV
def sp__law_glued (K : PySem.W.Frag) (Cof : String → Addr) : Sp := fun vs H Q _ => ∃ (T w : List Nat), vs = [.str (TX.sS T), .str (TX.sS w)] ∧ w ≠ [] ∧ w.length ≤ 1000 ∧ T.length ≤ 1000 ∧ ∀ (b : Bool) H', (b = false → TX.Ngl T w) → Ex H H' → Q (.bl b) H'
def t__law_glued (K : PySem.W.Frag) (Cof : String → Addr) (E : XK) : TS :=
  tSeq (tIfS (tTest (tOp rEq (tVar 0) (tC (.str "")))) (tRet (tC (.bl false))) (tNext))
  (tSeq (tFor (iTup K (tTup (tCons (tC (.str "0123456789")) (tCons (tC (.str "abcdefghijklmnopqrstuvwxyz")) (tCons (tC (.str ".")) (tNil)))))) (gName 2) (tIfS (tAnd (tTest (tOp rInT (tOp rIxS (tVar 0) (tUn rNeg (tC (.int 1)))) (tVar 2))) (tTest (tOp rInT (tOp rIxS (tVar 1) (tC (.int 0))) (tVar 2)))) (tRet (tC (.bl true))) (tNext)))
  (tRet (tC (.bl false))))

section
variable {K : PySem.W.Frag} {Cof : String → Addr} {vs : List V} {H : Hp} {Q : VK} {E : XK}
theorem len__law_glued (h : sp__law_glued K Cof vs H Q E) : vs.length = 2 := by
  obtain ⟨T, w, rfl, _⟩ := h; rfl
def glS : List (List Nat) := [figL, letL, [46]]
theorem rd__law_glued (h : sp__law_glued K Cof vs H Q E) : t__law_glued K Cof E { nx := fun _ H' => Q .non H', rt := Q } (start ["_law_text", "_law_mark_here", "_law_signs"] vs) H := by
  obtain ⟨T, w, rfl, hw, hl, hT, q⟩ := h
  have p := List.length_pos_iff.mpr hw
  have hg : w.getD (0 : Int).toNat 0 = w.headD 0 := by
    match w, hw with
    | c :: r, _ => rfl
  unfold t__law_glued
  walk_at "rd"
  rw [eq_lit lit_e]
  refine ite_d (fun h0 => ?_) (fun h0 => ?_)
  · walk_at "rd"
    refine q _ _ (fun _ => ?_) (Evl.Ex.refl _)
    subst h0
    intro c d hc _; cases hc
  obtain ⟨T', c, rfl⟩ : ∃ T' c, T = T' ++ [c] := ⟨T.dropLast, T.getLast h0, (List.dropLast_concat_getLast h0).symm⟩
  walk_at "rd"
  refine r_tupK fun p1 H1 hp1 e1 h1 => ?_
  walk_at "rd"
  refine r_iTupA (.inl (.inl h1)) ?_
  have hx : ([V.str "0123456789", V.str "abcdefghijklmnopqrstuvwxyz", V.str "."] : List V) = glS.map fun z => V.str (TX.sS z) := by decide +kernel
  rw [hx] at h1
  refine loop_tup (xs := glS.map fun z => V.str (TX.sS z)) (fun i σ' H' => ∃ u, σ' = [some (.str (TX.sS (T' ++ [c]))), some (.str (TX.sS w)), u] ∧ H' = H1 ∧ ∀ j, j < i → ¬ (c ∈ glS.getD j [] ∧ w.headD 0 ∈ glS.getD j [])) ⟨none, rfl, rfl, fun j hj => absurd hj (by omega)⟩ (fun i σ' H' hi hp => ?_) (fun i x σ' H' hx' hp => ?_) (fun σ' H' hp => ?_)
  · obtain ⟨u, rfl, rfl, _⟩ := hp
    exact .inl (.inl h1)
  · obtain ⟨u, rfl, rfl, hj⟩ := hp
    rw [List.getElem?_map] at hx'
    obtain ⟨z, hz, rfl⟩ := Option.map_eq_some_iff.mp hx'
    have ez : glS.getD i [] = z := by rw [List.getD_eq_getElem?_getD, hz]; rfl
    walk_at "rd"
    refine r_ixS1 (by simp at hT; omega) ?_
    walk_at "rd"
    refine r_inSg ?_
    refine ⟨_, rfl, ite_d (fun hc => ?_) (fun hc => ?_)⟩
    · walk_at "rd"
      refine r_ixS (by omega) (by omega) (by omega) ?_
      rw [hg]
      walk_at "rd"
      refine r_inSg ?_
      refine ⟨_, rfl, ite_d (fun hd => ?_) (fun hd => ?_)⟩
      · walk_at "rd"
        exact q true _ (fun z => by cases z) e1
      · walk_at "rd"
        refine ⟨_, rfl, rfl, fun j hj' => ?_⟩
        by_cases hji : j = i
        · subst hji; rw [ez]; exact fun h => hd h.2
        · exact hj j (by omega)
    · walk_at "rd"
      refine ⟨_, rfl, rfl, fun j hj' => ?_⟩
      by_cases hji : j = i
      · subst hji; rw [ez]; exact fun h => hc h.1
      · exact hj j (by omega)
  · obtain ⟨u, rfl, rfl, hj⟩ := hp
    have j0 : ¬ (c ∈ figL ∧ w.headD 0 ∈ figL) := hj 0 (by decide)
    have j1 : ¬ (c ∈ letL ∧ w.headD 0 ∈ letL) := hj 1 (by decide)
    have j2 : ¬ (c ∈ [46] ∧ w.headD 0 ∈ [46]) := hj 2 (by decide)
    walk_at "rd"
    refine q false _ (fun _ => ?_) e1
    intro c' d hc hd
    have ec : c = c' := by simpa using hc
    have ed : w.headD 0 = d := by
      match w, hw with
      | x :: r, _ => simpa using hd
    subst ec ed
    refine ⟨fun z => j0 ⟨?_, ?_⟩, fun z => j1 ⟨?_, ?_⟩, fun z => j2 ⟨?_, ?_⟩⟩
    · have := z.1; rw [fig_in] at this; simpa using this
    · have := z.2; rw [fig_in] at this; simpa using this
    · have := z.1; rw [lett_in] at this; simpa using this
    · have := z.2; rw [lett_in] at this; simpa using this
    · rw [z.1]; simp
    · rw [z.2]; simp
theorem c__law_glued {T w : List Nat} (hw : w ≠ []) (hl : w.length ≤ 1000) (hT : T.length ≤ 1000) (q : ∀ (b : Bool) H', (b = false → TX.Ngl T w) → Ex H H' → Q (.bl b) H') : sp__law_glued K Cof [.str (TX.sS T), .str (TX.sS w)] H Q E := ⟨T, w, rfl, hw, hl, hT, q⟩
end

/-! #### _law_trim -/
--USE ML
def sp__law_trim (K : PySem.W.Frag) (Cof : String → Addr) : Sp := fun vs H Q _ => ∃ (a : Addr) (ns : List Int), vs = [.ref a] ∧ SqL K H a (ns.map V.int) ∧ ns.length ≤ 1000000 ∧ RetI (ML.trimL ns) H Q
def t__law_trim (K : PySem.W.Frag) (Cof : String → Addr) (E : XK) : TS :=
  tSeq (tAsg (tCB (rLenS K) (tCons (tVar 0) (tNil))) (gName 1))
  (tSeq (tWhile (tAnd (tTest (tOp rGt (tVar 1) (tC (.int 0)))) (tTest (tOp rEq (tOp (rIxL K) (tVar 0) (tOp rISub (tVar 1) (tC (.int 1)))) (tC (.int 0))))) (tAsg (tOp rISub (tVar 1) (tC (.int 1))) (gName 1)))
  (tRet (tSl (rSlL K) (tVar 0) (tNoPart) (tPart (tVar 1)))))

section
variable {K : PySem.W.Frag} {Cof : String → Addr} {vs : List V} {H : Hp} {Q : VK} {E : XK}
theorem len__law_trim (h : sp__law_trim K Cof vs H Q E) : vs.length = 1 := by
  obtain ⟨a, ns, rfl, _⟩ := h; rfl
theorem rd__law_trim (h : sp__law_trim K Cof vs H Q E) : t__law_trim K Cof E { nx := fun _ H' => Q .non H', rt := Q } (start ["_law_row_here", "_law_size"] vs) H := by
  obtain ⟨a, ns, rfl, hS, hl, q⟩ := h
  unfold t__law_trim
  walk_at "rd"
  try rw [List.length_map]
  refine r_while (fun m σ' H' => σ' = [some (.ref a), some (.int (m : Int))] ∧ H' = H ∧ m ≤ ns.length ∧ ∀ k, m ≤ k → ML.cf ns k = 0) ns.length ⟨rfl, rfl, Nat.le_refl _, fun k hk => ML.cf_beyond hk⟩ (fun m σ' H' hw => ?_)
  obtain ⟨rfl, rfl, hm, h0⟩ := hw
  walk_at "rd"
  refine ite_d (fun hp => ?_) (fun hp => ?_)
  · walk_at "rd"
    refine r_ixI hS (by omega) (by omega) ?_
    walk_at "rd"
    have e : ns.getD ((m : Int) - 1).toNat 0 = ML.cf ns (m - 1) := by
      unfold ML.cf; congr 1; omega
    rw [e]
    refine ite_d (fun hz => wh_in ?_) (fun hz => ?_)
    · walk_at "rd"
      have e1 : (m : Int) - 1 = ((m - 1 : Nat) : Int) := by omega
      exact ⟨m - 1, by omega, by rw [e1]; rfl, rfl, by omega, fun k hk => by
        by_cases hk' : k = m - 1
        · rw [hk', hz]
        · exact h0 k (by omega)⟩
    · walk_at "rd"
      refine r_slI hS fun p H' hp e h => q p H' hp e ?_
      rw [ML.trimL_take hm h0 (.inr hz), ← sliceI_to hm]
      exact h
  · walk_at "rd"
    refine r_slI hS fun p H' hp e h => q p H' hp e ?_
    rw [ML.trimL_take hm h0 (.inl (by omega)), ← sliceI_to hm]
    exact h
theorem c__law_trim {a : Addr} {ns : List Int} (h : SqL K H a (ns.map V.int)) (hl : ns.length ≤ 1000000) (q : ∀ p H', H p = none → Ex H H' → H' p = some (.lst ((ML.trimL ns).map V.int)) → Q (.ref p) H') : sp__law_trim K Cof [.ref a] H Q E := ⟨a, ns, rfl, h, hl, q⟩
end

/-! #### _law_row -/
def sp__law_row (K : PySem.W.Frag) (Cof : String → Addr) : Sp := fun vs H Q _ => ∃ (a b : Addr) (ns : List Int), vs = [.ref a, .ref b] ∧ H a = some (.lst (ns.map V.int)) ∧ SqL K H b (ns.map V.int) ∧ ns.length ≤ 1000000 ∧ Q (.bl true) H
def t__law_row (K : PySem.W.Frag) (Cof : String → Addr) (E : XK) : TS :=
  tSeq (tIfS (tOr (tNot (tB (tCB (rIsi K) (tCons (tVar 0) (tCons (tC (.ty "list")) (tNil)))))) (tTest (tOp rNe (tCB (rLenS K) (tCons (tVar 0) (tNil))) (tCB (rLenS K) (tCons (tVar 1) (tNil)))))) (tRet (tC (.bl false))) (tNext))
  (tSeq (tFor (iRng1 (tCons (tCB (rLenS K) (tCons (tVar 1) (tNil))) (tNil))) (gName 2) (tIfS (tOr (tNot (tB (tCall (sp__law_whole K Cof) [] E0 (tCons (tOp (rIxL K) (tVar 0) (tVar 2)) (tNil))))) (tTest (tOp rNe (tOp (rIxL K) (tVar 0) (tVar 2)) (tOp (rIxL K) (tVar 1) (tVar 2))))) (tRet (tC (.bl false))) (tNext)))
  (tRet (tC (.bl true))))

section
variable {K : PySem.W.Frag} {Cof : String → Addr} {vs : List V} {H : Hp} {Q : VK} {E : XK}
theorem len__law_row (h : sp__law_row K Cof vs H Q E) : vs.length = 2 := by
  obtain ⟨a, b, ns, rfl, _⟩ := h; rfl
theorem rd__law_row (h : sp__law_row K Cof vs H Q E) : t__law_row K Cof E { nx := fun _ H' => Q .non H', rt := Q } (start ["_law_found", "_law_due", "_law_k"] vs) H := by
  obtain ⟨a, b, ns, rfl, hA, hB, hl, q⟩ := h
  unfold t__law_row
  walk_at "rd"
  refine r_isi (.base (.lst hA)) (.ty _) (kit_ty (r := true) (by decide +kernel)) ?_
  walk_at "rd"
  refine ite_nd (fun h => absurd rfl h) (fun _ => ?_)
  walk_at "rd"
  try rw [List.length_map]
  refine r_iRng1A (by omega) (by omega) ?_
  rw [Int.toNat_natCast]
  refine loop_range0 (fun k σ' H' => ∃ u : Option V, σ' = [some (.ref a), some (.ref b), u] ∧ H' = H) ⟨_, rfl, rfl⟩ (fun k σ' H' hk hp' => ?_) (fun σ' H' hp' => ?_)
  · obtain ⟨u, rfl, rfl⟩ := hp'
    walk_at "rd"
    refine r_ixI (SqL.inj hA) (by omega) (by omega) ?_
    walk_at "rd"
    refine r_ixI (SqL.inj hA) (by omega) (by omega) ?_
    walk_at "rd"
    refine r_ixI hB (by omega) (by omega) ?_
    walk_at "rd"
    refine ite_nd (fun h => absurd rfl h) (fun _ => ?_)
    walk_at "rd"
    exact ⟨_, rfl, rfl⟩
  · obtain ⟨u, rfl, rfl⟩ := hp'
    walk_at "rd"
    exact q
theorem c__law_row {a b : Addr} {ns : List Int} (hA : H a = some (.lst (ns.map V.int))) (hB : SqL K H b (ns.map V.int)) (hl : ns.length ≤ 1000000) (q : Q (.bl true) H) : sp__law_row K Cof [.ref a, .ref b] H Q E := ⟨a, b, ns, rfl, hA, hB, hl, q⟩
end

/-! #### _law_put -/
--USE TV
def sp__law_put (K : PySem.W.Frag) (Cof : String → Addr) : Sp := fun vs H Q _ => ∃ (a l : Addr) (w T : List Nat) (st : TX.PS) (pl g : Int) (ms : List (List Nat)) (L : List TX.Mk), vs = [.ref a, .str (TX.sS w), .int g] ∧ AtK H a l T st pl ms ∧ TX.Put T st pl ms L ∧ TX.IsMark w ∧ w.length ≤ 600 ∧ T.length ≤ 600 ∧ (g = 0 ∨ g = 1) ∧
  ∀ H' T' st' pl' ms' L', Exb2 a l H H' → AtK H' a l T' st' pl' ms' → TX.Put T' st' pl' ms' L' → T'.length ≤ T.length + 1 + w.length → ms'.length ≤ ms.length + 1 → Q .non H'
def t__law_put (K : PySem.W.Frag) (Cof : String → Addr) (E : XK) : TS :=
  tCut (tIfS (tB (tCall (sp__law_glued K Cof) [] E0 (tCons (tOp (rIxL K) (tVar 0) (tC (.int 0))) (tCons (tVar 1) (tNil))))) (tAsg (tC (.int 1)) (gName 2)) (tNext))
  (tSeq (tAsg (tOp rAddS (tOp (rIxL K) (tVar 0) (tC (.int 0))) (tOp rRepS (tC (.str " ")) (tVar 2))) (gSub (tVar 0) (tC (.int 0)) rSetL))
  (tCut (tIfS (tTest (tOp rLt (tOp (rIxL K) (tVar 0) (tC (.int 2))) (tC (.int 0)))) (tSeq (tAsg (tCall (sp__law_next_in_poly K Cof) [] E0 (tCons (tOp (rIxL K) (tVar 0) (tC (.int 1))) (tCons (tVar 1) (tNil)))) (gName 3))
  (tIfS (tOr (tTest (tOp rEq (tVar 3) (tC (.str "")))) (tTest (tOp rEq (tVar 3) (tC (.str "l0"))))) (tAsg (tCB rLenStr (tCons (tOp (rIxL K) (tVar 0) (tC (.int 0))) (tNil))) (gSub (tVar 0) (tC (.int 2)) rSetL)) (tSeq (tAsg (tVar 3) (gSub (tVar 0) (tC (.int 1)) rSetL))
  (tDrop (tBM K "list" rAppend (tOp (rIxL K) (tVar 0) (tC (.int 3))) (tCons (tVar 1) (tNil))))))) (tNext))
  (tAsg (tOp rAddS (tOp (rIxL K) (tVar 0) (tC (.int 0))) (tVar 1)) (gSub (tVar 0) (tC (.int 0)) rSetL))))

section
variable {K : PySem.W.Frag} {Cof : String → Addr} {vs : List V} {H : Hp} {Q : VK} {E : XK}
theorem len__law_put (h : sp__law_put K Cof vs H Q E) : vs.length = 3 := by
  obtain ⟨a, l, w, T, st, pl, g, ms, L, rfl, _⟩ := h; rfl
theorem rd__law_put (h : sp__law_put K Cof vs H Q E) : t__law_put K Cof E { nx := fun _ H' => Q .non H', rt := Q } (start ["_law_at", "_law_mark_here", "_law_gap", "_law_state"] vs) H := by
  obtain ⟨a, l, w, T, st, pl, g, ms, L, rfl, hA, hP, hw, hl, hT, hg, q⟩ := h
  obtain ⟨h1, h2⟩ := hA
  have nal : a ≠ l := fun z => by rw [z, h2] at h1; exact atk_ne (Option.some.inj h1).symm
  unfold t__law_put
  walk_at "rd"
  refine ⟨fun σ' H' => ∃ n : Nat, σ' = [some (.ref a), some (.str (TX.sS w)), some (.int (n : Int)), none] ∧ Ex H H' ∧ n ≤ 1 ∧ (n = 0 → TX.Ngl T w), ?_, fun σ' H' hM => ?_⟩
  · walk_at "rd"
    refine r_ixL (SqL.inj h1) (atI_nat (j := 0) rfl) ?_
    walk_at "rd"
    refine c__law_glued hw.ne (by omega) (by omega) fun b H1 hb e1 => ?_
    cases b with
    | true =>
      walk_at "rd"
      exact ⟨1, rfl, e1, Nat.le_refl _, fun z => by cases z⟩
    | false =>
      walk_at "rd"
      refine ⟨g.toNat, ?_, e1, by omega, fun _ => hb rfl⟩
      rw [Int.toNat_of_nonneg (by omega)]; rfl
  obtain ⟨n, rfl, e1, n1, hn⟩ := hM
  obtain ⟨L', hk1, hk2⟩ := hP.put hw hn
  have h1' := e1 _ _ h1
  have h2' := e1 _ _ h2
  walk_at "rd"
  refine r_ixL (SqL.inj h1') (atI_nat (j := 0) rfl) ?_
  walk_at "rd"
  rw [lit_b]
  refine r_repT (by omega) ?_
  refine r_addT (by rw [List.length_replicate]; omega) ?_
  walk_at "rd"
  refine r_setL h1' (j := 0) (show ixN _ ((0 : Nat) : Int) = some 0 from Evl.ixN_nat (by simp)) fun H2 b2 h12 => ?_
  have h22 := b2 l nal.symm _ h2'
  walk_at "rd"
  refine ⟨fun σ' H' => ∃ (u : Option V) (st' : TX.PS) (pl' : Int) (ms' : List (List Nat)), σ' = [some (.ref a), some (.str (TX.sS w)), some (.int (n : Int)), u] ∧ Exb2 a l H H' ∧ AtK H' a l (T ++ List.replicate n 32) st' pl' ms' ∧ TX.Put (T ++ List.replicate n 32 ++ w) st' pl' ms' L' ∧ ms'.length ≤ ms.length + 1, ?_, fun σ' H' hM => ?_⟩
  · have b02 : Exb2 a l H H2 := (Exb2.ex e1).trans (Exb2.l b2)
    walk_at "rd"
    refine r_ixL (SqL.inj h12) (atI_nat (j := 2) rfl) ?_
    walk_at "rd"
    refine ite_d (fun hp => ?_) (fun hp => ?_)
    · walk_at "rd"
      refine r_ixL (SqL.inj h12) (atI_nat (j := 1) rfl) ?_
      walk_at "rd"
      refine c__law_next_in_poly hw (by omega) fun z H3 e3 hz => ?_
      have h13 := e3 _ _ h12
      have h23 := e3 _ _ h22
      have b03 := b02.trans (Exb2.ex e3)
      obtain ⟨hs1, hs2⟩ := hk2 hp
      unfold TX.NxOk at hz
      walk_at "rd"
      rw [eq_lit lit_e]
      match hx : TX.nextS st w, hz with
      | none, hz =>
        by_cases hz0 : z = []
        · rw [decide_eq_true hz0]
          walk_at "rd"
          refine r_ixL (SqL.inj h13) (atI_nat (j := 0) rfl) ?_
          walk_at "rd"
          refine r_lenT' (by rw [List.length_append, List.length_replicate]; omega) ?_
          walk_at "rd"
          refine r_setL h13 (j := 2) (show ixN _ ((2 : Nat) : Int) = some 2 from Evl.ixN_nat (by simp)) fun H4 b4 h14 => ?_
          have := hs2 hx
          refine ⟨_, st, ((T.length + n : Nat) : Int), ms, rfl, b03.trans (Exb2.l b4), ⟨?_, b4 l nal.symm _ h23⟩, this, by omega⟩
          rw [h14, List.length_append, List.length_replicate]; rfl
        · rw [decide_eq_false hz0]
          walk_at "rd"
          rw [eq_lit lit_l0, decide_eq_true (hz.resolve_left hz0)]
          walk_at "rd"
          refine r_ixL (SqL.inj h13) (atI_nat (j := 0) rfl) ?_
          walk_at "rd"
          refine r_lenT' (by rw [List.length_append, List.length_replicate]; omega) ?_
          walk_at "rd"
          refine r_setL h13 (j := 2) (show ixN _ ((2 : Nat) : Int) = some 2 from Evl.ixN_nat (by simp)) fun H4 b4 h14 => ?_
          have := hs2 hx
          refine ⟨_, st, ((T.length + n : Nat) : Int), ms, rfl, b03.trans (Exb2.l b4), ⟨?_, b4 l nal.symm _ h23⟩, this, by omega⟩
          rw [h14, List.length_append, List.length_replicate]; rfl
      | some st', hz =>
        subst hz
        rw [decide_eq_false (show ¬ st'.nm = [] by cases st' <;> decide)]
        walk_at "rd"
        rw [eq_lit lit_l0, decide_eq_false (show ¬ st'.nm = [108, 48] by cases st' <;> decide)]
        walk_at "rd"
        refine r_setL h13 (j := 1) (show ixN _ ((1 : Nat) : Int) = some 1 from Evl.ixN_nat (by simp)) fun H4 b4 h14 => ?_
        have h24 := b4 l nal.symm _ h23
        walk_at "rd"
        refine r_ixL (SqL.inj h14) (atI_nat (j := 3) rfl) ?_
        walk_at "rd"
        refine r_append h24 (by rw [List.length_map]; exact small_lt (hk_len hP hp hT)) fun H5 b5 h5 => ?_
        refine ⟨_, st', pl, ms ++ [w], rfl, (b03.trans (Exb2.l b4)).trans (Exb2.r b5), ⟨b5 a nal _ h14, by rw [h5, List.map_append]; rfl⟩, hs1 st' hx, by simp⟩
    · walk_at "rd"
      exact ⟨_, st, pl, ms, rfl, b02, ⟨h12, h22⟩, hk1 (by omega), by omega⟩
  obtain ⟨u, st', pl', ms', rfl, b3, ⟨h13, h23⟩, hP', lm⟩ := hM
  walk_at "rd"
  refine r_ixL (SqL.inj h13) (atI_nat (j := 0) rfl) ?_
  walk_at "rd"
  refine r_addT (by rw [List.length_append, List.length_replicate]; omega) ?_
  walk_at "rd"
  refine r_setL h13 (j := 0) (show ixN _ ((0 : Nat) : Int) = some 0 from Evl.ixN_nat (by simp)) fun H4 b4 h14 => ?_
  exact q H4 _ st' pl' ms' L' (b3.trans (Exb2.l b4)) ⟨h14, b4 l nal.symm _ h23⟩ hP' (by simp; omega) lm
theorem c__law_put {a l : Addr} {w T : List Nat} {st : TX.PS} {pl g : Int} {ms : List (List Nat)} {L : List TX.Mk} (hA : AtK H a l T st pl ms) (hP : TX.Put T st pl ms L) (hw : TX.IsMark w) (hl : w.length ≤ 600) (hT : T.length ≤ 600) (hg : g = 0 ∨ g = 1) (q : ∀ H' T' st' pl' ms' L', Exb2 a l H H' → AtK H' a l T' st' pl' ms' → TX.Put T' st' pl' ms' L' → T'.length ≤ T.length + 1 + w.length → ms'.length ≤ ms.length + 1 → Q .non H') : sp__law_put K Cof [.ref a, .str (TX.sS w), .int g] H Q E := ⟨a, l, w, T, st, pl, g, ms, L, rfl, hA, hP, hw, hl, hT, hg, q⟩
end

/-! #### _law_added_up -/
--USE TV
def sp__law_added_up (K : PySem.W.Frag) (Cof : String → Addr) : Sp := fun vs H Q _ => ∃ (l : Addr) (ms : List (List Nat)) (st : TX.PS) (pw : List Nat) (c : TX.Acc), vs = [.ref l] ∧ H l = some (.lst (ms.map fun z => V.str (TX.sS z))) ∧ ms.length ≤ 1000 ∧ (∀ w ∈ ms, w.length ≤ 600) ∧ TX.runA .p0 [] TX.acc0 ms = some (st, pw, c) ∧ RetI (ML.trimL c.add) H Q
def t__law_added_up (K : PySem.W.Frag) (Cof : String → Addr) (E : XK) : TS :=
  tSeq (tAsg (tOp rRep (tLst (tCons (tC (.int 0)) (tNil))) (tC (.int 9))) (gName 1))
  (tSeq (tAsg (tC (.int 1)) (gName 2))
  (tSeq (tAsg (tC (.int 0)) (gName 3))
  (tSeq (tAsg (tC (.int 0)) (gName 4))
  (tSeq (tFor (iRng1 (tCons (tCB (rLenS K) (tCons (tVar 0) (tNil))) (tNil))) (gName 5) (tSeq (tAsg (tOp (rIxL K) (tVar 0) (tVar 5)) (gName 6))
  (tIfS (tOr (tTest (tOp rEq (tVar 6) (tC (.str "+")))) (tTest (tOp rEq (tVar 6) (tC (.str "-"))))) (tSeq (tAsg (tOp rIAdd (tOp (rIxL K) (tVar 1) (tVar 4)) (tOp rMul (tVar 2) (tVar 3))) (gSub (tVar 1) (tVar 4) rSetL))
  (tSeq (tAsg (tOp (rIxL K) (tLst (tCons (tC (.int 1)) (tCons (tUn rNeg (tC (.int 1))) (tNil)))) (tCB rInt1 (tCons (tOp rEq (tVar 6) (tC (.str "-"))) (tNil)))) (gName 2))
  (tSeq (tAsg (tC (.int 0)) (gName 3))
  (tAsg (tC (.int 0)) (gName 4))))) (tIfS (tTest (tOp rEq (tVar 6) (tC (.str "x")))) (tSeq (tAsg (tC (.int 1)) (gName 4))
  (tIfS (tOr (tTest (tOp rEq (tVar 5) (tC (.int 0)))) (tTest (tOp rNe (tOp (rIxL K) (tVar 0) (tOp rISub (tVar 5) (tC (.int 1)))) (tC (.str "*"))))) (tAsg (tC (.int 1)) (gName 3)) (tNext))) (tIfS (tAnd (tTest (tOp (rIn K true) (tVar 6) (tTup (tCons (tC (.str "*")) (tCons (tC (.str "^")) (tNil)))))) (tAnd (tTest (tOp rGt (tVar 5) (tC (.int 0)))) (tTest (tOp rEq (tOp (rIxL K) (tVar 0) (tOp rISub (tVar 5) (tC (.int 1)))) (tC (.str "^")))))) (tAsg (tCB rIntT (tCons (tVar 6) (tNil))) (gName 4)) (tIfS (tTest (tOp (rIn K true) (tVar 6) (tTup (tCons (tC (.str "*")) (tCons (tC (.str "^")) (tNil)))))) (tAsg (tCB rIntT (tCons (tVar 6) (tNil))) (gName 3)) (tNext)))))))
  (tSeq (tAsg (tOp rIAdd (tOp (rIxL K) (tVar 1) (tVar 4)) (tOp rMul (tVar 2) (tVar 3))) (gSub (tVar 1) (tVar 4) rSetL))
  (tRet (tCall (sp__law_trim K Cof) [] E0 (tCons (tVar 1) (tNil)))))))))

section
variable {K : PySem.W.Frag} {Cof : String → Addr} {vs : List V} {H : Hp} {Q : VK} {E : XK}
theorem len__law_added_up (h : sp__law_added_up K Cof vs H Q E) : vs.length = 1 := by
  obtain ⟨l, ms, st, pw, c, rfl, _⟩ := h; rfl
theorem rd__law_added_up (h : sp__law_added_up K Cof vs H Q E) : t__law_added_up K Cof E { nx := fun _ H' => Q .non H', rt := Q } (start ["_law_marks", "_law_row_here", "_law_sign", "_law_many", "_law_k", "_law_spot", "_law_mark_here"] vs) H := by
  obtain ⟨l, ms, stF, pwF, cF, rfl, hl, hm, hw6, hrun, q⟩ := h
  unfold t__law_added_up
  walk_at "rd"
  refine r_lstK fun p0 H0 hp0 e0 h0 => ?_
  walk_at "rd"
  refine r_rep1 h0 (by decide) (fun r H1 hr1 e1 h1 => ?_)
  have h1' : H1 r = some (.lst (TX.nine.map V.int)) := h1
  have e01 := e0.trans e1
  have hr0 : H r = none := Evl.fresh_back e0 hr1
  walk_at "rd"
  rw [List.length_map]
  refine r_iRng1A (by omega) (by omega) ?_
  rw [Int.toNat_natCast]
  refine loop_range0 (fun i σ' H' => ∃ (st : TX.PS) (pw : List Nat) (c : TX.Acc) (u5 u6 : Option V), σ' = [some (.ref l), some (.ref r), some (.int c.s), some (.int c.f), some (.int (c.k : Int)), u5, u6] ∧ Ex H H' ∧ H' r = some (.lst (c.row.map V.int)) ∧ TX.Ok c st pw ∧ pw = (if i = 0 then [] else ms.getD (i - 1) []) ∧ TX.runA st pw c (ms.drop i) = some (stF, pwF, cF)) ⟨.p0, [], TX.acc0, none, none, rfl, e01, h1', TX.acc0_ok, rfl, hrun⟩ (fun i σ' H' hi hp => ?_) (fun σ' H' hp => ?_)
  · obtain ⟨st, pw, c, u5, u6, rfl, x, hr, ok, epw, hrn⟩ := hp
    have hL := x _ _ hl
    have ed : ms.drop i = ms.getD i [] :: ms.drop (i + 1) := by
      rw [List.drop_eq_getElem_cons hi, List.getD_eq_getElem?_getD, List.getElem?_eq_getElem hi]; rfl
    rw [ed] at hrn
    have wl : (ms.getD i []).length ≤ 600 := hw6 _ (by
      rw [List.getD_eq_getElem?_getD, List.getElem?_eq_getElem hi]; exact List.getElem_mem hi)
    have prev : 0 < i → ms.getD (i - 1) [] = pw := fun h => by rw [epw, if_neg (by omega)]
    have prev0 : i = 0 → pw = [] := fun h => by rw [epw, if_pos h]
    have eM : ms.getD ((i : Int)).toNat [] = ms.getD i [] := by rw [Int.toNat_natCast]
    have epw' : ms.getD i [] = (if i + 1 = 0 then [] else ms.getD (i + 1 - 1) []) := by rw [if_neg (by omega)]; rfl
    generalize hwd : ms.getD i [] = w at *
    obtain ⟨st', hnx, hrn'⟩ := TX.run_cons hrn
    have ok' := TX.step_ok ok hnx wl
    have lrow := ok.r9
    have k8 := ok.k8
    have nlr : l ≠ r := fun z => by rw [z, hr0] at hl; cases hl
    walk_at "rd"
    refine r_ixTx (SqL.inj hL) (by omega) (by omega) ?_
    rw [eM]
    walk_at "rd"
    rw [eq_lit lit_plus]
    have plusgo : ∀ s' : Int, (w = [43] ∨ w = [45]) → s' = (if w = [45] then -1 else 1) → TX.accS pw w c = ⟨c.add, s', 0, 0⟩ := fun s' hw hs => by
      unfold TX.accS; rw [if_pos hw, hs]
    by_cases hpm : w = [43] ∨ w = [45]
    · have fin : ∀ (H3 : Hp) (u5 u6 : Option V) , Ex H H3 → H3 r = some (.lst (c.add.map V.int)) → ∃ (st : TX.PS) (pw : List Nat) (c : TX.Acc) (v5 v6 : Option V), [some (V.ref l), some (.ref r), some (.int (if w = [45] then -1 else 1)), some (.int 0), some (.int 0), u5, u6] = [some (.ref l), some (.ref r), some (.int c.s), some (.int c.f), some (.int (c.k : Int)), v5, v6] ∧ Ex H H3 ∧ H3 r = some (.lst (c.row.map V.int)) ∧ TX.Ok c st pw ∧ pw = (if i + 1 = 0 then [] else ms.getD (i + 1 - 1) []) ∧ TX.runA st pw c (ms.drop (i + 1)) = some (stF, pwF, cF) := fun H3 u5 u6 x3 h3 => by
        have ea := plusgo _ hpm rfl
        exact ⟨st', w, TX.accS pw w c, u5, u6, by rw [ea]; rfl, x3, by rw [ea]; exact h3, ok', epw', hrn'⟩
      rcases hpm with rfl | rfl
      · rw [decide_eq_true rfl]
        walk_at "rd"
        refine r_ixI (SqL.inj hr) (by omega) (by omega) ?_
        walk_at "rd"
        refine r_mul (wide_mul (a := 1) (by have := ok.s1; omega) ok.fb (by decide) (by decide) (by decide)) ?_
        walk_at "rd"
        refine r_setL hr (j := c.k) (Evl.ixN_nat (by rw [List.length_map]; omega)) fun H2 b2 h2 => ?_
        have h2' : H2 r = some (.lst (c.add.map V.int)) := by
          rw [h2, TX.Acc.add, TX.addR, List.map_set, Int.toNat_natCast]
        have x2 := x.mutb b2 hr0
        walk_at "rd"
        refine r_lstK fun p3 H3 hp3 e3 h3 => ?_
        walk_at "rd"
        rw [eq_lit lit_minus]
        refine r_two (SqL.inj h3) ?_
        walk_at "rd"
        exact fin H3 _ _ (x2.trans e3) (e3 _ _ h2')
      · rw [decide_eq_false (by simp)]
        walk_at "rd"
        rw [eq_lit lit_minus, decide_eq_true rfl]
        walk_at "rd"
        refine r_ixI (SqL.inj hr) (by omega) (by omega) ?_
        walk_at "rd"
        refine r_mul (wide_mul (a := 1) (by have := ok.s1; omega) ok.fb (by decide) (by decide) (by decide)) ?_
        walk_at "rd"
        refine r_setL hr (j := c.k) (Evl.ixN_nat (by rw [List.length_map]; omega)) fun H2 b2 h2 => ?_
        have h2' : H2 r = some (.lst (c.add.map V.int)) := by
          rw [h2, TX.Acc.add, TX.addR, List.map_set, Int.toNat_natCast]
        have x2 := x.mutb b2 hr0
        walk_at "rd"
        refine r_lstK fun p3 H3 hp3 e3 h3 => ?_
        walk_at "rd"
        rw [eq_lit lit_minus]
        refine r_two (SqL.inj h3) ?_
        walk_at "rd"
        exact fin H3 _ _ (x2.trans e3) (e3 _ _ h2')
    · have n43 : w ≠ [43] := fun z => hpm (.inl z)
      have n45 : w ≠ [45] := fun z => hpm (.inr z)
      rw [decide_eq_false n43]
      walk_at "rd"
      rw [eq_lit lit_minus, decide_eq_false n45]
      walk_at "rd"
      rw [eq_lit lit_x]
      have same : ∀ {c' : TX.Acc} (H3 : Hp) (u5 u6 : Option V), TX.accS pw w c = c' → c'.row = c.row → Ex H H3 → H3 r = some (.lst (c.row.map V.int)) → ∃ (st : TX.PS) (pw : List Nat) (d : TX.Acc) (v5 v6 : Option V), [some (V.ref l), some (.ref r), some (.int c'.s), some (.int c'.f), some (.int (c'.k : Int)), u5, u6] = [some (.ref l), some (.ref r), some (.int d.s), some (.int d.f), some (.int (d.k : Int)), v5, v6] ∧ Ex H H3 ∧ H3 r = some (.lst (d.row.map V.int)) ∧ TX.Ok d st pw ∧ pw = (if i + 1 = 0 then [] else ms.getD (i + 1 - 1) []) ∧ TX.runA st pw d (ms.drop (i + 1)) = some (stF, pwF, cF) := fun {c'} H3 u5 u6 ea er x3 h3 => by
        subst ea
        exact ⟨st', w, _, u5, u6, rfl, x3, by rw [er]; exact h3, ok', epw', hrn'⟩
      by_cases hx : w = [120]
      · subst hx
        have ea : TX.accS pw [120] c = { c with k := 1, f := if pw = [42] then c.f else 1 } := by
          unfold TX.accS; rw [if_neg (by simp), if_pos rfl]
        rw [decide_eq_true rfl]
        walk_at "rd"
        by_cases i0 : i = 0
        · have := prev0 i0
          rw [decide_eq_true (show (i : Int) = 0 by omega)]
          walk_at "rd"
          rw [if_neg (by rw [this]; simp)] at ea
          exact same H' _ _ ea rfl x hr
        · rw [decide_eq_false (show ¬ (i : Int) = 0 by omega)]
          walk_at "rd"
          refine r_ixTx (SqL.inj hL) (by omega) (by omega) ?_
          rw [show ((i : Int) - 1).toNat = i - 1 by omega, prev (by omega)]
          walk_at "rd"
          refine r_neTl lit_star ?_
          by_cases hp42 : pw = [42]
          · rw [decide_eq_true hp42]
            rw [if_pos hp42] at ea
            walk_at "rd"
            exact same H' _ _ ea rfl x hr
          · rw [decide_eq_false hp42]
            rw [if_neg hp42] at ea
            walk_at "rd"
            exact same H' _ _ ea rfl x hr
      rw [decide_eq_false hx]
      walk_at "rd"
      refine r_tupK fun p4 H4 hp4 e4 h4 => ?_
      have x4 := x.trans e4
      have hr4 := e4 _ _ hr
      have hL4 := e4 _ _ hL
      walk_at "rd"
      refine r_notT (ws := [[42], [94]]) (by decide +kernel) (.inl (.inl h4)) ?_
      by_cases h42 : w ≠ [42] ∧ w ≠ [94]
      · have hw1 := TX.next_whole hnx hpm hx h42
        have vn := TX.val_nn w
        rw [decide_eq_false (show ¬ w ∈ [[42], [94]] by simp [h42.1, h42.2])]
        walk_at "rd"
        have numb : pw ≠ [94] → TX.accS pw w c = { c with f := TX.val w } := fun np => by
          unfold TX.accS
          rw [if_neg hpm, if_neg hx, if_neg (fun z => np z.2), if_pos h42]
        by_cases i0 : i = 0
        · have e0 := prev0 i0
          rw [decide_eq_false (show ¬ (0 : Int) < (i : Int) by omega)]
          walk_at "rd"
          refine r_tupK fun p5 H5 hp5 e5 h5 => ?_
          walk_at "rd"
          refine r_notT (ws := [[42], [94]]) (by decide +kernel) (.inl (.inl h5)) ?_
          rw [decide_eq_false (show ¬ w ∈ [[42], [94]] by simp [h42.1, h42.2])]
          walk_at "rd"
          refine r_intT hw1 wl ?_
          walk_at "rd"
          exact same H5 _ _ (numb (by rw [e0]; simp)) rfl (x4.trans e5) (e5 _ _ hr4)
        · rw [decide_eq_true (show (0 : Int) < (i : Int) by omega)]
          walk_at "rd"
          refine r_ixTx (SqL.inj hL4) (by omega) (by omega) ?_
          rw [show ((i : Int) - 1).toNat = i - 1 by omega, prev (by omega)]
          walk_at "rd"
          rw [eq_lit lit_pow]
          by_cases hp94 : pw = [94]
          · rw [decide_eq_true hp94]
            walk_at "rd"
            refine r_intT hw1 wl ?_
            walk_at "rd"
            have ea : TX.accS pw w c = { c with k := (TX.val w).toNat } := by
              unfold TX.accS
              rw [if_neg hpm, if_neg hx, if_pos ⟨h42, hp94⟩]
            have := same (c' := { c with k := (TX.val w).toNat }) H4 (some (.int (i : Int))) (some (.str (TX.sS w))) ea rfl x4 hr4
            rw [Int.toNat_of_nonneg vn] at this
            exact this
          · rw [decide_eq_false hp94]
            walk_at "rd"
            refine r_tupK fun p5 H5 hp5 e5 h5 => ?_
            walk_at "rd"
            refine r_notT (ws := [[42], [94]]) (by decide +kernel) (.inl (.inl h5)) ?_
            rw [decide_eq_false (show ¬ w ∈ [[42], [94]] by simp [h42.1, h42.2])]
            walk_at "rd"
            refine r_intT hw1 wl ?_
            walk_at "rd"
            exact same H5 _ _ (numb hp94) rfl (x4.trans e5) (e5 _ _ hr4)
      · have ea : TX.accS pw w c = c := by
          unfold TX.accS
          rw [if_neg hpm, if_neg hx, if_neg (fun z => h42 z.1), if_neg h42]
        have hm2 : w ∈ [[42], [94]] := by
          by_cases z : w = [42]
          · simp [z]
          · by_cases z2 : w = [94]
            · simp [z2]
            · exact absurd ⟨z, z2⟩ h42
        rw [decide_eq_true hm2]
        walk_at "rd"
        refine r_tupK fun p5 H5 hp5 e5 h5 => ?_
        walk_at "rd"
        refine r_notT (ws := [[42], [94]]) (by decide +kernel) (.inl (.inl h5)) ?_
        rw [decide_eq_true hm2]
        walk_at "rd"
        exact same H5 _ _ ea rfl (x4.trans e5) (e5 _ _ hr4)
  · obtain ⟨st, pw, c, u5, u6, rfl, x, hr, ok, epw, hrn⟩ := hp
    rw [List.drop_length] at hrn
    cases hrn
    have lrow := ok.r9
    have k8 := ok.k8
    walk_at "rd"
    refine r_ixI (SqL.inj hr) (by omega) (by omega) ?_
    walk_at "rd"
    refine r_mul (wide_mul (a := 1) (by have := ok.s1; omega) ok.fb (by decide) (by decide) (by decide)) ?_
    walk_at "rd"
    refine r_setL hr (j := cF.k) (Evl.ixN_nat (by rw [List.length_map]; omega)) fun H2 b2 h2 => ?_
    have h2' : H2 r = some (.lst (cF.add.map V.int)) := by
      rw [h2, TX.Acc.add, TX.addR, List.map_set, Int.toNat_natCast]
    walk_at "rd"
    refine c__law_trim (SqL.inj h2') (by unfold TX.Acc.add TX.addR; rw [List.length_set]; omega) fun p H3 hp3 e3 h3 => ?_
    have x2 := x.mutb b2 hr0
    exact q p H3 (Evl.fresh_back x2 hp3) (x2.trans e3) h3
theorem c__law_added_up {l : Addr} {ms : List (List Nat)} {st : TX.PS} {pw : List Nat} {c : TX.Acc} (hl : H l = some (.lst (ms.map fun z => V.str (TX.sS z)))) (hm : ms.length ≤ 1000) (hw : ∀ w ∈ ms, w.length ≤ 600) (hr : TX.runA .p0 [] TX.acc0 ms = some (st, pw, c)) (q : RetI (ML.trimL c.add) H Q) : sp__law_added_up K Cof [.ref l] H Q E := ⟨l, ms, st, pw, c, rfl, hl, hm, hw, hr, q⟩
end

/-! #### _law_mark -/
--USE TV FC0
def sp__law_mark (K : PySem.W.Frag) (Cof : String → Addr) : Sp := fun vs H Q _ => ∃ (st : TX.PS) (c d : Int), vs = [.str (TX.sS st.nm), .int c, .int d] ∧ 0 ≤ d ∧ d < 1000 ∧ ∀ w H', Ex H H' → TX.Mkd w → Q (.str (TX.sS w)) H'
def t__law_mark (K : PySem.W.Frag) (Cof : String → Addr) (E : XK) : TS :=
  tSeq (tIfS (tAnd (tTest (tOp rGt (tVar 2) (tC (.int 0)))) (tTest (tOp rEq (tOp rMod (tVar 1) (tVar 2)) (tC (.int 1))))) (tRet (tCall (sp__law_wild K Cof) [] E0 (tCons (tOp rDiv (tVar 1) (tVar 2)) (tNil)))) (tNext))
  (tSeq (tAsg (tOp rMod (tOp rMul (tOp rIAdd (tC (.int 1)) (tOp rMod (tVar 1) (tC (.int 2147483646)))) (tC (.int 48271))) (tC (.int 2147483647))) (gName 3))
  (tSeq (tAsg (tCB rStrInt (tCons (tOp rMod (tOp rDiv (tVar 3) (tC (.int 7))) (tOp (rIxL K) (tLst (tCons (tC (.int 10)) (tCons (tC (.int 12)) (tCons (tOp rPow (tC (.int 10)) (tC (.int 20))) (tNil))))) (tOp rMod (tVar 3) (tC (.int 3))))) (tNil))) (gName 4))
  (tSeq (tAsg (tLst (tCons (tC (.str "+")) (tCons (tC (.str "-")) (tNil)))) (gName 5))
  (tCut (tIfS (tTest (tOp (rIn K false) (tVar 0) (tTup (tCons (tC (.str "p0")) (tCons (tC (.str "p1")) (tNil)))))) (tAsg (tLst (tCons (tVar 4) (tCons (tC (.str "x")) (tCons (tVar 4) (tCons (tOp (rIxL K) (tLst (tCons (tC (.str "-")) (tCons (tC (.str "x")) (tNil)))) (tCB rInt1 (tCons (tOp rEq (tVar 0) (tC (.str "p1"))) (tNil)))) (tNil)))))) (gName 5)) (tNext))
  (tCut (tIfS (tTest (tOp rEq (tVar 0) (tC (.str "pm")))) (tAsg (tLst (tCons (tC (.str "x")) (tNil))) (gName 5)) (tNext))
  (tCut (tIfS (tTest (tOp rEq (tVar 0) (tC (.str "pe")))) (tAsg (tLst (tCons (tCB rStrInt (tCons (tOp rMod (tOp rDiv (tVar 3) (tC (.int 5))) (tC (.int 9))) (tNil))) (tNil))) (gName 5)) (tNext))
  (tCut (tIfS (tTest (tOp rEq (tVar 0) (tC (.str "pn")))) (tAsg (tLst (tCons (tC (.str "*")) (tCons (tC (.str "+")) (tCons (tC (.str "-")) (tCons (tC (.str "*")) (tNil)))))) (gName 5)) (tNext))
  (tCut (tIfS (tTest (tOp rEq (tVar 0) (tC (.str "px")))) (tAsg (tLst (tCons (tC (.str "^")) (tCons (tC (.str "+")) (tCons (tC (.str "-")) (tCons (tC (.str "^")) (tNil)))))) (gName 5)) (tNext))
  (tRet (tOp (rIxL K) (tVar 5) (tOp rMod (tOp rDiv (tVar 3) (tC (.int 45))) (tCB (rLenS K) (tCons (tVar 5) (tNil))))))))))))))

section
variable {K : PySem.W.Frag} {Cof : String → Addr} {vs : List V} {H : Hp} {Q : VK} {E : XK}
theorem len__law_mark (h : sp__law_mark K Cof vs H Q E) : vs.length = 3 := by
  obtain ⟨st, c, d, rfl, _⟩ := h; rfl
theorem rd__law_mark (h : sp__law_mark K Cof vs H Q E) : t__law_mark K Cof E { nx := fun _ H' => Q .non H', rt := Q } (start ["_law_state", "_law_cell_here", "_law_wild_here", "_law_turn", "_law_many", "_law_some"] vs) H := by
  obtain ⟨st, c, d, rfl, d0, d9, q⟩ := h
  unfold t__law_mark
  with_reducible refine r_seq ?_
  with_reducible refine r_ifS ?_
  refine and_go (fun H' => H = H') (fun H' z => ?_) (fun go => ?_)
  · subst z
    refine i_f ?_
    walk_at "rd"
    have t0 := Int.fmod_nonneg_of_pos ((1 + c.fmod 2147483646) * 48271) (show (0 : Int) < 2147483647 by decide)
    have t1 := Int.fmod_lt_of_pos ((1 + c.fmod 2147483646) * 48271) (show (0 : Int) < 2147483647 by decide)
    refine r_mulR (by decide) ?_
    walk_at "rd"
    generalize ((1 + c.fmod 2147483646) * 48271).fmod 2147483647 = t at t0 t1 ⊢
    refine r_lstK fun p1 H1 hp1 e1 h1 => ?_
    walk_at "rd"
    have i0 := Int.fmod_nonneg_of_pos t (show (0 : Int) < 3 by decide)
    have i1 := Int.fmod_lt_of_pos t (show (0 : Int) < 3 by decide)
    refine r_ixI (ns := [10, 12, 10 ^ 20]) (SqL.inj h1) i0 (by show _ < (3 : Int); exact i1) ?_
    have hz : 0 < ([10, 12, 10 ^ 20] : List Int).getD (t.fmod 3).toNat 0 ∧ ([10, 12, 10 ^ 20] : List Int).getD (t.fmod 3).toNat 0 ≤ 10 ^ 20 := by
      have : (t.fmod 3).toNat < 3 := by omega
      generalize (t.fmod 3).toNat = i at this
      rcases i with _ | _ | _ | i
      · exact ⟨by decide, by decide⟩
      · exact ⟨by decide, by decide⟩
      · exact ⟨by decide, by decide⟩
      · omega
    generalize ([10, 12, 10 ^ 20] : List Int).getD (t.fmod 3).toNat 0 = size at hz ⊢
    walk_at "rd"
    have n0 := Int.fmod_nonneg_of_pos (t.fdiv 7) hz.1
    have n1 := Int.fmod_lt_of_pos (t.fdiv 7) hz.1
    obtain ⟨n, en⟩ : ∃ n : Nat, (t.fdiv 7).fmod size = (n : Int) := ⟨((t.fdiv 7).fmod size).toNat, by omega⟩
    have nb : n < 10 ^ 30 := by
      have h1 : n < 10 ^ 20 := by omega
      exact Nat.lt_trans h1 (by decide)
    rw [en]
    refine r_strN (Nat.lt_trans nb (by decide)) ?_
    walk_at "rd"
    refine r_lstK fun p2 H2 hp2 e2 h2 => ?_
    have e12 := e1.trans e2
    walk_at "rd"
    have mn := TX.mkd_num nb
    have mx : TX.Mkd [120] := TX.mkd_of (by decide) (by decide)
    have mm : TX.Mkd [45] := TX.mkd_of (by decide) (by decide)
    have mp : TX.Mkd [43] := TX.mkd_of (by decide) (by decide)
    have ms : TX.Mkd [42] := TX.mkd_of (by decide) (by decide)
    have mc : TX.Mkd [94] := TX.mkd_of (by decide) (by decide)
    have h2' : H2 p2 = some (.lst ([[43], [45]].map fun z => V.str (TX.sS z))) := by rw [h2, lit_plus, lit_minus]; rfl
    refine ⟨fun σ' H' => ∃ (p : Addr) (ws : List (List Nat)), σ' = [some (.str (TX.sS st.nm)), some (.int c), some (.int d), some (.int t), some (.str (TX.sS (TL.numL n))), some (.ref p)] ∧ Ex H H' ∧ H' p = some (.lst (ws.map fun z => V.str (TX.sS z))) ∧ ws ≠ [] ∧ ws.length ≤ 10 ∧ ∀ w ∈ ws, TX.Mkd w, ?_, fun σ' H' hM => ?_⟩
    · walk_at "rd"
      refine r_tupK fun p3 H3 hp3 e3 h3 => ?_
      walk_at "rd"
      refine r_inT (ws := [TX.PS.p0.nm, TX.PS.p1.nm]) (by decide +kernel) (.inl (.inl h3)) ?_
      refine ⟨_, rfl, ite_d (fun _ => ?_) (fun _ => ?_)⟩
      · walk_at "rd"
        refine r_lstK fun p4 H4 hp4 e4 h4 => ?_
        walk_at "rd"
        rw [eq_st lit_p1]
        refine r_two (SqL.inj h4) ?_
        walk_at "rd"
        refine r_lstK fun p5 H5 hp5 e5 h5 => ?_
        walk_at "rd"
        refine ⟨p5, [TL.numL n, [120], TL.numL n, if decide (st = .p1) = true then [120] else [45]], rfl, ((e12.trans e3).trans e4).trans e5, ?_, by simp, by simp, fun w hw => ?_⟩
        · rw [h5, lit_x, lit_minus]
          split <;> rfl
        · simp only [List.mem_cons, List.not_mem_nil, or_false] at hw
          rcases hw with rfl | rfl | rfl | rfl
          · exact mn
          · exact mx
          · exact mn
          · split
            · exact mx
            · exact mm
      · walk_at "rd"
        refine ⟨p2, [[43], [45]], rfl, e12.trans e3, e3 _ _ h2', by simp, by simp, fun w hw => ?_⟩
        simp only [List.mem_cons, List.not_mem_nil, or_false] at hw
        rcases hw with rfl | rfl
        · exact mp
        · exact mm
    obtain ⟨p, ws, rfl, e3, h3, nw, l3, hm⟩ := hM
    refine ⟨fun σ' H' => ∃ (p : Addr) (ws : List (List Nat)), σ' = [some (.str (TX.sS st.nm)), some (.int c), some (.int d), some (.int t), some (.str (TX.sS (TL.numL n))), some (.ref p)] ∧ Ex H H' ∧ H' p = some (.lst (ws.map fun z => V.str (TX.sS z))) ∧ ws ≠ [] ∧ ws.length ≤ 10 ∧ ∀ w ∈ ws, TX.Mkd w, ?_, fun σ' H' hM => ?_⟩
    · walk_at "rd"
      rw [eq_st lit_pm]
      refine ite_d (fun _ => ?_) (fun _ => ?_)
      · walk_at "rd"
        refine r_lstK fun p5 H5 hp5 e5 h5 => ?_
        walk_at "rd"
        exact ⟨p5, [[120]], rfl, e3.trans e5, by rw [h5, lit_x]; rfl, by simp, by simp, fun w hw => by rw [List.mem_singleton.mp hw]; exact mx⟩
      · walk_at "rd"
        exact ⟨p, ws, rfl, e3, h3, nw, l3, hm⟩
    obtain ⟨p, ws, rfl, e3, h3, nw, l3, hm⟩ := hM
    refine ⟨fun σ' H' => ∃ (p : Addr) (ws : List (List Nat)), σ' = [some (.str (TX.sS st.nm)), some (.int c), some (.int d), some (.int t), some (.str (TX.sS (TL.numL n))), some (.ref p)] ∧ Ex H H' ∧ H' p = some (.lst (ws.map fun z => V.str (TX.sS z))) ∧ ws ≠ [] ∧ ws.length ≤ 10 ∧ ∀ w ∈ ws, TX.Mkd w, ?_, fun σ' H' hM => ?_⟩
    · walk_at "rd"
      rw [eq_st lit_pe]
      refine ite_d (fun _ => ?_) (fun _ => ?_)
      · walk_at "rd"
        have k0 := Int.fmod_nonneg_of_pos (t.fdiv 5) (show (0 : Int) < 9 by decide)
        have k1 := Int.fmod_lt_of_pos (t.fdiv 5) (show (0 : Int) < 9 by decide)
        obtain ⟨k, ek⟩ : ∃ k : Nat, (t.fdiv 5).fmod 9 = (k : Int) := ⟨((t.fdiv 5).fmod 9).toNat, by omega⟩
        have kb : k < 10 ^ 30 := Nat.lt_trans (show k < 9 by omega) (by decide)
        rw [ek]
        refine r_strN (Nat.lt_trans kb (by decide)) ?_
        walk_at "rd"
        refine r_lstK fun p5 H5 hp5 e5 h5 => ?_
        walk_at "rd"
        exact ⟨p5, [TL.numL k], rfl, e3.trans e5, h5, by simp, by simp, fun w hw => by rw [List.mem_singleton.mp hw]; exact TX.mkd_num kb⟩
      · walk_at "rd"
        exact ⟨p, ws, rfl, e3, h3, nw, l3, hm⟩
    obtain ⟨p, ws, rfl, e3, h3, nw, l3, hm⟩ := hM
    refine ⟨fun σ' H' => ∃ (p : Addr) (ws : List (List Nat)), σ' = [some (.str (TX.sS st.nm)), some (.int c), some (.int d), some (.int t), some (.str (TX.sS (TL.numL n))), some (.ref p)] ∧ Ex H H' ∧ H' p = some (.lst (ws.map fun z => V.str (TX.sS z))) ∧ ws ≠ [] ∧ ws.length ≤ 10 ∧ ∀ w ∈ ws, TX.Mkd w, ?_, fun σ' H' hM => ?_⟩
    · walk_at "rd"
      rw [eq_st lit_pn]
      refine ite_d (fun _ => ?_) (fun _ => ?_)
      · walk_at "rd"
        refine r_lstK fun p5 H5 hp5 e5 h5 => ?_
        walk_at "rd"
        refine ⟨p5, [[42], [43], [45], [42]], rfl, e3.trans e5, by rw [h5, lit_star, lit_plus, lit_minus]; rfl, by simp, by simp, fun w hw => ?_⟩
        simp only [List.mem_cons, List.not_mem_nil, or_false] at hw
        rcases hw with rfl | rfl | rfl | rfl <;> assumption
      · walk_at "rd"
        exact ⟨p, ws, rfl, e3, h3, nw, l3, hm⟩
    obtain ⟨p, ws, rfl, e3, h3, nw, l3, hm⟩ := hM
    refine ⟨fun σ' H' => ∃ (p : Addr) (ws : List (List Nat)), σ' = [some (.str (TX.sS st.nm)), some (.int c), some (.int d), some (.int t), some (.str (TX.sS (TL.numL n))), some (.ref p)] ∧ Ex H H' ∧ H' p = some (.lst (ws.map fun z => V.str (TX.sS z))) ∧ ws ≠ [] ∧ ws.length ≤ 10 ∧ ∀ w ∈ ws, TX.Mkd w, ?_, fun σ' H' hM => ?_⟩
    · walk_at "rd"
      rw [eq_st lit_px]
      refine ite_d (fun _ => ?_) (fun _ => ?_)
      · walk_at "rd"
        refine r_lstK fun p5 H5 hp5 e5 h5 => ?_
        walk_at "rd"
        refine ⟨p5, [[94], [43], [45], [94]], rfl, e3.trans e5, by rw [h5, lit_pow, lit_plus, lit_minus]; rfl, by simp, by simp, fun w hw => ?_⟩
        simp only [List.mem_cons, List.not_mem_nil, or_false] at hw
        rcases hw with rfl | rfl | rfl | rfl <;> assumption
      · walk_at "rd"
        exact ⟨p, ws, rfl, e3, h3, nw, l3, hm⟩
    obtain ⟨p, ws, rfl, e3, h3, nw, l3, hm⟩ := hM
    have wl := List.length_pos_iff.mpr nw
    walk_at "rd"
    rw [List.length_map]
    refine r_mod (by omega) ?_
    have j0 := Int.fmod_nonneg_of_pos (t.fdiv 45) (show (0 : Int) < (ws.length : Int) by omega)
    have j1 := Int.fmod_lt_of_pos (t.fdiv 45) (show (0 : Int) < (ws.length : Int) by omega)
    refine r_ixTx (SqL.inj h3) j0 j1 ?_
    have hi : ((t.fdiv 45).fmod (ws.length : Int)).toNat < ws.length := by omega
    refine q _ _ e3 (hm _ ?_)
    rw [List.getD_eq_getElem?_getD, List.getElem?_eq_getElem hi]; exact List.getElem_mem hi
  · walk_at "rd"
    refine ite_d (fun h0 => ?_) (fun h0 => ?_)
    · walk_at "rd"
      refine ite_d (fun h1 => ?_) (fun h1 => go _ rfl)
      walk_at "rd"
      refine r_div ⟨by omega, PySem.Flt.log2_lt_of (by decide) (by have : d.natAbs < 2 ^ 10 := by omega
                                                                   exact Nat.lt_of_lt_of_le this (Nat.pow_le_pow_right (by decide) (by decide)))⟩ ?_
      walk_at "rd"
      exact c__law_wild q
    · exact go _ rfl
theorem c__law_mark {st : TX.PS} {c d : Int} (d0 : 0 ≤ d) (d9 : d < 1000) (q : ∀ w H', Ex H H' → TX.Mkd w → Q (.str (TX.sS w)) H') : sp__law_mark K Cof [.str (TX.sS st.nm), .int c, .int d] H Q E := ⟨st, c, d, rfl, d0, d9, q⟩
end

/-! #### _law_refused -/
--USE TE RK
def sp__law_refused (K : PySem.W.Frag) (Cof : String → Addr) : Sp := fun vs H Q _ => ∃ (l : List Nat) (e : Nat), vs = [.str (TX.sS l), .int (e : Int)] ∧ l.length ≤ 600 ∧ TX.readE l = .error e ∧ ∀ H', Ex H H' → Q (.bl true) H'
def t__law_refused (K : PySem.W.Frag) (Cof : String → Addr) (E : XK) : TS :=
  tSeq (tAsg (tC (.bl false)) (gName 2))
  (tSeq (tTryAs K (.ref (Cof "RootError")) 3 (fun W => tDrop (tCallS (sp_read_poly K Cof) (WE W) (tCons (tVar 0) (tNil)))) (fun a cls d => tSeq (tAsg (tAndV (tCB (rIsXD K a cls d) (tCons (tVar 3) (tCons (tC (.ty "ValueError")) (tNil)))) (tAndV (tNotV (tCB (rIsXD K a cls d) (tCons (tVar 3) (tCons (tC (.ref (Cof "NoName"))) (tNil))))) (tNotV (tCB (rIsXD K a cls d) (tCons (tVar 3) (tCons (tC (.ref (Cof "NoRow"))) (tNil))))))) (gName 4))
  (tAsg (tAndV (tCB (rIsXD K a cls d) (tCons (tVar 3) (tCons (tC (.ref (Cof "NoText"))) (tNil)))) (tAndV (tVar 4) (tAndV (tCall (sp__law_whole K Cof) [] E0 (tCons (tXf a cls d (Cof "NoText") "at" (tVar 3)) (tNil))) (tOp rEq (tXf a cls d (Cof "NoText") "at" (tVar 3)) (tVar 1))))) (gName 2))))
  (tRet (tVar 2)))

section
variable {K : PySem.W.Frag} {Cof : String → Addr} {vs : List V} {H : Hp} {Q : VK} {E : XK}
theorem len__law_refused (h : sp__law_refused K Cof vs H Q E) : vs.length = 2 := by
  obtain ⟨l, e, rfl, _⟩ := h; rfl
theorem rd__law_refused (X : ExT K Cof) (h : sp__law_refused K Cof vs H Q E) : t__law_refused K Cof E { nx := fun _ H' => Q .non H', rt := Q } (start ["_law_text", "_law_place", "_law_told", "e", "_law_alone"] vs) H := by
  obtain ⟨l, e, rfl, hl, hE, q⟩ := h
  unfold t__law_refused
  walk_at "rd"
  refine r_tryAs ?_
  walk_at "rd"
  refine r_callS ?_
  walk_at "rd"
  refine c_read_polyX hl hE fun d H1 hd e1 hx => ?_
  refine w_as X.m_NoText_RootError fun a ha => ?_
  walk_at "rd"
  refine r_isXD X.c_NoText hx X.v_NoText (rel_ty _) ?_
  refine ⟨_, rfl, ?_⟩
  rw [if_pos rfl]
  walk_at "rd"
  refine r_isXD X.c_NoText hx X.i_NoText_NoName (rel_ref _) ?_
  refine ⟨_, rfl, ?_⟩
  walk_at "rd"
  refine r_isXD X.c_NoText hx X.i_NoText_NoRow (rel_ref _) ?_
  refine ⟨_, rfl, ?_⟩
  walk_at "rd"
  refine r_isXD X.c_NoText hx X.i_NoText_NoText (rel_ref _) ?_
  walk_at "rd"
  refine r_xf rfl hx rfl ?_
  walk_at "rd"
  refine r_xf rfl hx rfl ?_
  walk_at "rd"
  rw [decide_eq_true rfl]
  exact q _ e1
theorem c__law_refused {l : List Nat} {e : Nat} (hl : l.length ≤ 600) (hE : TX.readE l = .error e) (q : ∀ H', Ex H H' → Q (.bl true) H') : sp__law_refused K Cof [.str (TX.sS l), .int (e : Int)] H Q E := ⟨l, e, rfl, hl, hE, q⟩
end

/-! #### law -/
--USE TV FC0
def sp_law (K : PySem.W.Frag) (Cof : String → Addr) : Sp := fun vs H Q _ => ∃ (a : Addr) (ns : List Int), vs = [.ref a] ∧ SqL K H a (ns.map V.int) ∧ ns.length ≤ 63 ∧ ∀ H', Q (.bl true) H'
def t_law (K : PySem.W.Frag) (Cof : String → Addr) (E : XK) : TS :=
  tSeq (tAsg (tLst (tCons (tC (.str "")) (tCons (tC (.str "p0")) (tCons (tUn rNeg (tC (.int 1))) (tCons (tLst (tNil)) (tNil)))))) (gName 1))
  (tSeq (tAsg (tOp (rIxL K) (tLst (tCons (tC (.int 0)) (tCons (tC (.int 8)) (tCons (tC (.int 40)) (tNil))))) (tOp rMod (tCall (sp__law_cell K Cof) [] E0 (tCons (tVar 0) (tCons (tC (.int 0)) (tNil)))) (tC (.int 3)))) (gName 2))
  (tSeq (tFor (iList K (tSl (rSlL K) (tVar 0) (tPart (tC (.int 2))) (tPart (tC (.int 64))))) (gName 3) (tSeq (tAsg (tCall (sp__law_mark K Cof) [] E0 (tCons (tOp (rIxL K) (tVar 1) (tC (.int 1))) (tCons (tVar 3) (tCons (tVar 2) (tNil))))) (gName 4))
  (tIfS (tTest (tOp rLt (tOp rIAdd (tCB rLenStr (tCons (tOp (rIxL K) (tVar 1) (tC (.int 0))) (tNil))) (tCB rLenStr (tCons (tVar 4) (tNil)))) (tC (.int 150)))) (tDrop (tCall (sp__law_put K Cof) [] E0 (tCons (tVar 1) (tCons (tVar 4) (tCons (tCB rMax2 (tCons (tC (.int 0)) (tCons (tOp rISub (tOp rMod (tOp rMod (tOp rMul (tVar 3) (tC (.int 69621))) (tC (.int 65539))) (tC (.int 5))) (tC (.int 3))) (tNil)))) (tNil)))))) (tNext))))
  (tCut (tIfS (tAnd (tTest (tOp rGt (tOp rMod (tCall (sp__law_cell K Cof) [] E0 (tCons (tVar 0) (tCons (tC (.int 1)) (tNil)))) (tC (.int 4))) (tC (.int 0)))) (tTest (tOp (rIn K false) (tOp (rIxL K) (tVar 1) (tC (.int 1))) (tTup (tCons (tC (.str "p0")) (tCons (tC (.str "p1")) (tCons (tC (.str "pm")) (tNil)))))))) (tDrop (tCall (sp__law_put K Cof) [] E0 (tCons (tVar 1) (tCons (tC (.str "x")) (tCons (tC (.int 0)) (tNil)))))) (tNext))
  (tCut (tIfS (tAnd (tTest (tOp rGt (tOp rMod (tCall (sp__law_cell K Cof) [] E0 (tCons (tVar 0) (tCons (tC (.int 1)) (tNil)))) (tC (.int 4))) (tC (.int 0)))) (tTest (tOp rEq (tOp (rIxL K) (tVar 1) (tC (.int 1))) (tC (.str "pe"))))) (tDrop (tCall (sp__law_put K Cof) [] E0 (tCons (tVar 1) (tCons (tC (.str "8")) (tCons (tC (.int 0)) (tNil)))))) (tNext))
  (tSeq (tAsg (tOp rAddS (tOp (rIxL K) (tVar 1) (tC (.int 0))) (tOp rRepS (tC (.str " ")) (tOp rMod (tOp rDiv (tCall (sp__law_cell K Cof) [] E0 (tCons (tVar 0) (tCons (tC (.int 1)) (tNil)))) (tC (.int 4))) (tC (.int 3))))) (gName 5))
  (tCut (tIfS (tAnd (tTest (tOp rLt (tOp (rIxL K) (tVar 1) (tC (.int 2))) (tC (.int 0)))) (tTest (tOp (rIn K false) (tOp (rIxL K) (tVar 1) (tC (.int 1))) (tTup (tCons (tC (.str "p0")) (tCons (tC (.str "p1")) (tCons (tC (.str "pm")) (tCons (tC (.str "pe")) (tNil))))))))) (tAsg (tCB rLenStr (tCons (tVar 5) (tNil))) (gSub (tVar 1) (tC (.int 2)) rSetL)) (tNext))
  (tSeq (tIfS (tTest (tOp rGe (tOp (rIxL K) (tVar 1) (tC (.int 2))) (tC (.int 0)))) (tRet (tAndV (tCall (sp__law_refused K Cof) [] E0 (tCons (tVar 5) (tCons (tOp (rIxL K) (tVar 1) (tC (.int 2))) (tNil)))) (tCall (sp__law_refused K Cof) [] E0 (tCons (tVar 5) (tCons (tOp (rIxL K) (tVar 1) (tC (.int 2))) (tNil)))))) (tNext))
  (tSeq (tAsg (tCall (sp__law_added_up K Cof) [] E0 (tCons (tOp (rIxL K) (tVar 1) (tC (.int 3))) (tNil))) (gName 6))
  (tSeq (tAsg (tCall (sp_read_poly K Cof) [] E0 (tCons (tVar 5) (tNil))) (gName 7))
  (tSeq (tIfS (tNot (tB (tCall (sp__law_row K Cof) [] E0 (tCons (tVar 7) (tCons (tVar 6) (tNil)))))) (tRet (tC (.bl false))) (tNext))
  (tSeq (tDrop (tBM K "list" rAppend (tVar 7) (tCons (tC (.int 1)) (tNil))))
  (tRet (tCall (sp__law_row K Cof) [] E0 (tCons (tCall (sp_read_poly K Cof) [] E0 (tCons (tVar 5) (tNil))) (tCons (tVar 6) (tNil))))))))))))))))

section
variable {K : PySem.W.Frag} {Cof : String → Addr} {vs : List V} {H : Hp} {Q : VK} {E : XK}
theorem len_law (h : sp_law K Cof vs H Q E) : vs.length = 1 := by
  obtain ⟨a, ns, rfl, _⟩ := h; rfl
/-- the list a of the law, as it stands while marks are put -/
def LawAt (H H' : Hp) (a l : Addr) (n : Nat) : Prop := ∃ (T : List Nat) (st : TX.PS) (pl : Int) (ms : List (List Nat)) (L : List TX.Mk), Fx H H' ∧ AtK H' a l T st pl ms ∧ TX.Put T st pl ms L ∧ T.length ≤ n ∧ ms.length ≤ n
theorem fx_b2 {H H1 H2 : Hp} {a l : Addr} (f : Fx H H1) (b : Exb2 a l H1 H2) (ha : H a = none) (hl : H l = none) : Fx H H2 := ⟨Exb2.back f.to b ha hl⟩
theorem rd_law (h : sp_law K Cof vs H Q E) : t_law K Cof E { nx := fun _ H' => Q .non H', rt := Q } (start ["_law_script", "_law_at", "_law_wild_here", "_law_cell_here", "_law_mark_here", "_law_text", "_law_due", "_law_found"] vs) H := by
  obtain ⟨s, ns, rfl, hS, hl, q⟩ := h
  unfold t_law
  walk_at "rd"
  refine r_lstK fun l H1 hl1 e1 h1 => ?_
  walk_at "rd"
  refine r_lstK fun a H2 ha2 e2 h2 => ?_
  have a0 : H a = none := Evl.fresh_back e1 ha2
  have f2 := (Fx.of e1).ex e2
  have at2 : AtK H2 a l [] .p0 (-1) [] := ⟨by rw [h2, lit_e, lit_p0], e2 _ _ h1⟩
  walk_at "rd"
  refine r_lstK fun p3 H3 hp3 e3 h3 => ?_
  have at3 : AtK H3 a l [] .p0 (-1) [] := ⟨e3 _ _ at2.1, e3 _ _ at2.2⟩
  have f3 := f2.ex e3
  walk_at "rd"
  refine r_ixI (ns := [0, 8, 40]) (SqL.inj h3) (Int.fmod_nonneg_of_pos _ (by decide)) (Int.fmod_lt_of_pos _ (by decide)) ?_
  have hz : 0 ≤ ([0, 8, 40] : List Int).getD ((cellOf ns 0).fmod 3).toNat 0 ∧ ([0, 8, 40] : List Int).getD ((cellOf ns 0).fmod 3).toNat 0 < 1000 := by
    generalize ((cellOf ns 0).fmod 3).toNat = i
    rcases i with _ | _ | _ | i
    · exact ⟨by decide, by decide⟩
    · exact ⟨by decide, by decide⟩
    · exact ⟨by decide, by decide⟩
    · exact ⟨Int.le_refl 0, by show (0 : Int) < _; decide⟩
  generalize ([0, 8, 40] : List Int).getD ((cellOf ns 0).fmod 3).toNat 0 = wild at hz ⊢
  walk_at "rd"
  refine r_slI (f3.l hS) fun p4 H4 hp4 e4 h4 => ?_
  have f4 := f3.ex e4
  have at4 : AtK H4 a l [] .p0 (-1) [] := ⟨e4 _ _ at3.1, e4 _ _ at3.2⟩
  have l4 : (sliceI ns (some 2) (some 64)).length ≤ 63 := Nat.le_trans (sliceI_len _ _ _) hl
  generalize sliceI ns (some 2) (some 64) = cs at h4 l4
  walk_at "rd"
  have np : p4 ≠ a := (ne_of_none at3.1 hp4).symm
  have np2 : p4 ≠ l := (ne_of_none at3.2 hp4).symm
  refine loop_ints (ns := cs) (fun i σ' H' => ∃ (u3 u4 : Option V), σ' = [some (.ref s), some (.ref a), some (.int wild), u3, u4, none, none, none] ∧ H' p4 = some (.lst (cs.map V.int)) ∧ (∃ (T : List Nat) (st : TX.PS) (pl : Int) (ms : List (List Nat)) (L : List TX.Mk), Fx H H' ∧ AtK H' a l T st pl ms ∧ TX.Put T st pl ms L ∧ T.length ≤ 150 ∧ ms.length ≤ i)) ⟨_, _, rfl, h4, [], .p0, -1, [], [], f4, at4, TX.Put.zero, by simp, by simp⟩ (fun i σ' H' _ hp => ?_) (fun i x σ' H' hx hp => ?_) (fun σ' H' hp => ?_)
  · obtain ⟨u3, u4, rfl, hh, _⟩ := hp
    exact SqL.inj hh
  · obtain ⟨u3, u4, rfl, hh, T, st, pl, ms, L, fx, hA, hP, lT, lm⟩ := hp
    walk_at "rd"
    refine r_ixL (SqL.inj hA.1) (atI_nat (j := 1) rfl) ?_
    walk_at "rd"
    refine c__law_mark hz.1 hz.2 fun w H5 e5 hw => ?_
    have hA5 : AtK H5 a l T st pl ms := ⟨e5 _ _ hA.1, e5 _ _ hA.2⟩
    have hh5 := e5 _ _ hh
    walk_at "rd"
    refine r_ixL (SqL.inj hA5.1) (atI_nat (j := 0) rfl) ?_
    walk_at "rd"
    refine r_lenT' (by omega) ?_
    walk_at "rd"
    refine r_lenT' (by have := hw.2; omega) ?_
    walk_at "rd"
    refine ite_d (fun hlt => ?_) (fun hlt => ?_)
    · walk_at "rd"
      refine r_mulR (by decide) ?_
      walk_at "rd"
      have m0 := Int.fmod_nonneg_of_pos ((x * 69621).fmod 65539) (show (0 : Int) < 5 by decide)
      have m1 := Int.fmod_lt_of_pos ((x * 69621).fmod 65539) (show (0 : Int) < 5 by decide)
      refine c__law_put hA5 hP hw.1 (by have := hw.2; omega) (by omega) (by split <;> omega) fun H6 T' st' pl' ms' L' b6 hA6 hP6 lT6 lm6 => ?_
      walk_at "rd"
      exact ⟨_, _, rfl, b6 p4 np np2 _ hh5, T', st', pl', ms', L', fx_b2 (fx.ex e5) b6 a0 hl1, hA6, hP6, by omega, by omega⟩
    · walk_at "rd"
      exact ⟨_, _, rfl, hh5, T, st, pl, ms, L, fx.ex e5, hA5, hP, lT, by omega⟩
  obtain ⟨u3, u4, rfl, _, T, st, pl, ms, L, fx, hA, hP, lT, lm⟩ := hp
  clear e1 h1 e2 h2 f2 at2 e3 h3 at3 f3 e4 h4 at4 f4 hp3 hp4
  refine ⟨fun σ' H' => σ' = [some (.ref s), some (.ref a), some (.int wild), u3, u4, none, none, none] ∧ LawAt H H' a l 152, ?_, fun σ' H' hM => ?_⟩
  · with_reducible refine r_ifS ?_
    refine and_go (fun H5 => Ex H' H5) (fun H5 z => ?_) (fun go => ?_)
    · refine i_f ?_
      walk_at "rd"
      exact ⟨rfl, T, st, pl, ms, L, fx.ex z, ⟨z _ _ hA.1, z _ _ hA.2⟩, hP, by omega, by omega⟩
    · walk_at "rd"
      refine ite_d (fun h0 => ?_) (fun h0 => go _ (Evl.Ex.refl _))
      walk_at "rd"
      refine r_ixL (SqL.inj hA.1) (atI_nat (j := 1) rfl) ?_
      walk_at "rd"
      refine r_tupK fun p5 H5 hp5 e5 h5 => ?_
      walk_at "rd"
      refine r_inT (ws := [TX.PS.p0.nm, TX.PS.p1.nm, TX.PS.pm.nm]) (by decide +kernel) (.inl (.inl h5)) ?_
      refine ⟨_, rfl, ite_d (fun hs => ?_) (fun hs => go _ e5)⟩
      have hA5 : AtK H5 a l T st pl ms := ⟨e5 _ _ hA.1, e5 _ _ hA.2⟩
      walk_at "rd"
      rw [lit_x]
      refine c__law_put hA5 hP TX.x_mark (by decide) (by omega) (.inl rfl) fun H6 T' st' pl' ms' L' b6 hA6 hP6 lT6 lm6 => ?_
      exact ⟨rfl, T', st', pl', ms', L', fx_b2 (fx.ex e5) b6 a0 hl1, hA6, hP6, by simp at lT6; omega, by omega⟩
  obtain ⟨rfl, T, st, pl, ms, L, fx, hA, hP, lT, lm⟩ := hM
  refine ⟨fun σ' H' => σ' = [some (.ref s), some (.ref a), some (.int wild), u3, u4, none, none, none] ∧ LawAt H H' a l 154, ?_, fun σ' H' hM => ?_⟩
  · with_reducible refine r_ifS ?_
    refine and_go (fun H5 => Ex H' H5) (fun H5 z => ?_) (fun go => ?_)
    · refine i_f ?_
      walk_at "rd"
      exact ⟨rfl, T, st, pl, ms, L, fx.ex z, ⟨z _ _ hA.1, z _ _ hA.2⟩, hP, by omega, by omega⟩
    · walk_at "rd"
      refine ite_d (fun h0 => ?_) (fun h0 => go _ (Evl.Ex.refl _))
      walk_at "rd"
      refine r_ixL (SqL.inj hA.1) (atI_nat (j := 1) rfl) ?_
      walk_at "rd"
      rw [eq_st lit_pe]
      refine ite_d (fun hs => ?_) (fun hs => go _ (Evl.Ex.refl _))
      walk_at "rd"
      rw [show ("8" : Str) = TX.sS [56] by decide +kernel]
      refine c__law_put hA hP (TX.isMk_ok (by decide)) (by decide) (by omega) (.inl rfl) fun H6 T' st' pl' ms' L' b6 hA6 hP6 lT6 lm6 => ?_
      exact ⟨rfl, T', st', pl', ms', L', fx_b2 fx b6 a0 hl1, hA6, hP6, by simp at lT6; omega, by omega⟩
  obtain ⟨rfl, T, st, pl, ms, L, fx, hA, hP, lT, lm⟩ := hM
  have g0 := Int.fmod_nonneg_of_pos ((cellOf ns 1).fdiv 4) (show (0 : Int) < 3 by decide)
  have g1 := Int.fmod_lt_of_pos ((cellOf ns 1).fdiv 4) (show (0 : Int) < 3 by decide)
  obtain ⟨g, eg⟩ : ∃ g : Nat, ((cellOf ns 1).fdiv 4).fmod 3 = (g : Int) := ⟨(((cellOf ns 1).fdiv 4).fmod 3).toNat, by omega⟩
  have txl : (T ++ List.replicate g 32).length ≤ 200 := by rw [List.length_append, List.length_replicate]; omega
  walk_at "rd"
  refine r_ixL (SqL.inj hA.1) (atI_nat (j := 0) rfl) ?_
  walk_at "rd"
  rw [eg, lit_b]
  refine r_repT (by omega) ?_
  refine r_addT (by rw [List.length_replicate]; omega) ?_
  walk_at "rd"
  obtain ⟨en1, en2⟩ : (pl < 0 → (st = .p0 ∨ st = .p1 ∨ st = .pm ∨ st = .pe) → TX.readE (T ++ List.replicate g 32) = .error (T ++ List.replicate g 32).length) ∧ (pl < 0 → (st = .pn ∨ st = .px ∨ st = .pd) → ∃ pw c, TX.runA .p0 [] TX.acc0 ms = some (st, pw, c) ∧ TX.readE (T ++ List.replicate g 32) = .ok (ML.trimL c.add) ∧ c.add.length = 9 ∧ ∀ w ∈ ms, w.length ≤ 600) :=
    ⟨fun hp => (hP.ended hp (by omega) g).1, fun hp => (hP.ended hp (by omega) g).2⟩
  refine ⟨fun σ' H' => ∃ pl' : Int, σ' = [some (.ref s), some (.ref a), some (.int wild), u3, u4, some (.str (TX.sS (T ++ List.replicate g 32))), none, none] ∧ Fx H H' ∧ AtK H' a l T st pl' ms ∧ ((∃ e : Nat, pl' = (e : Int) ∧ TX.readE (T ++ List.replicate g 32) = .error e) ∨ (pl' < 0 ∧ ∃ pw c, TX.runA .p0 [] TX.acc0 ms = some (st, pw, c) ∧ TX.readE (T ++ List.replicate g 32) = .ok (ML.trimL c.add) ∧ c.add.length = 9 ∧ ∀ w ∈ ms, w.length ≤ 600)), ?_, fun σ' H' hM => ?_⟩
  · with_reducible refine r_ifS ?_
    refine and_go (fun H5 => Ex H' H5 ∧ (0 ≤ pl ∨ (pl < 0 ∧ (st = .pn ∨ st = .px ∨ st = .pd)))) (fun H5 z => ?_) (fun go => ?_)
    · obtain ⟨z, hc⟩ := z
      refine i_f ?_
      walk_at "rd"
      refine ⟨pl, rfl, fx.ex z, ⟨z _ _ hA.1, z _ _ hA.2⟩, ?_⟩
      rcases hc with hp | ⟨hp, hs⟩
      · exact .inl (hP.refused hp (by omega) g)
      · exact .inr ⟨hp, en2 hp hs⟩
    · walk_at "rd"
      refine r_ixL (SqL.inj hA.1) (atI_nat (j := 2) rfl) ?_
      walk_at "rd"
      refine ite_d (fun h0 => ?_) (fun h0 => go _ ⟨Evl.Ex.refl _, .inl (by omega)⟩)
      walk_at "rd"
      refine r_ixL (SqL.inj hA.1) (atI_nat (j := 1) rfl) ?_
      walk_at "rd"
      refine r_tupK fun p5 H5 hp5 e5 h5 => ?_
      walk_at "rd"
      refine r_inT (ws := [TX.PS.p0.nm, TX.PS.p1.nm, TX.PS.pm.nm, TX.PS.pe.nm]) (by decide +kernel) (.inl (.inl h5)) ?_
      refine ⟨_, rfl, ite_d (fun hs => ?_) (fun hs => go _ ⟨e5, .inr ⟨h0, ?_⟩⟩)⟩
      · have hs' : st = .p0 ∨ st = .p1 ∨ st = .pm ∨ st = .pe := by
          simp only [List.mem_cons, List.not_mem_nil, or_false, TX.nm_inj] at hs
          exact hs
        have h15 := e5 _ _ hA.1
        walk_at "rd"
        refine r_lenT' (by omega) ?_
        walk_at "rd"
        refine r_setL h15 (j := 2) (show ixN _ ((2 : Nat) : Int) = some 2 from Evl.ixN_nat (by simp)) fun H6 b6 h6 => ?_
        have nal : l ≠ a := fun z => by
          have h1 := hA.1
          rw [← z, hA.2] at h1
          exact atk_ne (Option.some.inj h1).symm
        exact ⟨((T ++ List.replicate g 32).length : Int), rfl, (fx.ex e5).mut b6 a0, ⟨by rw [h6]; rfl, b6 l nal _ (e5 _ _ hA.2)⟩, .inl ⟨(T ++ List.replicate g 32).length, rfl, en1 h0 hs'⟩⟩
      · simp only [List.mem_cons, List.not_mem_nil, or_false, TX.nm_inj] at hs
        cases st <;> simp at hs ⊢
  obtain ⟨pl', rfl, fx, hA, hc⟩ := hM
  walk_at "rd"
  refine r_ixL (SqL.inj hA.1) (atI_nat (j := 2) rfl) ?_
  walk_at "rd"
  rcases hc with ⟨e, rfl, hE⟩ | ⟨hneg, pw, c, hr, hE, c9, wd⟩
  · rw [decide_eq_true (show (0 : Int) ≤ (e : Int) by omega)]
    walk_at "rd"
    refine r_ixL (SqL.inj hA.1) (atI_nat (j := 2) rfl) ?_
    walk_at "rd"
    refine c__law_refused (by omega) hE fun H5 e5 => ?_
    walk_at "rd"
    refine r_ixL (SqL.inj (e5 _ _ hA.1)) (atI_nat (j := 2) rfl) ?_
    walk_at "rd"
    exact c__law_refused (by omega) hE fun H6 e6 => q _
  rw [decide_eq_false (show ¬ (0 : Int) ≤ pl' by omega)]
  walk_at "rd"
  refine r_ixL (SqL.inj hA.1) (atI_nat (j := 3) rfl) ?_
  walk_at "rd"
  refine c__law_added_up hA.2 (by omega) wd hr fun p5 H5 hp5 e5 h5 => ?_
  walk_at "rd"
  refine c_read_poly (by omega) hE fun p6 H6 hp6 e6 h6 => ?_
  have h56 := e6 _ _ h5
  walk_at "rd"
  have tl : (ML.trimL c.add).length ≤ 1000000 := by have := ML.trimL_len c.add; omega
  refine c__law_row h6 (SqL.inj h56) tl ?_
  walk_at "rd"
  refine r_appendI h6 (by omega) fun H7 b7 h7 => ?_
  have h57 := b7 p5 (ne_of_none h5 hp6) _ h56
  walk_at "rd"
  refine c_read_poly (by omega) hE fun p8 H8 hp8 e8 h8 => ?_
  walk_at "rd"
  exact c__law_row h8 (SqL.inj (e8 _ _ h57)) tl (q _)
theorem c_law {a : Addr} {ns : List Int} (h : SqL K H a (ns.map V.int)) (hl : ns.length ≤ 63) (q : ∀ H', Q (.bl true) H') : sp_law K Cof [.ref a] H Q E := ⟨a, ns, rfl, h, hl, q⟩
end

def topS (i : Nat) : Stmt := PySem.Challenge.pw_rootspan_k67_no_polynomial.main.body.getD i (.Pass ⟨0, 0, 0, 0⟩)
abbrev s_NoText___init__ : Stmt := inClass (topS 4) 0
theorem sc_NoText___init__ : FnScope ["self", "at"] ["self", "at"] (defScope s_NoText___init__) := ⟨rfl, rfl, rfl, by decide +kernel, rfl, by decide +kernel, by decide +kernel⟩
abbrev s_poly : Stmt := topS 7
theorem sc_poly : FnScope ["row", "size"] ["row"] (defScope s_poly) := ⟨rfl, rfl, rfl, by decide +kernel, rfl, by decide +kernel, by decide +kernel⟩
abbrev s_run_of : Stmt := topS 11
theorem sc_run_of : FnScope ["text", "at", "signs", "size"] ["text", "at", "signs"] (defScope s_run_of) := ⟨rfl, rfl, rfl, by decide +kernel, rfl, by decide +kernel, by decide +kernel⟩
abbrev s_marks_of : Stmt := topS 12
theorem sc_marks_of : FnScope ["text", "found", "at", "size"] ["text"] (defScope s_marks_of) := ⟨rfl, rfl, rfl, by decide +kernel, rfl, by decide +kernel, by decide +kernel⟩
abbrev s_is_whole : Stmt := topS 13
theorem sc_is_whole : FnScope ["mark"] ["mark"] (defScope s_is_whole) := ⟨rfl, rfl, rfl, by decide +kernel, rfl, by decide +kernel, by decide +kernel⟩
abbrev s_Marks___init__ : Stmt := inClass (topS 14) 0
theorem sc_Marks___init__ : FnScope ["self", "text"] ["self", "text"] (defScope s_Marks___init__) := ⟨rfl, rfl, rfl, by decide +kernel, rfl, by decide +kernel, by decide +kernel⟩
abbrev s_Marks_mark : Stmt := inClass (topS 14) 1
theorem sc_Marks_mark : FnScope ["self"] ["self"] (defScope s_Marks_mark) := ⟨rfl, rfl, rfl, by decide +kernel, rfl, by decide +kernel, by decide +kernel⟩
abbrev s_Marks_place : Stmt := inClass (topS 14) 2
theorem sc_Marks_place : FnScope ["self"] ["self"] (defScope s_Marks_place) := ⟨rfl, rfl, rfl, by decide +kernel, rfl, by decide +kernel, by decide +kernel⟩
abbrev s_Marks_taken : Stmt := inClass (topS 14) 3
theorem sc_Marks_taken : FnScope ["self", "found"] ["self"] (defScope s_Marks_taken) := ⟨rfl, rfl, rfl, by decide +kernel, rfl, by decide +kernel, by decide +kernel⟩
abbrev s_Marks_take : Stmt := inClass (topS 14) 4
theorem sc_Marks_take : FnScope ["self", "wanted"] ["self", "wanted"] (defScope s_Marks_take) := ⟨rfl, rfl, rfl, by decide +kernel, rfl, by decide +kernel, by decide +kernel⟩
abbrev s_Marks_whole : Stmt := inClass (topS 14) 7
theorem sc_Marks_whole : FnScope ["self"] ["self"] (defScope s_Marks_whole) := ⟨rfl, rfl, rfl, by decide +kernel, rfl, by decide +kernel, by decide +kernel⟩
abbrev s_Marks_exponent : Stmt := inClass (topS 14) 8
theorem sc_Marks_exponent : FnScope ["self"] ["self"] (defScope s_Marks_exponent) := ⟨rfl, rfl, rfl, by decide +kernel, rfl, by decide +kernel, by decide +kernel⟩
abbrev s_Marks_last : Stmt := inClass (topS 14) 9
theorem sc_Marks_last : FnScope ["self"] ["self"] (defScope s_Marks_last) := ⟨rfl, rfl, rfl, by decide +kernel, rfl, by decide +kernel, by decide +kernel⟩
abbrev s_add_term : Stmt := topS 16
theorem sc_add_term : FnScope ["marks", "row", "sign", "factor", "k"] ["marks", "row", "sign"] (defScope s_add_term) := ⟨rfl, rfl, rfl, by decide +kernel, rfl, by decide +kernel, by decide +kernel⟩
abbrev s_poly_of : Stmt := topS 15
theorem sc_poly_of : FnScope ["marks", "row", "sign"] ["marks"] (defScope s_poly_of) := ⟨rfl, rfl, rfl, by decide +kernel, rfl, by decide +kernel, by decide +kernel⟩
abbrev s_read_poly : Stmt := topS 17
theorem sc_read_poly : FnScope ["text", "marks", "P"] ["text"] (defScope s_read_poly) := ⟨rfl, rfl, rfl, by decide +kernel, rfl, by decide +kernel, by decide +kernel⟩
abbrev s__law_cell : Stmt := topS 19
theorem sc__law_cell : FnScope ["_law_script", "_law_k"] ["_law_script", "_law_k"] (defScope s__law_cell) := ⟨rfl, rfl, rfl, by decide +kernel, rfl, by decide +kernel, by decide +kernel⟩
abbrev s__law_whole : Stmt := topS 20
theorem sc__law_whole : FnScope ["_law_found"] ["_law_found"] (defScope s__law_whole) := ⟨rfl, rfl, rfl, by decide +kernel, rfl, by decide +kernel, by decide +kernel⟩
abbrev s__law_kind : Stmt := topS 21
theorem sc__law_kind : FnScope ["_law_mark_here"] ["_law_mark_here"] (defScope s__law_kind) := ⟨rfl, rfl, rfl, by decide +kernel, rfl, by decide +kernel, by decide +kernel⟩
abbrev s__law_small : Stmt := topS 22
theorem sc__law_small : FnScope ["_law_mark_here"] ["_law_mark_here"] (defScope s__law_small) := ⟨rfl, rfl, rfl, by decide +kernel, rfl, by decide +kernel, by decide +kernel⟩
abbrev s__law_next_in_poly : Stmt := topS 23
theorem sc__law_next_in_poly : FnScope ["_law_state", "_law_mark_here", "_law_kind_here"] ["_law_state", "_law_mark_here"] (defScope s__law_next_in_poly) := ⟨rfl, rfl, rfl, by decide +kernel, rfl, by decide +kernel, by decide +kernel⟩
abbrev s__law_wild : Stmt := topS 24
theorem sc__law_wild : FnScope ["_law_cell_here", "_law_some"] ["_law_cell_here"] (defScope s__law_wild) := ⟨rfl, rfl, rfl, by decide +kernel, rfl, by decide +kernel, by decide +kernel⟩
abbrev s__law_glued : Stmt := topS 25
theorem sc__law_glued : FnScope ["_law_text", "_law_mark_here", "_law_signs"] ["_law_text", "_law_mark_here"] (defScope s__law_glued) := ⟨rfl, rfl, rfl, by decide +kernel, rfl, by decide +kernel, by decide +kernel⟩
abbrev s__law_trim : Stmt := topS 26
theorem sc__law_trim : FnScope ["_law_row_here", "_law_size"] ["_law_row_here"] (defScope s__law_trim) := ⟨rfl, rfl, rfl, by decide +kernel, rfl, by decide +kernel, by decide +kernel⟩
abbrev s__law_row : Stmt := topS 27
theorem sc__law_row : FnScope ["_law_found", "_law_due", "_law_k"] ["_law_found", "_law_due"] (defScope s__law_row) := ⟨rfl, rfl, rfl, by decide +kernel, rfl, by decide +kernel, by decide +kernel⟩
abbrev s__law_put : Stmt := topS 28
theorem sc__law_put : FnScope ["_law_at", "_law_mark_here", "_law_gap", "_law_state"] ["_law_at", "_law_mark_here", "_law_gap"] (defScope s__law_put) := ⟨rfl, rfl, rfl, by decide +kernel, rfl, by decide +kernel, by decide +kernel⟩
abbrev s__law_added_up : Stmt := topS 29
theorem sc__law_added_up : FnScope ["_law_marks", "_law_row_here", "_law_sign", "_law_many", "_law_k", "_law_spot", "_law_mark_here"] ["_law_marks"] (defScope s__law_added_up) := ⟨rfl, rfl, rfl, by decide +kernel, rfl, by decide +kernel, by decide +kernel⟩
abbrev s__law_mark : Stmt := topS 30
theorem sc__law_mark : FnScope ["_law_state", "_law_cell_here", "_law_wild_here", "_law_turn", "_law_many", "_law_some"] ["_law_state", "_law_cell_here", "_law_wild_here"] (defScope s__law_mark) := ⟨rfl, rfl, rfl, by decide +kernel, rfl, by decide +kernel, by decide +kernel⟩
abbrev s__law_refused : Stmt := topS 31
theorem sc__law_refused : FnScope ["_law_text", "_law_place", "_law_told", "e", "_law_alone"] ["_law_text", "_law_place"] (defScope s__law_refused) := ⟨rfl, rfl, rfl, by decide +kernel, rfl, by decide +kernel, by decide +kernel⟩
abbrev s_law : Stmt := topS 32
theorem sc_law : FnScope ["_law_script", "_law_at", "_law_wild_here", "_law_cell_here", "_law_mark_here", "_law_text", "_law_due", "_law_found"] ["_law_script"] (defScope s_law) := ⟨rfl, rfl, rfl, by decide +kernel, rfl, by decide +kernel, by decide +kernel⟩
structure Txt (K : PySem.W.Frag) (mg : Str → Option Value) (Cof : String → Addr) (ad : Nat → Addr) (fd : Nat → FuncData) : Prop where
  z_ValueError : mg "ValueError" = none
  z_bool : mg "bool" = none
  z_int : mg "int" = none
  z_isinstance : mg "isinstance" = none
  z_len : mg "len" = none
  z_list : mg "list" = none
  z_max : mg "max" = none
  z_range : mg "range" = none
  z_str : mg "str" = none
  F_NoText___init__ : Fun K "__init__" "NoText.__init__" s_NoText___init__ (ad 0) (fd 0)
  oe_NoText : OexC K (Cof "NoText")
  in_NoText : PySem.W.findIn K (.ref (Cof "NoText")) "__init__" = some (some (.ref (ad 0)))
  ti_NoText : PySem.W.typeIn K (.ref (ad 0)) = some (.type "function")
  g_poly : mg "poly" = some (.ref (ad 1))
  F_poly : Fun K "poly" "poly" s_poly (ad 1) (fd 1)
  g_run_of : mg "run_of" = some (.ref (ad 2))
  F_run_of : Fun K "run_of" "run_of" s_run_of (ad 2) (fd 2)
  g_marks_of : mg "marks_of" = some (.ref (ad 3))
  F_marks_of : Fun K "marks_of" "marks_of" s_marks_of (ad 3) (fd 3)
  g_is_whole : mg "is_whole" = some (.ref (ad 4))
  F_is_whole : Fun K "is_whole" "is_whole" s_is_whole (ad 4) (fd 4)
  F_Marks___init__ : Fun K "__init__" "Marks.__init__" s_Marks___init__ (ad 5) (fd 5)
  mk_Marks : Mk K (Cof "Marks") (ad 5)
  F_Marks_mark : Fun K "mark" "Marks.mark" s_Marks_mark (ad 6) (fd 6)
  meth_Marks_mark : Meth K (Cof "Marks") "mark" (ad 6)
  F_Marks_place : Fun K "place" "Marks.place" s_Marks_place (ad 7) (fd 7)
  meth_Marks_place : Meth K (Cof "Marks") "place" (ad 7)
  F_Marks_taken : Fun K "taken" "Marks.taken" s_Marks_taken (ad 8) (fd 8)
  meth_Marks_taken : Meth K (Cof "Marks") "taken" (ad 8)
  F_Marks_take : Fun K "take" "Marks.take" s_Marks_take (ad 9) (fd 9)
  meth_Marks_take : Meth K (Cof "Marks") "take" (ad 9)
  F_Marks_whole : Fun K "whole" "Marks.whole" s_Marks_whole (ad 10) (fd 10)
  meth_Marks_whole : Meth K (Cof "Marks") "whole" (ad 10)
  F_Marks_exponent : Fun K "exponent" "Marks.exponent" s_Marks_exponent (ad 11) (fd 11)
  meth_Marks_exponent : Meth K (Cof "Marks") "exponent" (ad 11)
  F_Marks_last : Fun K "last" "Marks.last" s_Marks_last (ad 12) (fd 12)
  meth_Marks_last : Meth K (Cof "Marks") "last" (ad 12)
  g_add_term : mg "add_term" = some (.ref (ad 13))
  F_add_term : Fun K "add_term" "add_term" s_add_term (ad 13) (fd 13)
  g_poly_of : mg "poly_of" = some (.ref (ad 14))
  F_poly_of : Fun K "poly_of" "poly_of" s_poly_of (ad 14) (fd 14)
  g_read_poly : mg "read_poly" = some (.ref (ad 15))
  F_read_poly : Fun K "read_poly" "read_poly" s_read_poly (ad 15) (fd 15)
  g__law_cell : mg "_law_cell" = some (.ref (ad 16))
  F__law_cell : Fun K "_law_cell" "_law_cell" s__law_cell (ad 16) (fd 16)
  g__law_whole : mg "_law_whole" = some (.ref (ad 17))
  F__law_whole : Fun K "_law_whole" "_law_whole" s__law_whole (ad 17) (fd 17)
  g__law_kind : mg "_law_kind" = some (.ref (ad 18))
  F__law_kind : Fun K "_law_kind" "_law_kind" s__law_kind (ad 18) (fd 18)
  g__law_small : mg "_law_small" = some (.ref (ad 19))
  F__law_small : Fun K "_law_small" "_law_small" s__law_small (ad 19) (fd 19)
  g__law_next_in_poly : mg "_law_next_in_poly" = some (.ref (ad 20))
  F__law_next_in_poly : Fun K "_law_next_in_poly" "_law_next_in_poly" s__law_next_in_poly (ad 20) (fd 20)
  g__law_wild : mg "_law_wild" = some (.ref (ad 21))
  F__law_wild : Fun K "_law_wild" "_law_wild" s__law_wild (ad 21) (fd 21)
  g__law_glued : mg "_law_glued" = some (.ref (ad 22))
  F__law_glued : Fun K "_law_glued" "_law_glued" s__law_glued (ad 22) (fd 22)
  g__law_trim : mg "_law_trim" = some (.ref (ad 23))
  F__law_trim : Fun K "_law_trim" "_law_trim" s__law_trim (ad 23) (fd 23)
  g__law_row : mg "_law_row" = some (.ref (ad 24))
  F__law_row : Fun K "_law_row" "_law_row" s__law_row (ad 24) (fd 24)
  g__law_put : mg "_law_put" = some (.ref (ad 25))
  F__law_put : Fun K "_law_put" "_law_put" s__law_put (ad 25) (fd 25)
  g__law_added_up : mg "_law_added_up" = some (.ref (ad 26))
  F__law_added_up : Fun K "_law_added_up" "_law_added_up" s__law_added_up (ad 26) (fd 26)
  g__law_mark : mg "_law_mark" = some (.ref (ad 27))
  F__law_mark : Fun K "_law_mark" "_law_mark" s__law_mark (ad 27) (fd 27)
  g__law_refused : mg "_law_refused" = some (.ref (ad 28))
  F__law_refused : Fun K "_law_refused" "_law_refused" s__law_refused (ad 28) (fd 28)
  g_law : mg "law" = some (.ref (ad 29))
  F_law : Fun K "law" "law" s_law (ad 29) (fd 29)
  u_FIGURES : ∃ tk, mg "FIGURES" = some (.str "0123456789" tk)
  u_LETTERS : ∃ tk, mg "LETTERS" = some (.str "abcdefghijklmnopqrstuvwxyz" tk)
  q_RootError : mg "RootError" = some (.ref (Cof "RootError"))
  e_RootError : OwnE K mg "RootError" (Cof "RootError")
  q_NoRow : mg "NoRow" = some (.ref (Cof "NoRow"))
  e_NoRow : OwnE K mg "NoRow" (Cof "NoRow")
  q_NoText : mg "NoText" = some (.ref (Cof "NoText"))
  q_NoName : mg "NoName" = some (.ref (Cof "NoName"))
  q_Marks : mg "Marks" = some (.ref (Cof "Marks"))
  cls_Marks : Cls K (Cof "Marks")
  ex : ExT K Cof
section
variable {P : Program} {w : World} {K : PySem.W.Frag} {mg : Str → Option Value} {base : Heap} {Cof : String → Addr} {ad : Nat → Addr} {fd : Nat → FuncData}
theorem B_NoText___init__ (T : Txt K mg Cof ad fd) : Binds K (fd 0) ["self", "at"] [] := T.F_NoText___init__.binds (ps := ["self", "at"]) fun _ _ _ _ _ _ us hl => match us, hl with | [_, _], _ => rfl
theorem B_poly (T : Txt K mg Cof ad fd) : Binds K (fd 1) ["row"] [] := T.F_poly.binds (ps := ["row"]) fun _ _ _ _ _ _ us hl => match us, hl with | [_], _ => rfl
theorem B_run_of (T : Txt K mg Cof ad fd) : Binds K (fd 2) ["text", "at", "signs"] [] := T.F_run_of.binds (ps := ["text", "at", "signs"]) fun _ _ _ _ _ _ us hl => match us, hl with | [_, _, _], _ => rfl
theorem B_marks_of (T : Txt K mg Cof ad fd) : Binds K (fd 3) ["text"] [] := T.F_marks_of.binds (ps := ["text"]) fun _ _ _ _ _ _ us hl => match us, hl with | [_], _ => rfl
theorem B_is_whole (T : Txt K mg Cof ad fd) : Binds K (fd 4) ["mark"] [] := T.F_is_whole.binds (ps := ["mark"]) fun _ _ _ _ _ _ us hl => match us, hl with | [_], _ => rfl
theorem B_Marks___init__ (T : Txt K mg Cof ad fd) : Binds K (fd 5) ["self", "text"] [] := T.F_Marks___init__.binds (ps := ["self", "text"]) fun _ _ _ _ _ _ us hl => match us, hl with | [_, _], _ => rfl
theorem B_Marks_mark (T : Txt K mg Cof ad fd) : Binds K (fd 6) ["self"] [] := T.F_Marks_mark.binds (ps := ["self"]) fun _ _ _ _ _ _ us hl => match us, hl with | [_], _ => rfl
theorem B_Marks_place (T : Txt K mg Cof ad fd) : Binds K (fd 7) ["self"] [] := T.F_Marks_place.binds (ps := ["self"]) fun _ _ _ _ _ _ us hl => match us, hl with | [_], _ => rfl
theorem B_Marks_taken (T : Txt K mg Cof ad fd) : Binds K (fd 8) ["self"] [] := T.F_Marks_taken.binds (ps := ["self"]) fun _ _ _ _ _ _ us hl => match us, hl with | [_], _ => rfl
theorem B_Marks_take (T : Txt K mg Cof ad fd) : Binds K (fd 9) ["self", "wanted"] [] := T.F_Marks_take.binds (ps := ["self", "wanted"]) fun _ _ _ _ _ _ us hl => match us, hl with | [_, _], _ => rfl
theorem B_Marks_whole (T : Txt K mg Cof ad fd) : Binds K (fd 10) ["self"] [] := T.F_Marks_whole.binds (ps := ["self"]) fun _ _ _ _ _ _ us hl => match us, hl with | [_], _ => rfl
theorem B_Marks_exponent (T : Txt K mg Cof ad fd) : Binds K (fd 11) ["self"] [] := T.F_Marks_exponent.binds (ps := ["self"]) fun _ _ _ _ _ _ us hl => match us, hl with | [_], _ => rfl
theorem B_Marks_last (T : Txt K mg Cof ad fd) : Binds K (fd 12) ["self"] [] := T.F_Marks_last.binds (ps := ["self"]) fun _ _ _ _ _ _ us hl => match us, hl with | [_], _ => rfl
theorem B_add_term (T : Txt K mg Cof ad fd) : Binds K (fd 13) ["marks", "row", "sign"] [] := T.F_add_term.binds (ps := ["marks", "row", "sign"]) fun _ _ _ _ _ _ us hl => match us, hl with | [_, _, _], _ => rfl
theorem B_poly_of (T : Txt K mg Cof ad fd) : Binds K (fd 14) ["marks"] [] := T.F_poly_of.binds (ps := ["marks"]) fun _ _ _ _ _ _ us hl => match us, hl with | [_], _ => rfl
theorem B_read_poly (T : Txt K mg Cof ad fd) : Binds K (fd 15) ["text"] [] := T.F_read_poly.binds (ps := ["text"]) fun _ _ _ _ _ _ us hl => match us, hl with | [_], _ => rfl
theorem B__law_cell (T : Txt K mg Cof ad fd) : Binds K (fd 16) ["_law_script", "_law_k"] [] := T.F__law_cell.binds (ps := ["_law_script", "_law_k"]) fun _ _ _ _ _ _ us hl => match us, hl with | [_, _], _ => rfl
theorem B__law_whole (T : Txt K mg Cof ad fd) : Binds K (fd 17) ["_law_found"] [] := T.F__law_whole.binds (ps := ["_law_found"]) fun _ _ _ _ _ _ us hl => match us, hl with | [_], _ => rfl
theorem B__law_kind (T : Txt K mg Cof ad fd) : Binds K (fd 18) ["_law_mark_here"] [] := T.F__law_kind.binds (ps := ["_law_mark_here"]) fun _ _ _ _ _ _ us hl => match us, hl with | [_], _ => rfl
theorem B__law_small (T : Txt K mg Cof ad fd) : Binds K (fd 19) ["_law_mark_here"] [] := T.F__law_small.binds (ps := ["_law_mark_here"]) fun _ _ _ _ _ _ us hl => match us, hl with | [_], _ => rfl
theorem B__law_next_in_poly (T : Txt K mg Cof ad fd) : Binds K (fd 20) ["_law_state", "_law_mark_here"] [] := T.F__law_next_in_poly.binds (ps := ["_law_state", "_law_mark_here"]) fun _ _ _ _ _ _ us hl => match us, hl with | [_, _], _ => rfl
theorem B__law_wild (T : Txt K mg Cof ad fd) : Binds K (fd 21) ["_law_cell_here"] [] := T.F__law_wild.binds (ps := ["_law_cell_here"]) fun _ _ _ _ _ _ us hl => match us, hl with | [_], _ => rfl
theorem B__law_glued (T : Txt K mg Cof ad fd) : Binds K (fd 22) ["_law_text", "_law_mark_here"] [] := T.F__law_glued.binds (ps := ["_law_text", "_law_mark_here"]) fun _ _ _ _ _ _ us hl => match us, hl with | [_, _], _ => rfl
theorem B__law_trim (T : Txt K mg Cof ad fd) : Binds K (fd 23) ["_law_row_here"] [] := T.F__law_trim.binds (ps := ["_law_row_here"]) fun _ _ _ _ _ _ us hl => match us, hl with | [_], _ => rfl
theorem B__law_row (T : Txt K mg Cof ad fd) : Binds K (fd 24) ["_law_found", "_law_due"] [] := T.F__law_row.binds (ps := ["_law_found", "_law_due"]) fun _ _ _ _ _ _ us hl => match us, hl with | [_, _], _ => rfl
theorem B__law_put (T : Txt K mg Cof ad fd) : Binds K (fd 25) ["_law_at", "_law_mark_here", "_law_gap"] [] := T.F__law_put.binds (ps := ["_law_at", "_law_mark_here", "_law_gap"]) fun _ _ _ _ _ _ us hl => match us, hl with | [_, _, _], _ => rfl
theorem B__law_added_up (T : Txt K mg Cof ad fd) : Binds K (fd 26) ["_law_marks"] [] := T.F__law_added_up.binds (ps := ["_law_marks"]) fun _ _ _ _ _ _ us hl => match us, hl with | [_], _ => rfl
theorem B__law_mark (T : Txt K mg Cof ad fd) : Binds K (fd 27) ["_law_state", "_law_cell_here", "_law_wild_here"] [] := T.F__law_mark.binds (ps := ["_law_state", "_law_cell_here", "_law_wild_here"]) fun _ _ _ _ _ _ us hl => match us, hl with | [_, _, _], _ => rfl
theorem B__law_refused (T : Txt K mg Cof ad fd) : Binds K (fd 28) ["_law_text", "_law_place"] [] := T.F__law_refused.binds (ps := ["_law_text", "_law_place"]) fun _ _ _ _ _ _ us hl => match us, hl with | [_, _], _ => rfl
theorem B_law (T : Txt K mg Cof ad fd) : Binds K (fd 29) ["_law_script"] [] := T.F_law.binds (ps := ["_law_script"]) fun _ _ _ _ _ _ us hl => match us, hl with | [_], _ => rfl
theorem okq__law_whole (T : Txt K mg Cof ad fd) : FnQ P w K mg base 1 (ad 17) (fd 17) ["_law_found"] (sp__law_whole K Cof) := by
  have nd := sc__law_whole.nd
  refine fun_okQ T.F__law_whole sc__law_whole (fun vs H Q E h => len__law_whole h) (fun cdv A outer s H vs Q E p hr h => ⟨t__law_whole K Cof E, ?_, rd__law_whole h⟩)
  exact pss_one (ps_ret (pe_and (pe_callB call_isi (by rfl) T.z_isinstance (by decide +kernel) (pa_cons (pv 0) (pa_cons (pe_bltn (v := .ty "int") (by rfl) T.z_int (by decide +kernel) rfl) (pa_nil)))) (pe_one (pe_not (pe_callB call_isi (by rfl) T.z_isinstance (by decide +kernel) (pa_cons (pv 0) (pa_cons (pe_bltn (v := .ty "bool") (by rfl) T.z_bool (by decide +kernel) rfl) (pa_nil))))))))
theorem ok_NoText___init__ (T : Txt K mg Cof ad fd) : FnOk P w K mg base CX0 1 (ad 0) (fd 0) ["self", "at"] (sp_NoText___init__ K Cof) := by
  have nd := sc_NoText___init__.nd
  refine T.F_NoText___init__.ok sc_NoText___init__ (fun vs H Q E h => len_NoText___init__ h) (fun cdv A outer s H vs Q E hr h => ⟨t_NoText___init__ K Cof E, ?_, rd_NoText___init__ T.ex h⟩)
  exact pss_one (ps_ost (pv 0) (pv 1))
theorem ok_poly (T : Txt K mg Cof ad fd) : FnOk P w K mg base CX0 1 (ad 1) (fd 1) ["row"] (sp_poly K Cof) := by
  have nd := sc_poly.nd
  refine T.F_poly.ok sc_poly (fun vs H Q E h => len_poly h) (fun cdv A outer s H vs Q E hr h => ⟨t_poly K Cof E, ?_, rd_poly h⟩)
  exact pss_cons (ps_set (i := 1) nd rfl (by first | exact Or.inl rfl | exact Or.inr rfl) (pe_callB call_len_seq (by rfl) T.z_len (by decide +kernel) (pa_cons (pv 0) (pa_nil))))
       (pss_cons (ps_while PassesOwn.never (PW.pt (pw_and (pt_cmpR op_gt (pv 1) (pe_int) (nomark _)) (pw_and1 (pt_cmpR op_eq (pe_ix ix_list (pv 0) (pe_op op_sub (pv 1) (pe_int)) (fun _ _ => rfl)) (pe_int) (nomark _))))) (pss_one (ps_set (i := 1) nd rfl (by first | exact Or.inl rfl | exact Or.inr rfl) (pe_op op_sub (pv 1) (pe_int)))))
       (pss_one (ps_ret (pe_slice sl_list (pv 0) (po_none) (po_some (pv 1))))))
theorem ok_run_of (T : Txt K mg Cof ad fd) : FnOk P w K mg base CX0 1 (ad 2) (fd 2) ["text", "at", "signs"] (sp_run_of K Cof) := by
  have nd := sc_run_of.nd
  refine T.F_run_of.ok sc_run_of (fun vs H Q E h => len_run_of h) (fun cdv A outer s H vs Q E hr h => ⟨t_run_of K Cof E, ?_, rd_run_of h⟩)
  exact pss_cons (ps_set (i := 3) nd rfl (by first | exact Or.inl rfl | exact Or.inr rfl) (pe_int))
       (pss_cons (ps_while PassesOwn.never (PW.pt (pw_and (pt_cmpR op_lt (pe_op op_add (pv 1) (pv 3)) (pe_callB call_len_str (by rfl) T.z_len (by decide +kernel) (pa_cons (pv 0) (pa_nil))) (nomark _)) (pw_and1 (pt_cmpR op_inT (pe_ix ix_str (pv 0) (pe_op op_add (pv 1) (pv 3)) (fun _ _ => rfl)) (pv 2) (by rfl))))) (pss_one (ps_set (i := 3) nd rfl (by first | exact Or.inl rfl | exact Or.inr rfl) (pe_op op_add (pv 3) (pe_int)))))
       (pss_one (ps_ret (pv 3))))
theorem ok_marks_of (T : Txt K mg Cof ad fd) : FnOk P w K mg base CX0 2 (ad 3) (fd 3) ["text"] (sp_marks_of K Cof) := by
  have G_run_of := ok_run_of (P := P) (w := w) (base := base) T
  have B_run_of := B_run_of T
  obtain ⟨_, hk_FIGURES⟩ := T.u_FIGURES
  obtain ⟨_, hk_LETTERS⟩ := T.u_LETTERS
  have nd := sc_marks_of.nd
  refine T.F_marks_of.ok sc_marks_of (fun vs H Q E h => len_marks_of h) (fun cdv A outer s H vs Q E hr h => ⟨t_marks_of K Cof E, ?_, rd_marks_of h⟩)
  exact pss_cons (ps_set (i := 1) nd rfl (by first | exact Or.inl rfl | exact Or.inr rfl) (pe_lst (pa_nil)))
       (pss_cons (ps_set (i := 2) nd rfl (by first | exact Or.inl rfl | exact Or.inr rfl) (pe_int))
       (pss_cons (ps_while PassesOwn.never (pt_cmpR op_lt (pv 2) (pe_callB call_len_str (by rfl) T.z_len (by decide +kernel) (pa_cons (pv 0) (pa_nil))) (nomark _)) (pss_cons (ps_set (i := 3) nd rfl (by first | exact Or.inl rfl | exact Or.inr rfl) (pe_callB (call_max3Nu (by rfl)) (by rfl) T.z_max (by decide +kernel) (pa_cons (pe_int) (pa_cons (pe_call G_run_of (hr.mono (by decide)) (by rfl) T.g_run_of T.F_run_of.kp B_run_of .nil pass0 (pa_cons (pv 0) (pa_cons (pv 2) (pa_cons ((pe_glob (by rfl) hk_FIGURES ⟨_, rfl⟩)) (pa_nil))))) (pa_cons (pe_call G_run_of (hr.mono (by decide)) (by rfl) T.g_run_of T.F_run_of.kp B_run_of .nil pass0 (pa_cons (pv 0) (pa_cons (pv 2) (pa_cons ((pe_glob (by rfl) hk_LETTERS ⟨_, rfl⟩)) (pa_nil))))) (pa_nil))))))
       (pss_cut (ps_if (pt_cmpR op_eq (pe_slice sl_str (pv 0) (po_some (pv 2)) (po_some (pe_op op_add (pv 2) (pe_int)))) (pe_str) (nomark _)) (pss_one (ps_set (i := 3) nd rfl (by first | exact Or.inl rfl | exact Or.inr rfl) (pe_int))) (pss_nil))
       (pss_cut (ps_if (pt_cmpR op_ne (pe_ix ix_str (pv 0) (pv 2) (fun _ _ => rfl)) (pe_str) (nomark _)) (pss_one (ps_expr (pe_bm PySem.F.plainAttrs_list PySem.F.slot_list_append PySem.F.type_list_append mt_append (pv 1) (pa_cons (pe_tup (pa_cons (pe_slice sl_str (pv 0) (po_some (pv 2)) (po_some (pe_op op_add (pv 2) (pv 3)))) (pa_cons (pv 2) (pa_nil)))) (pa_nil))))) (pss_nil))
       (pss_one (ps_set (i := 2) nd rfl (by first | exact Or.inl rfl | exact Or.inr rfl) (pe_op op_add (pv 2) (pv 3))))))))
       (pss_cons (ps_expr (pe_bm PySem.F.plainAttrs_list PySem.F.slot_list_append PySem.F.type_list_append mt_append (pv 1) (pa_cons (pe_tup (pa_cons (pe_str) (pa_cons (pe_callB call_len_str (by rfl) T.z_len (by decide +kernel) (pa_cons (pv 0) (pa_nil))) (pa_nil)))) (pa_nil))))
       (pss_one (ps_ret (pv 1))))))
theorem ok_is_whole (T : Txt K mg Cof ad fd) : FnOk P w K mg base CX0 2 (ad 4) (fd 4) ["mark"] (sp_is_whole K Cof) := by
  have G_run_of := ok_run_of (P := P) (w := w) (base := base) T
  have B_run_of := B_run_of T
  obtain ⟨_, hk_FIGURES⟩ := T.u_FIGURES
  have nd := sc_is_whole.nd
  refine T.F_is_whole.ok sc_is_whole (fun vs H Q E h => len_is_whole h) (fun cdv A outer s H vs Q E hr h => ⟨t_is_whole K Cof E, ?_, rd_is_whole h⟩)
  exact pss_one (ps_ret (pe_or (pe_cmpR op_eq (pv 0) (pe_str) (nomark _)) (pe_one (pe_and (pe_cmpR op_ne (pe_slice sl_str (pv 0) (po_none) (po_some (pe_int))) (pe_str) (nomark _)) (pe_one (pe_chain op_eq op_gt (pe_call G_run_of (hr.mono (by decide)) (by rfl) T.g_run_of T.F_run_of.kp B_run_of .nil pass0 (pa_cons (pv 0) (pa_cons (pe_int) (pa_cons ((pe_glob (by rfl) hk_FIGURES ⟨_, rfl⟩)) (pa_nil))))) (pe_callB call_len_str (by rfl) T.z_len (by decide +kernel) (pa_cons (pv 0) (pa_nil))) (pe_int)))))))
theorem ok_Marks___init__ (T : Txt K mg Cof ad fd) : FnOk P w K mg base CX0 3 (ad 5) (fd 5) ["self", "text"] (sp_Marks___init__ K Cof) := by
  have G_marks_of := ok_marks_of (P := P) (w := w) (base := base) T
  have B_marks_of := B_marks_of T
  have nd := sc_Marks___init__.nd
  refine T.F_Marks___init__.ok sc_Marks___init__ (fun vs H Q E h => len_Marks___init__ h) (fun cdv A outer s H vs Q E hr h => ⟨t_Marks___init__ K Cof E, ?_, rd_Marks___init__ T.ex h⟩)
  exact pss_cons (ps_fld (pv 0) (pe_call G_marks_of (hr.mono (by decide)) (by rfl) T.g_marks_of T.F_marks_of.kp B_marks_of .nil pass0 (pa_cons (pv 1) (pa_nil))) rfl)
       (pss_cons (ps_fld (pv 0) (pe_int) rfl)
       (pss_one (ps_fld (pv 0) (pe_int) rfl)))
theorem ok_Marks_mark (T : Txt K mg Cof ad fd) : FnOk P w K mg base CX0 1 (ad 6) (fd 6) ["self"] (sp_Marks_mark K Cof) := by
  have nd := sc_Marks_mark.nd
  refine T.F_Marks_mark.ok sc_Marks_mark (fun vs H Q E h => len_Marks_mark h) (fun cdv A outer s H vs Q E hr h => ⟨t_Marks_mark K Cof E, ?_, rd_Marks_mark T.ex h⟩)
  exact pss_one (ps_ret (pe_ix ix_tup (pe_ix ix_list (pe_fld (pv 0) rfl) (pe_fld (pv 0) rfl) (fun _ _ => rfl)) (pe_int) (fun _ _ => rfl)))
theorem ok_Marks_place (T : Txt K mg Cof ad fd) : FnOk P w K mg base CX0 1 (ad 7) (fd 7) ["self"] (sp_Marks_place K Cof) := by
  have nd := sc_Marks_place.nd
  refine T.F_Marks_place.ok sc_Marks_place (fun vs H Q E h => len_Marks_place h) (fun cdv A outer s H vs Q E hr h => ⟨t_Marks_place K Cof E, ?_, rd_Marks_place T.ex h⟩)
  exact pss_one (ps_ret (pe_ix ix_tup (pe_ix ix_list (pe_fld (pv 0) rfl) (pe_fld (pv 0) rfl) (fun _ _ => rfl)) (pe_int) (fun _ _ => rfl)))
theorem ok_Marks_taken (T : Txt K mg Cof ad fd) : FnOk P w K mg base CX0 2 (ad 8) (fd 8) ["self"] (sp_Marks_taken K Cof) := by
  have G_Marks_mark := ok_Marks_mark (P := P) (w := w) (base := base) T
  have B_Marks_mark := B_Marks_mark T
  have nd := sc_Marks_taken.nd
  refine T.F_Marks_taken.ok sc_Marks_taken (fun vs H Q E h => len_Marks_taken h) (fun cdv A outer s H vs Q E hr h => ⟨t_Marks_taken K Cof E, ?_, rd_Marks_taken T.ex h⟩)
  exact pss_cons (ps_set (i := 1) nd rfl (by first | exact Or.inl rfl | exact Or.inr rfl) (pe_meth0 (pv 0) T.cls_Marks T.meth_Marks_mark G_Marks_mark (hr.mono (by decide)) B_Marks_mark .nil pass0))
       (pss_cons (ps_fld (pv 0) (pe_op op_add (pe_fld (pv 0) rfl) (pe_int)) rfl)
       (pss_one (ps_ret (pv 1))))
theorem ok_Marks_take (T : Txt K mg Cof ad fd) : FnOk P w K mg base (L2.CX P w) 3 (ad 9) (fd 9) ["self", "wanted"] (sp_Marks_take K Cof) := by
  have G_Marks_mark := ok_Marks_mark (P := P) (w := w) (base := base) T
  have B_Marks_mark := B_Marks_mark T
  have G_Marks_place := ok_Marks_place (P := P) (w := w) (base := base) T
  have B_Marks_place := B_Marks_place T
  have G_NoText___init__ := ok_NoText___init__ (P := P) (w := w) (base := base) T
  have B_NoText___init__ := B_NoText___init__ T
  have nd := sc_Marks_take.nd
  refine T.F_Marks_take.okX sc_Marks_take (fun vs H Q E h => len_Marks_take h) (fun cdv A outer s H vs Q E hr h => ⟨t_Marks_take K Cof E, ?_, rd_Marks_take T.ex h⟩)
  exact pss_cons (ps_if (pt_cmpR op_ne (pe_meth0 (pv 0) T.cls_Marks T.meth_Marks_mark G_Marks_mark (hr.mono (by decide)) B_Marks_mark .nil pass0) (pv 1) (nomark _)) (pss_one (ps_rzI (E := E) T.oe_NoText T.in_NoText T.ti_NoText G_NoText___init__ (hr.mono (by decide)) B_NoText___init__ pass0 rfl (takes_of rfl rfl rfl rfl) rfl (by exact rfl) T.q_NoText (pa_cons (pe_meth0 (pv 0) T.cls_Marks T.meth_Marks_place G_Marks_place (hr.mono (by decide)) B_Marks_place .nil pass0) (pa_nil)))) (pss_nil))
       (pss_one (ps_fld (pv 0) (pe_op op_add (pe_fld (pv 0) rfl) (pe_int)) rfl))
theorem ok_Marks_whole (T : Txt K mg Cof ad fd) : FnOk P w K mg base (L2.CX P w) 3 (ad 10) (fd 10) ["self"] (sp_Marks_whole K Cof) := by
  have G_Marks_mark := ok_Marks_mark (P := P) (w := w) (base := base) T
  have B_Marks_mark := B_Marks_mark T
  have G_Marks_place := ok_Marks_place (P := P) (w := w) (base := base) T
  have B_Marks_place := B_Marks_place T
  have G_Marks_taken := ok_Marks_taken (P := P) (w := w) (base := base) T
  have B_Marks_taken := B_Marks_taken T
  have G_NoText___init__ := ok_NoText___init__ (P := P) (w := w) (base := base) T
  have B_NoText___init__ := B_NoText___init__ T
  have G_is_whole := ok_is_whole (P := P) (w := w) (base := base) T
  have B_is_whole := B_is_whole T
  have nd := sc_Marks_whole.nd
  refine T.F_Marks_whole.okX sc_Marks_whole (fun vs H Q E h => len_Marks_whole h) (fun cdv A outer s H vs Q E hr h => ⟨t_Marks_whole K Cof E, ?_, rd_Marks_whole h⟩)
  exact pss_cons (ps_if (pt_not (pt_val (pe_call G_is_whole (hr.mono (by decide)) (by rfl) T.g_is_whole T.F_is_whole.kp B_is_whole .nil pass0 (pa_cons (pe_meth0 (pv 0) T.cls_Marks T.meth_Marks_mark G_Marks_mark (hr.mono (by decide)) B_Marks_mark .nil pass0) (pa_nil))))) (pss_one (ps_rzI (E := E) T.oe_NoText T.in_NoText T.ti_NoText G_NoText___init__ (hr.mono (by decide)) B_NoText___init__ pass0 rfl (takes_of rfl rfl rfl rfl) rfl (by exact rfl) T.q_NoText (pa_cons (pe_meth0 (pv 0) T.cls_Marks T.meth_Marks_place G_Marks_place (hr.mono (by decide)) B_Marks_place .nil pass0) (pa_nil)))) (pss_nil))
       (pss_one (ps_ret (pe_callTy call_intT (by rfl) T.z_int (by decide +kernel) (pa_cons (pe_meth0 (pv 0) T.cls_Marks T.meth_Marks_taken G_Marks_taken (hr.mono (by decide)) B_Marks_taken .nil pass0) (pa_nil)))))
theorem ok_Marks_exponent (T : Txt K mg Cof ad fd) : FnOk P w K mg base (L2.CX P w) 3 (ad 11) (fd 11) ["self"] (sp_Marks_exponent K Cof) := by
  have G_Marks_mark := ok_Marks_mark (P := P) (w := w) (base := base) T
  have B_Marks_mark := B_Marks_mark T
  have G_Marks_place := ok_Marks_place (P := P) (w := w) (base := base) T
  have B_Marks_place := B_Marks_place T
  have G_Marks_taken := ok_Marks_taken (P := P) (w := w) (base := base) T
  have B_Marks_taken := B_Marks_taken T
  have G_NoText___init__ := ok_NoText___init__ (P := P) (w := w) (base := base) T
  have B_NoText___init__ := B_NoText___init__ T
  have nd := sc_Marks_exponent.nd
  refine T.F_Marks_exponent.okX sc_Marks_exponent (fun vs H Q E h => len_Marks_exponent h) (fun cdv A outer s H vs Q E hr h => ⟨t_Marks_exponent K Cof E, ?_, rd_Marks_exponent h⟩)
  exact pss_cons (ps_if (PW.pt (pw_or (pt_cmpR op_ne (pe_callB call_len_str (by rfl) T.z_len (by decide +kernel) (pa_cons (pe_meth0 (pv 0) T.cls_Marks T.meth_Marks_mark G_Marks_mark (hr.mono (by decide)) B_Marks_mark .nil pass0) (pa_nil))) (pe_int) (nomark _)) (pw_or1 (pt_cmpR op_notInT (pe_meth0 (pv 0) T.cls_Marks T.meth_Marks_mark G_Marks_mark (hr.mono (by decide)) B_Marks_mark .nil pass0) (pe_str) (by rfl))))) (pss_one (ps_rzI (E := E) T.oe_NoText T.in_NoText T.ti_NoText G_NoText___init__ (hr.mono (by decide)) B_NoText___init__ pass0 rfl (takes_of rfl rfl rfl rfl) rfl (by exact rfl) T.q_NoText (pa_cons (pe_meth0 (pv 0) T.cls_Marks T.meth_Marks_place G_Marks_place (hr.mono (by decide)) B_Marks_place .nil pass0) (pa_nil)))) (pss_nil))
       (pss_one (ps_ret (pe_callTy call_intT (by rfl) T.z_int (by decide +kernel) (pa_cons (pe_meth0 (pv 0) T.cls_Marks T.meth_Marks_taken G_Marks_taken (hr.mono (by decide)) B_Marks_taken .nil pass0) (pa_nil)))))
theorem ok_Marks_last (T : Txt K mg Cof ad fd) : FnOk P w K mg base (L2.CX P w) 3 (ad 12) (fd 12) ["self"] (sp_Marks_last K Cof) := by
  have G_Marks_mark := ok_Marks_mark (P := P) (w := w) (base := base) T
  have B_Marks_mark := B_Marks_mark T
  have G_Marks_place := ok_Marks_place (P := P) (w := w) (base := base) T
  have B_Marks_place := B_Marks_place T
  have G_NoText___init__ := ok_NoText___init__ (P := P) (w := w) (base := base) T
  have B_NoText___init__ := B_NoText___init__ T
  have nd := sc_Marks_last.nd
  refine T.F_Marks_last.okX sc_Marks_last (fun vs H Q E h => len_Marks_last h) (fun cdv A outer s H vs Q E hr h => ⟨t_Marks_last K Cof E, ?_, rd_Marks_last h⟩)
  exact pss_one (ps_if (pt_cmpR op_ne (pe_meth0 (pv 0) T.cls_Marks T.meth_Marks_mark G_Marks_mark (hr.mono (by decide)) B_Marks_mark .nil pass0) (pe_str) (nomark _)) (pss_one (ps_rzI (E := E) T.oe_NoText T.in_NoText T.ti_NoText G_NoText___init__ (hr.mono (by decide)) B_NoText___init__ pass0 rfl (takes_of rfl rfl rfl rfl) rfl (by exact rfl) T.q_NoText (pa_cons (pe_meth0 (pv 0) T.cls_Marks T.meth_Marks_place G_Marks_place (hr.mono (by decide)) B_Marks_place .nil pass0) (pa_nil)))) (pss_nil))
theorem ok_add_term (T : Txt K mg Cof ad fd) : FnOk P w K mg base (L2.CX P w) 4 (ad 13) (fd 13) ["marks", "row", "sign"] (sp_add_term K Cof) := by
  have G_Marks_exponent := ok_Marks_exponent (P := P) (w := w) (base := base) T
  have B_Marks_exponent := B_Marks_exponent T
  have G_Marks_mark := ok_Marks_mark (P := P) (w := w) (base := base) T
  have B_Marks_mark := B_Marks_mark T
  have G_Marks_take := ok_Marks_take (P := P) (w := w) (base := base) T
  have B_Marks_take := B_Marks_take T
  have G_Marks_whole := ok_Marks_whole (P := P) (w := w) (base := base) T
  have B_Marks_whole := B_Marks_whole T
  have nd := sc_add_term.nd
  refine T.F_add_term.okX sc_add_term (fun vs H Q E h => len_add_term h) (fun cdv A outer s H vs Q E hr h => ⟨t_add_term K Cof E, ?_, rd_add_term h⟩)
  exact pss_cons (ps_set (i := 3) nd rfl (by first | exact Or.inl rfl | exact Or.inr rfl) (pv 2))
       (pss_cut (ps_if (pt_cmpR op_ne (pe_meth0 (pv 0) T.cls_Marks T.meth_Marks_mark G_Marks_mark (hr.mono (by decide)) B_Marks_mark .nil pass0) (pe_str) (nomark _)) (pss_cons (ps_set (i := 3) nd rfl (by first | exact Or.inl rfl | exact Or.inr rfl) (pe_op op_mulX (pv 2) (pe_meth0 (pv 0) T.cls_Marks T.meth_Marks_whole G_Marks_whole (hr.mono (by decide)) B_Marks_whole .nil (passes_call (takes_of rfl rfl rfl rfl) (fun _ _ _ _ h => h)))))
       (pss_cons (ps_if (pt_cmpR op_ne (pe_meth0 (pv 0) T.cls_Marks T.meth_Marks_mark G_Marks_mark (hr.mono (by decide)) B_Marks_mark .nil pass0) (pe_str) (nomark _)) (pss_cons (ps_asg (pe_op op_add (pe_ix ix_list (pv 1) (pe_int) (fun _ _ => rfl)) (pv 3)) (pg_sub (pv 1) (pe_int) set_list))
       (pss_one (ps_retN))) (pss_nil))
       (pss_one (ps_expr (pe_meth (pv 0) T.cls_Marks T.meth_Marks_take G_Marks_take (hr.mono (by decide)) B_Marks_take .nil (passes_call (takes_of rfl rfl rfl rfl) (fun _ _ _ _ h => h)) (pa_cons (pe_str) (pa_nil))))))) (pss_nil))
       (pss_cons (ps_expr (pe_meth (pv 0) T.cls_Marks T.meth_Marks_take G_Marks_take (hr.mono (by decide)) B_Marks_take .nil (passes_call (takes_of rfl rfl rfl rfl) (fun _ _ _ _ h => h)) (pa_cons (pe_str) (pa_nil))))
       (pss_cons (ps_set (i := 4) nd rfl (by first | exact Or.inl rfl | exact Or.inr rfl) (pe_int))
       (pss_cut (ps_if (pt_cmpR op_eq (pe_meth0 (pv 0) T.cls_Marks T.meth_Marks_mark G_Marks_mark (hr.mono (by decide)) B_Marks_mark .nil pass0) (pe_str) (nomark _)) (pss_cons (ps_expr (pe_meth (pv 0) T.cls_Marks T.meth_Marks_take G_Marks_take (hr.mono (by decide)) B_Marks_take .nil (passes_call (takes_of rfl rfl rfl rfl) (fun _ _ _ _ h => h)) (pa_cons (pe_str) (pa_nil))))
       (pss_one (ps_set (i := 4) nd rfl (by first | exact Or.inl rfl | exact Or.inr rfl) (pe_meth0 (pv 0) T.cls_Marks T.meth_Marks_exponent G_Marks_exponent (hr.mono (by decide)) B_Marks_exponent .nil (passes_call (takes_of rfl rfl rfl rfl) (fun _ _ _ _ h => h)))))) (pss_nil))
       (pss_one (ps_asg (pe_op op_add (pe_ix ix_list (pv 1) (pv 4) (fun _ _ => rfl)) (pv 3)) (pg_sub (pv 1) (pv 4) set_list)))))))
theorem ok_poly_of (T : Txt K mg Cof ad fd) : FnOk P w K mg base (L2.CX P w) 5 (ad 14) (fd 14) ["marks"] (sp_poly_of K Cof) := by
  have G_Marks_mark := ok_Marks_mark (P := P) (w := w) (base := base) T
  have B_Marks_mark := B_Marks_mark T
  have G_Marks_take := ok_Marks_take (P := P) (w := w) (base := base) T
  have B_Marks_take := B_Marks_take T
  have G_Marks_taken := ok_Marks_taken (P := P) (w := w) (base := base) T
  have B_Marks_taken := B_Marks_taken T
  have G_add_term := ok_add_term (P := P) (w := w) (base := base) T
  have B_add_term := B_add_term T
  have G_poly := ok_poly (P := P) (w := w) (base := base) T
  have B_poly := B_poly T
  have nd := sc_poly_of.nd
  refine T.F_poly_of.okX sc_poly_of (fun vs H Q E h => len_poly_of h) (fun cdv A outer s H vs Q E hr h => ⟨t_poly_of K Cof E, ?_, rd_poly_of h⟩)
  exact pss_cons (ps_set (i := 1) nd rfl (by first | exact Or.inl rfl | exact Or.inr rfl) (pe_op op_rep (pe_lst (pa_cons (pe_int) (pa_nil))) (pe_int)))
       (pss_cons (ps_set (i := 2) nd rfl (by first | exact Or.inl rfl | exact Or.inr rfl) (pe_int))
       (pss_cut (ps_if (pt_cmpR op_eq (pe_meth0 (pv 0) T.cls_Marks T.meth_Marks_mark G_Marks_mark (hr.mono (by decide)) B_Marks_mark .nil pass0) (pe_str) (nomark _)) (pss_cons (ps_expr (pe_meth (pv 0) T.cls_Marks T.meth_Marks_take G_Marks_take (hr.mono (by decide)) B_Marks_take .nil (passes_call (takes_of rfl rfl rfl rfl) (fun _ _ _ _ h => h)) (pa_cons (pe_str) (pa_nil))))
       (pss_one (ps_set (i := 2) nd rfl (by first | exact Or.inl rfl | exact Or.inr rfl) (pe_un un_neg (pe_int))))) (pss_nil))
       (pss_cons (ps_expr (pe_call G_add_term (hr.mono (by decide)) (by rfl) T.g_add_term T.F_add_term.kp B_add_term .nil (passes_call (takes_of rfl rfl rfl rfl) (fun _ _ _ _ h => h)) (pa_cons (pv 0) (pa_cons (pv 1) (pa_cons (pv 2) (pa_nil))))))
       (pss_cons (ps_while (passes_of rfl) (pt_cmpR op_in_seq (pe_meth0 (pv 0) T.cls_Marks T.meth_Marks_mark G_Marks_mark (hr.mono (by decide)) B_Marks_mark .nil pass0) (pe_tup (pa_cons (pe_str) (pa_cons (pe_str) (pa_nil)))) (by rfl)) (pss_cons (ps_set (i := 2) nd rfl (by first | exact Or.inl rfl | exact Or.inr rfl) (pe_ifExp (pt_cmpR op_eq (pe_meth0 (pv 0) T.cls_Marks T.meth_Marks_taken G_Marks_taken (hr.mono (by decide)) B_Marks_taken .nil pass0) (pe_str) (nomark _)) (pe_int) (pe_un un_neg (pe_int))))
       (pss_one (ps_expr (pe_call G_add_term (hr.mono (by decide)) (by rfl) T.g_add_term T.F_add_term.kp B_add_term .nil (passes_call (takes_of rfl rfl rfl rfl) (fun _ _ _ _ h => h)) (pa_cons (pv 0) (pa_cons (pv 1) (pa_cons (pv 2) (pa_nil)))))))))
       (pss_one (ps_ret (pe_call G_poly (hr.mono (by decide)) (by rfl) T.g_poly T.F_poly.kp B_poly .nil pass0 (pa_cons (pv 1) (pa_nil)))))))))
theorem ok_read_poly (T : Txt K mg Cof ad fd) : FnOk P w K mg base (L2.CX P w) 6 (ad 15) (fd 15) ["text"] (sp_read_poly K Cof) := by
  have G_Marks___init__ := ok_Marks___init__ (P := P) (w := w) (base := base) T
  have B_Marks___init__ := B_Marks___init__ T
  have G_Marks_last := ok_Marks_last (P := P) (w := w) (base := base) T
  have B_Marks_last := B_Marks_last T
  have G_poly_of := ok_poly_of (P := P) (w := w) (base := base) T
  have B_poly_of := B_poly_of T
  have nd := sc_read_poly.nd
  refine T.F_read_poly.okX sc_read_poly (fun vs H Q E h => len_read_poly h) (fun cdv A outer s H vs Q E hr h => ⟨t_read_poly K Cof E, ?_, rd_read_poly h⟩)
  exact pss_cons (ps_set (i := 1) nd rfl (by first | exact Or.inl rfl | exact Or.inr rfl) (pe_make T.mk_Marks G_Marks___init__ (hr.mono (by decide)) (by rfl) T.q_Marks B_Marks___init__ .nil pass0 (pa_cons (pv 0) (pa_nil))))
       (pss_cons (ps_set (i := 2) nd rfl (by first | exact Or.inl rfl | exact Or.inr rfl) (pe_call G_poly_of (hr.mono (by decide)) (by rfl) T.g_poly_of T.F_poly_of.kp B_poly_of .nil (passes_call (takes_of rfl rfl rfl rfl) (fun _ _ _ _ h => h)) (pa_cons (pv 1) (pa_nil))))
       (pss_cons (ps_expr (pe_meth0 (pv 1) T.cls_Marks T.meth_Marks_last G_Marks_last (hr.mono (by decide)) B_Marks_last .nil (passes_call (takes_of rfl rfl rfl rfl) (fun _ _ _ _ h => h))))
       (pss_one (ps_ret (pv 2)))))
theorem ok__law_cell (T : Txt K mg Cof ad fd) : FnOk P w K mg base CX0 1 (ad 16) (fd 16) ["_law_script", "_law_k"] (sp__law_cell K Cof) := by
  have nd := sc__law_cell.nd
  refine T.F__law_cell.ok sc__law_cell (fun vs H Q E h => len__law_cell h) (fun cdv A outer s H vs Q E hr h => ⟨t__law_cell K Cof E, ?_, rd__law_cell h⟩)
  exact pss_cons (ps_if (pt_cmpR op_lt (pv 1) (pe_callB call_len_seq (by rfl) T.z_len (by decide +kernel) (pa_cons (pv 0) (pa_nil))) (nomark _)) (pss_one (ps_ret (pe_ix ix_list (pv 0) (pv 1) (fun _ _ => rfl)))) (pss_nil))
       (pss_one (ps_ret (pe_int)))
theorem ok__law_whole (T : Txt K mg Cof ad fd) : FnOk P w K mg base CX0 1 (ad 17) (fd 17) ["_law_found"] (sp__law_whole K Cof) := by
  have nd := sc__law_whole.nd
  refine T.F__law_whole.ok sc__law_whole (fun vs H Q E h => len__law_whole h) (fun cdv A outer s H vs Q E hr h => ⟨t__law_whole K Cof E, ?_, rd__law_whole h⟩)
  exact pss_one (ps_ret (pe_and (pe_callB call_isi (by rfl) T.z_isinstance (by decide +kernel) (pa_cons (pv 0) (pa_cons (pe_bltn (v := .ty "int") (by rfl) T.z_int (by decide +kernel) rfl) (pa_nil)))) (pe_one (pe_not (pe_callB call_isi (by rfl) T.z_isinstance (by decide +kernel) (pa_cons (pv 0) (pa_cons (pe_bltn (v := .ty "bool") (by rfl) T.z_bool (by decide +kernel) rfl) (pa_nil))))))))
theorem ok__law_kind (T : Txt K mg Cof ad fd) : FnOk P w K mg base CX0 1 (ad 18) (fd 18) ["_law_mark_here"] (sp__law_kind K Cof) := by
  have nd := sc__law_kind.nd
  refine T.F__law_kind.ok sc__law_kind (fun vs H Q E h => len__law_kind h) (fun cdv A outer s H vs Q E hr h => ⟨t__law_kind K Cof E, ?_, rd__law_kind h⟩)
  exact pss_cons (ps_if (pt_cmpR op_in_seq (pv 0) (pe_tup (pa_cons (pe_str) (pa_cons (pe_str) (pa_cons (pe_str) (pa_cons (pe_str) (pa_cons (pe_str) (pa_cons (pe_str) (pa_cons (pe_str) (pa_cons (pe_str) (pa_cons (pe_str) (pa_cons (pe_str) (pa_cons (pe_str) (pa_cons (pe_str) (pa_cons (pe_str) (pa_nil))))))))))))))) (by rfl)) (pss_one (ps_ret (pv 0))) (pss_nil))
       (pss_cons (ps_if (pt_cmpR op_inT (pe_ix ix_str (pv 0) (pe_int) (fun _ _ => rfl)) (pe_str) (by rfl)) (pss_one (ps_ret (pe_ix ix_list (pe_lst (pa_cons (pe_str) (pa_cons (pe_str) (pa_nil)))) (pe_callTy call_int1 (by rfl) T.z_int (by decide +kernel) (pa_cons (pe_and (pe_cmpR op_eq (pe_ix ix_str (pv 0) (pe_int) (fun _ _ => rfl)) (pe_str) (nomark _)) (pe_one (pe_cmpR op_ne (pv 0) (pe_str) (nomark _)))) (pa_nil))) (fun _ _ => rfl)))) (pss_nil))
       (pss_cons (ps_if (PW.pt (pw_and (pt_cmpR op_inT (pe_ix ix_str (pv 0) (pe_int) (fun _ _ => rfl)) (pe_str) (by rfl)) (pw_and1 (pt_cmpR op_lt (pe_callB call_len_str (by rfl) T.z_len (by decide +kernel) (pa_cons (pv 0) (pa_nil))) (pe_int) (nomark _))))) (pss_one (ps_ret (pe_str))) (pss_nil))
       (pss_one (ps_ret (pe_str)))))
theorem ok__law_small (T : Txt K mg Cof ad fd) : FnOk P w K mg base CX0 1 (ad 19) (fd 19) ["_law_mark_here"] (sp__law_small K Cof) := by
  have nd := sc__law_small.nd
  refine T.F__law_small.ok sc__law_small (fun vs H Q E h => len__law_small h) (fun cdv A outer s H vs Q E hr h => ⟨t__law_small K Cof E, ?_, rd__law_small h⟩)
  exact pss_one (ps_ret (pe_and (pe_cmpR op_eq (pe_callB call_len_str (by rfl) T.z_len (by decide +kernel) (pa_cons (pv 0) (pa_nil))) (pe_int) (nomark _)) (pe_one (pe_cmpR op_inT (pv 0) (pe_str) (by rfl)))))
theorem ok__law_next_in_poly (T : Txt K mg Cof ad fd) : FnOk P w K mg base CX0 2 (ad 20) (fd 20) ["_law_state", "_law_mark_here"] (sp__law_next_in_poly K Cof) := by
  have G__law_kind := ok__law_kind (P := P) (w := w) (base := base) T
  have B__law_kind := B__law_kind T
  have G__law_small := ok__law_small (P := P) (w := w) (base := base) T
  have B__law_small := B__law_small T
  have nd := sc__law_next_in_poly.nd
  refine T.F__law_next_in_poly.ok sc__law_next_in_poly (fun vs H Q E h => len__law_next_in_poly h) (fun cdv A outer s H vs Q E hr h => ⟨t__law_next_in_poly K Cof E, ?_, rd__law_next_in_poly h⟩)
  exact pss_cons (ps_set (i := 2) nd rfl (by first | exact Or.inl rfl | exact Or.inr rfl) (pe_call G__law_kind (hr.mono (by decide)) (by rfl) T.g__law_kind T.F__law_kind.kp B__law_kind .nil pass0 (pa_cons (pv 1) (pa_nil))))
       (pss_cons (ps_if (pt_cmpR op_in_seq (pv 0) (pe_tup (pa_cons (pe_str) (pa_cons (pe_str) (pa_nil)))) (by rfl)) (pss_cons (ps_if (pt_cmpR op_eq (pv 2) (pe_str) (nomark _)) (pss_one (ps_ret (pe_str))) (pss_nil))
       (pss_cons (ps_if (pt_cmpR op_eq (pv 2) (pe_str) (nomark _)) (pss_one (ps_ret (pe_str))) (pss_nil))
       (pss_one (ps_ret (pe_ix ix_list (pe_lst (pa_cons (pe_str) (pa_cons (pe_str) (pa_nil)))) (pe_callTy call_int1 (by rfl) T.z_int (by decide +kernel) (pa_cons (pe_and (pe_cmpR op_eq (pv 2) (pe_str) (nomark _)) (pe_one (pe_cmpR op_eq (pv 0) (pe_str) (nomark _)))) (pa_nil))) (fun _ _ => rfl)))))) (pss_nil))
       (pss_cons (ps_if (pt_cmpR op_eq (pv 0) (pe_str) (nomark _)) (pss_one (ps_ret (pe_ix ix_list (pe_lst (pa_cons (pe_str) (pa_cons (pe_str) (pa_nil)))) (pe_callTy call_int1 (by rfl) T.z_int (by decide +kernel) (pa_cons (pe_cmpR op_eq (pv 2) (pe_str) (nomark _)) (pa_nil))) (fun _ _ => rfl)))) (pss_nil))
       (pss_cons (ps_if (pt_cmpR op_eq (pv 0) (pe_str) (nomark _)) (pss_one (ps_ret (pe_ix ix_list (pe_lst (pa_cons (pe_str) (pa_cons (pe_str) (pa_nil)))) (pe_callTy call_int1 (by rfl) T.z_int (by decide +kernel) (pa_cons (pe_call G__law_small (hr.mono (by decide)) (by rfl) T.g__law_small T.F__law_small.kp B__law_small .nil pass0 (pa_cons (pv 1) (pa_nil))) (pa_nil))) (fun _ _ => rfl)))) (pss_nil))
       (pss_cons (ps_if (PW.pt (pw_and (pt_cmpR op_eq (pv 2) (pe_str) (nomark _)) (pw_and1 (pt_cmpR op_eq (pv 0) (pe_str) (nomark _))))) (pss_one (ps_ret (pe_str))) (pss_nil))
       (pss_cons (ps_if (PW.pt (pw_and (pt_cmpR op_eq (pv 2) (pe_str) (nomark _)) (pw_and1 (pt_cmpR op_eq (pv 0) (pe_str) (nomark _))))) (pss_one (ps_ret (pe_str))) (pss_nil))
       (pss_cons (ps_if (pt_cmpR op_in_seq (pv 2) (pe_tup (pa_cons (pe_str) (pa_cons (pe_str) (pa_nil)))) (by rfl)) (pss_one (ps_ret (pe_str))) (pss_nil))
       (pss_one (ps_ret (pe_ix ix_list (pe_lst (pa_cons (pe_str) (pa_cons (pe_str) (pa_nil)))) (pe_callTy call_int1 (by rfl) T.z_int (by decide +kernel) (pa_cons (pe_cmpR op_eq (pv 2) (pe_str) (nomark _)) (pa_nil))) (fun _ _ => rfl))))))))))
theorem ok__law_wild (T : Txt K mg Cof ad fd) : FnOk P w K mg base CX0 1 (ad 21) (fd 21) ["_law_cell_here"] (sp__law_wild K Cof) := by
  have nd := sc__law_wild.nd
  refine T.F__law_wild.ok sc__law_wild (fun vs H Q E h => len__law_wild h) (fun cdv A outer s H vs Q E hr h => ⟨t__law_wild K Cof E, ?_, rd__law_wild h⟩)
  exact pss_cons (ps_set (i := 1) nd rfl (by first | exact Or.inl rfl | exact Or.inr rfl) (pe_lst (pa_cons (pe_str) (pa_cons (pe_str) (pa_cons (pe_str) (pa_cons (pe_str) (pa_cons (pe_str) (pa_cons (pe_str) (pa_cons (pe_str) (pa_cons (pe_str) (pa_cons (pe_str) (pa_cons (pe_str) (pa_cons (pe_str) (pa_cons (pe_str) (pa_cons (pe_str) (pa_cons (pe_str) (pa_cons (pe_str) (pa_cons (pe_str) (pa_cons (pe_str) (pa_nil))))))))))))))))))))
       (pss_cons (ps_set (i := 1) nd rfl (by first | exact Or.inl rfl | exact Or.inr rfl) (pe_op op_cat (pv 1) (pe_lst (pa_cons (pe_str) (pa_cons (pe_str) (pa_cons (pe_str) (pa_cons (pe_str) (pa_cons (pe_str) (pa_cons (pe_str) (pa_cons (pe_str) (pa_cons (pe_str) (pa_cons (pe_str) (pa_cons (pe_str) (pa_cons (pe_str) (pa_cons (pe_str) (pa_cons (pe_str) (pa_nil)))))))))))))))))
       (pss_one (ps_ret (pe_ix ix_list (pv 1) (pe_op op_modN (pv 0) (pe_int)) (fun _ _ => rfl)))))
theorem ok__law_glued (T : Txt K mg Cof ad fd) : FnOk P w K mg base CX0 1 (ad 22) (fd 22) ["_law_text", "_law_mark_here"] (sp__law_glued K Cof) := by
  have nd := sc__law_glued.nd
  refine T.F__law_glued.ok sc__law_glued (fun vs H Q E h => len__law_glued h) (fun cdv A outer s H vs Q E hr h => ⟨t__law_glued K Cof E, ?_, rd__law_glued h⟩)
  exact pss_cons (ps_if (pt_cmpR op_eq (pv 0) (pe_str) (nomark _)) (pss_one (ps_ret (pe_bl))) (pss_nil))
       (pss_cons (ps_for PassesOwn.never rfl (pi_tup (pe_tup (pa_cons (pe_str) (pa_cons (pe_str) (pa_cons (pe_str) (pa_nil)))))) (pg_name (i := 2) nd rfl (by first | exact Or.inl rfl | exact Or.inr rfl)) (pss_one (ps_if (PW.pt (pw_and (pt_cmpR op_inT (pe_ix ix_str (pv 0) (pe_un un_neg (pe_int)) (fun _ _ => rfl)) (pv 2) (by rfl)) (pw_and1 (pt_cmpR op_inT (pe_ix ix_str (pv 1) (pe_int) (fun _ _ => rfl)) (pv 2) (by rfl))))) (pss_one (ps_ret (pe_bl))) (pss_nil))))
       (pss_one (ps_ret (pe_bl))))
theorem ok__law_trim (T : Txt K mg Cof ad fd) : FnOk P w K mg base CX0 1 (ad 23) (fd 23) ["_law_row_here"] (sp__law_trim K Cof) := by
  have nd := sc__law_trim.nd
  refine T.F__law_trim.ok sc__law_trim (fun vs H Q E h => len__law_trim h) (fun cdv A outer s H vs Q E hr h => ⟨t__law_trim K Cof E, ?_, rd__law_trim h⟩)
  exact pss_cons (ps_set (i := 1) nd rfl (by first | exact Or.inl rfl | exact Or.inr rfl) (pe_callB call_len_seq (by rfl) T.z_len (by decide +kernel) (pa_cons (pv 0) (pa_nil))))
       (pss_cons (ps_while PassesOwn.never (PW.pt (pw_and (pt_cmpR op_gt (pv 1) (pe_int) (nomark _)) (pw_and1 (pt_cmpR op_eq (pe_ix ix_list (pv 0) (pe_op op_sub (pv 1) (pe_int)) (fun _ _ => rfl)) (pe_int) (nomark _))))) (pss_one (ps_set (i := 1) nd rfl (by first | exact Or.inl rfl | exact Or.inr rfl) (pe_op op_sub (pv 1) (pe_int)))))
       (pss_one (ps_ret (pe_slice sl_list (pv 0) (po_none) (po_some (pv 1))))))
theorem ok__law_row (T : Txt K mg Cof ad fd) : FnOk P w K mg base CX0 2 (ad 24) (fd 24) ["_law_found", "_law_due"] (sp__law_row K Cof) := by
  have G__law_whole := ok__law_whole (P := P) (w := w) (base := base) T
  have B__law_whole := B__law_whole T
  have nd := sc__law_row.nd
  refine T.F__law_row.ok sc__law_row (fun vs H Q E h => len__law_row h) (fun cdv A outer s H vs Q E hr h => ⟨t__law_row K Cof E, ?_, rd__law_row h⟩)
  exact pss_cons (ps_if (PW.pt (pw_or (pt_not (pt_val (pe_callB call_isi (by rfl) T.z_isinstance (by decide +kernel) (pa_cons (pv 0) (pa_cons (pe_bltn (v := .ty "list") (by rfl) T.z_list (by decide +kernel) rfl) (pa_nil)))))) (pw_or1 (pt_cmpR op_ne (pe_callB call_len_seq (by rfl) T.z_len (by decide +kernel) (pa_cons (pv 0) (pa_nil))) (pe_callB call_len_seq (by rfl) T.z_len (by decide +kernel) (pa_cons (pv 1) (pa_nil))) (nomark _))))) (pss_one (ps_ret (pe_bl))) (pss_nil))
       (pss_cons (ps_for PassesOwn.never rfl (pi_range1 (by rfl) T.z_range (pa_cons (pe_callB call_len_seq (by rfl) T.z_len (by decide +kernel) (pa_cons (pv 1) (pa_nil))) (pa_nil))) (pg_name (i := 2) nd rfl (by first | exact Or.inl rfl | exact Or.inr rfl)) (pss_one (ps_if (PW.pt (pw_or (pt_not (pt_val (pe_call G__law_whole (hr.mono (by decide)) (by rfl) T.g__law_whole T.F__law_whole.kp B__law_whole .nil pass0 (pa_cons (pe_ix ix_list (pv 0) (pv 2) (fun _ _ => rfl)) (pa_nil))))) (pw_or1 (pt_cmpR op_ne (pe_ix ix_list (pv 0) (pv 2) (fun _ _ => rfl)) (pe_ix ix_list (pv 1) (pv 2) (fun _ _ => rfl)) (nomark _))))) (pss_one (ps_ret (pe_bl))) (pss_nil))))
       (pss_one (ps_ret (pe_bl))))
theorem ok__law_put (T : Txt K mg Cof ad fd) : FnOk P w K mg base CX0 3 (ad 25) (fd 25) ["_law_at", "_law_mark_here", "_law_gap"] (sp__law_put K Cof) := by
  have G__law_glued := ok__law_glued (P := P) (w := w) (base := base) T
  have B__law_glued := B__law_glued T
  have G__law_next_in_poly := ok__law_next_in_poly (P := P) (w := w) (base := base) T
  have B__law_next_in_poly := B__law_next_in_poly T
  have nd := sc__law_put.nd
  refine T.F__law_put.ok sc__law_put (fun vs H Q E h => len__law_put h) (fun cdv A outer s H vs Q E hr h => ⟨t__law_put K Cof E, ?_, rd__law_put h⟩)
  exact pss_cut (ps_if (pt_val (pe_call G__law_glued (hr.mono (by decide)) (by rfl) T.g__law_glued T.F__law_glued.kp B__law_glued .nil pass0 (pa_cons (pe_ix ix_list (pv 0) (pe_int) (fun _ _ => rfl)) (pa_cons (pv 1) (pa_nil))))) (pss_one (ps_set (i := 2) nd rfl (by first | exact Or.inl rfl | exact Or.inr rfl) (pe_int))) (pss_nil))
       (pss_cons (ps_asg (pe_op op_add_str (pe_ix ix_list (pv 0) (pe_int) (fun _ _ => rfl)) (pe_op op_repS (pe_str) (pv 2))) (pg_sub (pv 0) (pe_int) set_list))
       (pss_cut (ps_if (pt_cmpR op_lt (pe_ix ix_list (pv 0) (pe_int) (fun _ _ => rfl)) (pe_int) (nomark _)) (pss_cons (ps_set (i := 3) nd rfl (by first | exact Or.inl rfl | exact Or.inr rfl) (pe_call G__law_next_in_poly (hr.mono (by decide)) (by rfl) T.g__law_next_in_poly T.F__law_next_in_poly.kp B__law_next_in_poly .nil pass0 (pa_cons (pe_ix ix_list (pv 0) (pe_int) (fun _ _ => rfl)) (pa_cons (pv 1) (pa_nil)))))
       (pss_one (ps_if (PW.pt (pw_or (pt_cmpR op_eq (pv 3) (pe_str) (nomark _)) (pw_or1 (pt_cmpR op_eq (pv 3) (pe_str) (nomark _))))) (pss_one (ps_asg (pe_callB call_len_str (by rfl) T.z_len (by decide +kernel) (pa_cons (pe_ix ix_list (pv 0) (pe_int) (fun _ _ => rfl)) (pa_nil))) (pg_sub (pv 0) (pe_int) set_list))) (pss_cons (ps_asg (pv 3) (pg_sub (pv 0) (pe_int) set_list))
       (pss_one (ps_expr (pe_bm PySem.F.plainAttrs_list PySem.F.slot_list_append PySem.F.type_list_append mt_append (pe_ix ix_list (pv 0) (pe_int) (fun _ _ => rfl)) (pa_cons (pv 1) (pa_nil))))))))) (pss_nil))
       (pss_one (ps_asg (pe_op op_add_str (pe_ix ix_list (pv 0) (pe_int) (fun _ _ => rfl)) (pv 1)) (pg_sub (pv 0) (pe_int) set_list)))))
theorem ok__law_added_up (T : Txt K mg Cof ad fd) : FnOk P w K mg base CX0 2 (ad 26) (fd 26) ["_law_marks"] (sp__law_added_up K Cof) := by
  have G__law_trim := ok__law_trim (P := P) (w := w) (base := base) T
  have B__law_trim := B__law_trim T
  have nd := sc__law_added_up.nd
  refine T.F__law_added_up.ok sc__law_added_up (fun vs H Q E h => len__law_added_up h) (fun cdv A outer s H vs Q E hr h => ⟨t__law_added_up K Cof E, ?_, rd__law_added_up h⟩)
  exact pss_cons (ps_set (i := 1) nd rfl (by first | exact Or.inl rfl | exact Or.inr rfl) (pe_op op_rep (pe_lst (pa_cons (pe_int) (pa_nil))) (pe_int)))
       (pss_cons (ps_set (i := 2) nd rfl (by first | exact Or.inl rfl | exact Or.inr rfl) (pe_int))
       (pss_cons (ps_set (i := 3) nd rfl (by first | exact Or.inl rfl | exact Or.inr rfl) (pe_int))
       (pss_cons (ps_set (i := 4) nd rfl (by first | exact Or.inl rfl | exact Or.inr rfl) (pe_int))
       (pss_cons (ps_for PassesOwn.never rfl (pi_range1 (by rfl) T.z_range (pa_cons (pe_callB call_len_seq (by rfl) T.z_len (by decide +kernel) (pa_cons (pv 0) (pa_nil))) (pa_nil))) (pg_name (i := 5) nd rfl (by first | exact Or.inl rfl | exact Or.inr rfl)) (pss_cons (ps_set (i := 6) nd rfl (by first | exact Or.inl rfl | exact Or.inr rfl) (pe_ix ix_list (pv 0) (pv 5) (fun _ _ => rfl)))
       (pss_one (ps_if (PW.pt (pw_or (pt_cmpR op_eq (pv 6) (pe_str) (nomark _)) (pw_or1 (pt_cmpR op_eq (pv 6) (pe_str) (nomark _))))) (pss_cons (ps_asg (pe_op op_add (pe_ix ix_list (pv 1) (pv 4) (fun _ _ => rfl)) (pe_op op_mulX (pv 2) (pv 3))) (pg_sub (pv 1) (pv 4) set_list))
       (pss_cons (ps_set (i := 2) nd rfl (by first | exact Or.inl rfl | exact Or.inr rfl) (pe_ix ix_list (pe_lst (pa_cons (pe_int) (pa_cons (pe_un un_neg (pe_int)) (pa_nil)))) (pe_callTy call_int1 (by rfl) T.z_int (by decide +kernel) (pa_cons (pe_cmpR op_eq (pv 6) (pe_str) (nomark _)) (pa_nil))) (fun _ _ => rfl)))
       (pss_cons (ps_set (i := 3) nd rfl (by first | exact Or.inl rfl | exact Or.inr rfl) (pe_int))
       (pss_one (ps_set (i := 4) nd rfl (by first | exact Or.inl rfl | exact Or.inr rfl) (pe_int)))))) (pss_one (ps_if (pt_cmpR op_eq (pv 6) (pe_str) (nomark _)) (pss_cons (ps_set (i := 4) nd rfl (by first | exact Or.inl rfl | exact Or.inr rfl) (pe_int))
       (pss_one (ps_if (PW.pt (pw_or (pt_cmpR op_eq (pv 5) (pe_int) (nomark _)) (pw_or1 (pt_cmpR op_ne (pe_ix ix_list (pv 0) (pe_op op_sub (pv 5) (pe_int)) (fun _ _ => rfl)) (pe_str) (nomark _))))) (pss_one (ps_set (i := 3) nd rfl (by first | exact Or.inl rfl | exact Or.inr rfl) (pe_int))) (pss_nil)))) (pss_one (ps_if (PW.pt (pw_and (pt_cmpR op_notIn_seq (pv 6) (pe_tup (pa_cons (pe_str) (pa_cons (pe_str) (pa_nil)))) (by rfl)) (pw_and (pt_cmpR op_gt (pv 5) (pe_int) (nomark _)) (pw_and1 (pt_cmpR op_eq (pe_ix ix_list (pv 0) (pe_op op_sub (pv 5) (pe_int)) (fun _ _ => rfl)) (pe_str) (nomark _)))))) (pss_one (ps_set (i := 4) nd rfl (by first | exact Or.inl rfl | exact Or.inr rfl) (pe_callTy call_intT (by rfl) T.z_int (by decide +kernel) (pa_cons (pv 6) (pa_nil))))) (pss_one (ps_if (pt_cmpR op_notIn_seq (pv 6) (pe_tup (pa_cons (pe_str) (pa_cons (pe_str) (pa_nil)))) (by rfl)) (pss_one (ps_set (i := 3) nd rfl (by first | exact Or.inl rfl | exact Or.inr rfl) (pe_callTy call_intT (by rfl) T.z_int (by decide +kernel) (pa_cons (pv 6) (pa_nil))))) (pss_nil)))))))))))
       (pss_cons (ps_asg (pe_op op_add (pe_ix ix_list (pv 1) (pv 4) (fun _ _ => rfl)) (pe_op op_mulX (pv 2) (pv 3))) (pg_sub (pv 1) (pv 4) set_list))
       (pss_one (ps_ret (pe_call G__law_trim (hr.mono (by decide)) (by rfl) T.g__law_trim T.F__law_trim.kp B__law_trim .nil pass0 (pa_cons (pv 1) (pa_nil))))))))))
theorem ok__law_mark (T : Txt K mg Cof ad fd) : FnOk P w K mg base CX0 2 (ad 27) (fd 27) ["_law_state", "_law_cell_here", "_law_wild_here"] (sp__law_mark K Cof) := by
  have G__law_wild := ok__law_wild (P := P) (w := w) (base := base) T
  have B__law_wild := B__law_wild T
  have nd := sc__law_mark.nd
  refine T.F__law_mark.ok sc__law_mark (fun vs H Q E h => len__law_mark h) (fun cdv A outer s H vs Q E hr h => ⟨t__law_mark K Cof E, ?_, rd__law_mark h⟩)
  exact pss_cons (ps_if (PW.pt (pw_and (pt_cmpR op_gt (pv 2) (pe_int) (nomark _)) (pw_and1 (pt_cmpR op_eq (pe_op op_modN (pv 1) (pv 2)) (pe_int) (nomark _))))) (pss_one (ps_ret (pe_call G__law_wild (hr.mono (by decide)) (by rfl) T.g__law_wild T.F__law_wild.kp B__law_wild .nil pass0 (pa_cons (pe_op op_fdivA (pv 1) (pv 2)) (pa_nil))))) (pss_nil))
       (pss_cons (ps_set (i := 3) nd rfl (by first | exact Or.inl rfl | exact Or.inr rfl) (pe_op op_modN (pe_op op_mulX (pe_op op_add (pe_int) (pe_op op_modN (pv 1) (pe_int))) (pe_int)) (pe_int)))
       (pss_cons (ps_set (i := 4) nd rfl (by first | exact Or.inl rfl | exact Or.inr rfl) (pe_callTy call_str_int (by rfl) T.z_str (by decide +kernel) (pa_cons (pe_op op_modN (pe_op op_fdivA (pv 3) (pe_int)) (pe_ix ix_list (pe_lst (pa_cons (pe_int) (pa_cons (pe_int) (pa_cons (pe_op op_pow (pe_int) (pe_int)) (pa_nil))))) (pe_op op_modN (pv 3) (pe_int)) (fun _ _ => rfl))) (pa_nil))))
       (pss_cons (ps_set (i := 5) nd rfl (by first | exact Or.inl rfl | exact Or.inr rfl) (pe_lst (pa_cons (pe_str) (pa_cons (pe_str) (pa_nil)))))
       (pss_cut (ps_if (pt_cmpR op_in_seq (pv 0) (pe_tup (pa_cons (pe_str) (pa_cons (pe_str) (pa_nil)))) (by rfl)) (pss_one (ps_set (i := 5) nd rfl (by first | exact Or.inl rfl | exact Or.inr rfl) (pe_lst (pa_cons (pv 4) (pa_cons (pe_str) (pa_cons (pv 4) (pa_cons (pe_ix ix_list (pe_lst (pa_cons (pe_str) (pa_cons (pe_str) (pa_nil)))) (pe_callTy call_int1 (by rfl) T.z_int (by decide +kernel) (pa_cons (pe_cmpR op_eq (pv 0) (pe_str) (nomark _)) (pa_nil))) (fun _ _ => rfl)) (pa_nil)))))))) (pss_nil))
       (pss_cut (ps_if (pt_cmpR op_eq (pv 0) (pe_str) (nomark _)) (pss_one (ps_set (i := 5) nd rfl (by first | exact Or.inl rfl | exact Or.inr rfl) (pe_lst (pa_cons (pe_str) (pa_nil))))) (pss_nil))
       (pss_cut (ps_if (pt_cmpR op_eq (pv 0) (pe_str) (nomark _)) (pss_one (ps_set (i := 5) nd rfl (by first | exact Or.inl rfl | exact Or.inr rfl) (pe_lst (pa_cons (pe_callTy call_str_int (by rfl) T.z_str (by decide +kernel) (pa_cons (pe_op op_modN (pe_op op_fdivA (pv 3) (pe_int)) (pe_int)) (pa_nil))) (pa_nil))))) (pss_nil))
       (pss_cut (ps_if (pt_cmpR op_eq (pv 0) (pe_str) (nomark _)) (pss_one (ps_set (i := 5) nd rfl (by first | exact Or.inl rfl | exact Or.inr rfl) (pe_lst (pa_cons (pe_str) (pa_cons (pe_str) (pa_cons (pe_str) (pa_cons (pe_str) (pa_nil)))))))) (pss_nil))
       (pss_cut (ps_if (pt_cmpR op_eq (pv 0) (pe_str) (nomark _)) (pss_one (ps_set (i := 5) nd rfl (by first | exact Or.inl rfl | exact Or.inr rfl) (pe_lst (pa_cons (pe_str) (pa_cons (pe_str) (pa_cons (pe_str) (pa_cons (pe_str) (pa_nil)))))))) (pss_nil))
       (pss_one (ps_ret (pe_ix ix_list (pv 5) (pe_op op_modN (pe_op op_fdivA (pv 3) (pe_int)) (pe_callB call_len_seq (by rfl) T.z_len (by decide +kernel) (pa_cons (pv 5) (pa_nil)))) (fun _ _ => rfl))))))))))))
theorem ok__law_refused (T : Txt K mg Cof ad fd) : FnOk P w K mg base CX0 7 (ad 28) (fd 28) ["_law_text", "_law_place"] (sp__law_refused K Cof) := by
  have G__law_whole := ok__law_whole (P := P) (w := w) (base := base) T
  have B__law_whole := B__law_whole T
  have G_read_poly := ok_read_poly (P := P) (w := w) (base := base) T
  have B_read_poly := B_read_poly T
  have Q__law_whole := okq__law_whole (P := P) (w := w) (base := base) T
  have nd := sc__law_refused.nd
  refine T.F__law_refused.ok sc__law_refused (fun vs H Q E h => len__law_refused h) (fun cdv A outer s H vs Q E hr h => ⟨t__law_refused K Cof E, ?_, rd__law_refused T.ex h⟩)
  exact pss_cons (ps_set (i := 2) nd rfl (by first | exact Or.inl rfl | exact Or.inr rfl) (pe_bl))
       (pss_cons (ps_try_as (i := 3) (c := .ref (Cof "RootError")) (tb := fun W => tDrop (tCallS (sp_read_poly K Cof) (WE W) (tCons (tVar 0) (tNil)))) (ts := fun a cls d => tSeq (tAsg (tAndV (tCB (rIsXD K a cls d) (tCons (tVar 3) (tCons (tC (.ty "ValueError")) (tNil)))) (tAndV (tNotV (tCB (rIsXD K a cls d) (tCons (tVar 3) (tCons (tC (.ref (Cof "NoName"))) (tNil))))) (tNotV (tCB (rIsXD K a cls d) (tCons (tVar 3) (tCons (tC (.ref (Cof "NoRow"))) (tNil))))))) (gName 4))
       (tAsg (tAndV (tCB (rIsXD K a cls d) (tCons (tVar 3) (tCons (tC (.ref (Cof "NoText"))) (tNil)))) (tAndV (tVar 4) (tAndV (tCall (sp__law_whole K Cof) [] E0 (tCons (tXf a cls d (Cof "NoText") "at" (tVar 3)) (tNil))) (tOp rEq (tXf a cls d (Cof "NoText") "at" (tVar 3)) (tVar 1))))) (gName 2))) (Wout := fun _ _ _ _ => False) rfl rfl nd rfl rfl ⟨rfl, by decide, Or.inl T.q_RootError⟩ takes0 (fun W pn xe tk hpo => pss_one (ps_expr (pe_callS G_read_poly (hr.mono (by decide)) (by rfl) T.g_read_poly T.F_read_poly.kp B_read_poly (fun σ => passAt tk σ) (pa_cons (pv 0) (pa_nil))))) (fun a oe cls d pn hz hf => pss_cons (ps_set (i := 4) nd rfl (by first | exact Or.inl rfl | exact Or.inr rfl) (pe_and (pe_callB (call_isXD hz hf) (by rfl) T.z_isinstance (by decide +kernel) (pa_cons (pv 3) (pa_cons (pe_bltn (v := .ty "ValueError") (by rfl) T.z_ValueError (by decide +kernel) rfl) (pa_nil)))) (pe_and (pe_not (pe_callB (call_isXD hz hf) (by rfl) T.z_isinstance (by decide +kernel) (pa_cons (pv 3) (pa_cons (pe_glob (by rfl) T.q_NoName rfl) (pa_nil))))) (pe_one (pe_not (pe_callB (call_isXD hz hf) (by rfl) T.z_isinstance (by decide +kernel) (pa_cons (pv 3) (pa_cons (pe_glob (by rfl) T.q_NoRow rfl) (pa_nil)))))))))
       (pss_one (ps_set (i := 2) nd rfl (by first | exact Or.inl rfl | exact Or.inr rfl) (pe_and (pe_callB (call_isXD hz hf) (by rfl) T.z_isinstance (by decide +kernel) (pa_cons (pv 3) (pa_cons (pe_glob (by rfl) T.q_NoText rfl) (pa_nil)))) (pe_and (pv 4) (pe_and (pe_callQ Q__law_whole (roomQ (hr.mono (by decide)) _) ⟨_, List.mem_cons_self ..⟩ (by rfl) T.g__law_whole T.F__law_whole.kp B__law_whole (pa_cons (pe_xf (xf_of T.ex.c_NoText) T.ex.n_NoText_at hz hf (pv 3)) (pa_nil))) (pe_one (pe_cmpR op_eq (pe_xf (xf_of T.ex.c_NoText) T.ex.n_NoText_at hz hf (pv 3)) (pv 1) (nomark _))))))))))
       (pss_one (ps_ret (pv 2))))
theorem ok_law (T : Txt K mg Cof ad fd) : FnOk P w K mg base CX0 8 (ad 29) (fd 29) ["_law_script"] (sp_law K Cof) := by
  have G__law_added_up := ok__law_added_up (P := P) (w := w) (base := base) T
  have B__law_added_up := B__law_added_up T
  have G__law_cell := ok__law_cell (P := P) (w := w) (base := base) T
  have B__law_cell := B__law_cell T
  have G__law_mark := ok__law_mark (P := P) (w := w) (base := base) T
  have B__law_mark := B__law_mark T
  have G__law_put := ok__law_put (P := P) (w := w) (base := base) T
  have B__law_put := B__law_put T
  have G__law_refused := ok__law_refused (P := P) (w := w) (base := base) T
  have B__law_refused := B__law_refused T
  have G__law_row := ok__law_row (P := P) (w := w) (base := base) T
  have B__law_row := B__law_row T
  have G_read_poly := ok_read_poly (P := P) (w := w) (base := base) T
  have B_read_poly := B_read_poly T
  have nd := sc_law.nd
  refine T.F_law.ok sc_law (fun vs H Q E h => len_law h) (fun cdv A outer s H vs Q E hr h => ⟨t_law K Cof E, ?_, rd_law h⟩)
  exact pss_cons (ps_set (i := 1) nd rfl (by first | exact Or.inl rfl | exact Or.inr rfl) (pe_lst (pa_cons (pe_str) (pa_cons (pe_str) (pa_cons (pe_un un_neg (pe_int)) (pa_cons (pe_lst (pa_nil)) (pa_nil)))))))
       (pss_cons (ps_set (i := 2) nd rfl (by first | exact Or.inl rfl | exact Or.inr rfl) (pe_ix ix_list (pe_lst (pa_cons (pe_int) (pa_cons (pe_int) (pa_cons (pe_int) (pa_nil))))) (pe_op op_modN (pe_call G__law_cell (hr.mono (by decide)) (by rfl) T.g__law_cell T.F__law_cell.kp B__law_cell .nil pass0 (pa_cons (pv 0) (pa_cons (pe_int) (pa_nil)))) (pe_int)) (fun _ _ => rfl)))
       (pss_cons (ps_for PassesOwn.never rfl (pi_list (pe_slice sl_list (pv 0) (po_some (pe_int)) (po_some (pe_int)))) (pg_name (i := 3) nd rfl (by first | exact Or.inl rfl | exact Or.inr rfl)) (pss_cons (ps_set (i := 4) nd rfl (by first | exact Or.inl rfl | exact Or.inr rfl) (pe_call G__law_mark (hr.mono (by decide)) (by rfl) T.g__law_mark T.F__law_mark.kp B__law_mark .nil pass0 (pa_cons (pe_ix ix_list (pv 1) (pe_int) (fun _ _ => rfl)) (pa_cons (pv 3) (pa_cons (pv 2) (pa_nil))))))
       (pss_one (ps_if (pt_cmpR op_lt (pe_op op_add (pe_callB call_len_str (by rfl) T.z_len (by decide +kernel) (pa_cons (pe_ix ix_list (pv 1) (pe_int) (fun _ _ => rfl)) (pa_nil))) (pe_callB call_len_str (by rfl) T.z_len (by decide +kernel) (pa_cons (pv 4) (pa_nil)))) (pe_int) (nomark _)) (pss_one (ps_expr (pe_call G__law_put (hr.mono (by decide)) (by rfl) T.g__law_put T.F__law_put.kp B__law_put .nil pass0 (pa_cons (pv 1) (pa_cons (pv 4) (pa_cons (pe_callB (call_max2 (by rfl)) (by rfl) T.z_max (by decide +kernel) (pa_cons (pe_int) (pa_cons (pe_op op_sub (pe_op op_modN (pe_op op_modN (pe_op op_mulX (pv 3) (pe_int)) (pe_int)) (pe_int)) (pe_int)) (pa_nil)))) (pa_nil))))))) (pss_nil)))))
       (pss_cut (ps_if (PW.pt (pw_and (pt_cmpR op_gt (pe_op op_modN (pe_call G__law_cell (hr.mono (by decide)) (by rfl) T.g__law_cell T.F__law_cell.kp B__law_cell .nil pass0 (pa_cons (pv 0) (pa_cons (pe_int) (pa_nil)))) (pe_int)) (pe_int) (nomark _)) (pw_and1 (pt_cmpR op_in_seq (pe_ix ix_list (pv 1) (pe_int) (fun _ _ => rfl)) (pe_tup (pa_cons (pe_str) (pa_cons (pe_str) (pa_cons (pe_str) (pa_nil))))) (by rfl))))) (pss_one (ps_expr (pe_call G__law_put (hr.mono (by decide)) (by rfl) T.g__law_put T.F__law_put.kp B__law_put .nil pass0 (pa_cons (pv 1) (pa_cons (pe_str) (pa_cons (pe_int) (pa_nil))))))) (pss_nil))
       (pss_cut (ps_if (PW.pt (pw_and (pt_cmpR op_gt (pe_op op_modN (pe_call G__law_cell (hr.mono (by decide)) (by rfl) T.g__law_cell T.F__law_cell.kp B__law_cell .nil pass0 (pa_cons (pv 0) (pa_cons (pe_int) (pa_nil)))) (pe_int)) (pe_int) (nomark _)) (pw_and1 (pt_cmpR op_eq (pe_ix ix_list (pv 1) (pe_int) (fun _ _ => rfl)) (pe_str) (nomark _))))) (pss_one (ps_expr (pe_call G__law_put (hr.mono (by decide)) (by rfl) T.g__law_put T.F__law_put.kp B__law_put .nil pass0 (pa_cons (pv 1) (pa_cons (pe_str) (pa_cons (pe_int) (pa_nil))))))) (pss_nil))
       (pss_cons (ps_set (i := 5) nd rfl (by first | exact Or.inl rfl | exact Or.inr rfl) (pe_op op_add_str (pe_ix ix_list (pv 1) (pe_int) (fun _ _ => rfl)) (pe_op op_repS (pe_str) (pe_op op_modN (pe_op op_fdivA (pe_call G__law_cell (hr.mono (by decide)) (by rfl) T.g__law_cell T.F__law_cell.kp B__law_cell .nil pass0 (pa_cons (pv 0) (pa_cons (pe_int) (pa_nil)))) (pe_int)) (pe_int)))))
       (pss_cut (ps_if (PW.pt (pw_and (pt_cmpR op_lt (pe_ix ix_list (pv 1) (pe_int) (fun _ _ => rfl)) (pe_int) (nomark _)) (pw_and1 (pt_cmpR op_in_seq (pe_ix ix_list (pv 1) (pe_int) (fun _ _ => rfl)) (pe_tup (pa_cons (pe_str) (pa_cons (pe_str) (pa_cons (pe_str) (pa_cons (pe_str) (pa_nil)))))) (by rfl))))) (pss_one (ps_asg (pe_callB call_len_str (by rfl) T.z_len (by decide +kernel) (pa_cons (pv 5) (pa_nil))) (pg_sub (pv 1) (pe_int) set_list))) (pss_nil))
       (pss_cons (ps_if (pt_cmpR op_ge (pe_ix ix_list (pv 1) (pe_int) (fun _ _ => rfl)) (pe_int) (nomark _)) (pss_one (ps_ret (pe_and (pe_call G__law_refused (hr.mono (by decide)) (by rfl) T.g__law_refused T.F__law_refused.kp B__law_refused .nil pass0 (pa_cons (pv 5) (pa_cons (pe_ix ix_list (pv 1) (pe_int) (fun _ _ => rfl)) (pa_nil)))) (pe_one (pe_call G__law_refused (hr.mono (by decide)) (by rfl) T.g__law_refused T.F__law_refused.kp B__law_refused .nil pass0 (pa_cons (pv 5) (pa_cons (pe_ix ix_list (pv 1) (pe_int) (fun _ _ => rfl)) (pa_nil)))))))) (pss_nil))
       (pss_cons (ps_set (i := 6) nd rfl (by first | exact Or.inl rfl | exact Or.inr rfl) (pe_call G__law_added_up (hr.mono (by decide)) (by rfl) T.g__law_added_up T.F__law_added_up.kp B__law_added_up .nil pass0 (pa_cons (pe_ix ix_list (pv 1) (pe_int) (fun _ _ => rfl)) (pa_nil))))
       (pss_cons (ps_set (i := 7) nd rfl (by first | exact Or.inl rfl | exact Or.inr rfl) (pe_call G_read_poly (hr.mono (by decide)) (by rfl) T.g_read_poly T.F_read_poly.kp B_read_poly .nil passL (pa_cons (pv 5) (pa_nil))))
       (pss_cons (ps_if (pt_not (pt_val (pe_call G__law_row (hr.mono (by decide)) (by rfl) T.g__law_row T.F__law_row.kp B__law_row .nil pass0 (pa_cons (pv 7) (pa_cons (pv 6) (pa_nil)))))) (pss_one (ps_ret (pe_bl))) (pss_nil))
       (pss_cons (ps_expr (pe_bm PySem.F.plainAttrs_list PySem.F.slot_list_append PySem.F.type_list_append mt_append (pv 7) (pa_cons (pe_int) (pa_nil))))
       (pss_one (ps_ret (pe_call G__law_row (hr.mono (by decide)) (by rfl) T.g__law_row T.F__law_row.kp B__law_row .nil pass0 (pa_cons (pe_call G_read_poly (hr.mono (by decide)) (by rfl) T.g_read_poly T.F_read_poly.kp B_read_poly .nil passL (pa_cons (pv 5) (pa_nil))) (pa_cons (pv 6) (pa_nil)))))))))))))))))
end
theorem all_mk {l : PySem.W.OpenLaw} {w : World} {K : PySem.W.Frag} {h : Heap} {mg : Str → Option Value} {fa : Addr} (X : K.In h) (G : h.Ns mainGlobals mg) (hfa : mg "law" = some (.ref fa))
    {CMarks : Addr} (aCMarks : PySem.W.nsIn K mainGlobals "Marks" = some (some (.ref CMarks))) (kCMarks : PySem.W.keepIn K (.ref CMarks) = true)
    (pCMarks : PySem.W.plainGet K CMarks Str.empty = true) (hCMarks : PySem.W.hasDictIn K CMarks = true) (oCMarks : PySem.W.plainOver K CMarks = true) (yCMarks : PySem.W.findIn K (.ref CMarks) "__setattr__" = some (some (.builtin "object.__setattr__"))) (wCMarks : PySem.W.makesIn K CMarks = true)
    (lCMarks : PySem.W.findIn K (.ref CMarks) "__class__" = some (some (.builtin "object.__class__"))) (mCMarks : PySem.W.mroIn K CMarks (.type "object") = some true)
    {CRootError : Addr} (aCRootError : PySem.W.nsIn K mainGlobals "RootError" = some (some (.ref CRootError))) (kCRootError : PySem.W.keepIn K (.ref CRootError) = true)
    (bCRootError : PySem.W.subIn K (.ref CRootError) (.type "BaseException") = some true) (tCRootError : PySem.W.typeIn K (.ref CRootError) = some (.type "type")) (hCRootError : PySem.W.hasDictIn K CRootError = true) (vCRootError : PySem.W.subIn K (.ref CRootError) (.type "ValueError") = some true)
    (xCRootError : PySem.W.excIn K CRootError [.type "ValueError", .type "Exception", .type "BaseException", .type "object"] "ValueError.__new__" = true)
    (gCRootError : PySem.W.findIn K (.ref CRootError) "__getattribute__" = some (some (.builtin "BaseException.__getattribute__"))) (nCRootError : PySem.W.findIn K (.ref CRootError) "__getattr__" = some none) (lCRootError : PySem.W.findIn K (.ref CRootError) "__class__" = some (some (.builtin "object.__class__"))) (mCRootError : PySem.W.mroIn K CRootError (.type "object") = some true)
    {CNoRow : Addr} (aCNoRow : PySem.W.nsIn K mainGlobals "NoRow" = some (some (.ref CNoRow))) (kCNoRow : PySem.W.keepIn K (.ref CNoRow) = true)
    (bCNoRow : PySem.W.subIn K (.ref CNoRow) (.type "BaseException") = some true) (tCNoRow : PySem.W.typeIn K (.ref CNoRow) = some (.type "type")) (hCNoRow : PySem.W.hasDictIn K CNoRow = true) (vCNoRow : PySem.W.subIn K (.ref CNoRow) (.type "ValueError") = some true)
    (xCNoRow : PySem.W.excIn K CNoRow [.type "ValueError", .type "Exception", .type "BaseException", .type "object"] "ValueError.__new__" = true)
    (gCNoRow : PySem.W.findIn K (.ref CNoRow) "__getattribute__" = some (some (.builtin "BaseException.__getattribute__"))) (nCNoRow : PySem.W.findIn K (.ref CNoRow) "__getattr__" = some none) (lCNoRow : PySem.W.findIn K (.ref CNoRow) "__class__" = some (some (.builtin "object.__class__"))) (mCNoRow : PySem.W.mroIn K CNoRow (.type "object") = some true)
    {CNoText : Addr} (aCNoText : PySem.W.nsIn K mainGlobals "NoText" = some (some (.ref CNoText))) (kCNoText : PySem.W.keepIn K (.ref CNoText) = true)
    (bCNoText : PySem.W.subIn K (.ref CNoText) (.type "BaseException") = some true) (tCNoText : PySem.W.typeIn K (.ref CNoText) = some (.type "type")) (hCNoText : PySem.W.hasDictIn K CNoText = true) (vCNoText : PySem.W.subIn K (.ref CNoText) (.type "ValueError") = some true)
    (gCNoText : PySem.W.findIn K (.ref CNoText) "__getattribute__" = some (some (.builtin "BaseException.__getattribute__"))) (nCNoText : PySem.W.findIn K (.ref CNoText) "__getattr__" = some none) (lCNoText : PySem.W.findIn K (.ref CNoText) "__class__" = some (some (.builtin "object.__class__"))) (mCNoText : PySem.W.mroIn K CNoText (.type "object") = some true)
    {nmNoText qnNoText : Str} {NNoText : Addr} {bsNoText bmNoText : List Value} {snNoText : List Str} {suNoText : List Value} {abNoText : Bool} {colNoText : Option Bool} {ddNoText : Option Addr} {k0NoText k1NoText k2NoText k3NoText k5NoText : Option Value}
    (lkNoText : K.lookup CNoText = some (excClassObj nmNoText qnNoText CNoText NNoText bsNoText bmNoText true snNoText suNoText abNoText colNoText ddNoText k0NoText k1NoText k2NoText k3NoText k5NoText "ValueError.__new__")) (rvNoText : PySem.HandSPX.refsVE bmNoText = true) (saNoText : PySem.W.findIn K (.ref CNoText) "__setattr__" = some (some (.builtin "object.__setattr__")))
    {CNoName : Addr} (aCNoName : PySem.W.nsIn K mainGlobals "NoName" = some (some (.ref CNoName))) (kCNoName : PySem.W.keepIn K (.ref CNoName) = true)
    (bCNoName : PySem.W.subIn K (.ref CNoName) (.type "BaseException") = some true) (tCNoName : PySem.W.typeIn K (.ref CNoName) = some (.type "type")) (hCNoName : PySem.W.hasDictIn K CNoName = true) (vCNoName : PySem.W.subIn K (.ref CNoName) (.type "ValueError") = some true)
    (nMarks_depth : PySem.W.findIn K (.ref CMarks) "depth" = some none)
    (nMarks_row : PySem.W.findIn K (.ref CMarks) "row" = some none)
    (nMarks_spot : PySem.W.findIn K (.ref CMarks) "spot" = some none)
    (nNoText_at : PySem.W.findIn K (.ref CNoText) "at" = some none)
    {f0 : Addr} {od0 an0 : Option Addr} {sl0 : Array (Option Value)} {oc0 kV0 dc0 pm0 cd0 ct0 : Value}
    {f1 : Addr} {od1 an1 : Option Addr} {sl1 : Array (Option Value)} {oc1 kV1 dc1 pm1 cd1 ct1 : Value}
    {f2 : Addr} {od2 an2 : Option Addr} {sl2 : Array (Option Value)} {oc2 kV2 dc2 pm2 cd2 ct2 : Value}
    {f3 : Addr} {od3 an3 : Option Addr} {sl3 : Array (Option Value)} {oc3 kV3 dc3 pm3 cd3 ct3 : Value}
    {f4 : Addr} {od4 an4 : Option Addr} {sl4 : Array (Option Value)} {oc4 kV4 dc4 pm4 cd4 ct4 : Value}
    {f5 : Addr} {od5 an5 : Option Addr} {sl5 : Array (Option Value)} {oc5 kV5 dc5 pm5 cd5 ct5 : Value}
    {f6 : Addr} {od6 an6 : Option Addr} {sl6 : Array (Option Value)} {oc6 kV6 dc6 pm6 cd6 ct6 : Value}
    {f7 : Addr} {od7 an7 : Option Addr} {sl7 : Array (Option Value)} {oc7 kV7 dc7 pm7 cd7 ct7 : Value}
    {f8 : Addr} {od8 an8 : Option Addr} {sl8 : Array (Option Value)} {oc8 kV8 dc8 pm8 cd8 ct8 : Value}
    {f9 : Addr} {od9 an9 : Option Addr} {sl9 : Array (Option Value)} {oc9 kV9 dc9 pm9 cd9 ct9 : Value}
    {f10 : Addr} {od10 an10 : Option Addr} {sl10 : Array (Option Value)} {oc10 kV10 dc10 pm10 cd10 ct10 : Value}
    {f11 : Addr} {od11 an11 : Option Addr} {sl11 : Array (Option Value)} {oc11 kV11 dc11 pm11 cd11 ct11 : Value}
    {f12 : Addr} {od12 an12 : Option Addr} {sl12 : Array (Option Value)} {oc12 kV12 dc12 pm12 cd12 ct12 : Value}
    {f13 : Addr} {od13 an13 : Option Addr} {sl13 : Array (Option Value)} {oc13 kV13 dc13 pm13 cd13 ct13 : Value}
    {f14 : Addr} {od14 an14 : Option Addr} {sl14 : Array (Option Value)} {oc14 kV14 dc14 pm14 cd14 ct14 : Value}
    {f15 : Addr} {od15 an15 : Option Addr} {sl15 : Array (Option Value)} {oc15 kV15 dc15 pm15 cd15 ct15 : Value}
    {f16 : Addr} {od16 an16 : Option Addr} {sl16 : Array (Option Value)} {oc16 kV16 dc16 pm16 cd16 ct16 : Value}
    {f17 : Addr} {od17 an17 : Option Addr} {sl17 : Array (Option Value)} {oc17 kV17 dc17 pm17 cd17 ct17 : Value}
    {f18 : Addr} {od18 an18 : Option Addr} {sl18 : Array (Option Value)} {oc18 kV18 dc18 pm18 cd18 ct18 : Value}
    {f19 : Addr} {od19 an19 : Option Addr} {sl19 : Array (Option Value)} {oc19 kV19 dc19 pm19 cd19 ct19 : Value}
    {f20 : Addr} {od20 an20 : Option Addr} {sl20 : Array (Option Value)} {oc20 kV20 dc20 pm20 cd20 ct20 : Value}
    {f21 : Addr} {od21 an21 : Option Addr} {sl21 : Array (Option Value)} {oc21 kV21 dc21 pm21 cd21 ct21 : Value}
    {f22 : Addr} {od22 an22 : Option Addr} {sl22 : Array (Option Value)} {oc22 kV22 dc22 pm22 cd22 ct22 : Value}
    {f23 : Addr} {od23 an23 : Option Addr} {sl23 : Array (Option Value)} {oc23 kV23 dc23 pm23 cd23 ct23 : Value}
    {f24 : Addr} {od24 an24 : Option Addr} {sl24 : Array (Option Value)} {oc24 kV24 dc24 pm24 cd24 ct24 : Value}
    {f25 : Addr} {od25 an25 : Option Addr} {sl25 : Array (Option Value)} {oc25 kV25 dc25 pm25 cd25 ct25 : Value}
    {f26 : Addr} {od26 an26 : Option Addr} {sl26 : Array (Option Value)} {oc26 kV26 dc26 pm26 cd26 ct26 : Value}
    {f27 : Addr} {od27 an27 : Option Addr} {sl27 : Array (Option Value)} {oc27 kV27 dc27 pm27 cd27 ct27 : Value}
    {f28 : Addr} {od28 an28 : Option Addr} {sl28 : Array (Option Value)} {oc28 kV28 dc28 pm28 cd28 ct28 : Value}
    {f29 : Addr} {od29 an29 : Option Addr} {sl29 : Array (Option Value)} {oc29 kV29 dc29 pm29 cd29 ct29 : Value}
    (a0 : PySem.W.findIn K (.ref CNoText) "__init__" = some (some (.ref f0))) (i0 : PySem.W.isFn K (.ref f0) = true) (l0 : K.lookup f0 = some ⟨oc0, od0, .func (PySem.W.fnOf "__init__" "NoText.__init__" (defArgs s_NoText___init__) (defBody s_NoText___init__) (defScope s_NoText___init__) .none kV0 dc0 pm0 an0 cd0 ct0), sl0⟩) (c0 : PySem.W.codeIn K cd0 "NoText.__init__" = true) (k0 : PySem.W.keepIn K (.ref f0) = true)
    (a1 : PySem.W.nsIn K mainGlobals "poly" = some (some (.ref f1))) (l1 : K.lookup f1 = some ⟨oc1, od1, .func (PySem.W.fnOf "poly" "poly" (defArgs s_poly) (defBody s_poly) (defScope s_poly) .none kV1 dc1 pm1 an1 cd1 ct1), sl1⟩) (c1 : PySem.W.codeIn K cd1 "poly" = true) (k1 : PySem.W.keepIn K (.ref f1) = true)
    (a2 : PySem.W.nsIn K mainGlobals "run_of" = some (some (.ref f2))) (l2 : K.lookup f2 = some ⟨oc2, od2, .func (PySem.W.fnOf "run_of" "run_of" (defArgs s_run_of) (defBody s_run_of) (defScope s_run_of) .none kV2 dc2 pm2 an2 cd2 ct2), sl2⟩) (c2 : PySem.W.codeIn K cd2 "run_of" = true) (k2 : PySem.W.keepIn K (.ref f2) = true)
    (a3 : PySem.W.nsIn K mainGlobals "marks_of" = some (some (.ref f3))) (l3 : K.lookup f3 = some ⟨oc3, od3, .func (PySem.W.fnOf "marks_of" "marks_of" (defArgs s_marks_of) (defBody s_marks_of) (defScope s_marks_of) .none kV3 dc3 pm3 an3 cd3 ct3), sl3⟩) (c3 : PySem.W.codeIn K cd3 "marks_of" = true) (k3 : PySem.W.keepIn K (.ref f3) = true)
    (a4 : PySem.W.nsIn K mainGlobals "is_whole" = some (some (.ref f4))) (l4 : K.lookup f4 = some ⟨oc4, od4, .func (PySem.W.fnOf "is_whole" "is_whole" (defArgs s_is_whole) (defBody s_is_whole) (defScope s_is_whole) .none kV4 dc4 pm4 an4 cd4 ct4), sl4⟩) (c4 : PySem.W.codeIn K cd4 "is_whole" = true) (k4 : PySem.W.keepIn K (.ref f4) = true)
    (a5 : PySem.W.findIn K (.ref CMarks) "__init__" = some (some (.ref f5))) (i5 : PySem.W.isFn K (.ref f5) = true) (l5 : K.lookup f5 = some ⟨oc5, od5, .func (PySem.W.fnOf "__init__" "Marks.__init__" (defArgs s_Marks___init__) (defBody s_Marks___init__) (defScope s_Marks___init__) .none kV5 dc5 pm5 an5 cd5 ct5), sl5⟩) (c5 : PySem.W.codeIn K cd5 "Marks.__init__" = true) (k5 : PySem.W.keepIn K (.ref f5) = true)
    (a6 : PySem.W.findIn K (.ref CMarks) "mark" = some (some (.ref f6))) (i6 : PySem.W.isFn K (.ref f6) = true) (l6 : K.lookup f6 = some ⟨oc6, od6, .func (PySem.W.fnOf "mark" "Marks.mark" (defArgs s_Marks_mark) (defBody s_Marks_mark) (defScope s_Marks_mark) .none kV6 dc6 pm6 an6 cd6 ct6), sl6⟩) (c6 : PySem.W.codeIn K cd6 "Marks.mark" = true) (k6 : PySem.W.keepIn K (.ref f6) = true)
    (a7 : PySem.W.findIn K (.ref CMarks) "place" = some (some (.ref f7))) (i7 : PySem.W.isFn K (.ref f7) = true) (l7 : K.lookup f7 = some ⟨oc7, od7, .func (PySem.W.fnOf "place" "Marks.place" (defArgs s_Marks_place) (defBody s_Marks_place) (defScope s_Marks_place) .none kV7 dc7 pm7 an7 cd7 ct7), sl7⟩) (c7 : PySem.W.codeIn K cd7 "Marks.place" = true) (k7 : PySem.W.keepIn K (.ref f7) = true)
    (a8 : PySem.W.findIn K (.ref CMarks) "taken" = some (some (.ref f8))) (i8 : PySem.W.isFn K (.ref f8) = true) (l8 : K.lookup f8 = some ⟨oc8, od8, .func (PySem.W.fnOf "taken" "Marks.taken" (defArgs s_Marks_taken) (defBody s_Marks_taken) (defScope s_Marks_taken) .none kV8 dc8 pm8 an8 cd8 ct8), sl8⟩) (c8 : PySem.W.codeIn K cd8 "Marks.taken" = true) (k8 : PySem.W.keepIn K (.ref f8) = true)
    (a9 : PySem.W.findIn K (.ref CMarks) "take" = some (some (.ref f9))) (i9 : PySem.W.isFn K (.ref f9) = true) (l9 : K.lookup f9 = some ⟨oc9, od9, .func (PySem.W.fnOf "take" "Marks.take" (defArgs s_Marks_take) (defBody s_Marks_take) (defScope s_Marks_take) .none kV9 dc9 pm9 an9 cd9 ct9), sl9⟩) (c9 : PySem.W.codeIn K cd9 "Marks.take" = true) (k9 : PySem.W.keepIn K (.ref f9) = true)
    (a10 : PySem.W.findIn K (.ref CMarks) "whole" = some (some (.ref f10))) (i10 : PySem.W.isFn K (.ref f10) = true) (l10 : K.lookup f10 = some ⟨oc10, od10, .func (PySem.W.fnOf "whole" "Marks.whole" (defArgs s_Marks_whole) (defBody s_Marks_whole) (defScope s_Marks_whole) .none kV10 dc10 pm10 an10 cd10 ct10), sl10⟩) (c10 : PySem.W.codeIn K cd10 "Marks.whole" = true) (k10 : PySem.W.keepIn K (.ref f10) = true)
    (a11 : PySem.W.findIn K (.ref CMarks) "exponent" = some (some (.ref f11))) (i11 : PySem.W.isFn K (.ref f11) = true) (l11 : K.lookup f11 = some ⟨oc11, od11, .func (PySem.W.fnOf "exponent" "Marks.exponent" (defArgs s_Marks_exponent) (defBody s_Marks_exponent) (defScope s_Marks_exponent) .none kV11 dc11 pm11 an11 cd11 ct11), sl11⟩) (c11 : PySem.W.codeIn K cd11 "Marks.exponent" = true) (k11 : PySem.W.keepIn K (.ref f11) = true)
    (a12 : PySem.W.findIn K (.ref CMarks) "last" = some (some (.ref f12))) (i12 : PySem.W.isFn K (.ref f12) = true) (l12 : K.lookup f12 = some ⟨oc12, od12, .func (PySem.W.fnOf "last" "Marks.last" (defArgs s_Marks_last) (defBody s_Marks_last) (defScope s_Marks_last) .none kV12 dc12 pm12 an12 cd12 ct12), sl12⟩) (c12 : PySem.W.codeIn K cd12 "Marks.last" = true) (k12 : PySem.W.keepIn K (.ref f12) = true)
    (a13 : PySem.W.nsIn K mainGlobals "add_term" = some (some (.ref f13))) (l13 : K.lookup f13 = some ⟨oc13, od13, .func (PySem.W.fnOf "add_term" "add_term" (defArgs s_add_term) (defBody s_add_term) (defScope s_add_term) .none kV13 dc13 pm13 an13 cd13 ct13), sl13⟩) (c13 : PySem.W.codeIn K cd13 "add_term" = true) (k13 : PySem.W.keepIn K (.ref f13) = true)
    (a14 : PySem.W.nsIn K mainGlobals "poly_of" = some (some (.ref f14))) (l14 : K.lookup f14 = some ⟨oc14, od14, .func (PySem.W.fnOf "poly_of" "poly_of" (defArgs s_poly_of) (defBody s_poly_of) (defScope s_poly_of) .none kV14 dc14 pm14 an14 cd14 ct14), sl14⟩) (c14 : PySem.W.codeIn K cd14 "poly_of" = true) (k14 : PySem.W.keepIn K (.ref f14) = true)
    (a15 : PySem.W.nsIn K mainGlobals "read_poly" = some (some (.ref f15))) (l15 : K.lookup f15 = some ⟨oc15, od15, .func (PySem.W.fnOf "read_poly" "read_poly" (defArgs s_read_poly) (defBody s_read_poly) (defScope s_read_poly) .none kV15 dc15 pm15 an15 cd15 ct15), sl15⟩) (c15 : PySem.W.codeIn K cd15 "read_poly" = true) (k15 : PySem.W.keepIn K (.ref f15) = true)
    (a16 : PySem.W.nsIn K mainGlobals "_law_cell" = some (some (.ref f16))) (l16 : K.lookup f16 = some ⟨oc16, od16, .func (PySem.W.fnOf "_law_cell" "_law_cell" (defArgs s__law_cell) (defBody s__law_cell) (defScope s__law_cell) .none kV16 dc16 pm16 an16 cd16 ct16), sl16⟩) (c16 : PySem.W.codeIn K cd16 "_law_cell" = true) (k16 : PySem.W.keepIn K (.ref f16) = true)
    (a17 : PySem.W.nsIn K mainGlobals "_law_whole" = some (some (.ref f17))) (l17 : K.lookup f17 = some ⟨oc17, od17, .func (PySem.W.fnOf "_law_whole" "_law_whole" (defArgs s__law_whole) (defBody s__law_whole) (defScope s__law_whole) .none kV17 dc17 pm17 an17 cd17 ct17), sl17⟩) (c17 : PySem.W.codeIn K cd17 "_law_whole" = true) (k17 : PySem.W.keepIn K (.ref f17) = true)
    (a18 : PySem.W.nsIn K mainGlobals "_law_kind" = some (some (.ref f18))) (l18 : K.lookup f18 = some ⟨oc18, od18, .func (PySem.W.fnOf "_law_kind" "_law_kind" (defArgs s__law_kind) (defBody s__law_kind) (defScope s__law_kind) .none kV18 dc18 pm18 an18 cd18 ct18), sl18⟩) (c18 : PySem.W.codeIn K cd18 "_law_kind" = true) (k18 : PySem.W.keepIn K (.ref f18) = true)
    (a19 : PySem.W.nsIn K mainGlobals "_law_small" = some (some (.ref f19))) (l19 : K.lookup f19 = some ⟨oc19, od19, .func (PySem.W.fnOf "_law_small" "_law_small" (defArgs s__law_small) (defBody s__law_small) (defScope s__law_small) .none kV19 dc19 pm19 an19 cd19 ct19), sl19⟩) (c19 : PySem.W.codeIn K cd19 "_law_small" = true) (k19 : PySem.W.keepIn K (.ref f19) = true)
    (a20 : PySem.W.nsIn K mainGlobals "_law_next_in_poly" = some (some (.ref f20))) (l20 : K.lookup f20 = some ⟨oc20, od20, .func (PySem.W.fnOf "_law_next_in_poly" "_law_next_in_poly" (defArgs s__law_next_in_poly) (defBody s__law_next_in_poly) (defScope s__law_next_in_poly) .none kV20 dc20 pm20 an20 cd20 ct20), sl20⟩) (c20 : PySem.W.codeIn K cd20 "_law_next_in_poly" = true) (k20 : PySem.W.keepIn K (.ref f20) = true)
    (a21 : PySem.W.nsIn K mainGlobals "_law_wild" = some (some (.ref f21))) (l21 : K.lookup f21 = some ⟨oc21, od21, .func (PySem.W.fnOf "_law_wild" "_law_wild" (defArgs s__law_wild) (defBody s__law_wild) (defScope s__law_wild) .none kV21 dc21 pm21 an21 cd21 ct21), sl21⟩) (c21 : PySem.W.codeIn K cd21 "_law_wild" = true) (k21 : PySem.W.keepIn K (.ref f21) = true)
    (a22 : PySem.W.nsIn K mainGlobals "_law_glued" = some (some (.ref f22))) (l22 : K.lookup f22 = some ⟨oc22, od22, .func (PySem.W.fnOf "_law_glued" "_law_glued" (defArgs s__law_glued) (defBody s__law_glued) (defScope s__law_glued) .none kV22 dc22 pm22 an22 cd22 ct22), sl22⟩) (c22 : PySem.W.codeIn K cd22 "_law_glued" = true) (k22 : PySem.W.keepIn K (.ref f22) = true)
    (a23 : PySem.W.nsIn K mainGlobals "_law_trim" = some (some (.ref f23))) (l23 : K.lookup f23 = some ⟨oc23, od23, .func (PySem.W.fnOf "_law_trim" "_law_trim" (defArgs s__law_trim) (defBody s__law_trim) (defScope s__law_trim) .none kV23 dc23 pm23 an23 cd23 ct23), sl23⟩) (c23 : PySem.W.codeIn K cd23 "_law_trim" = true) (k23 : PySem.W.keepIn K (.ref f23) = true)
    (a24 : PySem.W.nsIn K mainGlobals "_law_row" = some (some (.ref f24))) (l24 : K.lookup f24 = some ⟨oc24, od24, .func (PySem.W.fnOf "_law_row" "_law_row" (defArgs s__law_row) (defBody s__law_row) (defScope s__law_row) .none kV24 dc24 pm24 an24 cd24 ct24), sl24⟩) (c24 : PySem.W.codeIn K cd24 "_law_row" = true) (k24 : PySem.W.keepIn K (.ref f24) = true)
    (a25 : PySem.W.nsIn K mainGlobals "_law_put" = some (some (.ref f25))) (l25 : K.lookup f25 = some ⟨oc25, od25, .func (PySem.W.fnOf "_law_put" "_law_put" (defArgs s__law_put) (defBody s__law_put) (defScope s__law_put) .none kV25 dc25 pm25 an25 cd25 ct25), sl25⟩) (c25 : PySem.W.codeIn K cd25 "_law_put" = true) (k25 : PySem.W.keepIn K (.ref f25) = true)
    (a26 : PySem.W.nsIn K mainGlobals "_law_added_up" = some (some (.ref f26))) (l26 : K.lookup f26 = some ⟨oc26, od26, .func (PySem.W.fnOf "_law_added_up" "_law_added_up" (defArgs s__law_added_up) (defBody s__law_added_up) (defScope s__law_added_up) .none kV26 dc26 pm26 an26 cd26 ct26), sl26⟩) (c26 : PySem.W.codeIn K cd26 "_law_added_up" = true) (k26 : PySem.W.keepIn K (.ref f26) = true)
    (a27 : PySem.W.nsIn K mainGlobals "_law_mark" = some (some (.ref f27))) (l27 : K.lookup f27 = some ⟨oc27, od27, .func (PySem.W.fnOf "_law_mark" "_law_mark" (defArgs s__law_mark) (defBody s__law_mark) (defScope s__law_mark) .none kV27 dc27 pm27 an27 cd27 ct27), sl27⟩) (c27 : PySem.W.codeIn K cd27 "_law_mark" = true) (k27 : PySem.W.keepIn K (.ref f27) = true)
    (a28 : PySem.W.nsIn K mainGlobals "_law_refused" = some (some (.ref f28))) (l28 : K.lookup f28 = some ⟨oc28, od28, .func (PySem.W.fnOf "_law_refused" "_law_refused" (defArgs s__law_refused) (defBody s__law_refused) (defScope s__law_refused) .none kV28 dc28 pm28 an28 cd28 ct28), sl28⟩) (c28 : PySem.W.codeIn K cd28 "_law_refused" = true) (k28 : PySem.W.keepIn K (.ref f28) = true)
    (a29 : PySem.W.nsIn K mainGlobals "law" = some (some (.ref f29))) (l29 : K.lookup f29 = some ⟨oc29, od29, .func (PySem.W.fnOf "law" "law" (defArgs s_law) (defBody s_law) (defScope s_law) .none kV29 dc29 pm29 an29 cd29 ct29), sl29⟩) (c29 : PySem.W.codeIn K cd29 "law" = true) (k29 : PySem.W.keepIn K (.ref f29) = true)
    (spC : PySem.W.specialIn K (.builtin "object.__class__") "__get__" = some (some (.builtin "getset_descriptor.__get__"))) (tkC : PySem.W.takesIn K (.builtin "object.__class__") = some true)
    (sRootError_RootError : PySem.W.subIn K (.ref CRootError) (.ref CRootError) = some true)
    (sRootError_NoRow : PySem.W.subIn K (.ref CRootError) (.ref CNoRow) = some false)
    (sRootError_NoText : PySem.W.subIn K (.ref CRootError) (.ref CNoText) = some false)
    (sRootError_NoName : PySem.W.subIn K (.ref CRootError) (.ref CNoName) = some false)
    (sNoRow_RootError : PySem.W.subIn K (.ref CNoRow) (.ref CRootError) = some true)
    (sNoRow_NoRow : PySem.W.subIn K (.ref CNoRow) (.ref CNoRow) = some true)
    (sNoRow_NoText : PySem.W.subIn K (.ref CNoRow) (.ref CNoText) = some false)
    (sNoRow_NoName : PySem.W.subIn K (.ref CNoRow) (.ref CNoName) = some false)
    (sNoText_RootError : PySem.W.subIn K (.ref CNoText) (.ref CRootError) = some true)
    (sNoText_NoRow : PySem.W.subIn K (.ref CNoText) (.ref CNoRow) = some false)
    (sNoText_NoText : PySem.W.subIn K (.ref CNoText) (.ref CNoText) = some true)
    (sNoText_NoName : PySem.W.subIn K (.ref CNoText) (.ref CNoName) = some false)
    (sNoName_RootError : PySem.W.subIn K (.ref CNoName) (.ref CRootError) = some true)
    (sNoName_NoRow : PySem.W.subIn K (.ref CNoName) (.ref CNoRow) = some false)
    (sNoName_NoText : PySem.W.subIn K (.ref CNoName) (.ref CNoText) = some false)
    (sNoName_NoName : PySem.W.subIn K (.ref CNoName) (.ref CNoName) = some true)
    {tk_FIGURES : Tok} (u_FIGURES : PySem.W.nsIn K mainGlobals "FIGURES" = some (some (.str "0123456789" tk_FIGURES)))
    {tk_LETTERS : Tok} (u_LETTERS : PySem.W.nsIn K mainGlobals "LETTERS" = some (some (.str "abcdefghijklmnopqrstuvwxyz" tk_LETTERS)))
    (z_ValueError : PySem.W.nsIn K mainGlobals "ValueError" = some none)
    (z_bool : PySem.W.nsIn K mainGlobals "bool" = some none)
    (z_int : PySem.W.nsIn K mainGlobals "int" = some none)
    (z_isinstance : PySem.W.nsIn K mainGlobals "isinstance" = some none)
    (z_len : PySem.W.nsIn K mainGlobals "len" = some none)
    (z_list : PySem.W.nsIn K mainGlobals "list" = some none)
    (z_max : PySem.W.nsIn K mainGlobals "max" = some none)
    (z_range : PySem.W.nsIn K mainGlobals "range" = some none)
    (z_str : PySem.W.nsIn K mainGlobals "str" = some none)
    : ∃ fd : FuncData, (∀ (s : Shared) (v : Value), BindsTo s fd ⟨[v], []⟩ [("_law_script", v)]) ∧ ∀ base : Heap, K.In base → base.Ns mainGlobals mg → FnOk l.prog w K mg base CX0 8 fa fd ["_law_script"] (sp_law K (fun _ => 0)) := by
  have e := hfa.symm.trans (PySem.W.mg_of X G a29)
  cases e
  have T : Txt K mg (fun s => if s = "RootError" then CRootError else if s = "NoRow" then CNoRow else if s = "NoText" then CNoText else if s = "NoName" then CNoName else if s = "Marks" then CMarks else 0) (fun i => [f0, f1, f2, f3, f4, f5, f6, f7, f8, f9, f10, f11, f12, f13, f14, f15, f16, f17, f18, f19, f20, f21, f22, f23, f24, f25, f26, f27, f28, fa].getD i 0) (fun i => [PySem.W.fnOf "__init__" "NoText.__init__" (defArgs s_NoText___init__) (defBody s_NoText___init__) (defScope s_NoText___init__) .none kV0 dc0 pm0 an0 cd0 ct0, PySem.W.fnOf "poly" "poly" (defArgs s_poly) (defBody s_poly) (defScope s_poly) .none kV1 dc1 pm1 an1 cd1 ct1, PySem.W.fnOf "run_of" "run_of" (defArgs s_run_of) (defBody s_run_of) (defScope s_run_of) .none kV2 dc2 pm2 an2 cd2 ct2, PySem.W.fnOf "marks_of" "marks_of" (defArgs s_marks_of) (defBody s_marks_of) (defScope s_marks_of) .none kV3 dc3 pm3 an3 cd3 ct3, PySem.W.fnOf "is_whole" "is_whole" (defArgs s_is_whole) (defBody s_is_whole) (defScope s_is_whole) .none kV4 dc4 pm4 an4 cd4 ct4, PySem.W.fnOf "__init__" "Marks.__init__" (defArgs s_Marks___init__) (defBody s_Marks___init__) (defScope s_Marks___init__) .none kV5 dc5 pm5 an5 cd5 ct5, PySem.W.fnOf "mark" "Marks.mark" (defArgs s_Marks_mark) (defBody s_Marks_mark) (defScope s_Marks_mark) .none kV6 dc6 pm6 an6 cd6 ct6, PySem.W.fnOf "place" "Marks.place" (defArgs s_Marks_place) (defBody s_Marks_place) (defScope s_Marks_place) .none kV7 dc7 pm7 an7 cd7 ct7, PySem.W.fnOf "taken" "Marks.taken" (defArgs s_Marks_taken) (defBody s_Marks_taken) (defScope s_Marks_taken) .none kV8 dc8 pm8 an8 cd8 ct8, PySem.W.fnOf "take" "Marks.take" (defArgs s_Marks_take) (defBody s_Marks_take) (defScope s_Marks_take) .none kV9 dc9 pm9 an9 cd9 ct9, PySem.W.fnOf "whole" "Marks.whole" (defArgs s_Marks_whole) (defBody s_Marks_whole) (defScope s_Marks_whole) .none kV10 dc10 pm10 an10 cd10 ct10, PySem.W.fnOf "exponent" "Marks.exponent" (defArgs s_Marks_exponent) (defBody s_Marks_exponent) (defScope s_Marks_exponent) .none kV11 dc11 pm11 an11 cd11 ct11, PySem.W.fnOf "last" "Marks.last" (defArgs s_Marks_last) (defBody s_Marks_last) (defScope s_Marks_last) .none kV12 dc12 pm12 an12 cd12 ct12, PySem.W.fnOf "add_term" "add_term" (defArgs s_add_term) (defBody s_add_term) (defScope s_add_term) .none kV13 dc13 pm13 an13 cd13 ct13, PySem.W.fnOf "poly_of" "poly_of" (defArgs s_poly_of) (defBody s_poly_of) (defScope s_poly_of) .none kV14 dc14 pm14 an14 cd14 ct14, PySem.W.fnOf "read_poly" "read_poly" (defArgs s_read_poly) (defBody s_read_poly) (defScope s_read_poly) .none kV15 dc15 pm15 an15 cd15 ct15, PySem.W.fnOf "_law_cell" "_law_cell" (defArgs s__law_cell) (defBody s__law_cell) (defScope s__law_cell) .none kV16 dc16 pm16 an16 cd16 ct16, PySem.W.fnOf "_law_whole" "_law_whole" (defArgs s__law_whole) (defBody s__law_whole) (defScope s__law_whole) .none kV17 dc17 pm17 an17 cd17 ct17, PySem.W.fnOf "_law_kind" "_law_kind" (defArgs s__law_kind) (defBody s__law_kind) (defScope s__law_kind) .none kV18 dc18 pm18 an18 cd18 ct18, PySem.W.fnOf "_law_small" "_law_small" (defArgs s__law_small) (defBody s__law_small) (defScope s__law_small) .none kV19 dc19 pm19 an19 cd19 ct19, PySem.W.fnOf "_law_next_in_poly" "_law_next_in_poly" (defArgs s__law_next_in_poly) (defBody s__law_next_in_poly) (defScope s__law_next_in_poly) .none kV20 dc20 pm20 an20 cd20 ct20, PySem.W.fnOf "_law_wild" "_law_wild" (defArgs s__law_wild) (defBody s__law_wild) (defScope s__law_wild) .none kV21 dc21 pm21 an21 cd21 ct21, PySem.W.fnOf "_law_glued" "_law_glued" (defArgs s__law_glued) (defBody s__law_glued) (defScope s__law_glued) .none kV22 dc22 pm22 an22 cd22 ct22, PySem.W.fnOf "_law_trim" "_law_trim" (defArgs s__law_trim) (defBody s__law_trim) (defScope s__law_trim) .none kV23 dc23 pm23 an23 cd23 ct23, PySem.W.fnOf "_law_row" "_law_row" (defArgs s__law_row) (defBody s__law_row) (defScope s__law_row) .none kV24 dc24 pm24 an24 cd24 ct24, PySem.W.fnOf "_law_put" "_law_put" (defArgs s__law_put) (defBody s__law_put) (defScope s__law_put) .none kV25 dc25 pm25 an25 cd25 ct25, PySem.W.fnOf "_law_added_up" "_law_added_up" (defArgs s__law_added_up) (defBody s__law_added_up) (defScope s__law_added_up) .none kV26 dc26 pm26 an26 cd26 ct26, PySem.W.fnOf "_law_mark" "_law_mark" (defArgs s__law_mark) (defBody s__law_mark) (defScope s__law_mark) .none kV27 dc27 pm27 an27 cd27 ct27, PySem.W.fnOf "_law_refused" "_law_refused" (defArgs s__law_refused) (defBody s__law_refused) (defScope s__law_refused) .none kV28 dc28 pm28 an28 cd28 ct28, PySem.W.fnOf "law" "law" (defArgs s_law) (defBody s_law) (defScope s_law) .none kV29 dc29 pm29 an29 cd29 ct29].getD i (PySem.W.fnOf "law" "law" (defArgs s_law) (defBody s_law) (defScope s_law) .none kV29 dc29 pm29 an29 cd29 ct29)) :=
    { u_FIGURES := ⟨_, PySem.W.mg_of X G u_FIGURES⟩, u_LETTERS := ⟨_, PySem.W.mg_of X G u_LETTERS⟩, z_ValueError := PySem.W.mg_none_of X G z_ValueError, z_bool := PySem.W.mg_none_of X G z_bool, z_int := PySem.W.mg_none_of X G z_int, z_isinstance := PySem.W.mg_none_of X G z_isinstance, z_len := PySem.W.mg_none_of X G z_len, z_list := PySem.W.mg_none_of X G z_list, z_max := PySem.W.mg_none_of X G z_max, z_range := PySem.W.mg_none_of X G z_range, z_str := PySem.W.mg_none_of X G z_str, F_NoText___init__ := fun_mk (st := s_NoText___init__) l0 c0 k0, oe_NoText := ⟨⟨_, _, _, _, _, _, _, _, _, _, _, _, _, _, _, lkNoText, rvNoText⟩, saNoText, bCNoText, tCNoText, kCNoText⟩, in_NoText := a0, ti_NoText := beq_iff_eq.mp i0, g_poly := PySem.W.mg_of X G a1, F_poly := fun_mk (st := s_poly) l1 c1 k1, g_run_of := PySem.W.mg_of X G a2, F_run_of := fun_mk (st := s_run_of) l2 c2 k2, g_marks_of := PySem.W.mg_of X G a3, F_marks_of := fun_mk (st := s_marks_of) l3 c3 k3, g_is_whole := PySem.W.mg_of X G a4, F_is_whole := fun_mk (st := s_is_whole) l4 c4 k4, F_Marks___init__ := fun_mk (st := s_Marks___init__) l5 c5 k5, mk_Marks := ⟨wCMarks, a5, i5, kCMarks⟩, F_Marks_mark := fun_mk (st := s_Marks_mark) l6 c6 k6, meth_Marks_mark := ⟨a6, i6, k6⟩, F_Marks_place := fun_mk (st := s_Marks_place) l7 c7 k7, meth_Marks_place := ⟨a7, i7, k7⟩, F_Marks_taken := fun_mk (st := s_Marks_taken) l8 c8 k8, meth_Marks_taken := ⟨a8, i8, k8⟩, F_Marks_take := fun_mk (st := s_Marks_take) l9 c9 k9, meth_Marks_take := ⟨a9, i9, k9⟩, F_Marks_whole := fun_mk (st := s_Marks_whole) l10 c10 k10, meth_Marks_whole := ⟨a10, i10, k10⟩, F_Marks_exponent := fun_mk (st := s_Marks_exponent) l11 c11 k11, meth_Marks_exponent := ⟨a11, i11, k11⟩, F_Marks_last := fun_mk (st := s_Marks_last) l12 c12 k12, meth_Marks_last := ⟨a12, i12, k12⟩, g_add_term := PySem.W.mg_of X G a13, F_add_term := fun_mk (st := s_add_term) l13 c13 k13, g_poly_of := PySem.W.mg_of X G a14, F_poly_of := fun_mk (st := s_poly_of) l14 c14 k14, g_read_poly := PySem.W.mg_of X G a15, F_read_poly := fun_mk (st := s_read_poly) l15 c15 k15, g__law_cell := PySem.W.mg_of X G a16, F__law_cell := fun_mk (st := s__law_cell) l16 c16 k16, g__law_whole := PySem.W.mg_of X G a17, F__law_whole := fun_mk (st := s__law_whole) l17 c17 k17, g__law_kind := PySem.W.mg_of X G a18, F__law_kind := fun_mk (st := s__law_kind) l18 c18 k18, g__law_small := PySem.W.mg_of X G a19, F__law_small := fun_mk (st := s__law_small) l19 c19 k19, g__law_next_in_poly := PySem.W.mg_of X G a20, F__law_next_in_poly := fun_mk (st := s__law_next_in_poly) l20 c20 k20, g__law_wild := PySem.W.mg_of X G a21, F__law_wild := fun_mk (st := s__law_wild) l21 c21 k21, g__law_glued := PySem.W.mg_of X G a22, F__law_glued := fun_mk (st := s__law_glued) l22 c22 k22, g__law_trim := PySem.W.mg_of X G a23, F__law_trim := fun_mk (st := s__law_trim) l23 c23 k23, g__law_row := PySem.W.mg_of X G a24, F__law_row := fun_mk (st := s__law_row) l24 c24 k24, g__law_put := PySem.W.mg_of X G a25, F__law_put := fun_mk (st := s__law_put) l25 c25 k25, g__law_added_up := PySem.W.mg_of X G a26, F__law_added_up := fun_mk (st := s__law_added_up) l26 c26 k26, g__law_mark := PySem.W.mg_of X G a27, F__law_mark := fun_mk (st := s__law_mark) l27 c27 k27, g__law_refused := PySem.W.mg_of X G a28, F__law_refused := fun_mk (st := s__law_refused) l28 c28 k28, g_law := PySem.W.mg_of X G a29, F_law := fun_mk (st := s_law) l29 c29 k29, q_RootError := PySem.W.mg_of X G aCRootError, e_RootError := ⟨PySem.W.mg_of X G aCRootError, xCRootError, kCRootError, bCRootError, tCRootError⟩, q_NoRow := PySem.W.mg_of X G aCNoRow, e_NoRow := ⟨PySem.W.mg_of X G aCNoRow, xCNoRow, kCNoRow, bCNoRow, tCNoRow⟩, q_NoText := PySem.W.mg_of X G aCNoText, q_NoName := PySem.W.mg_of X G aCNoName, q_Marks := PySem.W.mg_of X G aCMarks, cls_Marks := ⟨pCMarks, hCMarks, oCMarks, yCMarks⟩, ex := { cl_Marks := ⟨pCMarks, hCMarks, oCMarks, yCMarks⟩, is_Marks := ⟨lCMarks, spC, tkC, mCMarks⟩, n_Marks_depth := nMarks_depth, n_Marks_row := nMarks_row, n_Marks_spot := nMarks_spot, n_NoText_at := nNoText_at, v_RootError := kit_ve vCRootError, c_RootError := ⟨gCRootError, nCRootError, bCRootError, hCRootError, lCRootError, spC, tkC, mCRootError⟩, m_RootError_RootError := PySem.W.exm_ref bCRootError hCRootError tCRootError sRootError_RootError, i_RootError_RootError := kit_ref hCRootError tCRootError sRootError_RootError sRootError_RootError, m_RootError_NoRow := PySem.W.exm_ref bCNoRow hCNoRow tCNoRow sRootError_NoRow, i_RootError_NoRow := kit_ref hCNoRow tCNoRow sNoRow_NoRow sRootError_NoRow, m_RootError_NoText := PySem.W.exm_ref bCNoText hCNoText tCNoText sRootError_NoText, i_RootError_NoText := kit_ref hCNoText tCNoText sNoText_NoText sRootError_NoText, m_RootError_NoName := PySem.W.exm_ref bCNoName hCNoName tCNoName sRootError_NoName, i_RootError_NoName := kit_ref hCNoName tCNoName sNoName_NoName sRootError_NoName, v_NoRow := kit_ve vCNoRow, c_NoRow := ⟨gCNoRow, nCNoRow, bCNoRow, hCNoRow, lCNoRow, spC, tkC, mCNoRow⟩, m_NoRow_RootError := PySem.W.exm_ref bCRootError hCRootError tCRootError sNoRow_RootError, i_NoRow_RootError := kit_ref hCRootError tCRootError sRootError_RootError sNoRow_RootError, m_NoRow_NoRow := PySem.W.exm_ref bCNoRow hCNoRow tCNoRow sNoRow_NoRow, i_NoRow_NoRow := kit_ref hCNoRow tCNoRow sNoRow_NoRow sNoRow_NoRow, m_NoRow_NoText := PySem.W.exm_ref bCNoText hCNoText tCNoText sNoRow_NoText, i_NoRow_NoText := kit_ref hCNoText tCNoText sNoText_NoText sNoRow_NoText, m_NoRow_NoName := PySem.W.exm_ref bCNoName hCNoName tCNoName sNoRow_NoName, i_NoRow_NoName := kit_ref hCNoName tCNoName sNoName_NoName sNoRow_NoName, v_NoText := kit_ve vCNoText, oe_NoText := ⟨⟨_, _, _, _, _, _, _, _, _, _, _, _, _, _, _, lkNoText, rvNoText⟩, saNoText, bCNoText, tCNoText, kCNoText⟩, c_NoText := ⟨gCNoText, nCNoText, bCNoText, hCNoText, lCNoText, spC, tkC, mCNoText⟩, m_NoText_RootError := PySem.W.exm_ref bCRootError hCRootError tCRootError sNoText_RootError, i_NoText_RootError := kit_ref hCRootError tCRootError sRootError_RootError sNoText_RootError, m_NoText_NoRow := PySem.W.exm_ref bCNoRow hCNoRow tCNoRow sNoText_NoRow, i_NoText_NoRow := kit_ref hCNoRow tCNoRow sNoRow_NoRow sNoText_NoRow, m_NoText_NoText := PySem.W.exm_ref bCNoText hCNoText tCNoText sNoText_NoText, i_NoText_NoText := kit_ref hCNoText tCNoText sNoText_NoText sNoText_NoText, m_NoText_NoName := PySem.W.exm_ref bCNoName hCNoName tCNoName sNoText_NoName, i_NoText_NoName := kit_ref hCNoName tCNoName sNoName_NoName sNoText_NoName, v_NoName := kit_ve vCNoName, m_NoName_RootError := PySem.W.exm_ref bCRootError hCRootError tCRootError sNoName_RootError, i_NoName_RootError := kit_ref hCRootError tCRootError sRootError_RootError sNoName_RootError, m_NoName_NoRow := PySem.W.exm_ref bCNoRow hCNoRow tCNoRow sNoName_NoRow, i_NoName_NoRow := kit_ref hCNoRow tCNoRow sNoRow_NoRow sNoName_NoRow, m_NoName_NoText := PySem.W.exm_ref bCNoText hCNoText tCNoText sNoName_NoText, i_NoName_NoText := kit_ref hCNoText tCNoText sNoText_NoText sNoName_NoText, m_NoName_NoName := PySem.W.exm_ref bCNoName hCNoName tCNoName sNoName_NoName, i_NoName_NoName := kit_ref hCNoName tCNoName sNoName_NoName sNoName_NoName } }
  exact ⟨PySem.W.fnOf "law" "law" (defArgs s_law) (defBody s_law) (defScope s_law) .none kV29 dc29 pm29 an29 cd29 ct29, fun s v => .of_eq rfl, fun base _ _ => ok_law T⟩
end RP
open PySem PySem.W PyProof.Rows
set_option maxHeartbeats 0 in
theorem PySem.Challenge.cw_rootspan_k67_no_polynomial_holds : PySem.Challenge.rw_rootspan_k67_no_polynomial.Holds := by
  w_on; o_law; k_head; (case hw => w_witness2)
  k_fill
  refine L2.walk_of (l := PySem.Challenge.rw_rootspan_k67_no_polynomial) (n := 63) (k := 8) (x := "_law_script") (CX := fun _ => L2.CX0) (sp := fun w => RP.sp_law _ (fun _ => 0)) rfl (by decide) rfl ⟨rfl, by decide, by decide⟩ (fun w h Y => PySem.W.kIn_of Y) ?F (fun _ _ a ns hl _ hS => ⟨a, ns, rfl, hS, hl, fun _ => rfl⟩) (fun _ _ _ _ _ h => h)
  case F =>
    intro w mg fa h KX G hmg
    refine' RP.all_mk KX G hmg ?aCMarks ?kCMarks ?pCMarks ?hCMarks ?oCMarks ?yCMarks ?wCMarks ?lCMarks ?mCMarks ?aCRootError ?kCRootError ?bCRootError ?tCRootError ?hCRootError ?vCRootError ?xCRootError ?gCRootError ?nCRootError ?lCRootError ?mCRootError ?aCNoRow ?kCNoRow ?bCNoRow ?tCNoRow ?hCNoRow ?vCNoRow ?xCNoRow ?gCNoRow ?nCNoRow ?lCNoRow ?mCNoRow ?aCNoText ?kCNoText ?bCNoText ?tCNoText ?hCNoText ?vCNoText ?gCNoText ?nCNoText ?lCNoText ?mCNoText ?lkNoText ?rvNoText ?saNoText ?aCNoName ?kCNoName ?bCNoName ?tCNoName ?hCNoName ?vCNoName ?nMarks_depth ?nMarks_row ?nMarks_spot ?nNoText_at ?a0 ?i0 ?l0 ?c0 ?k0 ?a1 ?l1 ?c1 ?k1 ?a2 ?l2 ?c2 ?k2 ?a3 ?l3 ?c3 ?k3 ?a4 ?l4 ?c4 ?k4 ?a5 ?i5 ?l5 ?c5 ?k5 ?a6 ?i6 ?l6 ?c6 ?k6 ?a7 ?i7 ?l7 ?c7 ?k7 ?a8 ?i8 ?l8 ?c8 ?k8 ?a9 ?i9 ?l9 ?c9 ?k9 ?a10 ?i10 ?l10 ?c10 ?k10 ?a11 ?i11 ?l11 ?c11 ?k11 ?a12 ?i12 ?l12 ?c12 ?k12 ?a13 ?l13 ?c13 ?k13 ?a14 ?l14 ?c14 ?k14 ?a15 ?l15 ?c15 ?k15 ?a16 ?l16 ?c16 ?k16 ?a17 ?l17 ?c17 ?k17 ?a18 ?l18 ?c18 ?k18 ?a19 ?l19 ?c19 ?k19 ?a20 ?l20 ?c20 ?k20 ?a21 ?l21 ?c21 ?k21 ?a22 ?l22 ?c22 ?k22 ?a23 ?l23 ?c23 ?k23 ?a24 ?l24 ?c24 ?k24 ?a25 ?l25 ?c25 ?k25 ?a26 ?l26 ?c26 ?k26 ?a27 ?l27 ?c27 ?k27 ?a28 ?l28 ?c28 ?k28 ?a29 ?l29 ?c29 ?k29 ?spC ?tkC ?sRootError_RootError ?sRootError_NoRow ?sRootError_NoText ?sRootError_NoName ?sNoRow_RootError ?sNoRow_NoRow ?sNoRow_NoText ?sNoRow_NoName ?sNoText_RootError ?sNoText_NoRow ?sNoText_NoText ?sNoText_NoName ?sNoName_RootError ?sNoName_NoRow ?sNoName_NoText ?sNoName_NoName ?u_FIGURES ?u_LETTERS ?z_ValueError ?z_bool ?z_int ?z_isinstance ?z_len ?z_list ?z_max ?z_range ?z_str
    (case aCMarks => k_is); (case kCMarks => k_is); (case pCMarks => k_is); (case hCMarks => k_is); (case oCMarks => k_is); (case yCMarks => k_is); (case wCMarks => k_is); (case lCMarks => k_is); (case mCMarks => k_is); (case aCRootError => k_is); (case kCRootError => k_is); (case bCRootError => k_is); (case tCRootError => k_is); (case hCRootError => k_is); (case vCRootError => k_is); (case xCRootError => k_exc); (case gCRootError => k_is); (case nCRootError => k_is); (case lCRootError => k_is); (case mCRootError => k_is); (case aCNoRow => k_is); (case kCNoRow => k_is); (case bCNoRow => k_is); (case tCNoRow => k_is); (case hCNoRow => k_is); (case vCNoRow => k_is); (case xCNoRow => k_exc); (case gCNoRow => k_is); (case nCNoRow => k_is); (case lCNoRow => k_is); (case mCNoRow => k_is); (case aCNoText => k_is); (case kCNoText => k_is); (case bCNoText => k_is); (case tCNoText => k_is); (case hCNoText => k_is); (case vCNoText => k_is); (case gCNoText => k_is); (case nCNoText => k_is); (case lCNoText => k_is); (case mCNoText => k_is); (case lkNoText => k_is); (case rvNoText => first | rfl | decide); (case saNoText => k_is); (case aCNoName => k_is); (case kCNoName => k_is); (case bCNoName => k_is); (case tCNoName => k_is); (case hCNoName => k_is); (case vCNoName => k_is); (case nMarks_depth => k_is); (case nMarks_row => k_is); (case nMarks_spot => k_is); (case nNoText_at => k_is); (case a0 => k_is); (case i0 => k_is); (case l0 => k_is); (case c0 => k_is); (case k0 => k_is); (case a1 => k_is); (case l1 => k_is); (case c1 => k_is); (case k1 => k_is); (case a2 => k_is); (case l2 => k_is); (case c2 => k_is); (case k2 => k_is); (case a3 => k_is); (case l3 => k_is); (case c3 => k_is); (case k3 => k_is); (case a4 => k_is); (case l4 => k_is); (case c4 => k_is); (case k4 => k_is); (case a5 => k_is); (case i5 => k_is); (case l5 => k_is); (case c5 => k_is); (case k5 => k_is); (case a6 => k_is); (case i6 => k_is); (case l6 => k_is); (case c6 => k_is); (case k6 => k_is); (case a7 => k_is); (case i7 => k_is); (case l7 => k_is); (case c7 => k_is); (case k7 => k_is); (case a8 => k_is); (case i8 => k_is); (case l8 => k_is); (case c8 => k_is); (case k8 => k_is); (case a9 => k_is); (case i9 => k_is); (case l9 => k_is); (case c9 => k_is); (case k9 => k_is); (case a10 => k_is); (case i10 => k_is); (case l10 => k_is); (case c10 => k_is); (case k10 => k_is); (case a11 => k_is); (case i11 => k_is); (case l11 => k_is); (case c11 => k_is); (case k11 => k_is); (case a12 => k_is); (case i12 => k_is); (case l12 => k_is); (case c12 => k_is); (case k12 => k_is); (case a13 => k_is); (case l13 => k_is); (case c13 => k_is); (case k13 => k_is); (case a14 => k_is); (case l14 => k_is); (case c14 => k_is); (case k14 => k_is); (case a15 => k_is); (case l15 => k_is); (case c15 => k_is); (case k15 => k_is); (case a16 => k_is); (case l16 => k_is); (case c16 => k_is); (case k16 => k_is); (case a17 => k_is); (case l17 => k_is); (case c17 => k_is); (case k17 => k_is); (case a18 => k_is); (case l18 => k_is); (case c18 => k_is); (case k18 => k_is); (case a19 => k_is); (case l19 => k_is); (case c19 => k_is); (case k19 => k_is); (case a20 => k_is); (case l20 => k_is); (case c20 => k_is); (case k20 => k_is); (case a21 => k_is); (case l21 => k_is); (case c21 => k_is); (case k21 => k_is); (case a22 => k_is); (case l22 => k_is); (case c22 => k_is); (case k22 => k_is); (case a23 => k_is); (case l23 => k_is); (case c23 => k_is); (case k23 => k_is); (case a24 => k_is); (case l24 => k_is); (case c24 => k_is); (case k24 => k_is); (case a25 => k_is); (case l25 => k_is); (case c25 => k_is); (case k25 => k_is); (case a26 => k_is); (case l26 => k_is); (case c26 => k_is); (case k26 => k_is); (case a27 => k_is); (case l27 => k_is); (case c27 => k_is); (case k27 => k_is); (case a28 => k_is); (case l28 => k_is); (case c28 => k_is); (case k28 => k_is); (case a29 => k_is); (case l29 => k_is); (case c29 => k_is); (case k29 => k_is); (case spC => first | k_is | rfl | decide +kernel); (case tkC => first | k_is | rfl | decide +kernel); (case sRootError_RootError => first | rfl | k_is); (case sRootError_NoRow => first | rfl | k_is); (case sRootError_NoText => first | rfl | k_is); (case sRootError_NoName => first | rfl | k_is); (case sNoRow_RootError => first | rfl | k_is); (case sNoRow_NoRow => first | rfl | k_is); (case sNoRow_NoText => first | rfl | k_is); (case sNoRow_NoName => first | rfl | k_is); (case sNoText_RootError => first | rfl | k_is); (case sNoText_NoRow => first | rfl | k_is); (case sNoText_NoText => first | rfl | k_is); (case sNoText_NoName => first | rfl | k_is); (case sNoName_RootError => first | rfl | k_is); (case sNoName_NoRow => first | rfl | k_is); (case sNoName_NoText => first | rfl | k_is); (case sNoName_NoName => first | rfl | k_is); (case u_FIGURES => k_is); (case u_LETTERS => k_is); (case z_ValueError => k_is); (case z_bool => k_is); (case z_int => k_is); (case z_isinstance => k_is); (case z_len => k_is); (case z_list => k_is); (case z_max => k_is); (case z_range => k_is); (case z_str => k_is)

import PyProof.Rows.All
import Wide.All
import OpenK.AllK
import Wide.FinOn
import HandS.ForMost
import HandS.Exc
import HandS.TryOnly
import HandS.ExcOwn
import HandS.WordsExc
import HandS.Wide
import HandS.IsInst
import HandS.Conv
import HandS.RevRange
import HandS.Evl
import HandS.More
import HandS.Style
import HandS.Defaults
import HandS.Deep
import PySem.Challenge.RW_rootspan_k24_whole_counts
set_option Elab.async false
set_option linter.all false
set_option maxRecDepth 100000
set_option maxHeartbeats 4000000
set_option exponentiation.threshold 100000
set_option linter.all false
set_option maxRecDepth 100000
set_option maxHeartbeats 4000000
namespace RB
open PySem PySem.Spec PyProof.Rows L2
open Evl (Ex rLenS rListS rMax2 tCut pss_cut)

/-! ### the readings' names -/
def rIAdd : R2 := rI0 fun i j => .int (i + j)
def rISub : R2 := rI0 fun i j => .int (i - j)
/-- * of factors that are not too wide, or of any one and a small one -/
def CMulX (i j : Int) : Prop := CMulW i j ∨ j.natAbs < 2 ^ 60
def rMul : R2 := rI CMulX fun i j => .int (i * j)
def rMod : R2 := rI (fun _ j => j ≠ 0) fun i j => .int (i.fmod j)
def CDivA (_ j : Int) : Prop := j ≠ 0 ∧ j.natAbs.log2 < 9000
/-- // by a great divisor, too, where the two are nearly as long -/
def CDivX (i j : Int) : Prop := j ≠ 0 ∧ (j.natAbs.log2 < 9000 ∨ i.natAbs.log2 ≤ j.natAbs.log2 + 4400)
theorem noPylongX {i j : Int} (h : CDivX i j) : Builtin.divisionGoesByPylong i j = false := by
  rcases h.2 with h2 | h2
  · exact PyProof.noPylong_of_log2 h2
  · have hj : (j == 0) = false := by
      rw [beq_eq_false_iff_ne]; exact h.1
    have key : ¬ ((if i == 0 then 0 else i.natAbs.log2 / 30 + 1) > (if j == 0 then 0 else j.natAbs.log2 / 30 + 1) + 150) := by
      rw [hj]
      split
      · omega
      · simp only [Bool.false_eq_true, if_false]
        omega
    show (_ && decide ((if i == 0 then 0 else i.natAbs.log2 / 30 + 1) > (if j == 0 then 0 else j.natAbs.log2 / 30 + 1) + 150)) = false
    rw [decide_eq_false key, Bool.and_false]
def rDiv : R2 := rI CDivX fun i j => .int (i.fdiv j)
def rPow : R2 := rI CPow fun i j => .int (i ^ j.toNat)
def rLt : R2 := rI0 fun i j => .bl (decide (i < j))
def rLe : R2 := rI0 fun i j => .bl (decide (i ≤ j))
def rGt : R2 := rI0 fun i j => .bl (decide (j < i))
def rGe : R2 := rI0 fun i j => .bl (decide (j ≤ i))
def rIsN : R2 := fun x y H Q => y = .non ∧ Q (.bl (decide (x = .non))) H
def rNotN : R2 := fun x y H Q => y = .non ∧ Q (.bl (!decide (x = .non))) H
def rNeg : V → Hp → VK → Prop := rU fun i => .int (-i)
def rAbs : List V → Hp → VK → Prop := fun xs H Q => ∃ i, xs = [.int i] ∧ Q (.int (if i < 0 then -i else i)) H
def rMin2 : List V → Hp → VK → Prop := fun xs H Q => ∃ i j, xs = [.int i, .int j] ∧ Q (.int (if j < i then j else i)) H
def rInt1 : List V → Hp → VK → Prop := fun xs H Q => (∃ i, xs = [.int i] ∧ Q (.int i) H) ∨ ∃ k, xs = [.bl k] ∧ Q (.int (if k then 1 else 0)) H
def rAddS : R2 := fun x y H Q => ∃ i j, x = .str i ∧ y = .str j ∧ i.length + j.length ≤ sizeLine ∧ Q (.str (i ++ j)) H
def rLenStr : List V → Hp → VK → Prop := fun xs H Q => ∃ z, xs = [.str z] ∧ z.length ≤ sizeLine ∧ Q (.int z.length) H
def rStrInt : List V → Hp → VK → Prop := fun xs H Q => ∃ i, xs = [.int i] ∧ i.natAbs.log2 < 1920 ∧ Q (.str (toString i)) H
def rInsert : V → List V → Hp → VK → Prop := fun x vs H Q => ∃ (l : Addr) (xs : List V) (i : Int) (y : V), x = .ref l ∧ vs = [.int i, y] ∧ H l = some (.lst xs) ∧ xs.length < sizeLine ∧ 0 ≤ i ∧ i < 2 ^ 63 ∧ Q .non (upd H l (.lst (xs.take i.toNat ++ [y] ++ xs.drop i.toNat)))
section
variable {X : Cx}
theorem op_fdivA : OpR X (binaryOp .FloorDiv) rDiv := opI fun i j _ _ _ _ _ hc q => floordiv_int hc.1 q (.inl (noPylongX hc))
theorem op_mulX : OpR X (binaryOp .Mult) rMul := opI fun _ _ _ _ _ _ _ hc q => mul_int q (hc.elim CMulW.ok fun h => IntMulOk.of_right (intBits_le_64 (by omega) (by omega)))
theorem op_isN1 : OpR X (compareOp .Is) rIsN := op_isN
theorem op_notN1 : OpR X (compareOp .IsNot) rNotN := op_notN
end

/-! ### heaps -/
def Exb (l : Addr) (H H' : Hp) : Prop := ∀ a, a ≠ l → ∀ o, H a = some o → H' a = some o
theorem _root_.Evl.Ex.mutb {H0 H H' : Hp} {l : Addr} (e : Ex H0 H) (b : Exb l H H') (f : H0 l = none) : Ex H0 H' := fun a o h => b a (ne_of_none h f) o (e a o h)
theorem Exb.trans {l : Addr} {H H1 H2 : Hp} (a : Exb l H H1) (b : Exb l H1 H2) : Exb l H H2 := fun c n o h => b c n o (a c n o h)
theorem Exb.ex {l : Addr} {H H1 H2 : Hp} (a : Exb l H H1) (b : Ex H1 H2) : Exb l H H2 := fun c n o h => b c o (a c n o h)
theorem _root_.Evl.Ex.exb {l : Addr} {H H1 H2 : Hp} (a : Ex H H1) (b : Exb l H1 H2) : Exb l H H2 := fun c n o h => b c n o (a c o h)
/-- a list laid anew -/
theorem newL {H : Hp} {xs : List V} {Q : VK} (k : ∀ p H', H p = none → Ex H H' → H' p = some (.lst xs) → Q (.ref p) H') : ∀ p, H p = none → Q (.ref p) (upd H p (.lst xs)) :=
  fun p hp => k p _ hp (Evl.Ex.new hp) upd_same
theorem newT {H : Hp} {xs : List V} {Q : VK} (k : ∀ p H', H p = none → Ex H H' → H' p = some (.tup xs) → Q (.ref p) H') : ∀ p, H p = none → Q (.ref p) (upd H p (.tup xs)) :=
  fun p hp => k p _ hp (Evl.Ex.new hp) upd_same
/-- an object changed -/
theorem mutL {H : Hp} {l : Addr} {o : HO} {G : Hp → Prop} (k : ∀ H', Exb l H H' → H' l = some o → G H') : G (upd H l o) :=
  k _ (fun a n o h => by rw [upd_ne n]; exact h) upd_same
theorem _root_.Evl.Ex.free {H H' : Hp} (e : Ex H H') {p : Addr} (h : H' p = none) : H p = none := Evl.fresh_back e h
theorem _root_.Evl.Ex.l {K : PySem.W.Frag} {H H' : Hp} {a : Addr} {xs : List V} (e : Ex H H') (h : SqL K H a xs) : SqL K H' a xs := Evl.ex_l e h
theorem SqL.inj {K : PySem.W.Frag} {H : Hp} {a : Addr} {xs : List V} (h : H a = some (.lst xs)) : SqL K H a xs := .inl (.inl h)

def LstK (Q : VK) : List V → Hp → Prop := fun xs H1 => xs.length ≤ sizeLine ∧ ∀ p, H1 p = none → Q (.ref p) (upd H1 p (.lst xs))
def TupK (Q : VK) : List V → Hp → Prop := fun xs H1 => xs.length ≤ sizeLine ∧ ∀ p, H1 p = none → Q (.ref p) (upd H1 p (.tup xs))
theorem small0 {n : Nat} (h : n ≤ 16777216) : n ≤ sizeLine := by rw [sizeLine_eq]; exact h
/-! ### readings, step by step -/
section
variable {K : PySem.W.Frag} {σ : L2.St} {H : Hp} {Q : VK} {D : Ends} {ta tb te to ti : TE} {t u : TS} {tt t1 t2 : TT} {g : TG}
theorem r_seq (h : t { D with nx := u D } σ H) : tSeq t u D σ H := h
theorem r_next (h : D.nx σ H) : tNext D σ H := h
theorem r_var {i : Nat} {v : V} (h : σ[i]? = some (some v)) (q : Q v H) : tVar i σ H Q := ⟨v, h, q⟩
theorem r_c {v : V} (q : Q v H) : tC v σ H Q := q
theorem r_op {r : R2} (h : ta σ H fun x H1 => tb σ H1 fun y H2 => r x y H2 Q) : tOp r ta tb σ H Q := h
theorem r_un {r : V → Hp → VK → Prop} (h : ta σ H fun x H1 => r x H1 Q) : tUn r ta σ H Q := h
theorem r_add {i j : Int} (q : Q (.int (i + j)) H) : rIAdd (.int i) (.int j) H Q := ⟨i, j, rfl, rfl, q⟩
theorem r_sub {i j : Int} (q : Q (.int (i - j)) H) : rISub (.int i) (.int j) H Q := ⟨i, j, rfl, rfl, q⟩
theorem r_mul {i j : Int} (c : CMulW i j) (q : Q (.int (i * j)) H) : rMul (.int i) (.int j) H Q := ⟨i, j, rfl, rfl, .inl c, q⟩
theorem r_mulR {i j : Int} (c : j.natAbs < 2 ^ 60) (q : Q (.int (i * j)) H) : rMul (.int i) (.int j) H Q := ⟨i, j, rfl, rfl, .inr c, q⟩
theorem r_mod {i j : Int} (c : j ≠ 0) (q : Q (.int (i.fmod j)) H) : rMod (.int i) (.int j) H Q := ⟨i, j, rfl, rfl, c, q⟩
theorem r_div {i j : Int} (c : CDivA i j) (q : Q (.int (i.fdiv j)) H) : rDiv (.int i) (.int j) H Q := ⟨i, j, rfl, rfl, ⟨c.1, .inl c.2⟩, q⟩
theorem r_divX {i j : Int} (c : CDivX i j) (q : Q (.int (i.fdiv j)) H) : rDiv (.int i) (.int j) H Q := ⟨i, j, rfl, rfl, c, q⟩
theorem r_pow {i j : Int} (c : CPow i j) (q : Q (.int (i ^ j.toNat)) H) : rPow (.int i) (.int j) H Q := ⟨i, j, rfl, rfl, c, q⟩
theorem r_lt {i j : Int} (q : Q (.bl (decide (i < j))) H) : rLt (.int i) (.int j) H Q := ⟨i, j, rfl, rfl, q⟩
theorem r_le {i j : Int} (q : Q (.bl (decide (i ≤ j))) H) : rLe (.int i) (.int j) H Q := ⟨i, j, rfl, rfl, q⟩
theorem r_gt {i j : Int} (q : Q (.bl (decide (j < i))) H) : rGt (.int i) (.int j) H Q := ⟨i, j, rfl, rfl, q⟩
theorem r_ge {i j : Int} (q : Q (.bl (decide (j ≤ i))) H) : rGe (.int i) (.int j) H Q := ⟨i, j, rfl, rfl, q⟩
theorem r_neg {i : Int} (q : Q (.int (-i)) H) : rNeg (.int i) H Q := ⟨i, rfl, q⟩
theorem d_int (i j : Int) : decide (V.int i = V.int j) = decide (i = j) := by
  by_cases h : i = j
  · rw [h]; simp
  · rw [decide_eq_false h, decide_eq_false (fun z => h (V.int.inj z))]
theorem d_bl (i j : Bool) : decide (V.bl i = V.bl j) = decide (i = j) := by
  by_cases h : i = j
  · rw [h]; simp
  · rw [decide_eq_false h, decide_eq_false (fun z => h (V.bl.inj z))]
theorem d_str (i j : Str) : decide (V.str i = V.str j) = decide (i = j) := by
  by_cases h : i = j
  · rw [h]; simp
  · rw [decide_eq_false h, decide_eq_false (fun z => h (V.str.inj z))]
theorem r_eqI {i j : Int} (q : Q (.bl (decide (i = j))) H) : rEq (.int i) (.int j) H Q := ⟨rfl, by rw [d_int]; exact q⟩
theorem r_neI {i j : Int} (q : Q (.bl (!decide (i = j))) H) : rNe (.int i) (.int j) H Q := ⟨rfl, by rw [d_int]; exact q⟩
theorem r_eqB {i j : Bool} (q : Q (.bl (decide (i = j))) H) : rEq (.bl i) (.bl j) H Q := ⟨rfl, by rw [d_bl]; exact q⟩
theorem r_eqS {i j : Str} (q : Q (.bl (decide (i = j))) H) : rEq (.str i) (.str j) H Q := ⟨rfl, by rw [d_str]; exact q⟩
theorem r_neS {i j : Str} (q : Q (.bl (!decide (i = j))) H) : rNe (.str i) (.str j) H Q := ⟨rfl, by rw [d_str]; exact q⟩
theorem r_isN {x : V} (q : Q (.bl (decide (x = .non))) H) : rIsN x .non H Q := ⟨rfl, q⟩
theorem r_notN {x : V} (q : Q (.bl (!decide (x = .non))) H) : rNotN x .non H Q := ⟨rfl, q⟩
theorem r_ixL {p : Addr} {i : Int} {xs : List V} {v : V} (h : SqL K H p xs) (a : atI xs i = some v) (q : Q v H) : rIxL K (.ref p) (.int i) H Q := ⟨p, xs, i, v, rfl, rfl, h, a, q⟩
theorem r_ixT {p : Addr} {i : Int} {xs : List V} {v : V} (h : SqT K H p xs) (a : atI xs i = some v) (q : Q v H) : rIxT K (.ref p) (.int i) H Q := ⟨p, xs, i, v, rfl, rfl, h, a, q⟩
theorem r_cons {ta : TE} {tr : TA} {Q : List V → Hp → Prop} (h : ta σ H fun x H1 => tr σ H1 fun xs H2 => Q (x :: xs) H2) : tCons ta tr σ H Q := h
theorem r_nil {Q : List V → Hp → Prop} (h : Q [] H) : tNil σ H Q := h
theorem r_cb {r : List V → Hp → VK → Prop} {ta : TA} (h : ta σ H fun vs H1 => r vs H1 Q) : tCB r ta σ H Q := h
theorem r_abs {i : Int} (q : Q (.int (if i < 0 then -i else i)) H) : rAbs [.int i] H Q := ⟨i, rfl, q⟩
theorem r_max2 {i j : Int} (q : Q (.int (if j > i then j else i)) H) : rMax2 [.int i, .int j] H Q := ⟨i, j, rfl, q⟩
theorem r_min2 {i j : Int} (q : Q (.int (if j < i then j else i)) H) : rMin2 [.int i, .int j] H Q := ⟨i, j, rfl, q⟩
theorem r_len {p : Addr} {xs : List V} (h : SqL K H p xs) (q : Q (.int xs.length) H) : rLenS K [.ref p] H Q := ⟨p, xs, rfl, .inl h, q⟩
theorem r_lenT {p : Addr} {xs : List V} (h : SqT K H p xs) (q : Q (.int xs.length) H) : rLenS K [.ref p] H Q := ⟨p, xs, rfl, .inr h, q⟩
theorem r_list {p : Addr} {xs : List V} (h : SqL K H p xs) (q : ∀ l H', H l = none → Ex H H' → H' l = some (.lst xs) → Q (.ref l) H') : rListS K [.ref p] H Q := ⟨p, xs, rfl, .inl h, newL q⟩
theorem r_intI {i : Int} (q : Q (.int i) H) : rInt1 [.int i] H Q := .inl ⟨i, rfl, q⟩
theorem r_intB {b : Bool} (q : Q (.int (if b then 1 else 0)) H) : rInt1 [.bl b] H Q := .inr ⟨b, rfl, q⟩
theorem r_call {sp : Sp} {E : XK} {ta : TA} (h : ta σ H fun vs H1 => sp vs H1 Q E) : tCall sp [] E ta σ H Q := by
  show ta σ H fun vs H1 => sp (vs ++ []) H1 Q E
  have e : (fun vs H1 => sp (vs ++ []) H1 Q E) = fun (vs : List V) H1 => sp vs H1 Q E := by
    funext vs H1; rw [List.append_nil]
  rw [e]; exact h
theorem r_lst {ta : TA} (h : ta σ H (LstK Q)) : tLst ta σ H Q := h
theorem r_lstK {xs : List V} (k : ∀ p H', H p = none → Ex H H' → H' p = some (.lst xs) → Q (.ref p) H') (hz : xs.length ≤ 16777216 := by simp) : LstK Q xs H := ⟨small0 hz, newL k⟩
theorem r_tup {ta : TA} (h : ta σ H (TupK Q)) : tTup ta σ H Q := h
theorem r_tupK {xs : List V} (k : ∀ p H', H p = none → Ex H H' → H' p = some (.tup xs) → Q (.ref p) H') (hz : xs.length ≤ 16777216 := by simp) : TupK Q xs H := ⟨small0 hz, newT k⟩
theorem r_asg (h : te σ H fun x H1 => g x σ H1 D.nx) : tAsg te g D σ H := h
theorem r_gn {i : Nat} {v : V} {Q : L2.St → Hp → Prop} (h : Q (σ.set i (some v)) H) : gName i v σ H Q := h
theorem r_ret (h : te σ H D.rt) : tRet te D σ H := h
theorem r_drop (h : te σ H fun _ H1 => D.nx σ H1) : tDrop te D σ H := h
theorem r_ifS (h : tt σ H fun b H1 => if b = true then t D σ H1 else u D σ H1) : tIfS tt t u D σ H := h
theorem r_test {Q : Bool → Hp → Prop} (h : te σ H fun x H1 => ∃ k, x = .bl k ∧ Q k H1) : tTest te σ H Q := h
theorem r_B {Q : Bool → Hp → Prop} (h : te σ H fun x H1 => ∃ k, x = .bl k ∧ Q k H1) : tB te σ H Q := h
theorem r_bl {k : Bool} {Q : Bool → Prop} (h : Q k) : ∃ k', V.bl k = .bl k' ∧ Q k' := ⟨k, rfl, h⟩
theorem r_and {Q : Bool → Hp → Prop} (h : t1 σ H fun c H1 => if c = true then t2 σ H1 Q else Q false H1) : tAnd t1 t2 σ H Q := h
theorem r_or {Q : Bool → Hp → Prop} (h : t1 σ H fun c H1 => if c = true then Q true H1 else t2 σ H1 Q) : tOr t1 t2 σ H Q := h
theorem r_not {Q : Bool → Hp → Prop} (h : tt σ H fun c H1 => Q (!c) H1) : tNot tt σ H Q := h
theorem r_andV (h : ta σ H fun x H1 => ∃ c, x = .bl c ∧ if c = true then tb σ H1 Q else Q (.bl false) H1) : tAndV ta tb σ H Q := h
theorem r_orV (h : ta σ H fun x H1 => ∃ c, x = .bl c ∧ if c = true then Q (.bl true) H1 else tb σ H1 Q) : tOrV ta tb σ H Q := h
theorem r_notV (h : ta σ H fun x H1 => ∃ c, x = .bl c ∧ Q (.bl (!c)) H1) : tNotV ta σ H Q := h
theorem r_if (h : tt σ H fun c H1 => if c = true then ta σ H1 Q else tb σ H1 Q) : tIf tt ta tb σ H Q := h
theorem r_bm {T : String} {r : V → List V → Hp → VK → Prop} {ta : TA} (h : to σ H fun x H1 => tyV K T x H1 ∧ ta σ H1 fun xs H2 => r x xs H2 Q) : tBM K T r to ta σ H Q := h
theorem r_bm0 {T : String} {r : V → List V → Hp → VK → Prop} (h : to σ H fun x H1 => tyV K T x H1 ∧ r x [] H1 Q) : tBM0 K T r to σ H Q := h
theorem r_append {l : Addr} {xs : List V} {y : V} (h : H l = some (.lst xs)) (z : xs.length < sizeLine) (q : ∀ H', Exb l H H' → H' l = some (.lst (xs ++ [y])) → Q .non H') : rAppend (.ref l) [y] H Q :=
  ⟨l, xs, y, rfl, rfl, h, z, mutL q⟩
theorem r_pop {l : Addr} {xs : List V} {y : V} (h : H l = some (.lst xs)) (z : xs[xs.length - 1]? = some y) (q : ∀ H', Exb l H H' → H' l = some (.lst xs.dropLast) → Q y H') : rPop (.ref l) [] H Q :=
  ⟨l, xs, y, rfl, rfl, h, z, mutL q⟩
theorem r_insert {l : Addr} {xs : List V} {y : V} {i : Int} (h : H l = some (.lst xs)) (z : xs.length < sizeLine) (h0 : 0 ≤ i) (h1 : i < 2 ^ 63) (q : ∀ H', Exb l H H' → H' l = some (.lst (xs.take i.toNat ++ [y] ++ xs.drop i.toNat)) → Q .non H') : rInsert (.ref l) [.int i, y] H Q :=
  ⟨l, xs, i, y, rfl, rfl, h, z, h0, h1, mutL q⟩
theorem tyL {p : Addr} {xs : List V} (h : H p = some (.lst xs)) : tyV K "list" (.ref p) H := .inl ⟨rfl, _, .inl (.inl h)⟩
theorem r_ty {T : String} {x : V} {B : Prop} (h : tyV K T x H) (q : B) : tyV K T x H ∧ B := ⟨h, q⟩
theorem r_sub_ {ts : TSet} {v : V} {Q : L2.St → Hp → Prop} (h : to σ H fun o H1 => ti σ H1 fun i H2 => ts o i v H2 fun H3 => Q σ H3) : gSub to ti ts v σ H Q := h
theorem r_setL {p : Addr} {xs : List V} {k : Int} {j : Nat} {v : V} {Q : Hp → Prop} (h : H p = some (.lst xs)) (hk : ixN xs.length k = some j) (q : ∀ H', Exb p H H' → H' p = some (.lst (xs.set j v)) → Q H') : rSetL (.ref p) (.int k) v H Q :=
  ⟨p, xs, k, j, rfl, rfl, h, hk, mutL q⟩
theorem r_cat {l b : Addr} {xs zs : List V} (h1 : H l = some (.lst xs)) (h2 : H b = some (.lst zs)) (z : xs.length + zs.length ≤ sizeLine) (q : ∀ p H', H p = none → Ex H H' → H' p = some (.lst (xs ++ zs)) → Q (.ref p) H') : rCat (.ref l) (.ref b) H Q :=
  ⟨l, b, xs, zs, rfl, rfl, h1, h2, z, newL q⟩
theorem flat_rep {α : Type} (x : α) : ∀ n : Nat, (List.replicate n [x]).flatten = List.replicate n x
  | 0 => rfl
  | n + 1 => by rw [List.replicate_succ, List.flatten_cons, flat_rep x n, List.replicate_succ]; rfl
/-- [x] * k -/
theorem r_rep1 {l : Addr} {x : V} {k : Int} (h1 : H l = some (.lst [x])) (z : k.toNat ≤ 1000000) (q : ∀ p H', H p = none → Ex H H' → H' p = some (.lst (List.replicate k.toNat x)) → Q (.ref p) H')  (h0 : -(2 ^ 63) ≤ k := by omega) : rRep (.ref l) (.int k) H Q :=
  ⟨l, k, [x], rfl, rfl, h1, h0, by omega, by
    show 1 * k.toNat ≤ sizeLine
    rw [Nat.one_mul]
    exact Nat.le_trans z (by decide), newL fun p H' a b c => q p H' a b (by rw [flat_rep] at c; exact c)⟩
theorem r_sl {r : V → Option Int → Option Int → Hp → VK → Prop} {tl th : TO} (h : te σ H fun x H1 => tl σ H1 fun l H2 => th σ H2 fun u H3 => r x l u H3 Q) : tSl r te tl th σ H Q := h
theorem r_part {Q : Option Int → Hp → Prop} (h : te σ H fun x H1 => ∃ i, x = .int i ∧ Q (some i) H1) : tPart te σ H Q := h
theorem r_int {i : Int} {Q : Int → Prop} (h : Q i) : ∃ j, V.int i = .int j ∧ Q j := ⟨i, rfl, h⟩
theorem r_nopart {Q : Option Int → Hp → Prop} (h : Q none H) : tNoPart σ H Q := h
theorem r_slL {a : Addr} {xs : List V} {lo hi : Option Int} (h : SqL K H a xs) (q : ∀ p H', H p = none → Ex H H' → H' p = some (.lst (cutV xs lo hi)) → Q (.ref p) H') : rSlL K (.ref a) lo hi H Q := ⟨a, xs, rfl, h, newL q⟩
theorem r_par {i j : Nat} {ta : TA} (h : ta σ H fun vs H1 => ∃ v w, vs = [v, w] ∧ D.nx ((σ.set i (some v)).set j (some w)) H1) : tPar i j ta D σ H := h
theorem r_par2 {i j : Nat} {v w : V} (h : D.nx ((σ.set i (some v)).set j (some w)) H) : ∃ v' w', [v, w] = [v', w'] ∧ D.nx ((σ.set i (some v')).set j (some w')) H := ⟨v, w, rfl, h⟩
end
/-- a truth that is decided, both ways -/
theorem ite_d {p A B : Prop} [Decidable p] (h1 : p → A) (h2 : ¬ p → B) : if decide p = true then A else B := by
  by_cases h : p
  · rw [if_pos (decide_eq_true h)]; exact h1 h
  · rw [if_neg (by rw [decide_eq_false h]; decide)]; exact h2 h
theorem ite_nd {p A B : Prop} [Decidable p] (h1 : ¬ p → A) (h2 : p → B) : if (!decide p) = true then A else B := by
  by_cases h : p
  · rw [if_neg (by rw [decide_eq_true h]; decide)]; exact h2 h
  · rw [if_pos (by rw [decide_eq_false h]; rfl)]; exact h1 h
theorem ite_b {b : Bool} {A B : Prop} (h1 : b = true → A) (h2 : b = false → B) : if b = true then A else B := by
  cases b with
  | true => rw [if_pos rfl]; exact h1 rfl
  | false => rw [if_neg (by decide)]; exact h2 rfl

theorem r_isi {K : PySem.W.Frag} {H : Hp} {Q : VK} {x c : V} {t u : Value} {b : Bool} (ht : TyX K H x t) (hc : ClsV c u) (hk : PySem.W.kitOne K t u = some b) (q : Q (.bl b) H) : rIsi K [x, c] H Q := ⟨x, c, t, u, b, rfl, hc, ht, hk, q⟩
theorem iteD {p A B : Prop} [Decidable p] (h : p) (a : A) : if decide p = true then A else B := by rw [if_pos (decide_eq_true h)]; exact a
theorem iteDF {p A B : Prop} [Decidable p] (h : ¬ p) (a : B) : if decide p = true then A else B := by rw [if_neg (by rw [decide_eq_false h]; decide)]; exact a
/-! ### lists of ints, compared -/
theorem dp_ints {K : PySem.W.Frag} {H : Hp} : ∀ ns : List Int, DpAll K H (ns.map V.int) (ns.map PyData.int)
  | [] => .nil
  | n :: r => .cons (.int n) (dp_ints r)
theorem dp_listI {K : PySem.W.Frag} {H : Hp} {a : Addr} {ns : List Int} (h : SqL K H a (ns.map V.int)) : Dp K H (.ref a) (.list (ns.map PyData.int)) := .lst h (dp_ints ns)
def dI (ns : List Int) : PyData := .list (ns.map PyData.int)
theorem canLay_ints : ∀ ns : List Int, PyData.canLayAll0 (ns.map PyData.int) = true
  | [] => by simp [PyData.canLayAll0]
  | n :: r => by
    rw [List.map_cons, PyData.canLayAll0, canLay_ints r]; simp [PyData.canLay0]
theorem depth_ints : ∀ ns : List Int, PyData.depthAll (ns.map PyData.int) ≤ 1
  | [] => by simp [PyData.depthAll]
  | n :: r => by
    have := depth_ints r
    rw [List.map_cons, PyData.depthAll]
    simp [PyData.depth]
    omega
theorem shaped_dI (ns : List Int) : SeqAt.shaped (dI ns) = true := by
  have h1 := canLay_ints ns
  have h2 := depth_ints ns
  unfold SeqAt.shaped dI
  rw [Bool.and_eq_true, PyData.canLay0, PyData.depth]
  exact ⟨h1, decide_eq_true (by omega)⟩
theorem eqvAll_ints : ∀ ns ms : List Int, PyData.eqvAll (ns.map PyData.int) (ms.map PyData.int) = decide (ns = ms)
  | [], [] => by simp [PyData.eqvAll]
  | [], m :: r => by simp [PyData.eqvAll]
  | n :: r, [] => by simp [PyData.eqvAll]
  | n :: r, m :: s => by
    rw [List.map_cons, List.map_cons, PyData.eqvAll, eqvAll_ints r s]
    simp [PyData.eqv, Bool.beq_eq_decide_eq]
theorem eqv_dI (ns ms : List Int) : PyData.eqv (dI ns) (dI ms) = decide (ns = ms) := by
  unfold dI
  rw [PyData.eqv, eqvAll_ints]
theorem r_eqInts {K : PySem.W.Frag} {H : Hp} {Q : VK} {a b : Addr} {ns ms : List Int} (h1 : SqL K H a (ns.map V.int)) (h2 : SqL K H b (ms.map V.int)) (q : Q (.bl (decide (ns = ms))) H) : rEqD K (.ref a) (.ref b) H Q :=
  ⟨_, _, dp_listI h1, dp_listI h2, shaped_dI ns, shaped_dI ms, by rw [show PyData.eqv (.list (ns.map PyData.int)) (.list (ms.map PyData.int)) = decide (ns = ms) from eqv_dI ns ms]; exact q⟩
theorem r_neInts {K : PySem.W.Frag} {H : Hp} {Q : VK} {a b : Addr} {ns ms : List Int} (h1 : SqL K H a (ns.map V.int)) (h2 : SqL K H b (ms.map V.int)) (q : Q (.bl (!decide (ns = ms))) H) : rNeD K (.ref a) (.ref b) H Q :=
  ⟨_, _, dp_listI h1, dp_listI h2, shaped_dI ns, shaped_dI ms, by rw [show PyData.eqv (.list (ns.map PyData.int)) (.list (ms.map PyData.int)) = decide (ns = ms) from eqv_dI ns ms]; exact q⟩
/-! ### loops -/
def Lp (J : It) (g : TG) (tb : TS) (D : Ends) (σ : L2.St) (H : Hp) : Prop := ∃ W : Nat → Nat → L2.St → Hp → Prop, (∃ m, W 0 m σ H) ∧ ∀ i m σ H, W i m σ H →
  (J.stop i H ∧ D.nx σ H) ∨ (J.go i H ∧ ∃ N : L2.St → Hp → Prop, (∀ σ' H', N σ' H' → ∃ m', m' < m ∧ W (i + 1) m' σ' H') ∧ ∀ x H', J.yld i H x H' → g x σ H' fun σ2 H2 => tb { D with nx := N, ct := N, bk := D.nx } σ2 H2)
section
variable {K : PySem.W.Frag} {σ : L2.St} {H : Hp} {D : Ends} {te : TE} {ta : TA} {tb : TS} {g : TG} {wi : TI}
theorem r_for (h : wi σ H fun J H1 => Lp J g tb D σ H1) : tFor wi g tb D σ H := h
theorem r_iList {R : It → Hp → Prop} (h : te σ H fun x H1 => ∃ a, x = .ref a ∧ (∃ xs, SqL K H1 a xs) ∧ R (Itl K a) H1) : iList K te σ H R := h
theorem r_iListA {a : Addr} {xs : List V} (h : SqL K H a xs) (q : Lp (Itl K a) g tb D σ H) : ∃ a', V.ref a = .ref a' ∧ (∃ xs, SqL K H a' xs) ∧ Lp (Itl K a') g tb D σ H := ⟨a, rfl, ⟨xs, h⟩, q⟩
theorem r_iTup {R : It → Hp → Prop} (h : te σ H fun x H1 => ∃ a, x = .ref a ∧ (∃ xs, SqT K H1 a xs) ∧ R (Itt K a) H1) : iTup K te σ H R := h
theorem r_iTupA {a : Addr} {xs : List V} (h : SqT K H a xs) (q : Lp (Itt K a) g tb D σ H) : ∃ a', V.ref a = .ref a' ∧ (∃ xs, SqT K H a' xs) ∧ Lp (Itt K a') g tb D σ H := ⟨a, rfl, ⟨xs, h⟩, q⟩
theorem r_iRng1 {R : It → Hp → Prop} (h : ta σ H fun vs H1 => ∃ j : Int, vs = [.int j] ∧ -(2 ^ 62) ≤ j ∧ j < 2 ^ 62 ∧ R (Itr 0 j.toNat) H1) : iRng1 ta σ H R := h
theorem r_iRng1A {j : Int} (h0 : -(2 ^ 62) ≤ j) (h1 : j < 2 ^ 62) (q : Lp (Itr 0 j.toNat) g tb D σ H) : ∃ j' : Int, [V.int j] = [.int j'] ∧ -(2 ^ 62) ≤ j' ∧ j' < 2 ^ 62 ∧ Lp (Itr 0 j'.toNat) g tb D σ H := ⟨j, rfl, h0, h1, q⟩
theorem r_iRng2 {R : It → Hp → Prop} (h : ta σ H fun vs H1 => ∃ i j : Int, vs = [.int i, .int j] ∧ (-(2 ^ 62) ≤ i ∧ i < 2 ^ 62 ∧ -(2 ^ 62) ≤ j ∧ j < 2 ^ 62) ∧ R (Itr i (j - i).toNat) H1) : iRng2 ta σ H R := h
theorem r_iRng2A {i j : Int} (hb : -(2 ^ 62) ≤ i ∧ i < 2 ^ 62 ∧ -(2 ^ 62) ≤ j ∧ j < 2 ^ 62) (q : Lp (Itr i (j - i).toNat) g tb D σ H) : ∃ i' j' : Int, [V.int i, V.int j] = [.int i', .int j'] ∧ (-(2 ^ 62) ≤ i' ∧ i' < 2 ^ 62 ∧ -(2 ^ 62) ≤ j' ∧ j' < 2 ^ 62) ∧ Lp (Itr i' (j' - i').toNat) g tb D σ H := ⟨i, j, rfl, hb, q⟩
theorem r_iRev {R : It → Hp → Prop} (h : ta σ H fun vs H1 => ∃ (a : Addr) (xs : List V), vs = [.ref a] ∧ SqL K H1 a xs ∧ R (Itv K a xs.length) H1) : iRev K ta σ H R := h
theorem r_iRevA {a : Addr} {xs : List V} (h : SqL K H a xs) (q : Lp (Itv K a xs.length) g tb D σ H) : ∃ (a' : Addr) (xs : List V), [V.ref a] = [.ref a'] ∧ SqL K H a' xs ∧ Lp (Itv K a' xs.length) g tb D σ H := ⟨a, xs, rfl, h, q⟩
theorem r_iEnum {R : It → Hp → Prop} (h : ta σ H fun vs H1 => ∃ a xs, vs = [.ref a] ∧ SqL K H1 a xs ∧ R (Ite K a) H1) : iEnum K ta σ H R := h
theorem r_iEnumA {a : Addr} {xs : List V} (h : SqL K H a xs) (q : Lp (Ite K a) g tb D σ H) : ∃ (a' : Addr) (xs : List V), [V.ref a] = [.ref a'] ∧ SqL K H a' xs ∧ Lp (Ite K a') g tb D σ H := ⟨a, xs, rfl, h, q⟩
theorem r_iRevR {tr : L2.St → Hp → (Int → Int → Hp → Prop) → Prop} {R : It → Hp → Prop} (h : tr σ H fun a b H1 => -(2 ^ 62) ≤ a ∧ a < 2 ^ 62 ∧ -(2 ^ 62) ≤ b ∧ b < 2 ^ 62 ∧ R (Itc (a + (((b - a).toNat : Nat) : Int) - 1) (-1) (b - a).toNat) H1) : iRevR tr σ H R := h

theorem loop_list {a : Addr} {xs : List V} (Pv : Nat → L2.St → Hp → Prop) (h0 : Pv 0 σ H) (hl : ∀ i σ H, i ≤ xs.length → Pv i σ H → SqL K H a xs)
    (hs : ∀ i x σ H, xs[i]? = some x → Pv i σ H → g x σ H fun σ2 H2 => tb { D with nx := Pv (i + 1), ct := Pv (i + 1), bk := D.nx } σ2 H2) (hd : ∀ σ H, Pv xs.length σ H → D.nx σ H) : Lp (Itl K a) g tb D σ H := for_list Pv h0 hl hs hd
/-- a loop over a list of ints -/
theorem loop_ints {a : Addr} {ns : List Int} {j : Nat} (Pv : Nat → L2.St → Hp → Prop) (h0 : Pv 0 σ H) (hl : ∀ i σ H, i ≤ ns.length → Pv i σ H → SqL K H a (ns.map V.int))
    (hs : ∀ i x σ H, ns[i]? = some x → Pv i σ H → tb { D with nx := Pv (i + 1), ct := Pv (i + 1), bk := D.nx } (σ.set j (some (.int x))) H) (hd : ∀ σ H, Pv ns.length σ H → D.nx σ H) : Lp (Itl K a) (gName j) tb D σ H :=
  for_list (xs := ns.map V.int) Pv h0 (fun i σ H h => hl i σ H (by rw [List.length_map] at h; exact h)) (fun i x σ H hx hp => by
    rw [List.getElem?_map] at hx
    cases e : ns[i]? with
    | none => rw [e] at hx; cases hx
    | some z => rw [e] at hx; cases hx; exact hs i z σ H e hp) (fun σ H h => hd σ H (by rw [List.length_map] at h; exact h))
theorem loop_tup {a : Addr} {xs : List V} (Pv : Nat → L2.St → Hp → Prop) (h0 : Pv 0 σ H) (hl : ∀ i σ H, i ≤ xs.length → Pv i σ H → SqT K H a xs)
    (hs : ∀ i x σ H, xs[i]? = some x → Pv i σ H → g x σ H fun σ2 H2 => tb { D with nx := Pv (i + 1), ct := Pv (i + 1), bk := D.nx } σ2 H2) (hd : ∀ σ H, Pv xs.length σ H → D.nx σ H) : Lp (Itt K a) g tb D σ H := for_tup Pv h0 hl hs hd
theorem loop_range {lo : Int} {n : Nat} {j : Nat} (Pv : Nat → L2.St → Hp → Prop) (h0 : Pv 0 σ H)
    (hs : ∀ i σ H, i < n → Pv i σ H → tb { D with nx := Pv (i + 1), ct := Pv (i + 1), bk := D.nx } (σ.set j (some (.int (lo + (i : Int))))) H) (hd : ∀ σ H, Pv n σ H → D.nx σ H) : Lp (Itr lo n) (gName j) tb D σ H := for_range Pv h0 hs hd
theorem loop_range0 {n : Nat} {j : Nat} (Pv : Nat → L2.St → Hp → Prop) (h0 : Pv 0 σ H)
    (hs : ∀ i σ H, i < n → Pv i σ H → tb { D with nx := Pv (i + 1), ct := Pv (i + 1), bk := D.nx } (σ.set j (some (.int (i : Int)))) H) (hd : ∀ σ H, Pv n σ H → D.nx σ H) : Lp (Itr 0 n) (gName j) tb D σ H :=
  for_range Pv h0 (fun i σ H hi hp => by
    have e : (0 : Int) + (i : Int) = (i : Int) := Int.zero_add _
    rw [e]
    exact hs i σ H hi hp) hd
theorem loop_rangeC {lo c : Int} {n : Nat} {j : Nat} (Pv : Nat → L2.St → Hp → Prop) (h0 : Pv 0 σ H)
    (hs : ∀ i σ H, i < n → Pv i σ H → tb { D with nx := Pv (i + 1), ct := Pv (i + 1), bk := D.nx } (σ.set j (some (.int (lo + (i : Int) * c)))) H) (hd : ∀ σ H, Pv n σ H → D.nx σ H) : Lp (Itc lo c n) (gName j) tb D σ H := for_rangeC Pv h0 hs hd
theorem loop_rev {a : Addr} {xs : List V} (Pv : Nat → L2.St → Hp → Prop) (h0 : Pv 0 σ H) (hl : ∀ i σ H, i ≤ xs.length → Pv i σ H → SqL K H a xs)
    (hs : ∀ i x σ H, xs[xs.length - 1 - i]? = some x → i < xs.length → Pv i σ H → g x σ H fun σ2 H2 => tb { D with nx := Pv (i + 1), ct := Pv (i + 1), bk := D.nx } σ2 H2) (hd : ∀ σ H, Pv xs.length σ H → D.nx σ H) : Lp (Itv K a xs.length) g tb D σ H := by
  refine ⟨fun i m σ H => m = xs.length - i ∧ i ≤ xs.length ∧ Pv i σ H, ⟨xs.length, by simp, Nat.zero_le _, h0⟩, ?_⟩
  rintro i m σ H ⟨rfl, hi, p⟩
  have q := hl i σ H hi p
  by_cases hlt : i < xs.length
  · have hk : xs.length - 1 - i < xs.length := by omega
    refine .inr ⟨⟨hlt, xs, xs[xs.length - 1 - i], q, by simp [hk]⟩, Pv (i + 1), fun σ' H' p' => ⟨xs.length - (i + 1), by omega, rfl, hlt, p'⟩, fun x H' y => ?_⟩
    obtain ⟨e, y⟩ := y
    subst e
    exact hs i x σ _ (y xs q) hlt p
  · have e : i = xs.length := by omega
    subst e
    exact .inl ⟨Nat.le_refl _, hd σ H p⟩
theorem loop_enum {a : Addr} {xs : List V} {j k : Nat} (Pv : Nat → L2.St → Hp → Prop) (h0 : Pv 0 σ H) (hl : ∀ i σ H, i ≤ xs.length → Pv i σ H → SqL K H a xs)
    (hs : ∀ i x σ H H', xs[i]? = some x → Pv i σ H → Ex H H' → tb { D with nx := Pv (i + 1), ct := Pv (i + 1), bk := D.nx } ((σ.set j (some (.int (i : Int)))).set k (some x)) H') (hd : ∀ σ H, Pv xs.length σ H → D.nx σ H) :
    Lp (Ite K a) (gTup K 2 (gCons (gName j) (gCons (gName k) gNil))) tb D σ H := by
  refine ⟨fun i m σ H => m = xs.length - i ∧ i ≤ xs.length ∧ Pv i σ H, ⟨xs.length, by simp, Nat.zero_le _, h0⟩, ?_⟩
  rintro i m σ H ⟨rfl, hi, p⟩
  have q := hl i σ H hi p
  by_cases hlt : i < xs.length
  · refine .inr ⟨⟨xs, xs[i], q, by simp [hlt]⟩, Pv (i + 1), fun σ' H' p' => ⟨xs.length - (i + 1), by omega, rfl, hlt, p'⟩, fun v H' y => ?_⟩
    obtain ⟨T, x, rfl, nT, rfl, y⟩ := y
    exact ⟨T, _, rfl, .inl (.inl upd_same), rfl, _, _, rfl, x, [], rfl, rfl, hs i x σ H _ (y xs q) p (Evl.Ex.new nT)⟩
  · have e : i = xs.length := by omega
    subst e
    exact .inl ⟨⟨xs, q, Nat.le_refl _⟩, hd σ H p⟩
theorem r_while {tt : TT} (W : Nat → L2.St → Hp → Prop) (m0 : Nat) (h0 : W m0 σ H)
    (hs : ∀ m σ' H', W m σ' H' → tt σ' H' fun b H1 => if b = true then ∃ N : L2.St → Hp → Prop, (∀ σ2 H2, N σ2 H2 → ∃ m', m' < m ∧ W m' σ2 H2) ∧ tb { D with nx := N, ct := N, bk := D.nx } σ' H1 else D.nx σ' H1) : tWhile tt tb D σ H :=
  ⟨W, ⟨m0, h0⟩, hs⟩
theorem wh_in {W : Nat → L2.St → Hp → Prop} {m : Nat} (h : tb { D with nx := fun σ2 H2 => ∃ m', m' < m ∧ W m' σ2 H2, ct := fun σ2 H2 => ∃ m', m' < m ∧ W m' σ2 H2, bk := D.nx } σ H) :
    ∃ N : L2.St → Hp → Prop, (∀ σ2 H2, N σ2 H2 → ∃ m', m' < m ∧ W m' σ2 H2) ∧ tb { D with nx := N, ct := N, bk := D.nx } σ H := ⟨_, fun _ _ h => h, h⟩
end
/-! ### bounds -/
theorem small_le {n : Nat} (h : n ≤ 16777216) : n ≤ sizeLine := by rw [sizeLine_eq]; exact h
theorem small_lt {n : Nat} (h : n < 16777216) : n < sizeLine := by rw [sizeLine_eq]; exact h
/-! ### comprehensions -/
def Lc (J : It) (g : TG) (tt : TT) (te : TE) (vs : List Nat) (σ : L2.St) (H1 : Hp) (Q : VK) : Prop := ∀ D, H1 D = none → ∃ W : Nat → Nat → Hp → Prop, (∃ m, W 0 m (upd H1 D (.lst []))) ∧ ∀ i m H, W i m H →
  (J.stop i H ∧ Q (.ref D) H) ∨ (J.go i H ∧ ∃ Nx : Hp → Prop, (∀ H', Nx H' → ∃ m', m' < m ∧ W (i + 1) m' H') ∧ ∀ x H', J.yld i H x H' → g x (wipe σ vs) H' fun σ2 H2 => wipe σ2 vs = wipe σ vs ∧ tt σ2 H2 fun b H3 =>
    if b = true then te σ2 H3 fun y H4 => ∃ acc, H4 D = some (.lst acc) ∧ acc.length < sizeLine ∧ Nx (upd H4 D (.lst (acc ++ [y]))) else Nx H3)
theorem r_lc {wi : TI} {g : TG} {tt : TT} {te : TE} {vs : List Nat} {σ : L2.St} {H : Hp} {Q : VK} (h : wi σ H fun J H1 => Lc J g tt te vs σ H1 Q) : tLc wi g tt te vs σ H Q := h
theorem set_set {α : Type} : ∀ (l : List α) (i : Nat) (a b : α), (l.set i a).set i b = l.set i b
  | [], _, _, _ => rfl
  | _ :: _, 0, _, _ => rfl
  | x :: l, i + 1, a, b => by show x :: (l.set i a).set i b = x :: l.set i b; rw [set_set l i a b]
section
variable {K : PySem.W.Frag} {σ : L2.St} {H : Hp} {te : TE} {Q : VK} {g : TG}
theorem r_cListA {a : Addr} {xs : List V} {tt : TT} {vs : List Nat} (h : SqL K H a xs) (q : Lc (Itl K a) g tt te vs σ H Q) : ∃ a', V.ref a = .ref a' ∧ (∃ xs, SqL K H a' xs) ∧ Lc (Itl K a') g tt te vs σ H Q := ⟨a, rfl, ⟨xs, h⟩, q⟩
theorem r_cRng1A {j : Int} {tt : TT} {vs : List Nat} (h0 : -(2 ^ 62) ≤ j) (h1 : j < 2 ^ 62) (q : Lc (Itr 0 j.toNat) g tt te vs σ H Q) : ∃ j' : Int, [V.int j] = [.int j'] ∧ -(2 ^ 62) ≤ j' ∧ j' < 2 ^ 62 ∧ Lc (Itr 0 j'.toNat) g tt te vs σ H Q := ⟨j, rfl, h0, h1, q⟩
theorem r_cRng2A {i j : Int} {tt : TT} {vs : List Nat} (hb : -(2 ^ 62) ≤ i ∧ i < 2 ^ 62 ∧ -(2 ^ 62) ≤ j ∧ j < 2 ^ 62) (q : Lc (Itr i (j - i).toNat) g tt te vs σ H Q) : ∃ i' j' : Int, [V.int i, V.int j] = [.int i', .int j'] ∧ (-(2 ^ 62) ≤ i' ∧ i' < 2 ^ 62 ∧ -(2 ^ 62) ≤ j' ∧ j' < 2 ^ 62) ∧ Lc (Itr i' (j' - i').toNat) g tt te vs σ H Q := ⟨i, j, rfl, hb, q⟩
/-- over a list, each item giving a value by a function -/
theorem lc_map {a : Addr} {xs : List V} {j : Nat} (f : V → V) (hx : SqL K H a xs) (hz : xs.length < 1000000)
    (he : ∀ x, x ∈ xs → ∀ H1, Ex H H1 → ∀ Q' : VK, (∀ H2, Ex H1 H2 → Q' (f x) H2) → te (σ.set j (some x)) H1 Q')
    (q : ∀ p H', H p = none → Ex H H' → H' p = some (.lst (xs.map f)) → Q (.ref p) H') : Lc (Itl K a) (gName j) tYes te [j] σ H Q := fun D hD =>
  lc_list (xs := xs) (fun i H' => Ex H H' ∧ H' D = some (.lst ((xs.take i).map f))) ⟨Evl.Ex.new hD, upd_same⟩ (fun i H' _ p => p.1.l hx)
    (fun i x H' hi p => ⟨by show ((σ.set j none).set j (some x)).set j none = σ.set j none; rw [set_set, set_set], by
      show te ((σ.set j none).set j (some x)) H' _
      rw [set_set]
      refine he x (List.mem_of_getElem? hi) H' p.1 _ fun H2 e2 => ⟨_, e2 D _ p.2, ?_, (Evl.Ex.mut (p.1.trans e2) hD), ?_⟩
      · rw [List.length_map, List.length_take]; exact small_lt (by omega)
      · rw [upd_same, List.take_add_one, hi, List.map_append]; rfl⟩)
    (fun H' p => q D H' hD p.1 (by rw [List.take_length] at p; exact p.2))
/-- over a list of ints, each giving an int -/
theorem lc_ints {a : Addr} {ns : List Int} {j : Nat} (f : Int → Int) (hx : SqL K H a (ns.map V.int)) (hz : ns.length < 1000000)
    (he : ∀ x, x ∈ ns → ∀ H1, Ex H H1 → ∀ Q' : VK, (∀ H2, Ex H1 H2 → Q' (.int (f x)) H2) → te (σ.set j (some (.int x))) H1 Q')
    (q : ∀ p H', H p = none → Ex H H' → H' p = some (.lst ((ns.map f).map V.int)) → Q (.ref p) H') : Lc (Itl K a) (gName j) tYes te [j] σ H Q :=
  lc_map (xs := ns.map V.int) (fun v => match v with | .int x => .int (f x) | v => v) hx (by rw [List.length_map]; exact hz)
    (fun v hv H1 e1 Q' k => by
      obtain ⟨x, hx', rfl⟩ := List.mem_map.mp hv
      exact he x hx' H1 e1 Q' k)
    (fun p H' hp e h => q p H' hp e (by
      rw [List.map_map] at h ⊢
      exact h))
/-- over a range from 0, each giving an int -/
theorem lc_rangeI {n : Nat} {j : Nat} (f : Nat → Int) (hz : n < 1000000)
    (he : ∀ i, i < n → ∀ H1, Ex H H1 → ∀ Q' : VK, (∀ H2, Ex H1 H2 → Q' (.int (f i)) H2) → te (σ.set j (some (.int (i : Int)))) H1 Q')
    (q : ∀ p H', H p = none → Ex H H' → H' p = some (.lst (((List.range n).map f).map V.int)) → Q (.ref p) H') : Lc (Itr 0 n) (gName j) tYes te [j] σ H Q := fun D hD =>
  lc_range (lo := 0) (n := n) (fun i H' => Ex H H' ∧ H' D = some (.lst (((List.range i).map f).map V.int))) ⟨Evl.Ex.new hD, upd_same⟩
    (fun i H' hi p => ⟨by show ((σ.set j none).set j _).set j none = σ.set j none; rw [set_set, set_set], by
      show te ((σ.set j none).set j (some (.int ((0 : Int) + (i : Int))))) H' _
      rw [set_set, show (0 : Int) + (i : Int) = (i : Int) from Int.zero_add _]
      refine he i hi H' p.1 _ fun H2 e2 => ⟨_, e2 D _ p.2, ?_, (Evl.Ex.mut (p.1.trans e2) hD), ?_⟩
      · rw [List.length_map, List.length_map, List.length_range]; exact small_lt (by omega)
      · rw [upd_same, List.range_succ, List.map_append, List.map_append]; rfl⟩)
    (fun H' p => q D H' hD p.1 p.2)
end
/-- an item of a list of ints -/
theorem r_ixI {K : PySem.W.Frag} {H : Hp} {Q : VK} {p : Addr} {i : Int} {ns : List Int} (h : SqL K H p (ns.map V.int)) (h0 : 0 ≤ i) (h1 : i < ns.length) (q : Q (.int (ns.getD i.toNat 0)) H) : rIxL K (.ref p) (.int i) H Q := by
  obtain ⟨k, rfl⟩ : ∃ k : Nat, i = (k : Int) := ⟨i.toNat, by omega⟩
  have hk : k < ns.length := by omega
  refine r_ixL h (atI_nat (j := k) (v := .int ns[k]) ?_) ?_
  · rw [List.getElem?_map, List.getElem?_eq_getElem hk]; rfl
  · rw [Int.toNat_natCast, List.getD_eq_getElem?_getD, List.getElem?_eq_getElem hk] at q
    exact q
/-- a slice of a list of ints, both ends in it -/
theorem cutI (ns : List Int) (lo hi : Option Int) : cutV (ns.map V.int) lo hi = ((ns.drop (HT.sIx ns.length 0 lo)).take (HT.sIx ns.length ns.length hi - HT.sIx ns.length 0 lo)).map V.int := by
  unfold cutV
  rw [List.length_map, List.map_take, List.map_drop]
/-- the part of a list between two bounds -/
def sliceI (ns : List Int) (lo hi : Option Int) : List Int := (ns.drop (HT.sIx ns.length 0 lo)).take (HT.sIx ns.length ns.length hi - HT.sIx ns.length 0 lo)
theorem sliceI_mem {ns : List Int} {lo hi : Option Int} {x : Int} (h : x ∈ sliceI ns lo hi) : x ∈ ns := List.mem_of_mem_drop (List.mem_of_mem_take h)
theorem sliceI_len (ns : List Int) (lo hi : Option Int) : (sliceI ns lo hi).length ≤ ns.length := by
  unfold sliceI
  rw [List.length_take, List.length_drop]; omega
theorem r_slI {K : PySem.W.Frag} {H : Hp} {Q : VK} {a : Addr} {ns : List Int} {lo hi : Option Int} (h : SqL K H a (ns.map V.int)) (q : ∀ p H', H p = none → Ex H H' → H' p = some (.lst ((sliceI ns lo hi).map V.int)) → Q (.ref p) H') : rSlL K (.ref a) lo hi H Q :=
  r_slL h fun p H' hp e hh => q p H' hp e (by rw [cutI] at hh; exact hh)
theorem r_repN {H : Hp} {Q : VK} {l : Addr} {ns : List Int} {k : Int} (h1 : H l = some (.lst (ns.map V.int))) (hk : k < 2 ^ 63) (z : ns.length * k.toNat ≤ 16777216) (q : ∀ p H', H p = none → Ex H H' → H' p = some (.lst (((List.replicate k.toNat ns).flatten).map V.int)) → Q (.ref p) H') (h0 : -(2 ^ 63) ≤ k := by omega) : rRep (.ref l) (.int k) H Q :=
  ⟨l, k, _, rfl, rfl, h1, h0, hk, by rw [List.length_map]; exact small0 z, newL fun p H' a b c => q p H' a b (by rw [List.map_flatten, List.map_replicate]; exact c)⟩
def insI (ns : List Int) (i : Int) (y : Int) : List Int := ns.take i.toNat ++ [y] ++ ns.drop i.toNat
theorem insI_mem {ns : List Int} {i y x : Int} : x ∈ insI ns i y ↔ x = y ∨ x ∈ ns := by
  unfold insI
  have h : x ∈ ns ↔ x ∈ ns.take i.toNat ∨ x ∈ ns.drop i.toNat := by rw [← List.mem_append, List.take_append_drop]
  rw [h, List.mem_append, List.mem_append, List.mem_singleton]
  constructor
  · rintro ((h | h) | h)
    · exact .inr (.inl h)
    · exact .inl h
    · exact .inr (.inr h)
  · rintro (h | h | h)
    · exact .inl (.inr h)
    · exact .inl (.inl h)
    · exact .inr h
theorem insI_len (ns : List Int) (i y : Int) : (insI ns i y).length = ns.length + 1 := by
  unfold insI
  rw [List.length_append, List.length_append, List.length_take, List.length_drop]
  show min i.toNat ns.length + 1 + (ns.length - i.toNat) = _
  omega
theorem r_insertI {H : Hp} {Q : VK} {l : Addr} {ns : List Int} {i y : Int} (h : H l = some (.lst (ns.map V.int))) (z : ns.length < 16777216) (h0 : 0 ≤ i) (h1 : i < 2 ^ 63) (q : ∀ H', Exb l H H' → H' l = some (.lst ((insI ns i y).map V.int)) → Q .non H') : rInsert (.ref l) [.int i, .int y] H Q :=
  r_insert h (by rw [List.length_map]; exact small_lt z) h0 h1 fun H' e hh => q H' e (by
    unfold insI
    rw [List.map_append, List.map_append, List.map_take, List.map_drop]
    exact hh)
theorem r_appendI {H : Hp} {Q : VK} {l : Addr} {ns : List Int} {y : Int} (h : H l = some (.lst (ns.map V.int))) (z : ns.length < 16777216) (q : ∀ H', Exb l H H' → H' l = some (.lst ((ns ++ [y]).map V.int)) → Q .non H') : rAppend (.ref l) [.int y] H Q :=
  r_append h (by rw [List.length_map]; exact small_lt z) fun H' e hh => q H' e (by rw [List.map_append]; exact hh)
theorem r_catI {H : Hp} {Q : VK} {l b : Addr} {ns ms : List Int} (h1 : H l = some (.lst (ns.map V.int))) (h2 : H b = some (.lst (ms.map V.int))) (z : ns.length + ms.length ≤ 16777216) (q : ∀ p H', H p = none → Ex H H' → H' p = some (.lst ((ns ++ ms).map V.int)) → Q (.ref p) H') : rCat (.ref l) (.ref b) H Q :=
  r_cat h1 h2 (by rw [List.length_map, List.length_map]; exact small0 z) fun p H' a e hh => q p H' a e (by rw [List.map_append]; exact hh)
theorem i_t {A B : Prop} (h : A) : if true = true then A else B := iteT h
theorem i_f {A B : Prop} (h : B) : if false = true then A else B := iteF h
theorem i_nt {A B : Prop} (h : B) : if (!true) = true then A else B := iteF h
theorem i_nf {A B : Prop} (h : A) : if (!false) = true then A else B := iteT h
theorem sliceI_to {ns : List Int} {n : Nat} (h : n ≤ ns.length) : sliceI ns none (some (n : Int)) = ns.take n := by
  unfold sliceI
  rw [HT.sIx_none, HT.sIx_nat, List.drop_zero, Nat.min_eq_left h]; rfl
theorem sliceI_toI {ns : List Int} {n : Int} (h0 : 0 ≤ n) : sliceI ns none (some n) = ns.take n.toNat := by
  obtain ⟨k, rfl⟩ : ∃ k : Nat, n = (k : Int) := ⟨n.toNat, by omega⟩
  unfold sliceI
  rw [HT.sIx_none, HT.sIx_nat, List.drop_zero, Int.toNat_natCast, Nat.sub_zero]
  by_cases h : k ≤ ns.length
  · rw [Nat.min_eq_left h]
  · rw [Nat.min_eq_right (by omega), List.take_length, List.take_of_length_le (by omega)]
theorem sliceI_fromI {ns : List Int} {n : Int} (h0 : 0 ≤ n) : sliceI ns (some n) none = ns.drop n.toNat := by
  obtain ⟨k, rfl⟩ : ∃ k : Nat, n = (k : Int) := ⟨n.toNat, by omega⟩
  unfold sliceI
  rw [HT.sIx_none, HT.sIx_nat, Int.toNat_natCast]
  by_cases h : k ≤ ns.length
  · rw [Nat.min_eq_left h, List.take_of_length_le (by rw [List.length_drop]; omega)]
  · rw [Nat.min_eq_right (by omega), List.drop_eq_nil_of_le (by omega : ns.length ≤ k), List.drop_length, List.take_nil]
theorem sliceI_bothI {ns : List Int} {n m : Int} (h0 : 0 ≤ n) (h1 : n ≤ m) : sliceI ns (some n) (some m) = (ns.drop n.toNat).take (m.toNat - n.toNat) := by
  obtain ⟨k, rfl⟩ : ∃ k : Nat, n = (k : Int) := ⟨n.toNat, by omega⟩
  obtain ⟨l, rfl⟩ : ∃ l : Nat, m = (l : Int) := ⟨m.toNat, by omega⟩
  unfold sliceI
  rw [HT.sIx_nat, HT.sIx_nat, Int.toNat_natCast, Int.toNat_natCast]
  by_cases h : k ≤ ns.length
  · rw [Nat.min_eq_left h]
    by_cases h' : l ≤ ns.length
    · rw [Nat.min_eq_left h']
    · rw [Nat.min_eq_right (by omega), List.take_of_length_le (by rw [List.length_drop]; omega), List.take_of_length_le (by rw [List.length_drop]; omega)]
  · rw [Nat.min_eq_right (show ns.length ≤ k by omega), List.drop_length, List.drop_eq_nil_of_le (by omega : ns.length ≤ k)]; simp
/-- what a def that makes a new list of ints promises -/
def RetI (xs : List Int) (H : Hp) (Q : VK) : Prop := ∀ p H', H p = none → Ex H H' → H' p = some (.lst (xs.map V.int)) → Q (.ref p) H'
theorem RetI.go {xs : List Int} {H H1 : Hp} {Q : VK} (k : RetI xs H Q) (e : Ex H H1) {p : Addr} {H2 : Hp} (hp : H1 p = none) (e2 : Ex H1 H2) (h : H2 p = some (.lst (xs.map V.int))) : Q (.ref p) H2 := k p H2 (Evl.fresh_back e hp) (e.trans e2) h
/-! ### the heap since the entry -/
/-- all that stood in H stands in H' (the same as Ex, kept apart) -/
structure Fx (H H' : Hp) : Prop where
  to : Ex H H'
theorem Fx.refl (H : Hp) : Fx H H := ⟨Evl.Ex.refl H⟩
theorem Fx.ex {H H1 H2 : Hp} (f : Fx H H1) (e : Ex H1 H2) : Fx H H2 := ⟨Evl.Ex.trans f.to e⟩
theorem Fx.of {H H1 : Hp} (e : Ex H H1) : Fx H H1 := ⟨e⟩
theorem Fx.mut {H H1 H2 : Hp} {l : Addr} (f : Fx H H1) (b : Exb l H1 H2) (h : H l = none) : Fx H H2 := ⟨Evl.Ex.mutb f.to b h⟩
theorem Fx.free {H H1 : Hp} {p : Addr} (f : Fx H H1) (h : H1 p = none) : H p = none := Evl.fresh_back f.to h
theorem Fx.l {K : PySem.W.Frag} {H H' : Hp} {a : Addr} {xs : List V} (e : Fx H H') (h : SqL K H a xs) : SqL K H' a xs := Evl.ex_l e.to h
theorem hx_e {H H' : Hp} {a : Addr} {o : HO} (e : Ex H H') (h : H a = some o) : H' a = some o := e a o h
theorem hx_b {H H' : Hp} {a l : Addr} {o : HO} (e : Exb l H H') (n : a ≠ l) (h : H a = some o) : H' a = some o := e a n o h
theorem ne_1 {H : Hp} {a l : Addr} {o : HO} (h' : H l = none) (h : H a = some o) : a ≠ l := ne_of_none h h'
theorem ne_2 {H : Hp} {a l : Addr} {o : HO} (h' : H a = none) (h : H l = some o) : a ≠ l := (ne_of_none h h').symm
def tTru (K : PySem.W.Frag) (te : TE) : TT := fun σ H Q => te σ H fun x H' => ∃ k, TruV K x H' k ∧ Q k H'
theorem pt_tru {X : Cx} {a : Expr} {ta : TE} (ha : PE X a ta) (he : ∀ whole, isTrue a X.env whole = (do let v ← whole; standAt a.pos; holding [v] (truthy v)) := by intro _; rfl) : PT X a (tTru X.K ta) := pt_truth ha he
theorem r_tru {K : PySem.W.Frag} {te : TE} {σ : L2.St} {H : Hp} {Q : Bool → Hp → Prop} (h : te σ H fun x H' => ∃ k, TruV K x H' k ∧ Q k H') : tTru K te σ H Q := h
theorem r_truL {K : PySem.W.Frag} {a : Addr} {xs : List V} {H : Hp} {Q : Bool → Prop} (h : SqL K H a xs) (q : Q (!xs.isEmpty)) : ∃ k, TruV K (.ref a) H k ∧ Q k := ⟨_, .inl ⟨xs, h, rfl⟩, q⟩
def RevK (K : PySem.W.Frag) (Q : VK) : V → Hp → Prop := fun x H1 => ∃ a xs, x = .ref a ∧ SqL K H1 a xs ∧ ∀ p, H1 p = none → Q (.ref p) (upd H1 p (.lst xs.reverse))
theorem r_rev {K : PySem.W.Frag} {te : TE} {σ : L2.St} {H : Hp} {Q : VK} (h : te σ H (RevK K Q)) : tRevL K te σ H Q := h
theorem r_revI {K : PySem.W.Frag} {H : Hp} {Q : VK} {a : Addr} {ns : List Int} (h : SqL K H a (ns.map V.int)) (q : ∀ p H', H p = none → Ex H H' → H' p = some (.lst (ns.reverse.map V.int)) → Q (.ref p) H') : RevK K Q (.ref a) H :=
  ⟨a, _, rfl, h, newL fun p H' hp e hh => q p H' hp e (by rw [List.map_reverse]; exact hh)⟩
theorem rg2 {a b : Int} (ha : 0 ≤ a) (ha' : a < 2 ^ 60) (hb : -(2 ^ 60) ≤ b) (hb' : b < 2 ^ 60) : RgC a b 2 ((b - a + 1) / 2).toNat := by
  have e : Builtin.Range.rangeSize a b 2 = (((b - a + 1) / 2).toNat : Int) := by
    unfold Builtin.Range.rangeSize
    rw [if_pos (by decide)]
    split <;> omega
  refine ⟨by decide, by decide, ?_, e⟩
  unfold Builtin.Range.small
  rw [e]
  simp only [Builtin.Range.rangeFitsLong, Bool.and_eq_true, Bool.or_eq_true, decide_eq_true_eq, beq_iff_eq, show ((2 : Int) > 0) by decide, if_true]
  omega
theorem r_iRng3 {ta : TA} {σ : L2.St} {H : Hp} {R : It → Hp → Prop} (h : ta σ H fun vs H1 => ∃ (i j c : Int) (n : Nat), vs = [.int i, .int j, .int c] ∧ RgC i j c n ∧ R (Itc i c n) H1) : iRng3 ta σ H R := h
theorem r_iRng3A {g : TG} {tb : TS} {D : Ends} {σ : L2.St} {H : Hp} {i j c : Int} {n : Nat} (h : RgC i j c n) (q : Lp (Itc i c n) g tb D σ H) : ∃ (i' j' c' : Int) (n : Nat), [V.int i, V.int j, V.int c] = [.int i', .int j', .int c'] ∧ RgC i' j' c' n ∧ Lp (Itc i' c' n) g tb D σ H := ⟨i, j, c, n, rfl, h, q⟩
/-- over a range from lo, each giving an int -/
theorem lc_rangeL {σ : L2.St} {H : Hp} {te : TE} {Q : VK} {lo : Int} {n : Nat} {j : Nat} (f : Nat → Int) (hz : n < 1000000)
    (he : ∀ i, i < n → ∀ H1, Ex H H1 → ∀ Q' : VK, (∀ H2, Ex H1 H2 → Q' (.int (f i)) H2) → te (σ.set j (some (.int (lo + (i : Int))))) H1 Q')
    (q : ∀ p H', H p = none → Ex H H' → H' p = some (.lst (((List.range n).map f).map V.int)) → Q (.ref p) H') : Lc (Itr lo n) (gName j) tYes te [j] σ H Q := fun D hD =>
  lc_range (lo := lo) (n := n) (fun i H' => Ex H H' ∧ H' D = some (.lst (((List.range i).map f).map V.int))) ⟨Evl.Ex.new hD, upd_same⟩
    (fun i H' hi p => ⟨by show ((σ.set j none).set j _).set j none = σ.set j none; rw [set_set, set_set], by
      show te ((σ.set j none).set j (some (.int (lo + (i : Int))))) H' _
      rw [set_set]
      refine he i hi H' p.1 _ fun H2 e2 => ⟨_, e2 D _ p.2, ?_, (Evl.Ex.mut (p.1.trans e2) hD), ?_⟩
      · rw [List.length_map, List.length_map, List.length_range]; exact small_lt (by omega)
      · rw [upd_same, List.range_succ, List.map_append, List.map_append]; rfl⟩)
    (fun H' p => q D H' hD p.1 p.2)
theorem r_lenI {K : PySem.W.Frag} {H : Hp} {Q : VK} {p : Addr} {ns : List Int} (h : SqL K H p (ns.map V.int)) (q : Q (.int ns.length) H) : rLenS K [.ref p] H Q := ⟨p, _, rfl, .inl h, by rw [List.length_map]; exact q⟩
/-- the last item -/
theorem r_ixLast {K : PySem.W.Frag} {H : Hp} {Q : VK} {p : Addr} {ns : List Int} (h : SqL K H p (ns.map V.int)) (h0 : ns ≠ []) (q : Q (.int (ns.getD (ns.length - 1) 0)) H) : rIxL K (.ref p) (.int (-1)) H Q := by
  have e : ns.map V.int = (ns.dropLast.map V.int) ++ [.int (ns.getD (ns.length - 1) 0)] := by
    have e1 : ns.getD (ns.length - 1) 0 = ns.getLast h0 := by
      rw [List.getD_eq_getElem?_getD, ← List.getLast?_eq_getElem?, List.getLast?_eq_some_getLast h0]; rfl
    rw [e1, ← List.map_singleton, ← List.map_append, List.dropLast_concat_getLast]
  exact r_ixL h (by rw [e]; exact atI_last _ _) q
theorem r_truI {K : PySem.W.Frag} {a : Addr} {ns : List Int} {H : Hp} {Q : Bool → Hp → Prop} (h : SqL K H a (ns.map V.int)) (q : Q (!decide (ns = [])) H) : ∃ k, TruV K (.ref a) H k ∧ Q k H := ⟨_, .inl ⟨_, h, rfl⟩, by
  have e : (!(ns.map V.int).isEmpty) = !decide (ns = []) := by
    cases ns with
    | nil => rfl
    | cons x r => rfl
  rw [e]; exact q⟩
theorem r_rg1 {te : TE} {σ : L2.St} {H : Hp} {R : Int → Int → Hp → Prop} (h : te σ H fun x H1 => ∃ b, x = .int b ∧ R 0 b H1) : tRg1 te σ H R := h
theorem r_revRA {g : TG} {tb : TS} {D : Ends} {σ : L2.St} {H : Hp} {b : Int} (h0 : -(2 ^ 62) ≤ b) (h1 : b < 2 ^ 62) (q : Lp (Itc (b.toNat - 1) (-1) b.toNat) g tb D σ H) : -(2 ^ 62) ≤ (0 : Int) ∧ (0 : Int) < 2 ^ 62 ∧ -(2 ^ 62) ≤ b ∧ b < 2 ^ 62 ∧ Lp (Itc (0 + (((b - 0).toNat : Nat) : Int) - 1) (-1) (b - 0).toNat) g tb D σ H := ⟨by decide, by decide, h0, h1, by
  rw [Int.sub_zero, Int.zero_add]; exact q⟩
/-- a loop over range(n), backwards -/
theorem loop_down {n : Nat} {j : Nat} {tb : TS} {D : Ends} {σ : L2.St} {H : Hp} (Pv : Nat → L2.St → Hp → Prop) (h0 : Pv n σ H)
    (hs : ∀ k σ H, k < n → Pv (k + 1) σ H → tb { D with nx := Pv k, ct := Pv k, bk := D.nx } (σ.set j (some (.int (k : Int)))) H) (hd : ∀ σ H, Pv 0 σ H → D.nx σ H) : Lp (Itc ((n : Int) - 1) (-1) n) (gName j) tb D σ H := by
  refine ⟨fun i m σ H => m = n - i ∧ i ≤ n ∧ Pv (n - i) σ H, ⟨n, by simp, Nat.zero_le _, h0⟩, ?_⟩
  rintro i m σ H ⟨rfl, hi, p⟩
  by_cases hlt : i < n
  · refine .inr ⟨hlt, Pv (n - (i + 1)), fun σ' H' p' => ⟨n - (i + 1), by omega, rfl, hlt, p'⟩, fun x H' y => ?_⟩
    obtain ⟨rfl, rfl⟩ := y
    have e1 : (n : Int) - 1 + (i : Int) * -1 = ((n - (i + 1) : Nat) : Int) := by omega
    have e2 : n - i = n - (i + 1) + 1 := by omega
    rw [e1]
    rw [e2] at p
    exact hs (n - (i + 1)) σ _ (by omega) p
  · have e : i = n := by omega
    subst e
    rw [Nat.sub_self] at p
    exact .inl ⟨Nat.le_refl _, hd σ H p⟩
theorem never_ {t : TS} {D : Ends} {σ : L2.St} {H : Hp} (h : False) : t D σ H := h.elim
end RB

set_option linter.all false
/-! Shared divisors. -/
namespace MG
def gcdN (ns : List Int) : Nat := ns.foldl (fun (g : Nat) x => Nat.gcd g x.natAbs) 0
def gcdL (ns : List Int) : Int := (gcdN ns : Int)
theorem fmod_lt {a b : Int} (h : b ≠ 0) : (a.fmod b).natAbs < b.natAbs := by
  by_cases hb : 0 < b
  · have h1 := Int.fmod_nonneg_of_pos a hb
    have h2 := Int.fmod_lt_of_pos a hb
    omega
  · have hb' : 0 < -b := by omega
    have e : a.fmod b = -((-a).fmod (-b)) := by rw [Int.neg_fmod_neg]; omega
    have h1 := Int.fmod_nonneg_of_pos (-a) hb'
    have h2 := Int.fmod_lt_of_pos (-a) hb'
    rw [e]
    omega
theorem gcd_fmod (a b : Int) : Int.gcd b (a.fmod b) = Int.gcd a b := by
  rw [Int.fmod_def, Int.gcd_sub_mul_left_right, Int.gcd_comm]
theorem foldl_gcd (ns : List Int) : ∀ g : Nat, ns.foldl (fun (g : Nat) x => Nat.gcd g x.natAbs) g = Nat.gcd g (gcdN ns) := by
  induction ns with
  | nil => intro g; simp [gcdN]
  | cons x r ih =>
    intro g
    show List.foldl _ (Nat.gcd g x.natAbs) r = _
    rw [ih]
    have e : gcdN (x :: r) = Nat.gcd (x.natAbs) (gcdN r) := by
      show List.foldl _ (Nat.gcd 0 x.natAbs) r = _
      rw [ih, Nat.gcd_zero_left]
    rw [e, Nat.gcd_assoc]
theorem gcdN_cons (x : Int) (r : List Int) : gcdN (x :: r) = Nat.gcd x.natAbs (gcdN r) := by
  show List.foldl _ (Nat.gcd 0 x.natAbs) r = _
  rw [foldl_gcd, Nat.gcd_zero_left]
theorem gcdN_nil : gcdN [] = 0 := rfl
theorem gcdN_append (xs ys : List Int) : gcdN (xs ++ ys) = Nat.gcd (gcdN xs) (gcdN ys) := by
  show List.foldl _ 0 (xs ++ ys) = _
  rw [List.foldl_append, foldl_gcd]; rfl
theorem gcdN_take {ns : List Int} {i : Nat} {x : Int} (h : ns[i]? = some x) : gcdN (ns.take (i + 1)) = Nat.gcd (gcdN (ns.take i)) x.natAbs := by
  rw [List.take_add_one, h, gcdN_append]
  congr 1
  show gcdN [x] = _
  rw [gcdN_cons, gcdN_nil, Nat.gcd_zero_right]
theorem gcdN_dvd {ns : List Int} : ∀ {x : Int}, x ∈ ns → (gcdN ns : Int) ∣ x := by
  induction ns with
  | nil => intro x h; cases h
  | cons y r ih =>
    intro x h
    rw [gcdN_cons]
    rcases List.mem_cons.mp h with rfl | h
    · exact Int.ofNat_dvd_left.mpr (Nat.gcd_dvd_left _ _)
    · exact Int.dvd_trans (Int.ofNat_dvd.mpr (Nat.gcd_dvd_right _ _)) (ih h)
theorem dvd_gcdN {ns : List Int} {d : Nat} (h : ∀ x ∈ ns, (d : Int) ∣ x) : d ∣ gcdN ns := by
  induction ns with
  | nil => exact Nat.dvd_zero _
  | cons y r ih =>
    rw [gcdN_cons]
    exact Nat.dvd_gcd (Int.ofNat_dvd_left.mp (h y (List.mem_cons_self))) (ih fun x hx => h x (List.mem_cons_of_mem _ hx))
theorem gcdN_eq {ns : List Int} {g : Nat} (h1 : ∀ x ∈ ns, (g : Int) ∣ x) (h2 : ∀ d : Nat, (∀ x ∈ ns, (d : Int) ∣ x) → d ∣ g) : gcdN ns = g :=
  Nat.dvd_antisymm (h2 _ fun _ hx => gcdN_dvd hx) (dvd_gcdN h1)
end MG

set_option linter.all false
set_option maxRecDepth 100000
/-! Instances: made, their fields, their methods; the fraction. -/
namespace RB
open PySem PySem.Spec PyProof.Rows L2
open Evl (Ex rLenS rListS rMax2 tCut pss_cut)
def tDead : TS := fun _ _ _ => False
theorem ps_dead {X : Cx} {st : Stmt} : PS X st tDead := ⟨fun _ _ _ _ _ _ h => h.elim⟩
theorem pss_dead {X : Cx} {st : List Stmt} : PSs X st tDead := ⟨fun _ _ _ _ _ _ h => h.elim⟩
theorem okN {P : Program} {w : World} {K : PySem.W.Frag} {mg : Str → Option Value} {base : Heap} {x qual : Str} {params : Arguments} {body : List Stmt} {scope : Scope} {dvs : List V} {kws : List (Str × V)} {f : Addr} {fd : FuncData} {N ps : List Str} {k : Nat} {sp : Sp} (F : FunD K x qual params body scope dvs kws f fd) (S : FnScope N ps scope) (len : ∀ vs H Q E, sp vs H Q E → vs.length = ps.length)
    (hb : ∀ (cdv : Value) (A : Around) (outer : List Env) (s : Shared) (H : Hp) (vs : List V) (Q : VK) (E : XK), Room k (A.deeper (envOfC qual scope s.heap.objs.size f cdv)) → sp vs H Q E →
      ∃ t, PSs (cxOf CX0 P w K mg base N qual scope f cdv A outer s H E).nox body t ∧ t { nx := fun _ H' => Q .non H', rt := Q } (start N vs) H) : FnOk P w K mg base CX0 (k + 1) f fd ps sp :=
  F.ok S len fun cdv A outer s H vs Q E hr h => by
    obtain ⟨t, h1, h2⟩ := hb cdv A outer s H vs Q E hr h
    exact ⟨t, h1.nox, h2⟩
theorem funD_mk {K : PySem.W.Frag} {x qual : Str} {params : Arguments} {body : List Stmt} {scope : Scope} {i : Int} {f T : Addr} {oc : Value} {od an : Option Addr} {osl : Array (Option Value)} {kV doc pm cdv ct oc2 : Value} {od2 : Option Addr} {tk : Tok} {n2 : Nat} {sl2 : Array (Option Value)}
    (l : K.lookup f = some ⟨oc, od, .func (PySem.W.fnOf x qual params body scope (.ref T) kV doc pm an cdv ct), osl⟩) (d : K.lookup T = some ⟨oc2, od2, .seq #[.int i tk] n2, sl2⟩) (c : PySem.W.codeIn K cdv qual = true) (k : PySem.W.keepIn K (.ref f) = true) :
    FunD K x qual params body scope [.int i] [] f (PySem.W.fnOf x qual params body scope (.ref T) kV doc pm an cdv ct) :=
  ⟨⟨oc, od, .ref T, kV, doc, pm, an, cdv, ct, osl, rfl, l, c, .inr ⟨by simp, T, _, [.int i tk], n2, rfl, d, rfl, .cons ⟨tk, rfl⟩ .nil⟩, .inl rfl⟩, k⟩
theorem funD_mkV {K : PySem.W.Frag} {x qual : Str} {params : Arguments} {body : List Stmt} {scope : Scope} {dvs : List V} {its : List Value} {f T : Addr} {oc : Value} {od an : Option Addr} {osl : Array (Option Value)} {kV doc pm cdv ct oc2 : Value} {od2 : Option Addr} {n2 : Nat} {sl2 : Array (Option Value)}
    (l : K.lookup f = some ⟨oc, od, .func (PySem.W.fnOf x qual params body scope (.ref T) kV doc pm an cdv ct), osl⟩) (d : K.lookup T = some ⟨oc2, od2, .seq its.toArray n2, sl2⟩) (c : PySem.W.codeIn K cdv qual = true) (k : PySem.W.keepIn K (.ref f) = true) (ne : dvs ≠ []) (r : Vals dvs its) :
    FunD K x qual params body scope dvs [] f (PySem.W.fnOf x qual params body scope (.ref T) kV doc pm an cdv ct) :=
  ⟨⟨oc, od, .ref T, kV, doc, pm, an, cdv, ct, osl, rfl, l, c, .inr ⟨ne, T, _, its, n2, rfl, d, rfl, r⟩, .inl rfl⟩, k⟩
theorem binds_full {K : PySem.W.Frag} {fd : FuncData} {ps : List Str} (h : ∃ ds, Vals ([] : List V) ds ∧ Binds K fd ps ds) : Binds K fd ps [] := by
  obtain ⟨ds, h1, h2⟩ := h
  cases h1
  exact h2
/-! ### making -/
def MakeK (C : Addr) (sp : Sp) (dvs : List V) (E : XK) (Q : VK) : List V → Hp → Prop := fun vs H1 => ∀ x dx, H1 x = none → H1 dx = none → dx ≠ x →
  sp (.ref x :: (vs ++ dvs)) (upd (upd H1 dx (.own x)) x (.ins C dx [])) (fun v H2 => v = .non ∧ Q (.ref x) H2) E
theorem r_make {C : Addr} {sp : Sp} {dvs : List V} {E : XK} {ta : TA} {σ : L2.St} {H : Hp} {Q : VK} (h : ta σ H (MakeK C sp dvs E Q)) : tMake C sp dvs E ta σ H Q := h
def FldK (K : PySem.W.Frag) (f : Str) (Q : VK) : V → Hp → Prop := fun x H1 => ∃ a C dx fs v, x = .ref a ∧ H1 a = some (.ins C dx fs) ∧ Cls K C ∧ NoAttr K C f ∧ fs.lookup f = some v ∧ Q v H1
theorem r_fld {K : PySem.W.Frag} {te : TE} {f : Str} {σ : L2.St} {H : Hp} {Q : VK} (h : te σ H (FldK K f Q)) : tFld K te f σ H Q := h
def SFldK (K : PySem.W.Frag) (f : Str) (y : V) (G : Hp → Prop) : V → Hp → Prop := fun x H2 => ∃ a C dx fs, x = .ref a ∧ H2 a = some (.ins C dx fs) ∧ Cls K C ∧ NoAttr K C f ∧ fs.length < 1000 ∧ G (upd H2 a (.ins C dx (putF f y fs)))
theorem r_sfld {K : PySem.W.Frag} {ta tv : TE} {f : Str} {D : Ends} {σ : L2.St} {H : Hp} (h : tv σ H fun y H1 => ta σ H1 (SFldK K f y (D.nx σ))) : sFld K ta tv f D σ H := h
def MethK (C : Addr) (m : Str) (sp : Sp) (dvs : List V) (E : XK) (t : TA) (σ : L2.St) (Q : VK) : V → Hp → Prop := fun x H1 => ∃ a dx fs, x = .ref a ∧ H1 a = some (.ins C dx fs) ∧ fs.lookup m = none ∧ t σ H1 fun vs H2 => sp (x :: (vs ++ dvs)) H2 Q E
theorem r_meth {C : Addr} {m : Str} {sp : Sp} {dvs : List V} {E : XK} {ta : TE} {t : TA} {σ : L2.St} {H : Hp} {Q : VK} (h : ta σ H (MethK C m sp dvs E t σ Q)) : tMeth C m sp dvs E ta t σ H Q := h
/-! ### the fraction -/
def rF (t b : Int) : List (Str × V) := [("top", .int t), ("bottom", .int b)]
def IsR (C : Addr) (H : Hp) (a : Addr) (t b : Int) : Prop := ∃ dx, H a = some (.ins C dx (rF t b))
theorem IsR.ex {C : Addr} {H H' : Hp} {a : Addr} {t b : Int} (e : Ex H H') (h : IsR C H a t b) : IsR C H' a t b := h.elim fun dx h => ⟨dx, e _ _ h⟩
theorem IsR.exb {C : Addr} {H H' : Hp} {a l : Addr} {t b : Int} (e : Exb l H H') (n : a ≠ l) (h : IsR C H a t b) : IsR C H' a t b := h.elim fun dx h => ⟨dx, e _ n _ h⟩
theorem rF_top (t b : Int) : (rF t b).lookup ("top" : Str) = some (.int t) := by
  unfold rF
  simp [List.lookup]
theorem rF_bottom (t b : Int) : (rF t b).lookup ("bottom" : Str) = some (.int b) := by
  unfold rF
  have e : (("bottom" : Str) == ("top" : Str)) = false := by decide +kernel
  simp [List.lookup, e]
theorem rF_none (t b : Int) {m : Str} (h1 : (m == ("top" : Str)) = false) (h2 : (m == ("bottom" : Str)) = false) : (rF t b).lookup m = none := by
  unfold rF
  simp [List.lookup, h1, h2]
theorem r_top {K : PySem.W.Frag} {C : Addr} {H : Hp} {Q : VK} {a : Addr} {t b : Int} (c : Cls K C) (n : NoAttr K C "top") (h : IsR C H a t b) (q : Q (.int t) H) : FldK K "top" Q (.ref a) H := by
  obtain ⟨dx, h⟩ := h
  exact ⟨a, C, dx, _, _, rfl, h, c, n, rF_top t b, q⟩
theorem r_bottom {K : PySem.W.Frag} {C : Addr} {H : Hp} {Q : VK} {a : Addr} {t b : Int} (c : Cls K C) (n : NoAttr K C "bottom") (h : IsR C H a t b) (q : Q (.int b) H) : FldK K "bottom" Q (.ref a) H := by
  obtain ⟨dx, h⟩ := h
  exact ⟨a, C, dx, _, _, rfl, h, c, n, rF_bottom t b, q⟩
theorem r_methR {C : Addr} {m : Str} {sp : Sp} {dvs : List V} {E : XK} {ta : TA} {σ : L2.St} {Q : VK} {H : Hp} {a : Addr} {t b : Int} (h : IsR C H a t b) (h1 : (m == ("top" : Str)) = false) (h2 : (m == ("bottom" : Str)) = false) (q : ta σ H fun vs H2 => sp (.ref a :: (vs ++ dvs)) H2 Q E) : MethK C m sp dvs E ta σ Q (.ref a) H := by
  obtain ⟨dx, h⟩ := h
  exact ⟨a, dx, _, rfl, h, rF_none t b h1 h2, q⟩
def RetR (C : Addr) (t b : Int) (H : Hp) (Q : VK) : Prop := ∀ p H', H p = none → Ex H H' → IsR C H' p t b → Q (.ref p) H'
theorem RetR.go {C : Addr} {t b : Int} {H H1 : Hp} {Q : VK} (k : RetR C t b H Q) (e : Ex H H1) : RetR C t b H1 Q := fun p H' hp e2 h => k p H' (Evl.fresh_back e hp) (e.trans e2) h
/-- the shared divisor with the bottom's sign -/
def rG (t b : Int) : Int := if b < 0 then -MG.gcdL [t, b] else MG.gcdL [t, b]
def rT (t b : Int) : Int := t.fdiv (rG t b)
def rB (t b : Int) : Int := b.fdiv (rG t b)
theorem gcdL_pair (t b : Int) : MG.gcdL [t, b] = (Int.gcd t b : Int) := by
  unfold MG.gcdL MG.gcdN Int.gcd
  simp
theorem rG_pos {t b : Int} (hb : b ≠ 0) : 0 < Int.gcd t b := Int.gcd_pos_of_ne_zero_right t hb
theorem rG_ne {t b : Int} (hb : b ≠ 0) : rG t b ≠ 0 := by
  have := rG_pos (t := t) hb
  unfold rG
  rw [gcdL_pair]
  split <;> omega
theorem rG_abs (t b : Int) : (rG t b).natAbs = Int.gcd t b := by
  unfold rG
  rw [gcdL_pair]
  split <;> omega
theorem rG_log {t b : Int} {n : Nat} (hb : b ≠ 0) (h0 : 0 < n) (h : b.natAbs < 2 ^ n) : (rG t b).natAbs.log2 < n := by
  rw [rG_abs]
  exact PySem.Flt.log2_lt_of h0 (Nat.lt_of_le_of_lt (Nat.gcd_le_right _ (by omega)) h)
theorem rG_dvd_t (t b : Int) : rG t b ∣ t := by
  rw [← Int.natAbs_dvd, rG_abs]; exact Int.gcd_dvd_left ..
theorem rG_dvd_b (t b : Int) : rG t b ∣ b := by
  rw [← Int.natAbs_dvd, rG_abs]; exact Int.gcd_dvd_right ..
theorem rT_mul {t b : Int} (hb : b ≠ 0) : rT t b * rG t b = t := by
  obtain ⟨k, hk⟩ := rG_dvd_t t b
  unfold rT
  conv => lhs; arg 1; arg 1; rw [hk]
  rw [Int.mul_fdiv_cancel_left _ (rG_ne hb), Int.mul_comm, ← hk]
theorem rB_mul {t b : Int} (hb : b ≠ 0) : rB t b * rG t b = b := by
  obtain ⟨k, hk⟩ := rG_dvd_b t b
  unfold rB
  conv => lhs; arg 1; arg 1; rw [hk]
  rw [Int.mul_fdiv_cancel_left _ (rG_ne hb), Int.mul_comm, ← hk]
theorem rB_pos {t b : Int} (hb : b ≠ 0) : 0 < rB t b := by
  have h1 := rB_mul (t := t) hb
  have h2 := rG_pos (t := t) hb
  have hs : (b < 0 → rG t b < 0) ∧ (¬ b < 0 → 0 < rG t b) := by
    unfold rG
    rw [gcdL_pair]
    constructor
    · intro h; rw [if_pos h]; omega
    · intro h; rw [if_neg h]; omega
  apply Classical.byContradiction
  intro h
  by_cases hn : b < 0
  · have := Int.mul_nonneg_of_nonpos_of_nonpos (show rB t b ≤ 0 by omega) (show rG t b ≤ 0 by have := hs.1 hn; omega)
    omega
  · have := Int.mul_nonneg (show 0 ≤ -rB t b by omega) (show 0 ≤ rG t b by have := hs.2 hn; omega)
    rw [Int.neg_mul] at this
    omega
theorem r_cross {t b : Int} (hb : b ≠ 0) : rT t b * b = t * rB t b := by
  have h1 := rT_mul (t := t) hb
  have h2 := rB_mul (t := t) hb
  generalize rT t b = p at *
  generalize rB t b = q at *
  generalize rG t b = g at *
  rw [← h1, ← h2, Int.mul_assoc, Int.mul_comm g q]
theorem r_low {t b : Int} (hb : b ≠ 0) : Int.gcd (rT t b) (rB t b) = 1 := by
  have h1 := rT_mul (t := t) hb
  have h2 := rB_mul (t := t) hb
  have h3 := rG_abs t b
  have h4 := rG_pos (t := t) hb
  have h5 := Int.gcd_mul_right (rT t b) (rG t b) (rB t b)
  rw [h1, h2, h3] at h5
  exact Nat.eq_of_mul_eq_mul_right h4 (by omega)
theorem rT_abs {t b : Int} (hb : b ≠ 0) : (rT t b).natAbs ≤ t.natAbs := by
  have h1 := rT_mul (t := t) hb
  have h4 := rG_pos (t := t) hb
  have h3 := rG_abs t b
  have h5 : (rT t b).natAbs * (rG t b).natAbs = t.natAbs := by rw [← Int.natAbs_mul, h1]
  rw [h3] at h5
  rw [← h5]
  exact Nat.le_mul_of_pos_right _ h4
theorem rB_abs {t b : Int} (hb : b ≠ 0) : (rB t b).natAbs ≤ b.natAbs := by
  have h1 := rB_mul (t := t) hb
  have h4 := rG_pos (t := t) hb
  have h3 := rG_abs t b
  have h5 : (rB t b).natAbs * (rG t b).natAbs = b.natAbs := by rw [← Int.natAbs_mul, h1]
  rw [h3] at h5
  rw [← h5]
  exact Nat.le_mul_of_pos_right _ h4
end RB
namespace RB
open PySem PySem.Spec PyProof.Rows L2
/-- what isinstance asks of a class of instances -/
structure InsC (K : PySem.W.Frag) (C : Addr) : Prop where
  ha : PySem.W.findIn K (.ref C) "__class__" = some (some (.builtin "object.__class__"))
  hn : PySem.W.specialIn K (.builtin "object.__class__") "__get__" = some (some (.builtin "getset_descriptor.__get__"))
  ht : PySem.W.takesIn K (.builtin "object.__class__") = some true
  hm : PySem.W.mroIn K C (.type "object") = some true
theorem kit_self (K : PySem.W.Frag) (t : Value) (h : (t == t) = true) : PySem.W.kitOne K t t = some true := by
  unfold PySem.W.kitOne
  rw [if_pos h]
theorem r_isR {K : PySem.W.Frag} {C : Addr} {H : Hp} {Q : VK} {a : Addr} {t b : Int} (c : Cls K C) (i : InsC K C) (h : IsR C H a t b) (q : Q (.bl true) H) : rIsi K [.ref a, .ref C] H Q := by
  obtain ⟨dx, h⟩ := h
  exact ⟨.ref a, .ref C, .ref C, .ref C, true, rfl, .own C, .base (.ins h c i.ha i.hn i.ht i.hm), kit_self K (.ref C) (beq_self_eq_true _), q⟩
end RB

set_option linter.all false
/-! Fractions: order, sign, floor. -/
namespace RB
/-- -1, 0 or 1 -/
def ordI (l r : Int) : Int := if l < r then -1 else if r < l then 1 else 0
theorem ordI_lt {l r : Int} (h : l < r) : ordI l r = -1 := if_pos h
theorem ordI_gt {l r : Int} (h : r < l) : ordI l r = 1 := by
  unfold ordI
  rw [if_neg (by omega), if_pos h]
theorem ordI_self (l : Int) : ordI l l = 0 := by
  unfold ordI
  rw [if_neg (by omega), if_neg (by omega)]
theorem ordI_swap (l r : Int) : ordI r l = - ordI l r := by
  rcases Int.lt_trichotomy l r with h | h | h
  · rw [ordI_lt h, ordI_gt h]; rfl
  · subst h; rw [ordI_self]; rfl
  · rw [ordI_gt h, ordI_lt h]
theorem ordI_scale {c : Int} (hc : 0 < c) (l r : Int) : ordI (l * c) (r * c) = ordI l r := by
  rcases Int.lt_trichotomy l r with h | h | h
  · rw [ordI_lt h, ordI_lt (Int.mul_lt_mul_of_pos_right h hc)]
  · subst h; rw [ordI_self, ordI_self]
  · rw [ordI_gt h, ordI_gt (Int.mul_lt_mul_of_pos_right h hc)]
theorem ordI_sub (l r : Int) : ordI (l - r) 0 = ordI l r := by
  rcases Int.lt_trichotomy l r with h | h | h
  · rw [ordI_lt h, ordI_lt (by omega)]
  · subst h; rw [ordI_self, Int.sub_self, ordI_self]
  · rw [ordI_gt h, ordI_gt (by omega)]
theorem rG_gt {t b : Int} (hb : 0 < b) : 0 < rG t b := by
  have := rG_pos (t := t) (b := b) (by omega)
  unfold rG
  rw [gcdL_pair, if_neg (by omega)]
  omega
/-- the order of two made fractions is that of what they are made of -/
theorem ord_made {t b u v : Int} (hb : 0 < b) (hv : 0 < v) : ordI (rT t b * rB u v) (rT u v * rB t b) = ordI (t * v) (u * b) := by
  have g1 := rG_gt (t := t) hb
  have g2 := rG_gt (t := u) hv
  have e1 := rT_mul (t := t) (b := b) (by omega)
  have e2 := rB_mul (t := t) (b := b) (by omega)
  have e3 := rT_mul (t := u) (b := v) (by omega)
  have e4 := rB_mul (t := u) (b := v) (by omega)
  generalize rT t b = p at *
  generalize rB t b = q at *
  generalize rT u v = p' at *
  generalize rB u v = q' at *
  generalize rG t b = g at *
  generalize rG u v = g' at *
  have hg : 0 < g * g' := Int.mul_pos g1 g2
  have a1 : t * v = (p * q') * (g * g') := by rw [← e1, ← e4]; simp only [Int.mul_assoc, Int.mul_left_comm, Int.mul_comm]
  have a2 : u * b = (p' * q) * (g * g') := by rw [← e3, ← e2]; simp only [Int.mul_assoc, Int.mul_left_comm, Int.mul_comm]
  rw [a1, a2, ordI_scale hg]
theorem sign_made {t b : Int} (hb : 0 < b) : ordI (rT t b) 0 = ordI t 0 := by
  have g1 := rG_gt (t := t) hb
  have e1 := rT_mul (t := t) (b := b) (by omega)
  have := ordI_scale g1 (rT t b) 0
  rw [e1, Int.zero_mul] at this
  exact this.symm
theorem rG_one (t : Int) : rG t 1 = 1 := by
  unfold rG
  rw [gcdL_pair, if_neg (by decide), Int.gcd_one_right]; rfl
theorem rT_one (t : Int) : rT t 1 = t := by
  unfold rT; rw [rG_one, Int.fdiv_one]
theorem rB_one (t : Int) : rB t 1 = 1 := by
  unfold rB; rw [rG_one]; rfl
theorem fdiv_two {p q : Int} (hq : 0 < q) : p.fdiv q * q ≤ p ∧ p < (p.fdiv q + 1) * q := by
  have h1 := Int.mul_fdiv_add_fmod p q
  have h2 := Int.fmod_nonneg_of_pos p hq
  have h3 := Int.fmod_lt_of_pos p hq
  rw [Int.add_mul, Int.one_mul, Int.mul_comm (p.fdiv q) q]
  omega
theorem fdiv_abs {p q : Int} (hq : 0 < q) : (p.fdiv q).natAbs ≤ p.natAbs := by
  obtain ⟨h1, h2⟩ := fdiv_two (p := p) hq
  generalize p.fdiv q = l at *
  by_cases hl : 0 ≤ l
  · have := Int.mul_le_mul_of_nonneg_left (show 1 ≤ q by omega) hl
    rw [Int.mul_one] at this
    omega
  · have := Int.mul_le_mul_of_nonneg_left (show 1 ≤ q by omega) (show 0 ≤ -(l + 1) by omega)
    rw [Int.mul_one, Int.neg_mul] at this
    omega
/-- the floor of a made fraction, told by what it is made of -/
theorem floor_made {t b : Int} (hb : 0 < b) : (rT t b).fdiv (rB t b) * b ≤ t ∧ t < ((rT t b).fdiv (rB t b) + 1) * b := by
  have g1 := rG_gt (t := t) hb
  have e1 := rT_mul (t := t) (b := b) (by omega)
  have e2 := rB_mul (t := t) (b := b) (by omega)
  obtain ⟨h1, h2⟩ := fdiv_two (p := rT t b) (rB_pos (t := t) (b := b) (by omega))
  generalize (rT t b).fdiv (rB t b) = l at *
  generalize rT t b = p at *
  generalize rB t b = q at *
  generalize rG t b = g at *
  have a1 := Int.mul_le_mul_of_nonneg_right h1 (show 0 ≤ g by omega)
  have a2 := Int.mul_lt_mul_of_pos_right h2 g1
  rw [Int.mul_assoc, e2, e1] at a1 a2
  exact ⟨a1, a2⟩
end RB
namespace RB
open PySem PySem.Spec PyProof.Rows L2
theorem r_strI {i : Int} {H : Hp} {Q : VK} (h : i.natAbs.log2 < 1920) (q : Q (.str (toString i)) H) : rStrInt [.int i] H Q := ⟨i, rfl, h, q⟩
theorem r_addS {i j : Str} {H : Hp} {Q : VK} (h : i.length + j.length ≤ sizeLine) (q : Q (.str (i ++ j)) H) : rAddS (.str i) (.str j) H Q := ⟨i, j, rfl, rfl, h, q⟩
theorem rG_low {t b : Int} (hb : 0 < b) (h : Int.gcd t b = 1) : rG t b = 1 := by
  unfold rG
  rw [gcdL_pair, if_neg (by omega), h]; rfl
theorem rT_low {t b : Int} (hb : 0 < b) (h : Int.gcd t b = 1) : rT t b = t := by
  unfold rT; rw [rG_low hb h, Int.fdiv_one]
theorem rB_low {t b : Int} (hb : 0 < b) (h : Int.gcd t b = 1) : rB t b = b := by
  unfold rB; rw [rG_low hb h, Int.fdiv_one]
/-- a fraction's text -/
def textR (t b : Int) : Str := if b = 1 then (toString t : String) else Str.ofString (toString t) ++ "/" ++ Str.ofString (toString b)
theorem text_len {i : Int} (h : i.natAbs.log2 < 1920) : (Str.ofString (toString i)).length ≤ 1921 := PyProof.Rows.int_text_len_1921 h
theorem cat_len (a b : Str) : (a ++ b).length = a.length + b.length := by
  show (a.cps ++ b.cps).size = _
  rw [Array.size_append]; rfl
theorem log_lt {i : Int} {n : Nat} (h0 : 0 < n) (h9 : n ≤ 1920) (h : i.natAbs < 2 ^ n) : i.natAbs.log2 < 1920 := Nat.lt_of_lt_of_le (PySem.Flt.log2_lt_of h0 h) h9
end RB
namespace RB
theorem cross_made {X Y T B : Int} (hY : Y ≠ 0) (h : X * B = T * Y) : rT X Y * B = T * rB X Y := by
  have h1 := rT_mul (t := X) hY
  have h2 := rB_mul (t := X) hY
  have hg := rG_ne (t := X) hY
  generalize rT X Y = p at *
  generalize rB X Y = q at *
  generalize rG X Y = g at *
  apply Int.eq_of_mul_eq_mul_right hg
  rw [Int.mul_assoc, Int.mul_comm B g, ← Int.mul_assoc, h1, h, Int.mul_assoc, h2]
theorem plus_cross {p q p' q' a b c d : Int} (h1 : p * b = a * q) (h2 : p' * d = c * q') : (p * q' + p' * q) * (b * d) = (a * d + c * b) * (q * q') := by grind
theorem minus_cross {p q p' q' a b c d : Int} (h1 : p * b = a * q) (h2 : p' * d = c * q') : (p * q' - p' * q) * (b * d) = (a * d - c * b) * (q * q') := by grind
theorem times_cross {p q p' q' a b c d : Int} (h1 : p * b = a * q) (h2 : p' * d = c * q') : (p * p') * (b * d) = (a * c) * (q * q') := by grind
theorem over_cross {p q p' q' a b c d : Int} (h1 : p * b = a * q) (h2 : p' * d = c * q') : (p * q') * (b * c) = (a * d) * (q * p') := by grind
theorem rT_zero (b : Int) : rT 0 b = 0 := by
  unfold rT; exact Int.zero_fdiv _
end RB

set_option linter.all false
/-! Lists of coefficients. -/
namespace ML
/-- the coefficient at a place, 0 beyond -/
def cf (P : List Int) (k : Nat) : Int := P.getD k 0
theorem cf_nil (k : Nat) : cf [] k = 0 := by simp [cf]
theorem cf_zero (x : Int) (r : List Int) : cf (x :: r) 0 = x := rfl
theorem cf_succ (x : Int) (r : List Int) (k : Nat) : cf (x :: r) (k + 1) = cf r k := by simp [cf]
theorem cf_get {P : List Int} {k : Nat} (h : k < P.length) : cf P k = P[k] := by
  unfold cf; rw [List.getD_eq_getElem?_getD, List.getElem?_eq_getElem h]; rfl
theorem cf_some {P : List Int} {k : Nat} {x : Int} (h : P[k]? = some x) : cf P k = x := by
  unfold cf; rw [List.getD_eq_getElem?_getD, h]; rfl
theorem cf_beyond {P : List Int} {k : Nat} (h : P.length ≤ k) : cf P k = 0 := by
  unfold cf; rw [List.getD_eq_getElem?_getD, List.getElem?_eq_none h]; rfl
theorem cf_getElem? {P : List Int} {k : Nat} (h : k < P.length) : P[k]? = some (cf P k) := by
  rw [cf_get h, List.getElem?_eq_getElem h]
/-- two lists of one length with the same coefficients are alike -/
theorem ext {P Q : List Int} (hl : P.length = Q.length) (h : ∀ k, k < P.length → cf P k = cf Q k) : P = Q := by
  apply List.ext_getElem hl
  intro i h1 h2
  rw [← cf_get h1, ← cf_get h2]
  exact h i h1
/-- without noughts at the end -/
def Trim (P : List Int) : Prop := P = [] ∨ cf P (P.length - 1) ≠ 0
theorem trim_ext {P Q : List Int} (hP : Trim P) (hQ : Trim Q) (h : ∀ k, cf P k = cf Q k) : P = Q := by
  have aux : ∀ {P Q : List Int}, Trim P → (∀ k, cf P k = cf Q k) → P.length ≤ Q.length := fun {P Q} hP h => by
    rcases hP with rfl | hP
    · exact Nat.zero_le _
    · apply Nat.le_of_not_lt
      intro hl
      have := h (P.length - 1)
      rw [cf_beyond (P := Q) (by omega)] at this
      exact hP this
  exact ext (Nat.le_antisymm (aux hP h) (aux hQ fun k => (h k).symm)) fun k _ => h k
def trimL : List Int → List Int
  | [] => []
  | x :: r => match trimL r with
    | [] => if x = 0 then [] else [x]
    | y :: s => x :: y :: s
theorem cf_trimL : ∀ (P : List Int) (k : Nat), cf (trimL P) k = cf P k
  | [], k => rfl
  | x :: r, k => by
    have ih := cf_trimL r
    unfold trimL
    split
    · next e =>
      rw [e] at ih
      split
      · next hx =>
        subst hx
        cases k with
        | zero => rfl
        | succ k => rw [cf_succ, ← ih k, cf_nil, cf_nil]
      · cases k with
        | zero => rfl
        | succ k => rw [cf_succ, cf_succ, ← ih k]
    · next y s e =>
      rw [e] at ih
      cases k with
      | zero => rfl
      | succ k => rw [cf_succ, cf_succ, ← ih k]
theorem trim_trimL : ∀ P : List Int, Trim (trimL P)
  | [] => .inl rfl
  | x :: r => by
    have ih := trim_trimL r
    unfold trimL
    split
    · split
      · exact .inl rfl
      · next hx => exact .inr hx
    · next y s e =>
      rw [e] at ih
      rcases ih with h | h
      · cases h
      · refine .inr ?_
        show cf (x :: y :: s) (s.length + 1) ≠ 0
        rw [cf_succ]
        exact h
theorem trimL_eq {P Q : List Int} (hQ : Trim Q) (h : ∀ k, cf Q k = cf P k) : trimL P = Q := trim_ext (trim_trimL P) hQ fun k => by rw [cf_trimL, h]
theorem trimL_self {P : List Int} (h : Trim P) : trimL P = P := trimL_eq h fun _ => rfl
theorem trimL_trimL (P : List Int) : trimL (trimL P) = trimL P := trimL_self (trim_trimL P)
theorem trimL_len : ∀ P : List Int, (trimL P).length ≤ P.length
  | [] => Nat.le_refl _
  | x :: r => by
    have ih := trimL_len r
    unfold trimL
    split
    · split <;> simp
    · next y s e =>
      rw [e] at ih
      simp only [List.length_cons] at ih ⊢
      omega
theorem trimL_congr {P Q : List Int} (h : ∀ k, cf P k = cf Q k) : trimL P = trimL Q := trim_ext (trim_trimL P) (trim_trimL Q) fun k => by rw [cf_trimL, cf_trimL, h]
/-- what the loop finds -/
theorem trimL_take {P : List Int} {n : Nat} (hn : n ≤ P.length) (h0 : ∀ k, n ≤ k → cf P k = 0) (h1 : n = 0 ∨ cf P (n - 1) ≠ 0) : trimL P = P.take n := by
  have hc : ∀ k, cf (P.take n) k = cf P k := fun k => by
    by_cases hk : k < n
    · unfold cf
      rw [List.getD_eq_getElem?_getD, List.getD_eq_getElem?_getD, List.getElem?_take_of_lt hk]
    · rw [h0 k (by omega), cf_beyond (by rw [List.length_take]; omega)]
  refine trimL_eq ?_ hc
  rcases h1 with h1 | h1
  · left; subst h1; rfl
  · by_cases hz : n = 0
    · left; subst hz; rfl
    · right
      rw [List.length_take, Nat.min_eq_left hn, hc]
      exact h1
/-- all coefficients below 2 ^ n -/
def Sz (n : Nat) (P : List Int) : Prop := ∀ x ∈ P, x.natAbs < 2 ^ n
theorem Sz.cf {n : Nat} {P : List Int} (h : Sz n P) (k : Nat) : (cf P k).natAbs < 2 ^ n := by
  by_cases hk : k < P.length
  · rw [cf_get hk]; exact h _ (List.getElem_mem hk)
  · rw [cf_beyond (by omega)]; exact Nat.two_pow_pos n
theorem Sz.of {n : Nat} {P : List Int} (h : ∀ k, k < P.length → (ML.cf P k).natAbs < 2 ^ n) : Sz n P := fun x hx => by
  obtain ⟨k, hk, rfl⟩ := List.getElem_of_mem hx
  rw [← cf_get hk]; exact h k hk
theorem Sz.mono {n m : Nat} {P : List Int} (h : Sz n P) (hm : n ≤ m) : Sz m P := fun x hx => Nat.lt_of_lt_of_le (h x hx) (Nat.pow_le_pow_right (by decide) hm)
theorem Sz.trim {n : Nat} {P : List Int} (h : Sz n P) : Sz n (trimL P) := Sz.of fun k _ => by rw [cf_trimL]; exact h.cf k
theorem Sz.take {n : Nat} {P : List Int} (h : Sz n P) (k : Nat) : Sz n (P.take k) := fun x hx => h x (List.mem_of_mem_take hx)
theorem Sz.drop {n : Nat} {P : List Int} (h : Sz n P) (k : Nat) : Sz n (P.drop k) := fun x hx => h x (List.mem_of_mem_drop hx)
theorem Sz.append {n : Nat} {P Q : List Int} (h : Sz n P) (h' : Sz n Q) : Sz n (P ++ Q) := fun x hx => (List.mem_append.mp hx).elim (h x) (h' x)
theorem Sz.nil (n : Nat) : Sz n [] := fun x hx => by cases hx
theorem Sz.cons {n : Nat} {x : Int} {P : List Int} (hx : x.natAbs < 2 ^ n) (h : Sz n P) : Sz n (x :: P) := fun y hy => (List.mem_cons.mp hy).elim (fun e => by rw [e]; exact hx) (h y)
theorem Sz.rep0 (n k : Nat) : Sz n (List.replicate k 0) := fun x hx => by
  rw [List.mem_replicate] at hx
  rw [hx.2]; exact Nat.two_pow_pos n
theorem Sz.reverse {n : Nat} {P : List Int} (h : Sz n P) : Sz n P.reverse := fun x hx => h x (List.mem_reverse.mp hx)
theorem cf_map {f : Int → Int} (h0 : f 0 = 0) (P : List Int) (k : Nat) : cf (P.map f) k = f (cf P k) := by
  unfold cf
  rw [List.getD_eq_getElem?_getD, List.getD_eq_getElem?_getD, List.getElem?_map]
  cases P[k]? with
  | none => exact h0.symm
  | some x => rfl
theorem cf_range {n : Nat} {f : Nat → Int} {k : Nat} (h : k < n) : cf ((List.range n).map f) k = f k := by
  rw [cf_get (by simpa using h)]; simp
theorem cf_range_beyond {n : Nat} {f : Nat → Int} {k : Nat} (h : n ≤ k) : cf ((List.range n).map f) k = 0 := cf_beyond (by simpa using h)
theorem cf_set {P : List Int} {i k : Nat} {x : Int} (h : i < P.length) : cf (P.set i x) k = if k = i then x else cf P k := by
  unfold cf
  rw [List.getD_eq_getElem?_getD, List.getElem?_set, List.getD_eq_getElem?_getD]
  by_cases e : i = k
  · subst e; simp [h]
  · rw [if_neg e, if_neg (fun z => e z.symm)]
theorem cf_append_left {P Q : List Int} {k : Nat} (h : k < P.length) : cf (P ++ Q) k = cf P k := by
  unfold cf
  rw [List.getD_eq_getElem?_getD, List.getElem?_append_left h, List.getD_eq_getElem?_getD]
theorem cf_append_right {P Q : List Int} {k : Nat} (h : P.length ≤ k) : cf (P ++ Q) k = cf Q (k - P.length) := by
  unfold cf
  rw [List.getD_eq_getElem?_getD, List.getElem?_append_right h, List.getD_eq_getElem?_getD]
theorem cf_rep0 (n k : Nat) : cf (List.replicate n 0) k = 0 := by
  unfold cf
  rw [List.getD_eq_getElem?_getD, List.getElem?_replicate]
  split <;> rfl
theorem cf_drop (P : List Int) (n k : Nat) : cf (P.drop n) k = cf P (n + k) := by
  unfold cf
  rw [List.getD_eq_getElem?_getD, List.getElem?_drop, List.getD_eq_getElem?_getD]
theorem cf_take {P : List Int} {n k : Nat} (h : k < n) : cf (P.take n) k = cf P k := by
  unfold cf
  rw [List.getD_eq_getElem?_getD, List.getD_eq_getElem?_getD, List.getElem?_take_of_lt h]

/-! ### sums and products -/
def addL (P Q : List Int) : List Int := trimL ((List.range (max P.length Q.length)).map fun k => cf P k + cf Q k)
def subL (P Q : List Int) : List Int := trimL ((List.range (max P.length Q.length)).map fun k => cf P k - cf Q k)
theorem cf_addL (P Q : List Int) (k : Nat) : cf (addL P Q) k = cf P k + cf Q k := by
  unfold addL
  rw [cf_trimL]
  by_cases h : k < max P.length Q.length
  · rw [cf_range h]
  · rw [cf_range_beyond (by omega), cf_beyond (P := P) (by omega), cf_beyond (P := Q) (by omega)]; rfl
theorem cf_subL (P Q : List Int) (k : Nat) : cf (subL P Q) k = cf P k - cf Q k := by
  unfold subL
  rw [cf_trimL]
  by_cases h : k < max P.length Q.length
  · rw [cf_range h]
  · rw [cf_range_beyond (by omega), cf_beyond (P := P) (by omega), cf_beyond (P := Q) (by omega)]; rfl
theorem trim_addL (P Q : List Int) : Trim (addL P Q) := trim_trimL _
theorem trim_subL (P Q : List Int) : Trim (subL P Q) := trim_trimL _
/-- the sum of f over 0 .. n - 1 -/
def sm : Nat → (Nat → Int) → Int
  | 0, _ => 0
  | n + 1, f => sm n f + f n
theorem sm_succ (n : Nat) (f : Nat → Int) : sm (n + 1) f = sm n f + f n := rfl
theorem sm_congr {n : Nat} {f g : Nat → Int} (h : ∀ i, i < n → f i = g i) : sm n f = sm n g := by
  induction n with
  | zero => rfl
  | succ n ih => unfold sm; rw [ih fun i hi => h i (by omega), h n (by omega)]
theorem sm_zero {n : Nat} {f : Nat → Int} (h : ∀ i, i < n → f i = 0) : sm n f = 0 := by
  induction n with
  | zero => rfl
  | succ n ih => unfold sm; rw [ih fun i hi => h i (by omega), h n (by omega)]; rfl
theorem sm_add (n : Nat) (f g : Nat → Int) : sm n (fun i => f i + g i) = sm n f + sm n g := by
  induction n with
  | zero => rfl
  | succ n ih => simp only [sm_succ]; rw [ih]; omega
theorem sm_sub (n : Nat) (f g : Nat → Int) : sm n (fun i => f i - g i) = sm n f - sm n g := by
  induction n with
  | zero => rfl
  | succ n ih => simp only [sm_succ]; rw [ih]; omega
theorem sm_mul (n : Nat) (c : Int) (f : Nat → Int) : sm n (fun i => c * f i) = c * sm n f := by
  induction n with
  | zero => simp [sm]
  | succ n ih => unfold sm; rw [ih, Int.mul_add]
theorem sm_mul_r (n : Nat) (c : Int) (f : Nat → Int) : sm n (fun i => f i * c) = sm n f * c := by
  rw [Int.mul_comm, ← sm_mul]; exact sm_congr fun i _ => Int.mul_comm _ _
theorem sm_neg (n : Nat) (f : Nat → Int) : sm n (fun i => - f i) = - sm n f := by
  induction n with
  | zero => rfl
  | succ n ih => simp only [sm_succ]; rw [ih]; omega
theorem sm_ext {n m : Nat} {f : Nat → Int} (h : n ≤ m) (h0 : ∀ i, n ≤ i → i < m → f i = 0) : sm m f = sm n f := by
  induction m with
  | zero => have : n = 0 := by omega
            subst this; rfl
  | succ m ih =>
    by_cases e : n = m + 1
    · subst e; rfl
    · rw [sm_succ, ih (by omega) fun i h1 h2 => h0 i h1 (by omega), h0 m (by omega) (by omega)]
      omega
theorem sm_single {n : Nat} {f : Nat → Int} {j : Nat} (hj : j < n) (h : ∀ i, i < n → i ≠ j → f i = 0) : sm n f = f j := by
  induction n with
  | zero => omega
  | succ n ih =>
    unfold sm
    by_cases e : j = n
    · subst e
      rw [sm_zero fun i hi => h i (by omega) (by omega)]; omega
    · rw [ih (by omega) fun i hi hn => h i (by omega) hn, h n (by omega) (fun z => e z.symm)]; omega
theorem sm_shift (n : Nat) (f : Nat → Int) : sm (n + 1) f = f 0 + sm n (fun i => f (i + 1)) := by
  induction n with
  | zero => simp [sm]
  | succ n ih =>
    rw [sm, ih]
    show f 0 + sm n (fun i => f (i + 1)) + f (n + 1) = f 0 + (sm n (fun i => f (i + 1)) + f (n + 1))
    omega
theorem sm_rev (n : Nat) (f : Nat → Int) : sm n (fun i => f (n - 1 - i)) = sm n f := by
  induction n generalizing f with
  | zero => rfl
  | succ n ih =>
    rw [sm_shift, sm]
    have e : sm n (fun i => f (n + 1 - 1 - (i + 1))) = sm n f := by
      rw [← ih f]
      exact sm_congr fun i hi => by congr 1; omega
    rw [e]
    show f (n - 0) + sm n f = sm n f + f n
    rw [Nat.sub_zero]; omega
theorem sm_swap (n m : Nat) (f : Nat → Nat → Int) : sm n (fun i => sm m (fun j => f i j)) = sm m (fun j => sm n (fun i => f i j)) := by
  induction n with
  | zero => rw [sm]; exact (sm_zero fun _ _ => rfl).symm
  | succ n ih =>
    rw [sm, ih, ← sm_add]
    exact sm_congr fun j _ => rfl
/-- the coefficient of a product at a place -/
def cv (P Q : List Int) (k : Nat) : Int := sm (k + 1) fun i => cf P i * cf Q (k - i)
def mulL (P Q : List Int) : List Int := trimL ((List.range (P.length + Q.length)).map (cv P Q))
theorem cv_beyond {P Q : List Int} {k : Nat} (h : P.length + Q.length ≤ k + 1) : cv P Q k = 0 := sm_zero fun i hi => by
  by_cases h1 : i < P.length
  · rw [cf_beyond (P := Q) (by omega), Int.mul_zero]
  · rw [cf_beyond (P := P) (by omega), Int.zero_mul]
theorem cf_mulL (P Q : List Int) (k : Nat) : cf (mulL P Q) k = cv P Q k := by
  unfold mulL
  rw [cf_trimL]
  by_cases h : k < P.length + Q.length
  · rw [cf_range h]
  · rw [cf_range_beyond (by omega), cv_beyond (by omega)]
theorem trim_mulL (P Q : List Int) : Trim (mulL P Q) := trim_trimL _
/-- the product as it stands behind k turns of the outer loop and i of the inner one -/
def pcv (P Q : List Int) (k j : Nat) : Int := sm k fun a => if a ≤ j then cf P a * cf Q (j - a) else 0
def pcw (P Q : List Int) (k i j : Nat) : Int := pcv P Q k j + if k ≤ j ∧ j - k < i then cf P k * cf Q (j - k) else 0
theorem pcw_zero (P Q : List Int) (k j : Nat) : pcw P Q k 0 j = pcv P Q k j := by
  unfold pcw
  rw [if_neg (by omega)]; omega
theorem pcw_full (P Q : List Int) (k j : Nat) : pcw P Q k Q.length j = pcv P Q (k + 1) j := by
  unfold pcw
  show _ = pcv P Q k j + (if k ≤ j then cf P k * cf Q (j - k) else 0)
  by_cases h : k ≤ j
  · rw [if_pos h]
    by_cases h2 : j - k < Q.length
    · rw [if_pos ⟨h, h2⟩]
    · rw [if_neg (by omega), cf_beyond (P := Q) (by omega), Int.mul_zero]
  · rw [if_neg h, if_neg (by omega)]
theorem pcw_step (P Q : List Int) (k i j : Nat) : pcw P Q k (i + 1) j = if j = k + i then pcw P Q k i j + cf P k * cf Q i else pcw P Q k i j := by
  unfold pcw
  by_cases h : j = k + i
  · subst h
    rw [if_pos rfl, if_pos (by omega), if_neg (by omega), Nat.add_sub_cancel_left]; omega
  · rw [if_neg h]
    by_cases h2 : k ≤ j ∧ j - k < i
    · rw [if_pos h2, if_pos (by omega)]
    · rw [if_neg h2, if_neg (by omega)]
theorem pcv_full (P Q : List Int) (j : Nat) : pcv P Q P.length j = cv P Q j := by
  unfold pcv cv
  by_cases h : P.length ≤ j + 1
  · rw [sm_ext (f := fun i => cf P i * cf Q (j - i)) h fun i h1 h2 => by rw [cf_beyond (P := P) h1, Int.zero_mul]]
    exact sm_congr fun i hi => if_pos (by omega)
  · rw [sm_ext (n := j + 1) (by omega) fun i h1 h2 => if_neg (by omega)]
    exact sm_congr fun i hi => if_pos (by omega)
theorem mulL_of {P Q R : List Int} (hl : R.length = P.length + Q.length) (h : ∀ j, cf R j = pcv P Q P.length j) : trimL R = mulL P Q := by
  refine trim_ext (trim_trimL _) (trim_mulL P Q) fun j => ?_
  rw [cf_trimL, h, pcv_full, cf_mulL]
def linL (P Q : List Int) (f : Int) : List Int := trimL ((List.range (max P.length Q.length)).map fun k => cf P k + f * cf Q k)
theorem linL_one (P Q : List Int) : linL P Q 1 = addL P Q := by
  unfold linL addL
  congr 1
  apply List.map_congr_left
  intro k _
  rw [Int.one_mul]
theorem linL_neg (P Q : List Int) : linL P Q (-1) = subL P Q := by
  unfold linL subL
  congr 1
  apply List.map_congr_left
  intro k _
  omega
theorem linL_of {P Q R : List Int} {f : Int} (hl : R.length = max P.length Q.length) (h : ∀ j, j < max P.length Q.length → cf R j = cf P j + f * cf Q j) : trimL R = linL P Q f := by
  unfold linL
  congr 1
  refine ext (by simpa using hl) fun k hk => ?_
  rw [h k (by omega), cf_range (by omega)]
/-! ### slope, turned, flipped, lifted -/
def slopeL (P : List Int) : List Int := (List.range (P.length - 1)).map fun (k : Nat) => ((k : Int) + 1) * cf P (k + 1)
def turnL (P : List Int) : List Int := (List.range P.length).map fun k => if k % 2 = 1 then - cf P k else cf P k
def flipL (P : List Int) : List Int := trimL P.reverse
/-- each coefficient at so many times its place -/
def liftL (P : List Int) (m : Nat) : List Int := (List.range (if P.length = 0 then 0 else m * (P.length - 1) + 1)).map fun j => if j % m = 0 then cf P (j / m) else 0
theorem cf_slopeL (P : List Int) (k : Nat) : cf (slopeL P) k = ((k : Int) + 1) * cf P (k + 1) := by
  unfold slopeL
  by_cases h : k < P.length - 1
  · rw [cf_range h]
  · rw [cf_range_beyond (by omega), cf_beyond (P := P) (show P.length ≤ k + 1 by omega), Int.mul_zero]
theorem cf_turnL (P : List Int) (k : Nat) : cf (turnL P) k = if k % 2 = 1 then - cf P k else cf P k := by
  unfold turnL
  by_cases h : k < P.length
  · rw [cf_range h]
  · rw [cf_range_beyond (by omega), cf_beyond (P := P) (by omega)]; split <;> rfl
theorem turnL_len (P : List Int) : (turnL P).length = P.length := by unfold turnL; simp
theorem turnL_turnL (P : List Int) : turnL (turnL P) = P := by
  refine ext (by rw [turnL_len, turnL_len]) fun k _ => ?_
  rw [cf_turnL, cf_turnL]
  by_cases h : k % 2 = 1
  · rw [if_pos h, if_pos h]; omega
  · rw [if_neg h, if_neg h]
theorem cf_reverse {P : List Int} {k : Nat} (h : k < P.length) : cf P.reverse k = cf P (P.length - 1 - k) := by
  unfold cf
  rw [List.getD_eq_getElem?_getD, List.getElem?_reverse h, List.getD_eq_getElem?_getD]
theorem liftL_len (P : List Int) (m : Nat) : (liftL P m).length = if P.length = 0 then 0 else m * (P.length - 1) + 1 := by unfold liftL; simp
theorem div_bound {j m n : Nat} (hm : 0 < m) (h : j < m * n + 1) : j / m ≤ n := by
  rw [← Nat.lt_add_one_iff, Nat.div_lt_iff_lt_mul hm, Nat.add_mul, Nat.mul_comm n m]; omega
theorem liftL_step {P R : List Int} {m i : Nat} (hm : 0 < m) (hi : i < P.length) (hR : R = liftL (P.take i) m) : (if i = 0 then R else R ++ List.replicate (m - 1) 0) ++ [cf P i] = liftL (P.take (i + 1)) m := by
  have lt1 : (P.take i).length = i := by rw [List.length_take]; omega
  have lt2 : (P.take (i + 1)).length = i + 1 := by rw [List.length_take]; omega
  have lR : R.length = if i = 0 then 0 else m * (i - 1) + 1 := by rw [hR, liftL_len, lt1]
  have lL : (if i = 0 then R else R ++ List.replicate (m - 1) 0).length = m * i := by
    by_cases h : i = 0
    · subst h; rw [if_pos rfl, lR, if_pos rfl]; rfl
    · rw [if_neg h, List.length_append, List.length_replicate, lR, if_neg h]
      have : m * i = m * (i - 1) + m := by rw [← Nat.mul_succ]; congr 1; omega
      omega
  refine ext ?_ fun k hk => ?_
  · rw [List.length_append, lL, liftL_len, lt2, if_neg (by omega), Nat.add_sub_cancel]; rfl
  · rw [List.length_append, lL] at hk
    have hk' : k < m * i + 1 := hk
    have hr : cf (liftL (P.take (i + 1)) m) k = if k % m = 0 then cf (P.take (i + 1)) (k / m) else 0 := by
      unfold liftL
      rw [lt2, if_neg (by omega), Nat.add_sub_cancel, cf_range hk']
    rw [hr]
    by_cases hlast : k = m * i
    · rw [cf_append_right (by omega), lL, hlast, Nat.sub_self, Nat.mul_mod_right, if_pos rfl, Nat.mul_div_cancel_left _ hm, cf_take (by omega)]; rfl
    · rw [cf_append_left (by omega)]
      have i0 : i ≠ 0 := by intro e; subst e; omega
      rw [if_neg i0]
      rw [if_neg i0] at lR
      have em : m * i = m * (i - 1) + m := by rw [← Nat.mul_succ]; congr 1; omega
      by_cases hin : k < R.length
      · rw [cf_append_left hin, hR]
        unfold liftL
        rw [lt1, if_neg i0, cf_range (by omega)]
        split
        · have := div_bound hm (show k < m * (i - 1) + 1 by omega)
          rw [cf_take (by omega), cf_take (by omega)]
        · rfl
      · rw [cf_append_right (by omega), cf_rep0]
        have hd : k / m = i - 1 := by
          apply Nat.div_eq_of_lt_le
          · rw [Nat.mul_comm]; omega
          · rw [Nat.succ_mul, Nat.mul_comm]; omega
        have hne : k % m ≠ 0 := fun e => by
          have := Nat.div_add_mod k m
          rw [hd, e] at this
          omega
        rw [if_neg hne]
theorem liftL_all (P : List Int) (m : Nat) : liftL (P.take P.length) m = liftL P m := by rw [List.take_length]
theorem liftL_nil (P : List Int) (m : Nat) : liftL (P.take 0) m = [] := by simp [liftL]
theorem cf_liftL (P : List Int) {m : Nat} (hm : 0 < m) (j : Nat) : cf (liftL P m) j = if j % m = 0 then cf P (j / m) else 0 := by
  unfold liftL
  by_cases h : j < (if P.length = 0 then 0 else m * (P.length - 1) + 1)
  · rw [cf_range h]
  · rw [cf_range_beyond (by omega)]
    split
    · next e =>
      refine (cf_beyond ?_).symm
      by_cases h0 : P.length = 0
      · rw [h0]; exact Nat.zero_le _
      · rw [if_neg h0] at h
        have := Nat.div_add_mod j m
        rw [e] at this
        apply Nat.le_of_not_lt
        intro hlt
        have h2 : m * (j / m) ≤ m * (P.length - 1) := Nat.mul_le_mul_left m (by omega)
        omega
    · rfl
theorem trim_liftL {P : List Int} {m : Nat} (hm : 0 < m) (h : Trim P) : Trim (liftL P m) := by
  by_cases h0 : P.length = 0
  · left; unfold liftL; rw [if_pos h0]; rfl
  · right
    rw [liftL_len, if_neg h0, Nat.add_sub_cancel, cf_liftL P hm, Nat.mul_mod_right, if_pos rfl, Nat.mul_div_cancel_left _ hm]
    rcases h with h | h
    · rw [h] at h0; exact absurd rfl h0
    · exact h
/-- the product with its noughts -/
def mulU (P Q : List Int) : List Int := if P = [] ∨ Q = [] then [] else (List.range (P.length + Q.length - 1)).map (cv P Q)
theorem cf_mulU (P Q : List Int) (k : Nat) : cf (mulU P Q) k = cv P Q k := by
  unfold mulU
  split
  · next h =>
    rw [cf_nil]
    refine (cv_beyond' h k).symm
  · by_cases h : k < P.length + Q.length - 1
    · rw [cf_range h]
    · rw [cf_range_beyond (by omega), cv_beyond (by omega)]
where
  cv_beyond' {P Q : List Int} (h : P = [] ∨ Q = []) (k : Nat) : cv P Q k = 0 := sm_zero fun i _ => by
    rcases h with h | h
    · rw [h, cf_nil, Int.zero_mul]
    · rw [h, cf_nil, Int.mul_zero]
theorem mulU_len (P Q : List Int) : (mulU P Q).length ≤ P.length + Q.length := by
  unfold mulU
  split
  · simp
  · rw [List.length_map, List.length_range]; omega
theorem addL_len (P Q : List Int) : (addL P Q).length ≤ max P.length Q.length := Nat.le_trans (trimL_len _) (by simp)
theorem sm_abs {n : Nat} {f : Nat → Int} {b : Nat} (h : ∀ i, i < n → (f i).natAbs ≤ b) : (sm n f).natAbs ≤ n * b := by
  induction n with
  | zero => simp [sm]
  | succ n ih =>
    rw [sm_succ, Nat.add_mul]
    have := ih fun i hi => h i (by omega)
    have := h n (by omega)
    omega
theorem two_pow_ge (n : Nat) : n + 1 ≤ 2 ^ n := by
  induction n with
  | zero => decide
  | succ n ih => rw [Nat.pow_succ]; omega
theorem cv_sz {P Q : List Int} {n m : Nat} (hp : Sz n P) (hq : Sz m Q) (k : Nat) : (cv P Q k).natAbs < 2 ^ (n + m + P.length + 1) := by
  have h1 : cv P Q k = pcv P Q P.length k := (pcv_full P Q k).symm
  rw [h1]
  have h2 : (pcv P Q P.length k).natAbs ≤ P.length * 2 ^ (n + m) := sm_abs fun i _ => by
    split
    · rw [Int.natAbs_mul, Nat.pow_add]
      exact Nat.mul_le_mul (Nat.le_of_lt (hp.cf _)) (Nat.le_of_lt (hq.cf _))
    · exact Nat.zero_le _
  refine Nat.lt_of_le_of_lt h2 ?_
  have h3 := two_pow_ge P.length
  have h4 : 2 ^ (n + m + P.length + 1) = 2 ^ (P.length + 1) * 2 ^ (n + m) := by rw [← Nat.pow_add]; congr 1; omega
  rw [h4]
  exact Nat.mul_lt_mul_of_pos_right (by rw [Nat.pow_succ]; omega) (Nat.two_pow_pos _)
theorem Sz.mulL {P Q : List Int} {n m : Nat} (hp : Sz n P) (hq : Sz m Q) : Sz (n + m + P.length + 1) (mulL P Q) := Sz.of fun k _ => by rw [cf_mulL]; exact cv_sz hp hq k
theorem Sz.mulU {P Q : List Int} {n m : Nat} (hp : Sz n P) (hq : Sz m Q) : Sz (n + m + P.length + 1) (mulU P Q) := Sz.of fun k _ => by rw [cf_mulU]; exact cv_sz hp hq k
theorem Sz.addL {P Q : List Int} {n : Nat} (hp : Sz n P) (hq : Sz n Q) : Sz (n + 1) (addL P Q) := Sz.of fun k _ => by
  rw [cf_addL]
  have := hp.cf k
  have := hq.cf k
  have : 2 ^ (n + 1) = 2 ^ n + 2 ^ n := by rw [Nat.pow_succ]; omega
  omega
end ML

set_option linter.all false
/-! Division with a factor. -/
namespace MD
open ML
/-- the last coefficient -/
def lc (Q : List Int) : Int := cf Q (Q.length - 1)
def subShift (rs Q : List Int) (k : Nat) (many : Int) : List Int := (List.range rs.length).map fun j => if k ≤ j ∧ j - k < Q.length then cf rs j - many * cf Q (j - k) else cf rs j
theorem subShift_len (rs Q : List Int) (k : Nat) (many : Int) : (subShift rs Q k many).length = rs.length := by unfold subShift; simp
theorem cf_subShift {rs Q : List Int} {k : Nat} {many : Int} (j : Nat) (h : k + Q.length ≤ rs.length) : cf (subShift rs Q k many) j = cf rs j - if k ≤ j then many * cf Q (j - k) else 0 := by
  unfold subShift
  by_cases hj : j < rs.length
  · rw [cf_range hj]
    by_cases h1 : k ≤ j
    · rw [if_pos h1]
      by_cases h2 : j - k < Q.length
      · rw [if_pos ⟨h1, h2⟩]
      · rw [if_neg (by omega), cf_beyond (P := Q) (by omega), Int.mul_zero]; omega
    · rw [if_neg (by omega), if_neg h1]; omega
  · rw [cf_range_beyond (by omega), cf_beyond (P := rs) (by omega)]
    split
    · rw [cf_beyond (P := Q) (by omega), Int.mul_zero]; rfl
    · rfl
def dloop (Q : List Int) : Nat → List Int × List Int → List Int × List Int
  | 0, s => s
  | k + 1, (qs, rs) => dloop Q k (qs.set k ((cf rs (k + (Q.length - 1))).fdiv (lc Q)), subShift rs Q k ((cf rs (k + (Q.length - 1))).fdiv (lc Q)))
def facL (P Q : List Int) : Int := if P.length < Q.length then 1 else ((lc Q).natAbs : Int) ^ (P.length - Q.length + 1)
def quoL (P Q : List Int) : List Int := if P.length < Q.length then [] else trimL (dloop Q (P.length - Q.length + 1) (List.replicate (P.length - Q.length + 1) 0, P.map (· * facL P Q))).1
def remL (P Q : List Int) : List Int := if P.length < Q.length then P else trimL (dloop Q (P.length - Q.length + 1) (List.replicate (P.length - Q.length + 1) 0, P.map (· * facL P Q))).2
theorem cv_set {qs Q : List Int} {k : Nat} {x : Int} (hk : k < qs.length) (h0 : cf qs k = 0) (j : Nat) : cv (qs.set k x) Q j = cv qs Q j + if k ≤ j then x * cf Q (j - k) else 0 := by
  unfold cv
  have e : sm (j + 1) (fun i => cf (qs.set k x) i * cf Q (j - i)) = sm (j + 1) (fun i => cf qs i * cf Q (j - i) + if i = k then x * cf Q (j - k) else 0) := sm_congr fun i _ => by
    rw [cf_set hk]
    by_cases h : i = k
    · rw [if_pos h, if_pos h, h, h0, Int.zero_mul]; omega
    · rw [if_neg h, if_neg h]; omega
  rw [e, sm_add]
  congr 1
  by_cases hj : k ≤ j
  · rw [if_pos hj, sm_single (j := k) (by omega) fun i _ hn => if_neg hn, if_pos rfl]
  · rw [if_neg hj]
    exact sm_zero fun i hi => if_neg (by omega)
structure Inv (Q : List Int) (F : Nat → Int) (N g k : Nat) (s : List Int × List Int) : Prop where
  lq : s.1.length = g
  lr : s.2.length = N
  eq : ∀ j, F j = cv s.1 Q j + cf s.2 j
  hi : ∀ j, k + (Q.length - 1) ≤ j → cf s.2 j = 0
  dv : ∀ j, (((lc Q).natAbs ^ k : Nat) : Int) ∣ cf s.2 j
  lo : ∀ i, i < k → cf s.1 i = 0
theorem many_eq {Q rs : List Int} {k : Nat} (hl : lc Q ≠ 0) (dv : ∀ j, (((lc Q).natAbs ^ (k + 1) : Nat) : Int) ∣ cf rs j) (j : Nat) : lc Q * (cf rs j).fdiv (lc Q) = cf rs j := by
  have h1 : lc Q ∣ cf rs j := by
    refine Int.dvd_trans ?_ (dv j)
    refine Int.natAbs_dvd_natAbs.mp ?_
    rw [Int.natAbs_natCast, Nat.pow_succ]
    exact Nat.dvd_mul_left _ _
  rw [Int.fdiv_eq_ediv_of_dvd h1, Int.mul_ediv_cancel' h1]
theorem Inv.step {Q : List Int} {F : Nat → Int} {N g k : Nat} {qs rs : List Int} (I : Inv Q F N g (k + 1) (qs, rs)) (hl : lc Q ≠ 0) (hQ : 0 < Q.length) (hk : k < g) (hN : k + Q.length ≤ N) :
    Inv Q F N g k (qs.set k ((cf rs (k + (Q.length - 1))).fdiv (lc Q)), subShift rs Q k ((cf rs (k + (Q.length - 1))).fdiv (lc Q))) := by
  obtain ⟨lq, lr, eq, hi, dv, lo⟩ := I
  dsimp only at lq lr eq hi dv lo
  have me := many_eq hl dv (k + (Q.length - 1))
  have dm : (((lc Q).natAbs ^ k : Nat) : Int) ∣ (cf rs (k + (Q.length - 1))).fdiv (lc Q) := by
    have h1 := dv (k + (Q.length - 1))
    rw [← me] at h1
    have h2 := Int.natAbs_dvd_natAbs.mpr h1
    rw [Int.natAbs_natCast, Int.natAbs_mul, Nat.pow_succ, Nat.mul_comm] at h2
    have h3 := Nat.dvd_of_mul_dvd_mul_left (by omega) h2
    exact Int.natAbs_dvd_natAbs.mp (by rw [Int.natAbs_natCast]; exact h3)
  generalize (cf rs (k + (Q.length - 1))).fdiv (lc Q) = many at me dm ⊢
  refine ⟨by rw [List.length_set]; exact lq, by rw [subShift_len]; exact lr, fun j => ?_, fun j hj => ?_, fun j => ?_, fun i hi' => ?_⟩
  · dsimp only
    rw [eq j, cv_set (by omega) (lo k (by omega)), cf_subShift j (by omega)]; omega
  · dsimp only
    rw [cf_subShift j (by omega), if_pos (by omega)]
    by_cases h : j = k + (Q.length - 1)
    · have e2 : j - k = Q.length - 1 := by omega
      have e3 : cf Q (Q.length - 1) = lc Q := rfl
      rw [e2, e3, h, ← me, Int.mul_comm]; omega
    · rw [hi j (by omega), cf_beyond (P := Q) (by omega), Int.mul_zero]; rfl
  · dsimp only
    rw [cf_subShift j (by omega)]
    have d1 : (((lc Q).natAbs ^ k : Nat) : Int) ∣ cf rs j := Int.dvd_trans (Int.ofNat_dvd.mpr (Nat.pow_dvd_pow _ (by omega))) (dv j)
    refine Int.dvd_sub d1 ?_
    split
    · exact Int.dvd_mul_of_dvd_left dm
    · exact Int.dvd_zero _
  · dsimp only
    rw [cf_set (by omega), if_neg (by omega)]
    exact lo i (by omega)
theorem Inv.run {Q : List Int} {F : Nat → Int} {N g : Nat} (hl : lc Q ≠ 0) (hQ : 0 < Q.length) : ∀ (k : Nat) (s : List Int × List Int), k ≤ g → (k = 0 ∨ k - 1 + Q.length ≤ N) → Inv Q F N g k s → Inv Q F N g 0 (dloop Q k s)
  | 0, s, _, _, I => I
  | k + 1, (qs, rs), hk, hN, I => Inv.run hl hQ k _ (by omega) (by omega) (I.step hl hQ (by omega) (by omega))
theorem cv_zero_left {qs Q : List Int} (h : ∀ i, cf qs i = 0) (j : Nat) : cv qs Q j = 0 := sm_zero fun i _ => by rw [h, Int.zero_mul]
theorem lc_ne {Q : List Int} (hT : Trim Q) (h0 : Q ≠ []) : lc Q ≠ 0 := hT.elim (fun e => absurd e h0) id
theorem len_pos {Q : List Int} (h0 : Q ≠ []) : 0 < Q.length := List.length_pos_iff.mpr h0
theorem dstart {P Q : List Int} (hT : Trim Q) (h0 : Q ≠ []) (hg : ¬ P.length < Q.length) : Inv Q (fun j => cf P j * facL P Q) P.length (P.length - Q.length + 1) (P.length - Q.length + 1) (List.replicate (P.length - Q.length + 1) 0, P.map (· * facL P Q)) where
  lq := by simp
  lr := by simp
  eq := fun j => by
    dsimp only
    rw [cv_zero_left (fun i => cf_rep0 _ _), cf_map (f := (· * facL P Q)) (by omega)]; omega
  hi := fun j hj => by
    have := len_pos h0
    exact cf_beyond (by simp; omega)
  dv := fun j => by
    dsimp only
    rw [cf_map (f := (· * facL P Q)) (by omega)]
    refine Int.dvd_mul_of_dvd_right ?_
    unfold facL
    rw [if_neg hg, ← Int.natCast_pow]
    exact Int.dvd_refl _
  lo := fun i _ => cf_rep0 _ _
theorem dend {P Q : List Int} (hT : Trim Q) (h0 : Q ≠ []) (hg : ¬ P.length < Q.length) : Inv Q (fun j => cf P j * facL P Q) P.length (P.length - Q.length + 1) 0 (dloop Q (P.length - Q.length + 1) (List.replicate (P.length - Q.length + 1) 0, P.map (· * facL P Q))) :=
  Inv.run (lc_ne hT h0) (len_pos h0) _ _ (Nat.le_refl _) (.inr (by omega)) (dstart hT h0 hg)
theorem cv_trim_left (P Q : List Int) (j : Nat) : cv (trimL P) Q j = cv P Q j := sm_congr fun i _ => by rw [cf_trimL]
/-- factor times P is quotient times Q, added to the rest -/
theorem div_eq {P Q : List Int} (hT : Trim Q) (h0 : Q ≠ []) (j : Nat) : facL P Q * cf P j = cv (quoL P Q) Q j + cf (remL P Q) j := by
  by_cases hg : P.length < Q.length
  · unfold facL quoL remL
    rw [if_pos hg, if_pos hg, if_pos hg, cv_zero_left (fun i => cf_nil i)]; omega
  · have I := dend hT h0 hg
    unfold quoL remL
    rw [if_neg hg, if_neg hg, cv_trim_left, cf_trimL, Int.mul_comm]
    exact I.eq j
theorem rem_len {P Q : List Int} (hT : Trim Q) (h0 : Q ≠ []) : (remL P Q).length < Q.length := by
  by_cases hg : P.length < Q.length
  · unfold remL; rw [if_pos hg]; exact hg
  · have I := dend hT h0 hg
    have hq := len_pos h0
    have hz : ∀ j, Q.length - 1 ≤ j → cf (remL P Q) j = 0 := fun j hj => by
      unfold remL
      rw [if_neg hg, cf_trimL]
      exact I.hi j (by omega)
    have ht : Trim (remL P Q) := by
      unfold remL; rw [if_neg hg]; exact trim_trimL _
    rcases ht with h | h
    · rw [h]; exact hq
    · apply Nat.lt_of_not_le
      intro hle
      exact h (hz _ (by omega))
theorem trim_rem {P Q : List Int} (h : Trim P) : Trim (remL P Q) := by
  unfold remL
  split
  · exact h
  · exact trim_trimL _
theorem trim_quo (P Q : List Int) : Trim (quoL P Q) := by
  unfold quoL
  split
  · exact .inl rfl
  · exact trim_trimL _
/-! ### sizes -/
theorem abs_sub_lt {a b : Int} {n m : Nat} (ha : a.natAbs < 2 ^ n) (hb : b.natAbs < 2 ^ m) (h : n ≤ m) : (a - b).natAbs < 2 ^ (m + 1) := by
  have h1 : (2 : Nat) ^ n ≤ 2 ^ m := Nat.pow_le_pow_right (by decide) h
  have h2 : (2 : Nat) ^ (m + 1) = 2 ^ m + 2 ^ m := by rw [Nat.pow_succ]; omega
  omega
theorem many_lt {Q rs : List Int} {k n : Nat} (hl : lc Q ≠ 0) (dv : ∀ j, (((lc Q).natAbs ^ (k + 1) : Nat) : Int) ∣ cf rs j) (hs : Sz n rs) (j : Nat) : ((cf rs j).fdiv (lc Q)).natAbs < 2 ^ n := by
  have h1 := many_eq hl dv j
  have h2 := hs.cf j
  rw [← h1, Int.natAbs_mul] at h2
  exact Nat.lt_of_le_of_lt (Nat.le_mul_of_pos_left _ (by omega)) h2
theorem Sz.sub {Q rs : List Int} {k n m : Nat} {many : Int} (hs : Sz n rs) (hq : Sz m Q) (hm : many.natAbs < 2 ^ n) : Sz (n + m + 1) (subShift rs Q k many) := fun x hx => by
  unfold subShift at hx
  obtain ⟨j, _, rfl⟩ := List.mem_map.mp hx
  have h1 := hs.cf j
  have h2 : (many * cf Q (j - k)).natAbs < 2 ^ (n + m) := by
    rw [Int.natAbs_mul, Nat.pow_add]
    exact Nat.mul_lt_mul'' hm (hq.cf _)
  split
  · exact abs_sub_lt h1 h2 (by omega)
  · exact Nat.lt_of_lt_of_le h1 (Nat.pow_le_pow_right (by decide) (by omega))
theorem Sz.setq {qs : List Int} {n k : Nat} {x : Int} (hs : Sz n qs) (hx : x.natAbs < 2 ^ n) : Sz n (qs.set k x) := fun y hy => by
  rcases List.mem_or_eq_of_mem_set hy with h | h
  · exact hs y h
  · rw [h]; exact hx
theorem dloop_sz {Q : List Int} {F : Nat → Int} {N g m : Nat} (hl : lc Q ≠ 0) (hQ : 0 < Q.length) (hq : Sz m Q) : ∀ (k : Nat) (s : List Int × List Int) (n : Nat), k ≤ g → (k = 0 ∨ k - 1 + Q.length ≤ N) → Inv Q F N g k s → Sz n s.1 → Sz n s.2 → Sz (n + k * (m + 1)) (dloop Q k s).1 ∧ Sz (n + k * (m + 1)) (dloop Q k s).2
  | 0, s, n, _, _, _, h1, h2 => ⟨h1.mono (by omega), h2.mono (by omega)⟩
  | k + 1, (qs, rs), n, hk, hN, I, h1, h2 => by
    have hm := many_lt hl I.dv h2 (k + (Q.length - 1))
    have := dloop_sz hl hQ hq k _ (n + m + 1) (by omega) (by omega) (I.step hl hQ (by omega) (by omega)) ((Sz.setq h1 hm).mono (by omega)) (Sz.sub h2 hq hm)
    have e : n + m + 1 + k * (m + 1) = n + (k + 1) * (m + 1) := by rw [Nat.add_mul]; omega
    rw [e] at this
    exact this
theorem facL_lt {P Q : List Int} {m : Nat} (hq : Sz m Q) : (facL P Q).natAbs < 2 ^ (m * (P.length - Q.length + 1) + 1) := by
  unfold facL
  split
  · exact Nat.lt_of_lt_of_le (by decide : (1 : Int).natAbs < 2 ^ 1) (Nat.pow_le_pow_right (by decide) (by omega))
  · have h := hq.cf (Q.length - 1)
    rw [← Int.natCast_pow, Int.natAbs_natCast]
    refine Nat.lt_of_le_of_lt (Nat.pow_le_pow_left (Nat.le_of_lt h) _) ?_
    rw [← Nat.pow_mul]
    exact Nat.pow_lt_pow_right (by decide) (by omega)
/-- how great the quotient and the rest can be -/
theorem div_sz {P Q : List Int} {n m : Nat} (hT : Trim Q) (h0 : Q ≠ []) (hp : Sz n P) (hq : Sz m Q) : Sz (n + (2 * m + 1) * (P.length + 1) + 1) (quoL P Q) ∧ Sz (n + (2 * m + 1) * (P.length + 1) + 1) (remL P Q) := by
  by_cases hg : P.length < Q.length
  · unfold quoL remL
    rw [if_pos hg, if_pos hg]
    exact ⟨Sz.nil _, hp.mono (by omega)⟩
  · have hs0 : Sz (n + (m * (P.length - Q.length + 1) + 1)) (P.map (· * facL P Q)) := fun x hx => by
      obtain ⟨y, hy, rfl⟩ := List.mem_map.mp hx
      rw [Int.natAbs_mul, Nat.pow_add]
      exact Nat.mul_lt_mul'' (hp y hy) (facL_lt hq)
    have h := dloop_sz (lc_ne hT h0) (len_pos h0) hq (P.length - Q.length + 1) _ _ (Nat.le_refl _) (.inr (by omega)) (dstart hT h0 hg) (Sz.rep0 _ _) hs0
    have hle : n + (m * (P.length - Q.length + 1) + 1) + (P.length - Q.length + 1) * (m + 1) ≤ n + (2 * m + 1) * (P.length + 1) + 1 := by
      have e1 : (P.length - Q.length + 1) * (m + 1) = m * (P.length - Q.length + 1) + (P.length - Q.length + 1) := by rw [Nat.mul_add, Nat.mul_comm]; omega
      have e2 : (2 * m + 1) * (P.length + 1) = 2 * (m * (P.length + 1)) + (P.length + 1) := by rw [Nat.add_mul, Nat.mul_assoc]; omega
      have e3 : m * (P.length - Q.length + 1) ≤ m * (P.length + 1) := Nat.mul_le_mul_left m (by omega)
      omega
    unfold quoL remL
    rw [if_neg hg, if_neg hg]
    exact ⟨(h.1.mono hle).trim, (h.2.mono hle).trim⟩
theorem cv_one (f : Int) (P : List Int) (k : Nat) : cv [f] P k = f * cf P k := by
  unfold cv
  rw [sm_single (j := 0) (by omega) fun i _ hn => by rw [cf_beyond (P := [f]) (by simp; omega), Int.zero_mul]]
  rfl
theorem mul_one_trim {f : Int} {P : List Int} (hf : f ≠ 0) (hT : Trim P) : Trim (mulU [f] P) := by
  rcases hT with h | h
  · left; unfold mulU; rw [if_pos (.inr h)]
  · right
    have hP : P ≠ [] := fun e => by rw [e] at h; exact h (cf_nil _)
    have hl : (mulU [f] P).length = P.length := by
      unfold mulU
      rw [if_neg (fun z => z.elim (fun h => by cases h) hP), List.length_map, List.length_range]
      show 1 + P.length - 1 = _
      omega
    rw [hl, cf_mulU, cv_one]
    exact Int.mul_ne_zero hf h
theorem facL_pos {P Q : List Int} (hT : Trim Q) (h0 : Q ≠ []) : 0 < facL P Q := by
  unfold facL
  split
  · decide
  · have := lc_ne hT h0
    exact Int.pow_pos (by omega)
/-- the sentence of a division, as lists -/
theorem div_lists {P Q : List Int} (hP : Trim P) (hT : Trim Q) (h0 : Q ≠ []) : mulU [facL P Q] P = addL (mulU (quoL P Q) Q) (remL P Q) := by
  refine trim_ext (mul_one_trim (by have := facL_pos (P := P) hT h0; omega) hP) (trim_addL _ _) fun k => ?_
  rw [cf_mulU, cv_one, cf_addL, cf_mulU]
  exact div_eq hT h0 k
end MD

set_option linter.all false
/-! The ring of polynomials, by coefficients. -/
namespace MR
open ML MD
theorem cv_comm (P Q : List Int) (k : Nat) : cv P Q k = cv Q P k := by
  unfold cv
  rw [← sm_rev (k + 1) (fun i => cf Q i * cf P (k - i))]
  refine sm_congr fun i hi => ?_
  rw [show k + 1 - 1 - i = k - i by omega, show k - (k - i) = i by omega, Int.mul_comm]
theorem sm_tri (g : Nat → Nat → Int) : ∀ k : Nat, sm (k + 1) (fun i => sm (i + 1) (fun j => g j (i - j))) = sm (k + 1) (fun j => sm (k - j + 1) (fun l => g j l))
  | 0 => rfl
  | k + 1 => by
    rw [sm_succ, sm_tri g k, sm_succ (k + 1) (fun j => g j (k + 1 - j)), sm_succ (k + 1) (fun j => sm (k + 1 - j + 1) (fun l => g j l))]
    have e : sm (k + 1) (fun j => sm (k + 1 - j + 1) (fun l => g j l)) = sm (k + 1) (fun j => sm (k - j + 1) (fun l => g j l) + g j (k + 1 - j)) := sm_congr fun j hj => by
      have : k + 1 - j = k - j + 1 := by omega
      rw [this, sm_succ]
    rw [e, sm_add]
    have e2 : sm (k + 1 - (k + 1) + 1) (fun l => g (k + 1) l) = g (k + 1) (k + 1 - (k + 1)) := by
      rw [Nat.sub_self]; simp [sm]
    rw [e2]; omega
theorem cv_assoc' (P Q R : List Int) (k : Nat) : sm (k + 1) (fun i => cv P Q i * cf R (k - i)) = sm (k + 1) (fun j => cf P j * cv Q R (k - j)) := by
  have h := sm_tri (fun j l => cf P j * cf Q l * cf R (k - j - l)) k
  have e1 : sm (k + 1) (fun i => cv P Q i * cf R (k - i)) = sm (k + 1) (fun i => sm (i + 1) (fun j => cf P j * cf Q (i - j) * cf R (k - j - (i - j)))) := sm_congr fun i hi => by
    unfold cv
    rw [← sm_mul_r]
    exact sm_congr fun j hj => by rw [show k - j - (i - j) = k - i by omega]
  have e2 : sm (k + 1) (fun j => cf P j * cv Q R (k - j)) = sm (k + 1) (fun j => sm (k - j + 1) (fun l => cf P j * cf Q l * cf R (k - j - l))) := sm_congr fun j hj => by
    unfold cv
    rw [← sm_mul]
    exact sm_congr fun l _ => by rw [Int.mul_assoc]
  rw [e1, e2]; exact h
theorem cv_congr {P P' Q Q' : List Int} (h : ∀ i, cf P i = cf P' i) (h' : ∀ i, cf Q i = cf Q' i) (k : Nat) : cv P Q k = cv P' Q' k := sm_congr fun i _ => by rw [h, h']
theorem cv_assoc (P Q R : List Int) (k : Nat) : cv (mulL P Q) R k = cv P (mulL Q R) k := by
  have h := cv_assoc' P Q R k
  unfold cv at h ⊢
  rw [show sm (k + 1) (fun i => cf (mulL P Q) i * cf R (k - i)) = sm (k + 1) (fun i => sm (i + 1) (fun j => cf P j * cf Q (i - j)) * cf R (k - i)) from sm_congr fun i _ => by rw [cf_mulL]; rfl, h]
  exact sm_congr fun i _ => by rw [cf_mulL]; rfl
theorem cv_add_left (P P' Q : List Int) (k : Nat) : cv (addL P P') Q k = cv P Q k + cv P' Q k := by
  unfold cv
  rw [← sm_add]
  exact sm_congr fun i _ => by rw [cf_addL, Int.add_mul]
theorem cv_sub_left (P P' Q : List Int) (k : Nat) : cv (subL P P') Q k = cv P Q k - cv P' Q k := by
  unfold cv
  rw [← sm_sub]
  exact sm_congr fun i _ => by rw [cf_subL, Int.sub_mul]
theorem cv_add_right (P Q Q' : List Int) (k : Nat) : cv P (addL Q Q') k = cv P Q k + cv P Q' k := by
  rw [cv_comm, cv_add_left, cv_comm Q, cv_comm Q']
theorem cv_sub_right (P Q Q' : List Int) (k : Nat) : cv P (subL Q Q') k = cv P Q k - cv P Q' k := by
  rw [cv_comm, cv_sub_left, cv_comm Q, cv_comm Q']
/-- times a number -/
def sclL (c : Int) (P : List Int) : List Int := P.map (c * ·)
theorem cf_sclL (c : Int) (P : List Int) (k : Nat) : cf (sclL c P) k = c * cf P k := cf_map (f := (c * ·)) (by omega) P k
theorem sclL_len (c : Int) (P : List Int) : (sclL c P).length = P.length := by unfold sclL; simp
theorem trim_sclL {c : Int} {P : List Int} (hc : c ≠ 0) (h : Trim P) : Trim (sclL c P) := by
  rcases h with h | h
  · left; rw [h]; rfl
  · right; rw [sclL_len, cf_sclL]; exact Int.mul_ne_zero hc h
theorem cv_scl_left (c : Int) (P Q : List Int) (k : Nat) : cv (sclL c P) Q k = c * cv P Q k := by
  unfold cv
  rw [← sm_mul]
  exact sm_congr fun i _ => by rw [cf_sclL, Int.mul_assoc]
theorem cv_scl_right (c : Int) (P Q : List Int) (k : Nat) : cv P (sclL c Q) k = c * cv P Q k := by
  rw [cv_comm, cv_scl_left, cv_comm]
theorem mulL_comm (P Q : List Int) : mulL P Q = mulL Q P := trim_ext (trim_mulL _ _) (trim_mulL _ _) fun k => by rw [cf_mulL, cf_mulL, cv_comm]
theorem mulL_assoc (P Q R : List Int) : mulL (mulL P Q) R = mulL P (mulL Q R) := trim_ext (trim_mulL _ _) (trim_mulL _ _) fun k => by rw [cf_mulL, cf_mulL, cv_assoc]
theorem mulU_one {c : Int} (P : List Int) : mulU [c] P = sclL c P := by
  by_cases h : P = []
  · subst h; rfl
  · refine ext ?_ fun k _ => ?_
    · unfold mulU
      rw [if_neg (fun z => z.elim (fun h => by cases h) h), List.length_map, List.length_range, sclL_len]
      show 1 + P.length - 1 = _
      omega
    · rw [cf_mulU, cv_one, cf_sclL]
/-- the top of a product -/
theorem cv_top {D Q : List Int} {d e : Nat} (hd : ∀ i, d < i → cf D i = 0) (he : ∀ i, e < i → cf Q i = 0) : cv D Q (d + e) = cf D d * cf Q e := by
  unfold cv
  rw [sm_single (j := d) (by omega) fun i _ hn => ?_]
  · rw [Nat.add_sub_cancel_left]
  · by_cases h : d < i
    · rw [hd i h, Int.zero_mul]
    · rw [he (d + e - i) (by omega), Int.mul_zero]
theorem exists_top {D : List Int} (h : ∃ i, cf D i ≠ 0) : ∃ d, cf D d ≠ 0 ∧ ∀ i, d < i → cf D i = 0 := by
  have ht := trim_trimL D
  rcases ht with e | e
  · obtain ⟨i, hi⟩ := h
    rw [← cf_trimL, e, cf_nil] at hi
    exact absurd rfl hi
  · refine ⟨(trimL D).length - 1, by rw [cf_trimL] at e; exact e, fun i hi => ?_⟩
    rw [← cf_trimL]
    exact cf_beyond (by omega)
theorem top_of {Q : List Int} (hT : Trim Q) (h0 : Q ≠ []) : cf Q (Q.length - 1) ≠ 0 ∧ ∀ i, Q.length - 1 < i → cf Q i = 0 :=
  ⟨lc_ne hT h0, fun i hi => cf_beyond (by omega)⟩
/-- what is times Q and of a lower degree than Q is nought -/
theorem low_zero {D Q : List Int} (hT : Trim Q) (h0 : Q ≠ []) (h : ∀ k, Q.length - 1 ≤ k → cv D Q k = 0) : ∀ i, cf D i = 0 := by
  intro i
  apply Classical.byContradiction
  intro hi
  obtain ⟨d, hd, hd2⟩ := exists_top ⟨i, hi⟩
  obtain ⟨q1, q2⟩ := top_of hT h0
  have := cv_top hd2 q2
  rw [h _ (by omega)] at this
  exact Int.mul_ne_zero hd q1 this.symm
/-- the rest of a division is told by any such sentence -/
theorem rest_unique {P Q A R : List Int} {f : Int} (hT : Trim Q) (h0 : Q ≠ []) (hR : R.length < Q.length) (h : ∀ k, f * cf P k = cv A Q k + cf R k) (k : Nat) : facL P Q * cf R k = f * cf (remL P Q) k ∧ facL P Q * cf A k = f * cf (quoL P Q) k := by
  have hz : ∀ i, cf (subL (sclL (facL P Q) A) (sclL f (quoL P Q))) i = 0 := low_zero hT h0 fun k hk => by
    rw [cv_sub_left, cv_scl_left, cv_scl_left]
    have h1 := h k
    have h2 := div_eq (P := P) hT h0 k
    have hr := rem_len (P := P) hT h0
    rw [cf_beyond (P := R) (by omega)] at h1
    rw [cf_beyond (P := remL P Q) (by omega)] at h2
    rw [show cv A Q k = f * cf P k by omega, show cv (quoL P Q) Q k = facL P Q * cf P k by omega, ← Int.mul_assoc, ← Int.mul_assoc, Int.mul_comm (facL P Q) f]
    omega
  have ha : ∀ i, facL P Q * cf A i = f * cf (quoL P Q) i := fun i => by
    have := hz i
    rw [cf_subL, cf_sclL, cf_sclL] at this
    omega
  refine ⟨?_, ha k⟩
  have h1 := h k
  have h2 := div_eq (P := P) hT h0 k
  have h3 : facL P Q * cv A Q k = f * cv (quoL P Q) Q k := by
    rw [← cv_scl_left, ← cv_scl_left]
    exact cv_congr (fun i => by rw [cf_sclL, cf_sclL, ha]) (fun _ => rfl) k
  have h4 : cf R k = f * cf P k - cv A Q k := by omega
  have h5 : cf (remL P Q) k = facL P Q * cf P k - cv (quoL P Q) Q k := by omega
  rw [h4, h5, Int.mul_sub, Int.mul_sub, h3, ← Int.mul_assoc, ← Int.mul_assoc, Int.mul_comm (facL P Q) f]
theorem trim_mulU {P Q : List Int} (hP : Trim P) (hQ : Trim Q) : Trim (mulU P Q) := by
  by_cases h : P = [] ∨ Q = []
  · left; unfold mulU; rw [if_pos h]
  · right
    have h1 : P ≠ [] := fun e => h (.inl e)
    have h2 : Q ≠ [] := fun e => h (.inr e)
    have e : (mulU P Q).length = P.length + Q.length - 1 := by unfold mulU; rw [if_neg h]; simp
    have l1 := len_pos h1
    have l2 := len_pos h2
    obtain ⟨a1, a2⟩ := top_of hP h1
    obtain ⟨b1, b2⟩ := top_of hQ h2
    rw [e, cf_mulU, show P.length + Q.length - 1 - 1 = (P.length - 1) + (Q.length - 1) by omega, cv_top a2 b2]
    exact Int.mul_ne_zero a1 b1
theorem cf_zero_nil {P : List Int} (hT : Trim P) : P = [] ↔ ∀ k, cf P k = 0 :=
  ⟨fun h k => by rw [h, cf_nil], fun h => hT.elim id fun e => absurd (h _) e⟩
/-- Q divides P just where the rest is [] -/
theorem rem_nil {P Q A R : List Int} {f : Int} (hf : f ≠ 0) (hP : Trim P) (hT : Trim Q) (h0 : Q ≠ []) (hR : R.length < Q.length) (tR : Trim R) (h : ∀ k, f * cf P k = cv A Q k + cf R k) : remL P Q = [] ↔ R = [] := by
  have hp := facL_pos (P := P) hT h0
  rw [cf_zero_nil (trim_rem hP), cf_zero_nil tR]
  constructor
  · intro hz k
    have := (rest_unique hT h0 hR h k).1
    rw [hz k, Int.mul_zero] at this
    rcases Int.mul_eq_zero.mp this with e | e
    · omega
    · exact e
  · intro hz k
    have := (rest_unique hT h0 hR h k).1
    rw [hz k, Int.mul_zero] at this
    rcases Int.mul_eq_zero.mp this.symm with e | e
    · exact absurd e hf
    · exact e
end MR

set_option linter.all false
/-! Shrunk, plain. -/
namespace MP
open MG ML
theorem mem_cf {P : List Int} {d : Int} : (∀ x ∈ P, d ∣ x) ↔ ∀ k, d ∣ cf P k := by
  constructor
  · intro h k
    by_cases hk : k < P.length
    · rw [cf_get hk]; exact h _ (List.getElem_mem hk)
    · rw [cf_beyond (by omega)]; exact Int.dvd_zero d
  · intro h x hx
    obtain ⟨k, hk, rfl⟩ := List.getElem_of_mem hx
    rw [← cf_get hk]; exact h k
theorem gcdN_congr {P Q : List Int} (h : ∀ k, cf P k = cf Q k) : gcdN P = gcdN Q := by
  refine gcdN_eq (mem_cf.mpr fun k => ?_) fun d hd => dvd_gcdN (mem_cf.mpr fun k => ?_)
  · rw [h]; exact mem_cf.mp (fun x hx => gcdN_dvd hx) k
  · rw [← h]; exact mem_cf.mp hd k
theorem gcdN_trim (P : List Int) : gcdN (trimL P) = gcdN P := gcdN_congr (cf_trimL P)
theorem gcdN_cf (P : List Int) (k : Nat) : (gcdN P : Int) ∣ cf P k := mem_cf.mp (fun x hx => gcdN_dvd hx) k
theorem gcdL_cf (P : List Int) (k : Nat) : gcdL P ∣ cf P k := gcdN_cf P k
theorem gcdN_zero {P : List Int} (h : gcdN P = 0) (k : Nat) : cf P k = 0 := by
  have := gcdN_cf P k
  rw [h] at this
  exact Int.zero_dvd.mp this
theorem gcdL_ne {P : List Int} {k : Nat} (h : cf P k ≠ 0) : gcdL P ≠ 0 := fun e => h (gcdN_zero (by unfold gcdL at e; omega) k)
theorem gcdL_nonneg (P : List Int) : 0 ≤ gcdL P := by unfold gcdL; omega
theorem gcdL_pos {P : List Int} {k : Nat} (h : cf P k ≠ 0) : 0 < gcdL P := by
  have := gcdL_ne h; have := gcdL_nonneg P; omega
theorem gcdL_le {P : List Int} {k : Nat} (h : cf P k ≠ 0) : (gcdL P).natAbs ≤ (cf P k).natAbs := Nat.le_of_dvd (by omega) (Int.natAbs_dvd_natAbs.mpr (gcdL_cf P k))
theorem trim_last {P : List Int} (h : Trim P) (h0 : P ≠ []) : cf P (P.length - 1) ≠ 0 := h.elim (fun e => absurd e h0) id
theorem gcdL_trim_pos {P : List Int} (h : Trim P) (h0 : P ≠ []) : 0 < gcdL P := gcdL_pos (trim_last h h0)
theorem gcdL_log {n : Nat} {P : List Int} (hn : 0 < n) (hs : Sz n P) (h : Trim P) (h0 : P ≠ []) : (gcdL P).natAbs < 2 ^ n := Nat.lt_of_le_of_lt (gcdL_le (trim_last h h0)) (hs.cf _)
theorem gcdN_mul (c : Int) (P : List Int) : gcdN (P.map (c * ·)) = c.natAbs * gcdN P := by
  induction P with
  | nil => simp [gcdN_nil]
  | cons x r ih => rw [List.map_cons, gcdN_cons, gcdN_cons, ih, Int.natAbs_mul, Nat.gcd_mul_left]
/-- divided by the shared divisor -/
def shrunkL (P : List Int) : List Int := P.map fun x => x.fdiv (gcdL P)
def negL (P : List Int) : List Int := P.map fun x => -x
def plainL (P : List Int) : List Int := if shrunkL P ≠ [] ∧ cf (shrunkL P) ((shrunkL P).length - 1) < 0 then negL (shrunkL P) else shrunkL P
theorem shrunkL_len (P : List Int) : (shrunkL P).length = P.length := by unfold shrunkL; simp
theorem fdiv_zero (c : Int) : (0 : Int).fdiv c = 0 := by simp
theorem cf_shrunkL (P : List Int) (k : Nat) : cf (shrunkL P) k = (cf P k).fdiv (gcdL P) := cf_map (f := fun x => x.fdiv (gcdL P)) (fdiv_zero _) P k
theorem fdiv_exact {c x : Int} (h : c ∣ x) : c * x.fdiv c = x := by
  rw [Int.fdiv_eq_ediv_of_dvd h, Int.mul_ediv_cancel' h]
theorem mul_shrunkL (P : List Int) (k : Nat) : gcdL P * cf (shrunkL P) k = cf P k := by
  rw [cf_shrunkL]; exact fdiv_exact (gcdL_cf P k)
theorem cf_negL (P : List Int) (k : Nat) : cf (negL P) k = - cf P k := cf_map (f := fun x => -x) (by omega) P k
theorem negL_len (P : List Int) : (negL P).length = P.length := by unfold negL; simp
theorem trim_shrunkL {P : List Int} (h : Trim P) : Trim (shrunkL P) := by
  rcases h with h | h
  · left; rw [h]; rfl
  · right
    rw [shrunkL_len]
    intro e
    apply h
    rw [← mul_shrunkL, e, Int.mul_zero]
theorem trim_negL {P : List Int} (h : Trim P) : Trim (negL P) := by
  rcases h with h | h
  · left; rw [h]; rfl
  · right
    rw [negL_len, cf_negL]; omega
theorem trim_plainL {P : List Int} (h : Trim P) : Trim (plainL P) := by
  unfold plainL
  split
  · exact trim_negL (trim_shrunkL h)
  · exact trim_shrunkL h
theorem plainL_len (P : List Int) : (plainL P).length = P.length := by
  unfold plainL
  split
  · rw [negL_len, shrunkL_len]
  · rw [shrunkL_len]
theorem shrunkL_nil : shrunkL [] = [] := rfl
theorem plainL_nil : plainL [] = [] := by simp [plainL, shrunkL_nil]
/-- what is c times a list whose shared divisor is 1, c above 0 -/
theorem shrunkL_of {P Q : List Int} {c : Int} (hc : 0 < c) (hl : P.length = Q.length) (h : ∀ k, cf P k = c * cf Q k) (h1 : gcdN Q = 1) : shrunkL P = Q := by
  have hP : P = Q.map (c * ·) := ext (by simpa using hl) fun k _ => by rw [h, cf_map (by omega)]
  have hg : gcdL P = c := by
    unfold gcdL
    rw [hP, gcdN_mul, h1, Nat.mul_one]; omega
  refine ext (by rw [shrunkL_len, hl]) fun k _ => ?_
  rw [cf_shrunkL, hg, h, Int.mul_fdiv_cancel_left _ (by omega)]
theorem gcdN_shrunkL {P : List Int} (h : gcdN P ≠ 0) : gcdN (shrunkL P) = 1 := by
  have e : P = (shrunkL P).map (gcdL P * ·) := ext (by simp [shrunkL_len]) fun k _ => by rw [cf_map (by omega), mul_shrunkL]
  have h2 := gcdN_mul (gcdL P) (shrunkL P)
  rw [← e] at h2
  have h3 : (gcdL P).natAbs = gcdN P := by unfold gcdL; omega
  rw [h3] at h2
  exact Nat.eq_of_mul_eq_mul_left (Nat.pos_of_ne_zero h) (by rw [← h2, Nat.mul_one])
theorem gcdN_negL (P : List Int) : gcdN (negL P) = gcdN P := by
  have e : negL P = P.map ((-1) * ·) := by
    unfold negL; apply List.map_congr_left; intro x _; omega
  rw [e, gcdN_mul]; simp
theorem gcdN_plainL {P : List Int} (h : gcdN P ≠ 0) : gcdN (plainL P) = 1 := by
  unfold plainL
  split
  · rw [gcdN_negL, gcdN_shrunkL h]
  · exact gcdN_shrunkL h
/-- a list with 1 as its shared divisor stays -/
theorem shrunkL_one {P : List Int} (h : gcdN P = 1) : shrunkL P = P := shrunkL_of (c := 1) (by decide) rfl (fun k => by omega) h
theorem plainL_last {P : List Int} (h : Trim P) (h0 : P ≠ []) : 0 < cf (plainL P) ((plainL P).length - 1) := by
  have h1 := trim_last (trim_plainL h) (fun e => h0 (by
    have := plainL_len P
    rw [e] at this
    exact List.eq_nil_of_length_eq_zero this.symm))
  have hl := plainL_len P
  unfold plainL at h1 ⊢
  split
  · next hh =>
    rw [cf_negL, negL_len]
    omega
  · next hh =>
    rw [if_neg hh] at h1
    have hs : shrunkL P ≠ [] := fun e => h0 (by
      have := shrunkL_len P
      rw [e] at this
      exact List.eq_nil_of_length_eq_zero this.symm)
    have : ¬ cf (shrunkL P) ((shrunkL P).length - 1) < 0 := fun z => hh ⟨hs, z⟩
    omega
theorem plainL_self {P : List Int} (h1 : gcdN P = 1) (h : P ≠ [] → 0 ≤ cf P (P.length - 1)) : plainL P = P := by
  unfold plainL
  rw [shrunkL_one h1, if_neg]
  rintro ⟨h2, h3⟩
  have := h h2
  omega
theorem plainL_of {P Q : List Int} {c : Int} (hc : c ≠ 0) (hl : P.length = Q.length) (h : ∀ k, cf P k = c * cf Q k) (h1 : gcdN Q = 1) (hq : Q ≠ [] → 0 < cf Q (Q.length - 1)) : plainL P = Q := by
  by_cases hp : 0 < c
  · have e := shrunkL_of hp hl h h1
    unfold plainL
    rw [e, if_neg]
    rintro ⟨h2, h3⟩
    have := hq h2
    omega
  · have e : shrunkL P = negL Q := shrunkL_of (c := -c) (by omega) (by rw [negL_len, hl]) (fun k => by rw [h, cf_negL, Int.neg_mul_neg]) (by rw [gcdN_negL, h1])
    unfold plainL
    rw [e]
    by_cases hn : Q = []
    · subst hn; simp [negL]
    · have := hq hn
      rw [if_pos]
      · unfold negL; rw [List.map_map]
        have : ((fun x : Int => -x) ∘ fun x => -x) = id := by funext x; simp
        rw [this, List.map_id]
      · refine ⟨fun e2 => hn ?_, by rw [negL_len, cf_negL]; omega⟩
        have := negL_len Q
        rw [e2] at this
        exact List.eq_nil_of_length_eq_zero this.symm
theorem Sz.shrunkL {n : Nat} {P : List Int} (h : Sz n P) : Sz n (shrunkL P) := Sz.of fun k _ => by
  have h1 := mul_shrunkL P k
  have h2 := h.cf k
  by_cases h0 : gcdL P = 0
  · rw [cf_shrunkL, h0, Int.fdiv_zero]; exact Nat.two_pow_pos n
  · rw [← h1, Int.natAbs_mul] at h2
    exact Nat.lt_of_le_of_lt (Nat.le_mul_of_pos_left _ (by omega)) h2
theorem Sz.negL {n : Nat} {P : List Int} (h : Sz n P) : Sz n (negL P) := Sz.of fun k _ => by rw [cf_negL, Int.natAbs_neg]; exact h.cf k
theorem Sz.plainL {n : Nat} {P : List Int} (h : Sz n P) : Sz n (plainL P) := by
  unfold MP.plainL
  split
  · exact Sz.negL (Sz.shrunkL h)
  · exact Sz.shrunkL h
end MP

set_option linter.all false
/-! Polynomials that differ by a factor. -/
namespace MQ
open ML MD MP MR MG
theorem plain_mul (A : List Int) : ∃ a : Int, (A ≠ [] → Trim A → a ≠ 0) ∧ ∀ k, cf A k = a * cf (plainL A) k := by
  by_cases h : shrunkL A ≠ [] ∧ cf (shrunkL A) ((shrunkL A).length - 1) < 0
  · refine ⟨-gcdL A, fun h0 ht => ?_, fun k => ?_⟩
    · have := gcdL_trim_pos ht h0; omega
    · unfold plainL
      rw [if_pos h, cf_negL, Int.neg_mul_neg, mul_shrunkL]
  · refine ⟨gcdL A, fun h0 ht => ?_, fun k => ?_⟩
    · have := gcdL_trim_pos ht h0; omega
    · unfold plainL
      rw [if_neg h, mul_shrunkL]
theorem len_le_of {A B : List Int} (tA : Trim A) (h : ∀ k, cf B k = 0 → cf A k = 0) : A.length ≤ B.length := by
  rcases tA with e | e
  · rw [e]; simp
  · apply Classical.byContradiction
    intro hl
    exact e (h _ (cf_beyond (by omega)))
theorem gcd_one_of {p : List Int} {A : List Int} (h0 : A ≠ []) (tA : Trim A) : gcdN (plainL A) = 1 := by
  refine gcdN_plainL fun e => ?_
  have := gcdL_trim_pos tA h0
  unfold gcdL at this
  omega
/-- what divides all of y * p, p of the shared divisor 1, divides y -/
theorem dvd_all {p : List Int} (h : gcdN p = 1) {y z : Int} (hd : ∀ k, y ∣ z * cf p k) : y ∣ z := by
  have h1 := gcdN_mul z p
  rw [h, Nat.mul_one] at h1
  have h2 : y.natAbs ∣ gcdN (p.map (z * ·)) := dvd_gcdN fun x hx => by
    rw [Int.natAbs_dvd]
    obtain ⟨w, hw, rfl⟩ := List.mem_map.mp hx
    obtain ⟨k, hk, e⟩ := List.getElem_of_mem hw
    have := hd k
    rw [cf_get hk, e] at this
    exact this
  rw [h1] at h2
  exact Int.natAbs_dvd_natAbs.mp h2
theorem plain_prop {A B : List Int} {x y : Int} (tA : Trim A) (tB : Trim B) (hx : x ≠ 0) (hy : y ≠ 0) (h : ∀ k, x * cf A k = y * cf B k) : plainL A = plainL B := by
  have ab : ∀ k, cf A k = 0 → cf B k = 0 := fun k e => by
    have := h k
    rw [e, Int.mul_zero] at this
    exact (Int.mul_eq_zero.mp this.symm).resolve_left hy
  have ba : ∀ k, cf B k = 0 → cf A k = 0 := fun k e => by
    have := h k
    rw [e, Int.mul_zero] at this
    exact (Int.mul_eq_zero.mp this).resolve_left hx
  have hl : A.length = B.length := Nat.le_antisymm (len_le_of tA ba) (len_le_of tB ab)
  by_cases h0 : A = []
  · subst h0
    have : B = [] := List.eq_nil_of_length_eq_zero hl.symm
    rw [this]
  obtain ⟨a, ha, hA⟩ := plain_mul A
  have ha := ha h0 tA
  have h1 := gcd_one_of (p := []) h0 tA
  have hlast := plainL_last tA h0
  have hlen := plainL_len A
  generalize plainL A = p at *
  have hd : y ∣ x * a := dvd_all h1 fun k => ⟨cf B k, by rw [Int.mul_assoc, ← hA, h]⟩
  obtain ⟨b, hb⟩ := hd
  have hb0 : b ≠ 0 := fun e => by
    rw [e, Int.mul_zero] at hb
    exact (Int.mul_ne_zero hx ha) hb
  refine (plainL_of (c := b) hb0 (by omega) (fun k => ?_) h1 fun _ => hlast).symm
  have := h k
  rw [hA, ← Int.mul_assoc, hb, Int.mul_assoc] at this
  exact (Int.eq_of_mul_eq_mul_left hy this).symm
end MQ

set_option linter.all false
/-! Rows without an end as a ring: sums and products of polynomials. -/
namespace PS
open ML MR
def S := Nat → Int
namespace S
def con (c : Int) : S := fun k => if k = 0 then c else 0
def add (p q : S) : S := fun k => p k + q k
def neg (p : S) : S := fun k => - p k
def sub (p q : S) : S := fun k => p k - q k
def mul (p q : S) : S := fun k => sm (k + 1) fun i => p i * q (k - i)
def pow (p : S) : Nat → S
  | 0 => con 1
  | n + 1 => mul (pow p n) p
instance : Add S := ⟨add⟩
instance : Mul S := ⟨mul⟩
instance : Neg S := ⟨neg⟩
instance : Sub S := ⟨sub⟩
instance : NatCast S := ⟨fun n => con n⟩
instance : IntCast S := ⟨fun n => con n⟩
instance (n : Nat) : OfNat S n := ⟨con n⟩
instance : SMul Nat S := ⟨fun n p => mul (con n) p⟩
instance : SMul Int S := ⟨fun n p => mul (con n) p⟩
instance : HPow S Nat S := ⟨pow⟩
theorem ext {p q : S} (h : ∀ k, p k = q k) : p = q := funext h
theorem add_at (p q : S) (k : Nat) : (p + q) k = p k + q k := rfl
theorem sub_at (p q : S) (k : Nat) : (p - q) k = p k - q k := rfl
theorem neg_at (p : S) (k : Nat) : (-p) k = - p k := rfl
theorem mul_at (p q : S) (k : Nat) : (p * q) k = sm (k + 1) fun i => p i * q (k - i) := rfl
theorem zero_at (k : Nat) : (0 : S) k = 0 := by show (if k = 0 then (((0 : Nat) : Int)) else 0) = 0; split <;> rfl
theorem con_mul (c : Int) (p : S) (k : Nat) : (con c * p) k = c * p k := by
  rw [mul_at, sm_shift, sm_zero fun i _ => by show con c (i + 1) * _ = 0; unfold con; rw [if_neg (by omega), Int.zero_mul]]
  show con c 0 * p (k - 0) + 0 = _
  unfold con
  rw [if_pos rfl, Nat.sub_zero, Int.add_zero]
theorem mul_comm' (p q : S) : p * q = q * p := ext fun k => by
  rw [mul_at, mul_at, ← sm_rev]
  refine sm_congr fun i hi => ?_
  rw [show k + 1 - 1 - i = k - i by omega, show k - (k - i) = i by omega, Int.mul_comm]
theorem assoc_raw (p q r : Nat → Int) (k : Nat) : sm (k + 1) (fun i => sm (i + 1) (fun j => p j * q (i - j)) * r (k - i)) = sm (k + 1) (fun j => p j * sm (k - j + 1) (fun l => q l * r (k - j - l))) := by
  have h1 : sm (k + 1) (fun i => sm (i + 1) (fun j => p j * q (i - j)) * r (k - i)) = sm (k + 1) (fun i => sm (i + 1) (fun j => (fun (j l : Nat) => p j * q l * r (k - (j + l))) j (i - j))) := sm_congr fun i _ => by
    rw [← sm_mul_r]
    refine sm_congr fun j hj => ?_
    show p j * q (i - j) * r (k - i) = p j * q (i - j) * r (k - (j + (i - j)))
    rw [show j + (i - j) = i by omega]
  refine h1.trans ((sm_tri (fun j l => p j * q l * r (k - (j + l))) k).trans ?_)
  refine sm_congr fun j hj => ?_
  rw [← sm_mul]
  refine sm_congr fun l hl => ?_
  show p j * q l * r (k - (j + l)) = _
  rw [show k - (j + l) = k - j - l by omega, Int.mul_assoc]
theorem mul_assoc' (p q r : S) : p * q * r = p * (q * r) := ext fun k => assoc_raw p q r k
theorem distrib_raw (a b c : Nat → Int) (k : Nat) : sm (k + 1) (fun i => a i * (b (k - i) + c (k - i))) = sm (k + 1) (fun i => a i * b (k - i)) + sm (k + 1) (fun i => a i * c (k - i)) := by
  rw [← sm_add]
  exact sm_congr fun i _ => Int.mul_add _ _ _
theorem left_distrib' (a b c : S) : a * (b + c) = a * b + a * c := ext fun k => distrib_raw a b c k
theorem one_mul' (a : S) : 1 * a = a := ext fun k => by
  show (con ((1 : Nat) : Int) * a) k = a k
  rw [con_mul]; omega
theorem zero_mul' (a : S) : 0 * a = 0 := ext fun k => by
  show (con ((0 : Nat) : Int) * a) k = (0 : S) k
  rw [con_mul, zero_at]; omega
theorem con_zero_at (c : Int) (k : Nat) : con c k = if k = 0 then c else 0 := rfl
instance : Lean.Grind.CommRing S where
  add_zero a := ext fun k => by rw [add_at, zero_at, Int.add_zero]
  add_comm a b := ext fun k => Int.add_comm _ _
  add_assoc a b c := ext fun k => Int.add_assoc _ _ _
  mul_assoc := mul_assoc'
  mul_comm := mul_comm'
  mul_one a := by rw [mul_comm', one_mul']
  one_mul := one_mul'
  left_distrib := left_distrib'
  right_distrib a b c := by rw [mul_comm', left_distrib', mul_comm' c, mul_comm' c]
  zero_mul := zero_mul'
  mul_zero a := by rw [mul_comm', zero_mul']
  pow_zero a := rfl
  pow_succ a n := rfl
  ofNat_succ a := ext fun k => by
    show con ((a + 1 : Nat) : Int) k = con (a : Int) k + con ((1 : Nat) : Int) k
    rw [con_zero_at, con_zero_at, con_zero_at]
    split <;> omega
  ofNat_eq_natCast n := rfl
  nsmul_eq_natCast_mul n a := rfl
  neg_add_cancel a := ext fun k => by rw [add_at, neg_at, zero_at]; omega
  sub_eq_add_neg a b := ext fun k => by rw [sub_at, add_at, neg_at]; omega
  neg_zsmul i a := ext fun k => by
    show (con (-i) * a) k = (-(con i * a)) k
    rw [con_mul, neg_at, con_mul, Int.neg_mul]
  zsmul_natCast_eq_nsmul n a := rfl
  intCast_ofNat n := rfl
  intCast_neg i := ext fun k => by
    show con (-i) k = - con i k
    rw [con_zero_at, con_zero_at]
    split <;> omega
example (a b c : S) : (a + b) * (a - b) * c = a * a * c - b * b * c := by grind
end S
open S
/-- below a place -/
def Lt (p : S) (e : Nat) : Prop := ∀ j, e ≤ j → p j = 0
theorem Lt.mono {p : S} {e f : Nat} (h : Lt p e) (hf : e ≤ f) : Lt p f := fun j hj => h j (by omega)
theorem Lt.zero {p : S} (h : Lt p 0) : p = 0 := S.ext fun k => by rw [h k (by omega), zero_at]
theorem lt_zero (e : Nat) : Lt 0 e := fun j _ => zero_at j
theorem lt_con (c : Int) : Lt (con c) 1 := fun j hj => by rw [con_zero_at, if_neg (by omega)]
theorem Lt.add {p q : S} {e : Nat} (h : Lt p e) (h' : Lt q e) : Lt (p + q) e := fun j hj => by rw [add_at, h j hj, h' j hj]; rfl
theorem Lt.sub {p q : S} {e : Nat} (h : Lt p e) (h' : Lt q e) : Lt (p - q) e := fun j hj => by rw [sub_at, h j hj, h' j hj]; rfl
theorem Lt.mul {p q : S} {a b : Nat} (h : Lt p a) (h' : Lt q (b + 1)) : Lt (p * q) (a + b) := fun j hj => by
  rw [mul_at]
  refine sm_zero fun i hi => ?_
  by_cases hi' : a ≤ i
  · rw [h i hi', Int.zero_mul]
  · rw [h' (j - i) (by omega), Int.mul_zero]
theorem Lt.con_mul {p : S} {a : Nat} (c : Int) (h : Lt p a) : Lt (con c * p) a := fun j hj => by rw [S.con_mul, h j hj, Int.mul_zero]
theorem mul_top {p q : S} {a b : Nat} (h : Lt p (a + 1)) (h' : Lt q (b + 1)) : (p * q) (a + b) = p a * q b := by
  rw [mul_at, sm_single (j := a) (by omega) fun i hi hn => ?_]
  · rw [show a + b - a = b by omega]
  · by_cases hl : i ≤ a
    · rw [h' (a + b - i) (by omega), Int.mul_zero]
    · rw [h i (by omega), Int.zero_mul]
theorem lt_div {q : S} {b : Nat} (hq : Lt q (b + 1)) (h0 : q b ≠ 0) {p : S} {c : Nat} (h : Lt (p * q) (c + b)) : ∀ n, Lt p (c + n) → Lt p c
  | 0, hp => hp
  | n + 1, hp => by
    refine lt_div hq h0 h n fun j hj => ?_
    by_cases hj' : c + (n + 1) ≤ j
    · exact hp j hj'
    · have e : j = c + n := by omega
      subst e
      have h1 := mul_top (p := p) (q := q) (a := c + n) (b := b) (hp.mono (by omega)) hq
      rw [h (c + n + b) (by omega)] at h1
      exact (Int.mul_eq_zero.mp h1.symm).resolve_right h0
/-- a polynomial of a list -/
def of (P : List Int) : S := cf P
theorem of_at (P : List Int) (k : Nat) : of P k = cf P k := rfl
theorem of_lt (P : List Int) : Lt (of P) P.length := fun j hj => cf_beyond hj
theorem of_mul (P Q : List Int) (k : Nat) : (of P * of Q) k = cv P Q k := rfl
theorem con_at0 (c : Int) : con c 0 = c := rfl
theorem con_inj {c d : Int} (h : con c = con d) : c = d := by
  have := congrFun h 0
  exact this
/-- a row below 1 is its first number -/
theorem lt_one {p : S} (h : Lt p 1) : p = con (p 0) := S.ext fun k => by
  rw [con_zero_at]
  split
  · next e => rw [e]
  · exact h k (by omega)
end PS

set_option linter.all false
/-! A system with more unknowns than rows has a small answer that is not nought: by counting. -/
namespace SG
open ML
theorem pigeon : ∀ (m n : Nat) (f : Nat → Nat), (∀ i, i < n → f i < m) → m < n → ∃ i j, i < j ∧ j < n ∧ f i = f j
  | 0, n, f, h, hn => absurd (h 0 hn) (Nat.not_lt_zero _)
  | m + 1, n, f, h, hn => by
    obtain ⟨n', rfl⟩ : ∃ n', n = n' + 1 := ⟨n - 1, by omega⟩
    by_cases hc : ∃ i, i < n' ∧ f i = f n'
    · obtain ⟨i, hi, e⟩ := hc
      exact ⟨i, n', hi, by omega, e⟩
    · have hne : ∀ i, i < n' → f i ≠ f n' := fun i hi e => hc ⟨i, hi, e⟩
      have hl := h n' (by omega)
      obtain ⟨i, j, h1, h2, h3⟩ := pigeon m n' (fun i => if f i < f n' then f i else f i - 1) (fun i hi => by
        have a := h i (by omega)
        have b := hne i hi
        show (if f i < f n' then f i else f i - 1) < m
        split <;> omega) (by omega)
      refine ⟨i, j, h1, by omega, ?_⟩
      have a := hne i (by omega)
      have b := hne j h2
      split at h3 <;> split at h3 <;> omega
/-- the figures of a number -/
def dg (D i k : Nat) : Nat := i / D ^ k % D
theorem dg_succ (D i k : Nat) : dg D i (k + 1) = dg D (i / D) k := by
  unfold dg
  rw [Nat.div_div_eq_div_mul, Nat.pow_succ, Nat.mul_comm]
theorem dg_lt {D : Nat} (h : 0 < D) (i k : Nat) : dg D i k < D := Nat.mod_lt _ h
theorem dg_inj {D : Nat} (h : 0 < D) : ∀ (n i j : Nat), i < D ^ n → j < D ^ n → (∀ k, k < n → dg D i k = dg D j k) → i = j
  | 0, i, j, hi, hj, _ => by rw [Nat.pow_zero] at hi hj; omega
  | n + 1, i, j, hi, hj, hk => by
    have h0 := hk 0 (by omega)
    unfold dg at h0
    rw [Nat.pow_zero, Nat.div_one, Nat.div_one] at h0
    rw [Nat.pow_succ] at hi hj
    have := dg_inj h n (i / D) (j / D) ((Nat.div_lt_iff_lt_mul h).mpr hi) ((Nat.div_lt_iff_lt_mul h).mpr hj) fun k hk' => by
      rw [← dg_succ, ← dg_succ]; exact hk (k + 1) (by omega)
    rw [← Nat.div_add_mod i D, ← Nat.div_add_mod j D, this, h0]
/-- a row of numbers as one -/
def enc (T : Nat) (y : Nat → Nat) : Nat → Nat
  | 0 => 0
  | n + 1 => enc T y n + y n * T ^ n
theorem enc_lt {T : Nat} {y : Nat → Nat} : ∀ n, (∀ k, k < n → y k < T) → enc T y n < T ^ n
  | 0, _ => by show 0 < T ^ 0; rw [Nat.pow_zero]; decide
  | n + 1, h => by
    have h1 := enc_lt n fun k hk => h k (by omega)
    have h2 := h n (by omega)
    show enc T y n + y n * T ^ n < T ^ (n + 1)
    rw [Nat.pow_succ, Nat.mul_comm (T ^ n)]
    have : (y n + 1) * T ^ n ≤ T * T ^ n := Nat.mul_le_mul_right _ h2
    rw [Nat.add_mul, Nat.one_mul] at this
    omega
theorem enc_inj {T : Nat} {y z : Nat → Nat} : ∀ n, (∀ k, k < n → y k < T) → (∀ k, k < n → z k < T) → enc T y n = enc T z n → ∀ k, k < n → y k = z k
  | 0, _, _, _, k, hk => absurd hk (Nat.not_lt_zero _)
  | n + 1, hy, hz, e, k, hk => by
    have l1 := enc_lt n fun k hk => hy k (by omega)
    have l2 := enc_lt n fun k hk => hz k (by omega)
    have e' : enc T y n + y n * T ^ n = enc T z n + z n * T ^ n := e
    have hp : 0 < T ^ n := by omega
    have d : ∀ a b : Nat, a < T ^ n → (a + b * T ^ n) / T ^ n = b := fun a b ha => by
      rw [Nat.add_mul_div_right _ _ hp, Nat.div_eq_of_lt ha, Nat.zero_add]
    have hn : y n = z n := by
      rw [← d _ (y n) l1, ← d _ (z n) l2, e']
    by_cases hk' : k = n
    · rw [hk']; exact hn
    · refine enc_inj n (fun k hk => hy k (by omega)) (fun k hk => hz k (by omega)) ?_ k (by omega)
      rw [hn] at e'
      omega
theorem sm_abs_le {n : Nat} {f : Nat → Int} {B : Nat} (h : ∀ i, i < n → (f i).natAbs ≤ B) : (sm n f).natAbs ≤ n * B := sm_abs h
/-- the small answer -/
theorem siegel {E s t : Nat} (c : Nat → Nat → Int) (hc : ∀ i j, (c i j).natAbs < 2 ^ s) (ht : 2 * ((E + 1) * 2 ^ s) ≤ 2 ^ t) :
    ∃ x : Nat → Int, (∃ j, j ≤ E ∧ x j ≠ 0) ∧ (∀ j, (x j).natAbs < 2 ^ (t * E + 1)) ∧ (∀ j, E < j → x j = 0) ∧ ∀ i, i < E → sm (E + 1) (fun j => c i j * x j) = 0 := by
  let e := t * E + 1
  have he : e = t * E + 1 := rfl
  have D0 : 0 < 2 ^ e := Nat.two_pow_pos e
  -- what a number's figures come to
  let im : Nat → Nat → Int := fun n i => sm (E + 1) fun j => c i j * (dg (2 ^ e) n j : Int)
  let Y : Nat := (E + 1) * 2 ^ s * (2 ^ e - 1)
  have imb : ∀ n i, (im n i).natAbs ≤ Y := fun n i => by
    have := sm_abs_le (n := E + 1) (f := fun j => c i j * (dg (2 ^ e) n j : Int)) (B := 2 ^ s * (2 ^ e - 1)) fun j _ => by
      rw [Int.natAbs_mul, Int.natAbs_natCast]
      exact Nat.mul_le_mul (Nat.le_of_lt (hc i j)) (by have := dg_lt D0 n j; omega)
    rw [← Nat.mul_assoc] at this
    exact this
  have Y2 : 2 * Y < 2 ^ (t + e) := by
    have h1 : 2 * ((E + 1) * 2 ^ s) * (2 ^ e - 1) ≤ 2 ^ t * (2 ^ e - 1) := Nat.mul_le_mul_right _ ht
    have h2 : 2 ^ t * (2 ^ e - 1) < 2 ^ t * 2 ^ e := Nat.mul_lt_mul_of_pos_left (by omega) (Nat.two_pow_pos t)
    rw [Nat.pow_add]
    show 2 * ((E + 1) * 2 ^ s * (2 ^ e - 1)) < _
    rw [← Nat.mul_assoc]
    omega
  let sh : Nat → Nat → Nat := fun n i => (im n i + Y).toNat
  have shb : ∀ n i, sh n i < 2 ^ (t + e) := fun n i => by
    have := imb n i
    show (im n i + Y).toNat < _
    omega
  obtain ⟨a, b, hab, hb, hf⟩ := pigeon ((2 ^ (t + e)) ^ E) ((2 ^ e) ^ (E + 1)) (fun n => enc (2 ^ (t + e)) (sh n) E) (fun n _ => enc_lt E fun k _ => shb n k) (by
    rw [← Nat.pow_mul, ← Nat.pow_mul]
    refine Nat.pow_lt_pow_right (by decide) ?_
    rw [Nat.add_mul, Nat.mul_add, Nat.mul_one]
    omega)
  have hs := enc_inj E (fun k _ => shb a k) (fun k _ => shb b k) hf
  refine ⟨fun j => if j ≤ E then (dg (2 ^ e) a j : Int) - dg (2 ^ e) b j else 0, ?_, fun j => ?_, fun j hj => if_neg (by omega), fun i hi => ?_⟩
  · apply Classical.byContradiction
    intro hh
    have : a = b := dg_inj D0 (E + 1) a b (by omega) hb fun k hk => by
      apply Classical.byContradiction
      intro hne
      exact hh ⟨k, by omega, by show (if k ≤ E then (dg (2 ^ e) a k : Int) - dg (2 ^ e) b k else 0) ≠ 0; rw [if_pos (by omega)]; omega⟩
    omega
  · have h1 := dg_lt D0 a j
    have h2 := dg_lt D0 b j
    show (if j ≤ E then (dg (2 ^ e) a j : Int) - dg (2 ^ e) b j else 0).natAbs < 2 ^ e
    split <;> omega
  · have h1 := hs i hi
    have b1 := imb a i
    have b2 := imb b i
    have h2 : im a i = im b i := by
      have h1' : (im a i + Y).toNat = (im b i + Y).toNat := h1
      omega
    have h3 : sm (E + 1) (fun j => c i j * (if j ≤ E then (dg (2 ^ e) a j : Int) - dg (2 ^ e) b j else 0)) = im a i - im b i := by
      show _ = sm (E + 1) _ - sm (E + 1) _
      rw [← sm_sub]
      refine sm_congr fun j hj => ?_
      rw [if_pos (by omega), Int.mul_sub]
    rw [h3, h2]; omega
end SG

set_option linter.all false
/-! The row of a polynomial. -/
namespace MS
open ML MD MP
def nextL (A B : List Int) : List Int := shrunkL ((remL A B).map fun x => 0 - x)
def rowG : Nat → List Int → List Int → List (List Int)
  | 0, _, _ => []
  | f + 1, A, B => if B = [] then [] else B :: rowG f B (nextL A B)
/-- what the walk asks of each step -/
def RowOk : Nat → List Int → List Int → Prop
  | 0, _, B => B = []
  | f + 1, A, B => B = [] ∨ (Trim B ∧ (∃ n m, Sz n A ∧ Sz m B ∧ A.length ≤ 100000 ∧ B.length ≤ 100000 ∧ 0 < n ∧ 0 < m ∧ m ≤ 9000 ∧ n + (2 * m + 1) * (A.length + 1) ≤ 900000) ∧ (remL A B ≠ [] → MG.gcdL ((remL A B).map fun x => 0 - x) ≠ 0 ∧ (MG.gcdL ((remL A B).map fun x => 0 - x)).natAbs.log2 < 9000) ∧ RowOk f B (nextL A B))
def rowL (f : Nat) (P : List Int) : List (List Int) := if P = [] then [] else shrunkL P :: rowG f (shrunkL P) (shrunkL (slopeL P))
end MS

set_option linter.all false
/-! The rests of a division that goes on and on have small coefficients, where what they share is taken out. -/
namespace CO
open ML MR MP MQ MD PS PS.S MG
variable {P Q A B C : List Int}
/-- how two rests that follow each other are made of P and Q -/
def Cof (P Q A B : List Int) : Prop := ∃ (a b w : Int) (U0 V0 U1 V1 : S), a ≠ 0 ∧ b ≠ 0 ∧ w ≠ 0 ∧ con a * of A = U0 * of P + V0 * of Q ∧ con b * of B = U1 * of P + V1 * of Q ∧ U0 * V1 - U1 * V0 = con w ∧ Lt U0 (Q.length + 1 - B.length) ∧ Lt V0 (P.length - B.length) ∧ Lt U1 (Q.length + 1 - A.length) ∧ Lt V1 (P.length + 1 - A.length) ∧ V1 (P.length - A.length) ≠ 0 ∧ A.length ≤ P.length
theorem con_mul_con (a b : Int) : con a * con b = con (a * b) := S.ext fun k => by
  rw [S.con_mul, con_zero_at, con_zero_at]
  split
  · rfl
  · omega
theorem one_at (k : Nat) : (1 : S) k = if k = 0 then 1 else 0 := rfl
theorem Cof.start {a b : Int} (a0 : a ≠ 0) (b0 : b ≠ 0) (hA : ∀ k, cf P k = a * cf A k) (hB : ∀ k, cf Q k = b * cf B k) (lA : A.length = P.length) (lB : B.length = Q.length) : Cof P Q A B := by
  refine ⟨a, b, 1, 1, 0, 0, 1, a0, b0, by decide, ?_, ?_, ?_, ?_, ?_, ?_, ?_, ?_, by omega⟩
  · have : con a * of A = of P := S.ext fun k => by rw [S.con_mul, of_at, of_at, hA]
    rw [this]; grind
  · have : con b * of B = of Q := S.ext fun k => by rw [S.con_mul, of_at, of_at, hB]
    rw [this]; grind
  · have : con 1 = (1 : S) := rfl
    rw [this]; grind
  · intro j hj; rw [one_at, if_neg (by omega)]
  · exact lt_zero _
  · exact lt_zero _
  · intro j hj; rw [one_at, if_neg (by omega)]
  · rw [lA, Nat.sub_self, one_at, if_pos rfl]; decide
theorem Cof.step {c f : Int} {q : S} (h : Cof P Q A B) (c0 : c ≠ 0) (f0 : f ≠ 0) (hc : con c * of C = con f * of A - q * of B) (hBA : B.length ≤ A.length) (hCB : C.length < B.length) (hq : Lt q (A.length - B.length + 1)) (q0 : q (A.length - B.length) ≠ 0) : Cof P Q B C := by
  obtain ⟨a, b, w, U0, V0, U1, V1, a0, b0, w0, e0, e1, ew, lU0, lV0, lU1, lV1, t1, lA⟩ := h
  have lqU : Lt (q * U1) (Q.length + 1 - B.length) := by
    by_cases hh : Q.length + 1 < A.length
    · have : U1 = 0 := Lt.zero (lU1.mono (by omega))
      rw [this, show q * (0 : S) = 0 by grind]
      exact lt_zero _
    · have := lU1.mul hq
      rw [mul_comm']
      exact this.mono (by omega)
  have lqV : Lt (q * V1) (P.length + 1 - B.length) := by
    have := lV1.mul hq
    rw [mul_comm']
    exact this.mono (by omega)
  refine ⟨b, c * (a * b), -(f * b * w), U1, V1, con (f * b) * U0 - con a * (q * U1), con (f * b) * V0 - con a * (q * V1), b0, Int.mul_ne_zero c0 (Int.mul_ne_zero a0 b0), ?_, e1, ?_, ?_, ?_, ?_, ?_, ?_, ?_, by omega⟩
  · have := Int.mul_ne_zero (Int.mul_ne_zero f0 b0) w0; omega
  · have h1 : con (c * (a * b)) * of C = con (a * b) * (con c * of C) := by rw [← con_mul_con]; grind
    rw [h1, hc, ← con_mul_con, ← con_mul_con]
    have h2 : con a * con b * (con f * of A - q * of B) = con f * con b * (con a * of A) - con a * (q * (con b * of B)) := by grind
    rw [h2, e0, e1]
    grind
  · have h1 : con (-(f * b * w)) = -(con (f * b) * con w) := by
      rw [con_mul_con]
      exact S.ext fun k => by rw [con_zero_at, neg_at, con_zero_at]; split <;> omega
    rw [h1, ← ew]
    grind
  · exact lU1.mono (by omega)
  · exact lV1.mono (by omega)
  · exact (lU0.con_mul _).sub (lqU.con_mul _)
  · exact ((lV0.mono (by omega)).con_mul _).sub (lqV.con_mul _)
  · rw [sub_at, S.con_mul, S.con_mul, lV0 _ (Nat.le_refl _), Int.mul_zero]
    have := mul_top (p := q) (q := V1) (a := A.length - B.length) (b := P.length - A.length) hq (lV1.mono (by omega))
    rw [show A.length - B.length + (P.length - A.length) = P.length - B.length by omega] at this
    rw [this]
    have := Int.mul_ne_zero a0 (Int.mul_ne_zero q0 t1)
    omega
theorem sm_split (f : Nat → Int) (n : Nat) : ∀ m, sm (n + m) f = sm n f + sm m fun j => f (n + j)
  | 0 => by show sm n f = sm n f + 0; omega
  | m + 1 => by
    rw [← Nat.add_assoc, sm_succ, sm_succ, sm_split f n m]; omega
/-- a product, told by the places of the first -/
theorem conv_ext {U p : S} {n : Nat} (h : Lt U n) (d : Nat) : (U * p) d = sm n fun i => U i * (if i ≤ d then p (d - i) else 0) := by
  rw [mul_at]
  have e1 : sm (max n (d + 1)) (fun i => U i * (if i ≤ d then p (d - i) else 0)) = sm n (fun i => U i * (if i ≤ d then p (d - i) else 0)) := sm_ext (by omega) fun i hi _ => by rw [h i hi, Int.zero_mul]
  have e2 : sm (max n (d + 1)) (fun i => U i * (if i ≤ d then p (d - i) else 0)) = sm (d + 1) (fun i => U i * (if i ≤ d then p (d - i) else 0)) := sm_ext (by omega) fun i hi _ => by rw [if_neg (by omega), Int.mul_zero]
  rw [← e1, e2]
  exact sm_congr fun i hi => by rw [if_pos (by omega)]
theorem prod_sz {U p : S} {n x s : Nat} (h : Lt U n) (hU : ∀ j, (U j).natAbs ≤ x) (hp : ∀ j, (p j).natAbs ≤ s) (d : Nat) : ((U * p) d).natAbs ≤ n * (x * s) := by
  rw [conv_ext h]
  refine sm_abs fun i _ => ?_
  rw [Int.natAbs_mul]
  refine Nat.mul_le_mul (hU i) ?_
  split
  · exact hp _
  · exact Nat.zero_le _
/-- two small rows that go together with the last pair -/
theorem Cof.small {P2 Q2 H : List Int} {s t : Nat} (h : Cof P Q A B) (hP : Trim P) (nP : P ≠ []) (nQ : Q ≠ []) (hH : Trim H) (nH : H ≠ []) (eP : of P2 = of P * of H) (eQ : of Q2 = of Q * of H) (sP : Sz s P2) (sQ : Sz s Q2) (hBA : B.length < A.length) (hAQ : A.length ≤ Q.length + 1) (ht : 2 * ((P.length + Q.length) * 2 ^ s) ≤ 2 ^ t) :
    ∃ (a b w : Int) (U0 V0 U1 V1 : S), (a ≠ 0 ∧ b ≠ 0 ∧ w ≠ 0 ∧ con a * of A = U0 * of P + V0 * of Q ∧ con b * of B = U1 * of P + V1 * of Q ∧ U0 * V1 - U1 * V0 = con w ∧ Lt U0 (Q.length + 1) ∧ Lt V0 (P.length + 1) ∧ Lt U1 (Q.length + 1) ∧ Lt V1 (P.length + 1)) ∧ ∃ (U V : S) (y : Int) (nu nv : Nat), y ≠ 0 ∧ con w * U = con y * U1 ∧ con w * V = con y * V1 ∧ Lt U nu ∧ Lt V nv ∧ nu + nv ≤ P.length + Q.length ∧ (∀ j, (U j).natAbs ≤ 2 ^ (t * (P.length + Q.length) + 1)) ∧ (∀ j, (V j).natAbs ≤ 2 ^ (t * (P.length + Q.length) + 1)) := by
  obtain ⟨a, b, w, U0, V0, U1, V1, a0, b0, w0, e0, e1, ew, lU0, lV0, lU1, lV1, t1, lA⟩ := h
  refine ⟨a, b, w, U0, V0, U1, V1, ⟨a0, b0, w0, e0, e1, ew, lU0.mono (by omega), lV0.mono (by omega), lU1.mono (by omega), lV1.mono (by omega)⟩, ?_⟩
  have lP := List.length_pos_iff.mpr nP
  have lQ := List.length_pos_iff.mpr nQ
  have lH := List.length_pos_iff.mpr nH
  have pT := trim_last hP nP
  have hT := trim_last hH nH
  have lP2 : Lt (of P2) (P.length + H.length - 1) := by
    rw [eP]
    exact ((of_lt P).mul ((of_lt H).mono (show H.length ≤ (H.length - 1) + 1 by omega))).mono (by omega)
  have lQ2 : Lt (of Q2) (Q.length + H.length - 1) := by
    rw [eQ]
    exact ((of_lt Q).mul ((of_lt H).mono (show H.length ≤ (H.length - 1) + 1 by omega))).mono (by omega)
  obtain ⟨nu, hnu⟩ : ∃ nu, nu = Q.length + 1 - A.length := ⟨_, rfl⟩
  obtain ⟨nv, hnv⟩ : ∃ nv, nv = P.length + 1 - A.length := ⟨_, rfl⟩
  obtain ⟨E, hE⟩ : ∃ E, nu + nv = E + 1 := ⟨nu + nv - 1, by omega⟩
  have hEl : E + 1 ≤ P.length + Q.length := by omega
  obtain ⟨d0, hd0⟩ : ∃ d0, d0 = A.length - 1 + (H.length - 1) := ⟨_, rfl⟩
  obtain ⟨x, ⟨j0, hj0, xj0⟩, xb, xz, xe⟩ := SG.siegel (E := E) (s := s) (t := t) (fun i j => if j < nu then (if j ≤ d0 + i then cf P2 (d0 + i - j) else 0) else (if j - nu ≤ d0 + i then cf Q2 (d0 + i - (j - nu)) else 0)) (fun i j => by
    split
    · split
      · exact sP.cf _
      · exact Nat.two_pow_pos _
    · split
      · exact sQ.cf _
      · exact Nat.two_pow_pos _) (Nat.le_trans (Nat.mul_le_mul_left _ (Nat.mul_le_mul_right _ hEl)) ht)
  let U : S := fun j => if j < nu then x j else 0
  let V : S := fun j => if j < nv then x (nu + j) else 0
  have lU : Lt U nu := fun j hj => if_neg (by omega)
  have lV : Lt V nv := fun j hj => if_neg (by omega)
  obtain ⟨R, hR⟩ : ∃ R, U * of P + V * of Q = R := ⟨_, rfl⟩
  have hR2 : U * of P2 + V * of Q2 = R * of H := by rw [eP, eQ, ← hR]; grind
  have zero_at' : ∀ i, i < E → (R * of H) (d0 + i) = 0 := fun i hi => by
    rw [← hR2, add_at, conv_ext lU, conv_ext lV]
    have := xe i hi
    rw [← hE, sm_split] at this
    refine Eq.trans ?_ this
    congr 1
    · refine sm_congr fun j hj => ?_
      rw [if_pos hj]
      show (if j < nu then x j else 0) * _ = _
      rw [if_pos hj, Int.mul_comm]; rfl
    · refine sm_congr fun j hj => ?_
      show (if j < nv then x (nu + j) else 0) * _ = (if nu + j < nu then _ else _) * x (nu + j)
      rw [if_pos hj, if_neg (show ¬ nu + j < nu by omega), Nat.add_sub_cancel_left, Int.mul_comm]; rfl
  have lRH : Lt (R * of H) (A.length - 1 + (H.length - 1)) := fun j hj => by
    by_cases hj2 : j < d0 + E
    · have := zero_at' (j - d0) (by omega)
      rwa [show d0 + (j - d0) = j by omega] at this
    · rw [← hR2]
      have h1 := lU.mul (lP2.mono (show P.length + H.length - 1 ≤ (P.length + H.length - 2) + 1 by omega))
      have h2 := lV.mul (lQ2.mono (show Q.length + H.length - 1 ≤ (Q.length + H.length - 2) + 1 by omega))
      rw [add_at, h1 j (by omega), h2 j (by omega)]; rfl
  have lR : Lt R (A.length - 1) := by
    have fin : Lt R (A.length - 1 + (nu + P.length + (nv + Q.length))) := by
      rw [← hR]
      exact Lt.add ((lU.mul ((of_lt P).mono (show P.length ≤ P.length + 1 by omega))).mono (by omega)) ((lV.mul ((of_lt Q).mono (show Q.length ≤ Q.length + 1 by omega))).mono (by omega))
    exact lt_div ((of_lt H).mono (by omega)) hT lRH _ fin
  -- the two pairs go together
  have al : U * V1 - U1 * V = 0 := by
    have h1 : R * V1 - con b * of B * V = (U * V1 - U1 * V) * of P := by
      rw [← hR, e1]; grind
    have l1 : Lt (R * V1) (P.length - 1) := (lR.mul (lV1.mono (show P.length + 1 - A.length ≤ (P.length - A.length) + 1 by omega))).mono (by omega)
    have l2 : Lt (con b * of B * V) (P.length - 1) := (((of_lt B).con_mul b).mul (lV.mono (show nv ≤ (P.length - A.length) + 1 by omega))).mono (by omega)
    have l3 : Lt ((U * V1 - U1 * V) * of P) (0 + (P.length - 1)) := by
      rw [← h1, Nat.zero_add]
      exact l1.sub l2
    have fin : Lt (U * V1 - U1 * V) (0 + (nu + (P.length + 1) + (Q.length + 1 - A.length + nv))) := by
      refine Lt.sub ((lU.mul (lV1.mono (show P.length + 1 - A.length ≤ P.length + 1 + 1 by omega))).mono (by omega)) ((lU1.mul (lV.mono (show nv ≤ nv + 1 by omega))).mono (by omega))
    exact Lt.zero (lt_div ((of_lt P).mono (by omega)) pT l3 _ fin)
  obtain ⟨be, hbe⟩ : ∃ be, U0 * V - U * V0 = be := ⟨_, rfl⟩
  have wU : con w * U = be * U1 := by
    have : con w * U = U0 * (U * V1 - U1 * V) + (U0 * V - U * V0) * U1 := by rw [← ew]; grind
    rw [this, al, hbe]; grind
  have wV : con w * V = be * V1 := by
    have : con w * V = V0 * (U * V1 - U1 * V) + (U0 * V - U * V0) * V1 := by rw [← ew]; grind
    rw [this, al, hbe]; grind
  have lbe : Lt be 1 := by
    have l1 : Lt (be * V1) (1 + (P.length - A.length)) := by
      rw [← wV]
      exact (lV.con_mul w).mono (by omega)
    have fin : Lt be (1 + ((Q.length + 1 - B.length) + nv + (nu + P.length))) := by
      rw [← hbe]
      exact Lt.sub ((lU0.mul (lV.mono (show nv ≤ nv + 1 by omega))).mono (by omega)) ((lU.mul (lV0.mono (show P.length - B.length ≤ P.length + 1 by omega))).mono (by omega))
    exact lt_div (lV1.mono (by omega)) t1 l1 _ fin
  have cbe := lt_one lbe
  generalize be 0 = y at cbe
  have w_inv : ∀ {p : S}, con w * p = 0 → p = 0 := fun {p} hp => S.ext fun k => by
    have := congrFun hp k
    rw [S.con_mul, zero_at] at this
    rw [zero_at]
    exact (Int.mul_eq_zero.mp this).resolve_left w0
  have y0 : y ≠ 0 := fun z => by
    have hb0 : be = 0 := by rw [cbe, z]; rfl
    have u0 : U = 0 := w_inv (by rw [wU, hb0]; grind)
    have v0 : V = 0 := w_inv (by rw [wV, hb0]; grind)
    by_cases hj : j0 < nu
    · have := congrFun u0 j0
      rw [zero_at] at this
      have h2 : U j0 = x j0 := if_pos hj
      exact xj0 (h2 ▸ this)
    · have := congrFun v0 (j0 - nu)
      rw [zero_at] at this
      have h2 : V (j0 - nu) = x j0 := by
        show (if j0 - nu < nv then x (nu + (j0 - nu)) else 0) = _
        rw [if_pos (by omega), show nu + (j0 - nu) = j0 by omega]
      exact xj0 (h2 ▸ this)
  have up : ∀ j, (x j).natAbs ≤ 2 ^ (t * (P.length + Q.length) + 1) := fun j => Nat.le_trans (Nat.le_of_lt (xb j)) (Nat.pow_le_pow_right (by decide) (by
    have : t * E ≤ t * (P.length + Q.length) := Nat.mul_le_mul_left _ (by omega)
    omega))
  rw [cbe] at wU wV
  refine ⟨U, V, y, nu, nv, y0, wU, wV, lU, lV, by omega, fun j => ?_, fun j => ?_⟩
  · show (if j < nu then x j else 0).natAbs ≤ _
    split
    · exact up j
    · exact Nat.zero_le _
  · show (if j < nv then x (nu + j) else 0).natAbs ≤ _
    split
    · exact up _
    · exact Nat.zero_le _
/-- a primitive row that goes into a small one is small -/
theorem prim_le {T : List Int} {p : S} {x z : Int} {B : Nat} (g1 : gcdN T = 1) (x0 : x ≠ 0) (z0 : z ≠ 0) (h : ∀ k, x * p k = z * cf T k) (k : Nat) : (cf T k).natAbs ≤ (p k).natAbs := by
  have wd : x ∣ z := dvd_all g1 fun k => ⟨p k, (h k).symm⟩
  obtain ⟨v, hv⟩ := wd
  have v0 : v ≠ 0 := fun e => by rw [e, Int.mul_zero] at hv; exact z0 hv
  have Rk : p k = v * cf T k := by
    have := h k
    rw [hv, Int.mul_assoc] at this
    exact Int.eq_of_mul_eq_mul_left x0 this
  rw [Rk, Int.natAbs_mul]
  exact Nat.le_mul_of_pos_left _ (by omega)
/-- the bound -/
theorem Cof.bound' {P2 Q2 H : List Int} {s r t : Nat} (h : Cof P Q A B) (hP : Trim P) (nP : P ≠ []) (nQ : Q ≠ []) (hH : Trim H) (nH : H ≠ []) (eP : of P2 = of P * of H) (eQ : of Q2 = of Q * of H) (sP : Sz s P2) (sQ : Sz s Q2) (rP : Sz r P) (rQ : Sz r Q) (hBA : B.length < A.length) (hAQ : A.length ≤ Q.length + 1) (g1 : gcdN B = 1) (ht : 2 * ((P.length + Q.length) * 2 ^ s) ≤ 2 ^ t) (hl : P.length + Q.length ≤ 2 ^ 7) : Sz (t * (P.length + Q.length) + r + 9) B := by
  obtain ⟨a, b, w, U0, V0, U1, V1, ⟨a0, b0, w0, e0, e1, ew, _⟩, U, V, y, nu, nv, y0, wU, wV, lU, lV, lnn, bU, bV⟩ := h.small hP nP nQ hH nH eP eQ sP sQ hBA hAQ ht
  obtain ⟨R, hR⟩ : ∃ R, U * of P + V * of Q = R := ⟨_, rfl⟩
  have rel : ∀ k, w * R k = (y * b) * cf B k := fun k => by
    have : con w * R = con (y * b) * of B := by
      have h1 : con w * R = con w * U * of P + con w * V * of Q := by rw [← hR]; grind
      have h2 : con y * U1 * of P + con y * V1 * of Q = con y * (U1 * of P + V1 * of Q) := by grind
      rw [h1, wU, wV, h2, ← e1, ← con_mul_con]; grind
    have := congrFun this k
    rw [S.con_mul, S.con_mul] at this
    exact this
  refine Sz.of fun k _ => ?_
  refine Nat.lt_of_le_of_lt (prim_le (B := 0) g1 w0 (Int.mul_ne_zero y0 b0) rel k) ?_
  have q1 := prod_sz lU bU (fun j => Nat.le_of_lt (rP.cf j)) (p := of P) k
  have q2 := prod_sz lV bV (fun j => Nat.le_of_lt (rQ.cf j)) (p := of Q) k
  have q3 : (R k).natAbs ≤ (nu + nv) * (2 ^ (t * (P.length + Q.length) + 1) * 2 ^ r) := by
    rw [← hR, add_at, Nat.add_mul]
    omega
  have q4 : (nu + nv) * (2 ^ (t * (P.length + Q.length) + 1) * 2 ^ r) ≤ 2 ^ 7 * (2 ^ (t * (P.length + Q.length) + 1) * 2 ^ r) := Nat.mul_le_mul_right _ (by omega)
  rw [← Nat.pow_add, ← Nat.pow_add] at q4
  have q5 : 2 ^ (7 + (t * (P.length + Q.length) + 1 + r)) < 2 ^ (t * (P.length + Q.length) + r + 9) := Nat.pow_lt_pow_right (by decide) (by omega)
  rw [← Nat.pow_add] at q3
  omega
/-- the bound -/
theorem Cof.bound {s t : Nat} (h : Cof P Q A B) (hP : Trim P) (nP : P ≠ []) (nQ : Q ≠ []) (sP : Sz s P) (sQ : Sz s Q) (hBA : B.length < A.length) (hAQ : A.length ≤ Q.length + 1) (g1 : gcdN B = 1) (ht : 2 * ((P.length + Q.length) * 2 ^ s) ≤ 2 ^ t) : Sz (t * (P.length + Q.length) + t + 1) B := by
  obtain ⟨a, b, w, U0, V0, U1, V1, a0, b0, w0, e0, e1, ew, lU0, lV0, lU1, lV1, t1, lA⟩ := h
  have lP := List.length_pos_iff.mpr nP
  have lQ := List.length_pos_iff.mpr nQ
  have pT := trim_last hP nP
  -- B is not [], for nothing of no coefficients has the shared divisor 1
  have nB : B ≠ [] := fun z => by rw [z] at g1; exact absurd g1 (by decide)
  have lB := List.length_pos_iff.mpr nB
  obtain ⟨nu, hnu⟩ : ∃ nu, nu = Q.length + 1 - A.length := ⟨_, rfl⟩
  obtain ⟨nv, hnv⟩ : ∃ nv, nv = P.length + 1 - A.length := ⟨_, rfl⟩
  obtain ⟨E, hE⟩ : ∃ E, nu + nv = E + 1 := ⟨nu + nv - 1, by omega⟩
  have hEl : E + 1 ≤ P.length + Q.length := by omega
  obtain ⟨x, ⟨j0, hj0, xj0⟩, xb, xz, xe⟩ := SG.siegel (E := E) (s := s) (t := t) (fun i j => if j < nu then (if j ≤ A.length - 1 + i then cf P (A.length - 1 + i - j) else 0) else (if j - nu ≤ A.length - 1 + i then cf Q (A.length - 1 + i - (j - nu)) else 0)) (fun i j => by
    split
    · split
      · exact sP.cf _
      · exact Nat.two_pow_pos _
    · split
      · exact sQ.cf _
      · exact Nat.two_pow_pos _) (Nat.le_trans (Nat.mul_le_mul_left _ (Nat.mul_le_mul_right _ hEl)) ht)
  let U : S := fun j => if j < nu then x j else 0
  let V : S := fun j => if j < nv then x (nu + j) else 0
  have lU : Lt U nu := fun j hj => if_neg (by omega)
  have lV : Lt V nv := fun j hj => if_neg (by omega)
  obtain ⟨R, hR⟩ : ∃ R, U * of P + V * of Q = R := ⟨_, rfl⟩
  have zero_at' : ∀ i, i < E → R (A.length - 1 + i) = 0 := fun i hi => by
    rw [← hR, add_at, conv_ext lU, conv_ext lV]
    have := xe i hi
    rw [← hE, sm_split] at this
    refine Eq.trans ?_ this
    congr 1
    · refine sm_congr fun j hj => ?_
      rw [if_pos hj]
      show (if j < nu then x j else 0) * _ = _
      rw [if_pos hj, Int.mul_comm]; rfl
    · refine sm_congr fun j hj => ?_
      show (if j < nv then x (nu + j) else 0) * _ = (if nu + j < nu then _ else _) * x (nu + j)
      rw [if_pos hj, if_neg (show ¬ nu + j < nu by omega), Nat.add_sub_cancel_left, Int.mul_comm]; rfl
  have lR : Lt R (A.length - 1) := fun j hj => by
    by_cases hj2 : j < A.length - 1 + E
    · have := zero_at' (j - (A.length - 1)) (by omega)
      rwa [show A.length - 1 + (j - (A.length - 1)) = j by omega] at this
    · rw [← hR]
      have h1 := lU.mul ((of_lt P).mono (show P.length ≤ (P.length - 1) + 1 by omega))
      have h2 := lV.mul ((of_lt Q).mono (show Q.length ≤ (Q.length - 1) + 1 by omega))
      rw [add_at, h1 j (by omega), h2 j (by omega)]; rfl
  -- the two pairs go together
  have al : U * V1 - U1 * V = 0 := by
    have h1 : R * V1 - con b * of B * V = (U * V1 - U1 * V) * of P := by
      rw [← hR, e1]; grind
    have l1 : Lt (R * V1) (P.length - 1) := (lR.mul (lV1.mono (show P.length + 1 - A.length ≤ (P.length - A.length) + 1 by omega))).mono (by omega)
    have l2 : Lt (con b * of B * V) (P.length - 1) := (((of_lt B).con_mul b).mul (lV.mono (show nv ≤ (P.length - A.length) + 1 by omega))).mono (by omega)
    have l3 : Lt ((U * V1 - U1 * V) * of P) (0 + (P.length - 1)) := by
      rw [← h1, Nat.zero_add]
      exact l1.sub l2
    have fin : Lt (U * V1 - U1 * V) (0 + (nu + (P.length + 1) + (Q.length + 1 - A.length + nv))) := by
      refine Lt.sub ((lU.mul (lV1.mono (show P.length + 1 - A.length ≤ P.length + 1 + 1 by omega))).mono (by omega)) ((lU1.mul (lV.mono (show nv ≤ nv + 1 by omega))).mono (by omega))
    exact Lt.zero (lt_div ((of_lt P).mono (by omega)) pT l3 _ fin)
  obtain ⟨be, hbe⟩ : ∃ be, U0 * V - U * V0 = be := ⟨_, rfl⟩
  have wU : con w * U = be * U1 := by
    have : con w * U = U0 * (U * V1 - U1 * V) + (U0 * V - U * V0) * U1 := by rw [← ew]; grind
    rw [this, al, hbe]; grind
  have wV : con w * V = be * V1 := by
    have : con w * V = V0 * (U * V1 - U1 * V) + (U0 * V - U * V0) * V1 := by rw [← ew]; grind
    rw [this, al, hbe]; grind
  have lbe : Lt be 1 := by
    have l1 : Lt (be * V1) (1 + (P.length - A.length)) := by
      rw [← wV]
      exact (lV.con_mul w).mono (by omega)
    have fin : Lt be (1 + ((Q.length + 1 - B.length) + nv + (nu + P.length))) := by
      rw [← hbe]
      exact Lt.sub ((lU0.mul (lV.mono (show nv ≤ nv + 1 by omega))).mono (by omega)) ((lU.mul (lV0.mono (show P.length - B.length ≤ P.length + 1 by omega))).mono (by omega))
    exact lt_div (lV1.mono (by omega)) t1 l1 _ fin
  have cbe := lt_one lbe
  generalize be 0 = y at cbe
  -- y is not 0
  have w_inv : ∀ {p : S}, con w * p = 0 → p = 0 := fun {p} hp => S.ext fun k => by
    have := congrFun hp k
    rw [S.con_mul, zero_at] at this
    rw [zero_at]
    exact (Int.mul_eq_zero.mp this).resolve_left w0
  have y0 : y ≠ 0 := fun z => by
    have hb0 : be = 0 := by rw [cbe, z]; rfl
    have u0 : U = 0 := w_inv (by rw [wU, hb0]; grind)
    have v0 : V = 0 := w_inv (by rw [wV, hb0]; grind)
    by_cases hj : j0 < nu
    · have := congrFun u0 j0
      rw [zero_at] at this
      have h2 : U j0 = x j0 := if_pos hj
      exact xj0 (h2 ▸ this)
    · have := congrFun v0 (j0 - nu)
      rw [zero_at] at this
      have h2 : V (j0 - nu) = x j0 := by
        show (if j0 - nu < nv then x (nu + (j0 - nu)) else 0) = _
        rw [if_pos (by omega), show nu + (j0 - nu) = j0 by omega]
      exact xj0 (h2 ▸ this)
  have rel : ∀ k, w * R k = (y * b) * cf B k := fun k => by
    have : con w * R = con (y * b) * of B := by
      have h1 : con w * R = con w * U * of P + con w * V * of Q := by rw [← hR]; grind
      have h2 : be * U1 * of P + be * V1 * of Q = be * (U1 * of P + V1 * of Q) := by grind
      rw [h1, wU, wV, h2, ← e1, cbe, ← con_mul_con]; grind
    have := congrFun this k
    rw [S.con_mul, S.con_mul] at this
    exact this
  have wd : w ∣ y * b := dvd_all g1 fun k => ⟨R k, (rel k).symm⟩
  obtain ⟨z, hz⟩ := wd
  have z0 : z ≠ 0 := fun e => by
    rw [e, Int.mul_zero] at hz
    exact Int.mul_ne_zero y0 b0 hz
  have Rk : ∀ k, R k = z * cf B k := fun k => by
    have := rel k
    rw [hz, Int.mul_assoc] at this
    exact Int.eq_of_mul_eq_mul_left w0 this
  refine Sz.of fun k _ => ?_
  have le : (cf B k).natAbs ≤ (R k).natAbs := by
    rw [Rk, Int.natAbs_mul]
    exact Nat.le_mul_of_pos_left _ (by omega)
  refine Nat.lt_of_le_of_lt le ?_
  have bU : ∀ j, (U j).natAbs ≤ 2 ^ (t * E + 1) := fun j => by
    show (if j < nu then x j else 0).natAbs ≤ _
    split
    · exact Nat.le_of_lt (xb j)
    · exact Nat.zero_le _
  have bV : ∀ j, (V j).natAbs ≤ 2 ^ (t * E + 1) := fun j => by
    show (if j < nv then x (nu + j) else 0).natAbs ≤ _
    split
    · exact Nat.le_of_lt (xb _)
    · exact Nat.zero_le _
  have q1 := prod_sz lU bU (fun j => Nat.le_of_lt (sP.cf j)) (p := of P) k
  have q2 := prod_sz lV bV (fun j => Nat.le_of_lt (sQ.cf j)) (p := of Q) k
  have q3 : (R k).natAbs ≤ (nu + nv) * (2 ^ (t * E + 1) * 2 ^ s) := by
    rw [← hR, add_at, Nat.add_mul]
    omega
  have q4 : (nu + nv) * (2 ^ (t * E + 1) * 2 ^ s) ≤ (P.length + Q.length) * (2 ^ (t * E + 1) * 2 ^ s) := Nat.mul_le_mul_right _ (by omega)
  have q5 : 2 * ((P.length + Q.length) * (2 ^ (t * E + 1) * 2 ^ s)) ≤ 2 ^ t * 2 ^ (t * E + 1) := by
    have := Nat.mul_le_mul_right (2 ^ (t * E + 1)) ht
    calc 2 * ((P.length + Q.length) * (2 ^ (t * E + 1) * 2 ^ s)) = 2 * ((P.length + Q.length) * 2 ^ s) * 2 ^ (t * E + 1) := by
          rw [Nat.mul_comm (2 ^ (t * E + 1)), ← Nat.mul_assoc (P.length + Q.length), Nat.mul_assoc 2]
      _ ≤ _ := this
  rw [show 2 ^ t * 2 ^ (t * E + 1) = 2 ^ (t + (t * E + 1)) from (Nat.pow_add ..).symm] at q5
  have q6 : 2 ^ (t + (t * E + 1)) ≤ 2 ^ (t * (P.length + Q.length) + t + 1) := Nat.pow_le_pow_right (by decide) (by
    have : t * E ≤ t * (P.length + Q.length) := Nat.mul_le_mul_left _ (by omega)
    omega)
  have q7 : 0 < 2 ^ (t + (t * E + 1)) := Nat.two_pow_pos _
  omega
end CO

set_option linter.all false
set_option exponentiation.threshold 100000
/-! What the walk asks of a row of rests. -/
namespace MS
open ML MD MP MR MQ MG CO PS PS.S
/-- what the walk asks of each step, where a shared divisor can be great -/
def RowOk2 : Nat → List Int → List Int → Prop
  | 0, _, B => B = []
  | f + 1, A, B => B = [] ∨ (Trim B ∧ (∃ n m, Sz n A ∧ Sz m B ∧ A.length ≤ 100000 ∧ B.length ≤ 100000 ∧ 0 < n ∧ 0 < m ∧ m ≤ 9000 ∧ n + (2 * m + 1) * (A.length + 1) ≤ 900000) ∧ (remL A B ≠ [] → gcdL ((remL A B).map fun x => 0 - x) ≠ 0 ∧ Sz 4000 (nextL A B)) ∧ RowOk2 f B (nextL A B))
/-- what is known of P and Q -/
structure Env (P Q : List Int) (s t : Nat) : Prop where
  hP : Trim P
  nP : P ≠ []
  nQ : Q ≠ []
  sP : Sz s P
  sQ : Sz s Q
  bd : ∀ A B, Cof P Q A B → B.length < A.length → A.length ≤ Q.length + 1 → gcdN B = 1 → Sz 4000 B
  hl : P.length ≤ 100
theorem Env.of {P Q : List Int} {s t : Nat} (hP : Trim P) (nP : P ≠ []) (nQ : Q ≠ []) (sP : Sz s P) (sQ : Sz s Q) (ht : 2 * ((P.length + Q.length) * 2 ^ s) ≤ 2 ^ t) (hw : t * (P.length + Q.length) + t + 1 ≤ 4000) (hl : P.length ≤ 100) : Env P Q s t := ⟨hP, nP, nQ, sP, sQ, fun _ _ c h1 h2 g => (c.bound hP nP nQ sP sQ h1 h2 g ht).mono hw, hl⟩
/-- a pair of rests on the way -/
structure Run (P Q A B : List Int) : Prop where
  c : Cof P Q A B
  tA : Trim A
  nA : A ≠ []
  tB : Trim B
  le : B.length ≤ A.length
  lQ : B.length ≤ Q.length
  lA : A.length ≤ 100
  sA : Sz 4000 A
  sB : Sz 4000 B
variable {P Q A B C : List Int} {s t : Nat}
theorem quo_facts (tA : Trim A) (nA : A ≠ []) (tB : Trim B) (nB : B ≠ []) (le : B.length ≤ A.length) : Lt (of (quoL A B)) (A.length - B.length + 1) ∧ of (quoL A B) (A.length - B.length) ≠ 0 ∧ con (facL A B) * of A - of (quoL A B) * of B = of (remL A B) := by
  have lA := List.length_pos_iff.mpr nA
  have lB := List.length_pos_iff.mpr nB
  have e : con (facL A B) * of A - of (quoL A B) * of B = of (remL A B) := S.ext fun k => by
    rw [sub_at, S.con_mul, of_mul, of_at, of_at, div_eq tB nB]; omega
  have lr := rem_len (P := A) tB nB
  have lr2 : Lt (of (remL A B)) (B.length - 1) := (of_lt _).mono (by omega)
  have tb := trim_last tB nB
  have ta := trim_last tA nA
  have f0 := facL_pos (P := A) tB nB
  have e2 : of (quoL A B) * of B = con (facL A B) * of A - of (remL A B) := by rw [← e]; grind
  have l1 : Lt (of (quoL A B) * of B) ((A.length - B.length + 1) + (B.length - 1)) := by
    rw [e2]
    exact Lt.sub ((Lt.con_mul _ (of_lt A)).mono (by omega)) (lr2.mono (by omega))
  have l2 : Lt (of (quoL A B)) (A.length - B.length + 1) := lt_div ((of_lt B).mono (by omega)) tb l1 (quoL A B).length ((of_lt _).mono (by omega))
  refine ⟨l2, fun hz => ?_, e⟩
  have h1 := mul_top (p := of (quoL A B)) (q := of B) (a := A.length - B.length) (b := B.length - 1) l2 ((of_lt B).mono (by omega))
  rw [hz, Int.zero_mul, e2, sub_at, S.con_mul, lr2 _ (by omega), show A.length - B.length + (B.length - 1) = A.length - 1 by omega] at h1
  have := Int.mul_ne_zero (show facL A B ≠ 0 by omega) ta
  have h2 : facL A B * cf A (A.length - 1) - 0 = 0 := h1
  omega
theorem Run.step {c : Int} (E : Env P Q s t) (h : Run P Q A B) (nB : B ≠ []) (c0 : c ≠ 0) (hc : ∀ k, c * cf C k = cf (remL A B) k) (tC : Trim C) (g1 : C ≠ [] → gcdN C = 1) : Run P Q B C := by
  obtain ⟨q1, q2, q3⟩ := quo_facts h.tA h.nA h.tB nB h.le
  have f0 := facL_pos (P := A) h.tB nB
  have lr := rem_len (P := A) h.tB nB
  have lC : C.length ≤ (remL A B).length := len_le_of tC fun k hk => by
    have := hc k
    rw [hk] at this
    exact (Int.mul_eq_zero.mp this).resolve_left c0
  have cof := h.c.step (C := C) c0 (show facL A B ≠ 0 by omega) (by rw [q3]; exact S.ext fun k => by rw [S.con_mul, of_at, of_at]; exact hc k) h.le (by omega) q1 q2
  have := h.lQ
  have := h.le
  have := h.lA
  refine ⟨cof, h.tB, nB, tC, by omega, by omega, by omega, h.sB, ?_⟩
  by_cases hC : C = []
  · rw [hC]; exact Sz.nil _
  · exact E.bd _ _ cof (by omega) (by omega) (g1 hC)
theorem neg_cf (R : List Int) (k : Nat) : cf (R.map fun x => 0 - x) k = - cf R k := by
  rw [cf_map (f := fun x => 0 - x) (by omega)]; omega
theorem neg_trim {R : List Int} (h : Trim R) : Trim (R.map fun x => 0 - x) := by
  rcases h with h | h
  · exact .inl (by rw [h]; rfl)
  · refine .inr ?_
    rw [neg_cf, List.length_map]; omega
theorem next_facts (tA : Trim A) (nB : B ≠ []) : Trim (nextL A B) ∧ (remL A B ≠ [] → gcdL ((remL A B).map fun x => 0 - x) ≠ 0) ∧ (nextL A B ≠ [] → gcdN (nextL A B) = 1) ∧ ∃ c : Int, c ≠ 0 ∧ ∀ k, c * cf (nextL A B) k = cf (remL A B) k := by
  have tr := trim_rem (Q := B) tA
  have tn := neg_trim tr
  have ge : remL A B ≠ [] → gcdL ((remL A B).map fun x => 0 - x) ≠ 0 := fun h => by
    have := gcdL_trim_pos tn (fun z => h (List.map_eq_nil_iff.mp z))
    omega
  refine ⟨trim_shrunkL tn, ge, fun h => ?_, ?_⟩
  · refine gcdN_shrunkL fun z => ?_
    have hr : remL A B ≠ [] := fun e => h (by unfold nextL; rw [e]; rfl)
    have := ge hr
    unfold gcdL at this
    rw [z] at this
    exact this rfl
  · by_cases hr : remL A B = []
    · refine ⟨1, by decide, fun k => ?_⟩
      unfold nextL
      rw [hr]
      show 1 * cf (shrunkL []) k = _
      rw [shrunkL_nil]; omega
    · refine ⟨-gcdL ((remL A B).map fun x => 0 - x), by have := ge hr; omega, fun k => ?_⟩
      unfold nextL
      rw [Int.neg_mul, mul_shrunkL, neg_cf]; omega
theorem div_room {A B : List Int} (lA : A.length ≤ 100) (sA : Sz 4000 A) (sB : Sz 4000 B) (lB : B.length ≤ 100) : ∃ n m, Sz n A ∧ Sz m B ∧ A.length ≤ 100000 ∧ B.length ≤ 100000 ∧ 0 < n ∧ 0 < m ∧ m ≤ 9000 ∧ n + (2 * m + 1) * (A.length + 1) ≤ 900000 := ⟨4000, 4000, sA, sB, by omega, by omega, by omega, by omega, by omega, by omega⟩
theorem Run.row (E : Env P Q s t) : ∀ (f : Nat) {A B : List Int}, Run P Q A B → B.length ≤ f → RowOk2 f A B
  | 0, A, B, h, hf => List.eq_nil_of_length_eq_zero (Nat.le_zero.mp hf)
  | f + 1, A, B, h, hf => by
    by_cases nB : B = []
    · exact .inl nB
    · obtain ⟨tN, ge, g1, c, c0, hc⟩ := next_facts h.tA nB
      have st := h.step E nB c0 hc tN g1
      have lr := rem_len (P := A) h.tB nB
      have lC : (nextL A B).length = (remL A B).length := by unfold nextL; rw [shrunkL_len, List.length_map]
      have := h.le
      have := h.lA
      exact .inr ⟨h.tB, div_room h.lA h.sA h.sB (by omega), fun hr => ⟨ge hr, st.sB⟩, Run.row E f st (by omega)⟩
/-- the first two of a row -/
theorem Run.first (E : Env P Q s t) (hs : s ≤ 4000) (tQ : Trim Q) (le : Q.length ≤ P.length) : Run P Q (shrunkL P) (shrunkL Q) := by
  have gP := gcdL_trim_pos E.hP E.nP
  have gQ := gcdL_trim_pos tQ E.nQ
  have := E.hl
  refine ⟨Cof.start (a := gcdL P) (b := gcdL Q) (by omega) (by omega) (fun k => (mul_shrunkL P k).symm) (fun k => (mul_shrunkL Q k).symm) (shrunkL_len P) (shrunkL_len Q), trim_shrunkL E.hP, fun z => E.nP (List.map_eq_nil_iff.mp z), trim_shrunkL tQ, by rw [shrunkL_len, shrunkL_len]; exact le, by rw [shrunkL_len]; exact Nat.le_refl _, by rw [shrunkL_len]; omega, (MP.Sz.shrunkL E.sP).mono hs, (MP.Sz.shrunkL E.sQ).mono hs⟩
/-- what is known of two rests that follow each other -/
structure PairOk (A B : List Int) : Prop where
  tA : Trim A
  nA : A ≠ []
  tB : Trim B
  nB : B ≠ []
  sA : Sz 4000 A
  sB : Sz 4000 B
  lA : A.length ≤ 100
  lB : B.length ≤ A.length
  nx : remL A B ≠ [] → gcdL ((remL A B).map fun x => 0 - x) ≠ 0 ∧ Sz 4000 (nextL A B)
theorem Run.pair (E : Env P Q s t) (h : Run P Q A B) (nB : B ≠ []) : PairOk A B ∧ Run P Q B (nextL A B) := by
  obtain ⟨tN, ge, g1, c, c0, hc⟩ := next_facts h.tA nB
  have st := h.step E nB c0 hc tN g1
  exact ⟨⟨h.tA, h.nA, h.tB, nB, h.sA, h.sB, h.lA, h.le, fun hr => ⟨ge hr, st.sB⟩⟩, st⟩
theorem next_nil : nextL A B = [] ↔ remL A B = [] := by
  unfold nextL
  constructor
  · intro h
    have := congrArg List.length h
    rw [shrunkL_len, List.length_map] at this
    exact List.eq_nil_of_length_eq_zero this
  · intro h; rw [h]; rfl
theorem next_len : (nextL A B).length = (remL A B).length := by unfold nextL; rw [shrunkL_len, List.length_map]
/-- each place of a row -/
theorem row_get (E : Env P Q s t) : ∀ (f : Nat) {A B : List Int}, Run P Q A B → B.length ≤ f → ∀ (k : Nat) (R1 : List Int), (A :: rowG f A B)[k + 1]? = some R1 → ∃ R0, (A :: rowG f A B)[k]? = some R0 ∧ PairOk R0 R1 ∧ (A :: rowG f A B)[k + 2]? = if nextL R0 R1 = [] then none else some (nextL R0 R1)
  | 0, A, B, h, hf, k, R1, e => by
    have : rowG 0 A B = [] := rfl
    rw [this] at e
    simp at e
  | f + 1, A, B, h, hf, k, R1, e => by
    by_cases nB : B = []
    · have : rowG (f + 1) A B = [] := by show (if B = [] then [] else _) = _; rw [if_pos nB]
      rw [this] at e
      simp at e
    · have er : rowG (f + 1) A B = B :: rowG f B (nextL A B) := by show (if B = [] then [] else _) = _; rw [if_neg nB]
      obtain ⟨pr, st⟩ := h.pair E nB
      have lr := rem_len (P := A) h.tB nB
      have hl : (nextL A B).length ≤ f := by rw [next_len]; omega
      rw [er] at e ⊢
      cases k with
      | zero =>
        simp only [List.getElem?_cons_succ, List.getElem?_cons_zero, Option.some.injEq] at e
        subst e
        refine ⟨A, rfl, pr, ?_⟩
        simp only [List.getElem?_cons_succ]
        by_cases nN : nextL A B = []
        · rw [if_pos nN, nN]
          cases f with
          | zero => rfl
          | succ f => show (if ([] : List Int) = [] then [] else _)[0]? = _; rw [if_pos rfl]; rfl
        · rw [if_neg nN]
          cases f with
          | zero => exact absurd (List.eq_nil_of_length_eq_zero (Nat.le_zero.mp hl)) nN
          | succ f => show (if nextL A B = [] then [] else _)[0]? = _; rw [if_neg nN]; rfl
      | succ k =>
        simp only [List.getElem?_cons_succ] at e
        obtain ⟨R0, h1, h2, h3⟩ := row_get E f st hl k R1 (by simpa using e)
        exact ⟨R0, by simpa using h1, h2, by simpa using h3⟩
/-- what shrunk asks, where the shared divisor can be great -/
def ShrX (P : List Int) : Prop := gcdL P ≠ 0 ∧ ((gcdL P).natAbs.log2 < 9000 ∨ Sz 4000 (shrunkL P))
theorem log_prod {x g y : Int} (e : g * y = x) (hy : y.natAbs < 2 ^ 4000) : x.natAbs.log2 ≤ g.natAbs.log2 + 4400 := by
  by_cases hx : x.natAbs = 0
  · rw [hx]; simp
  · have h1 : g.natAbs < 2 ^ (g.natAbs.log2 + 1) := Nat.lt_log2_self
    have h2 : x.natAbs < 2 ^ (g.natAbs.log2 + 1 + 4000) := by
      rw [← e, Int.natAbs_mul, Nat.pow_add]
      exact Nat.mul_lt_mul'' h1 hy
    have := (Nat.log2_lt hx).mpr h2
    omega
theorem ShrX.div {P : List Int} (h : ShrX P) {x : Int} (hx : x ∈ P) : gcdL P ≠ 0 ∧ ((gcdL P).natAbs.log2 < 9000 ∨ x.natAbs.log2 ≤ (gcdL P).natAbs.log2 + 4400) := by
  refine ⟨h.1, h.2.imp id fun hs => ?_⟩
  obtain ⟨k, hk, e⟩ := List.getElem_of_mem hx
  refine log_prod (y := cf (shrunkL P) k) ?_ (hs.cf k)
  rw [mul_shrunkL, cf_get hk, e]
/-- lists that differ by a factor above 0 -/
theorem shr_prop {X Y : List Int} {x y : Int} (tX : Trim X) (tY : Trim Y) (hx : 0 < x) (hy : 0 < y) (h : ∀ k, x * cf X k = y * cf Y k) : shrunkL Y = shrunkL X := by
  have hl : X.length = Y.length := Nat.le_antisymm (len_le_of tX fun k hk => by
    have := h k
    rw [hk, Int.mul_zero] at this
    exact (Int.mul_eq_zero.mp this).resolve_left (by omega)) (len_le_of tY fun k hk => by
    have := h k
    rw [hk, Int.mul_zero] at this
    exact (Int.mul_eq_zero.mp this.symm).resolve_left (by omega))
  by_cases h0 : X = []
  · subst h0
    rw [List.eq_nil_of_length_eq_zero (l := Y) hl.symm]
  · have g0 := gcdL_trim_pos tX h0
    have g1 : gcdN (shrunkL X) = 1 := gcdN_shrunkL fun z => by
      unfold gcdL at g0
      rw [z] at g0; omega
    obtain ⟨c, hc⟩ : y ∣ x * gcdL X := dvd_all g1 fun k => ⟨cf Y k, by rw [Int.mul_assoc, mul_shrunkL, h]⟩
    have cp : 0 < c := by
      have h1 := Int.mul_pos hx g0
      rw [hc] at h1
      exact Int.pos_of_mul_pos_right h1 hy |> fun z => z
    refine shrunkL_of cp (by rw [shrunkL_len, hl]) (fun k => ?_) g1
    refine Int.eq_of_mul_eq_mul_left (show y ≠ 0 by omega) ?_
    rw [← h, ← Int.mul_assoc, ← hc, Int.mul_assoc, mul_shrunkL]
end MS

set_option linter.all false
/-! A polynomial at a fraction, by places from the top (top_at), and changes of sign. -/
namespace MH
open ML
/-- the total behind the coefficients (that of the highest power first), the scale -/
def hs (t b : Int) : List Int → Int × Int
  | [] => (0, 1)
  | x :: r => ((hs t b r).1 * t + x * (hs t b r).2, (hs t b r).2 * b)
/-- P at t / b, times b to the power of P's degree; the list's head is the constant, so hs is read from behind -/
def topL (P : List Int) (t b : Int) : Int := (hs t b P).1
theorem hs_cons (t b x : Int) (r : List Int) : hs t b (x :: r) = ((hs t b r).1 * t + x * (hs t b r).2, (hs t b r).2 * b) := rfl
theorem hs_drop {t b : Int} {P : List Int} {i : Nat} {x : Int} (h : P[i]? = some x) : hs t b (P.drop i) = ((hs t b (P.drop (i + 1))).1 * t + x * (hs t b (P.drop (i + 1))).2, (hs t b (P.drop (i + 1))).2 * b) := by
  obtain ⟨hl, e⟩ := List.getElem?_eq_some_iff.mp h
  rw [List.drop_eq_getElem_cons hl, e, hs_cons]
theorem hs_sz {t b : Int} {n m : Nat} (ht : t.natAbs < 2 ^ m) (hb : b.natAbs < 2 ^ m) : ∀ P : List Int, Sz n P → ((hs t b P).1).natAbs < 2 ^ (n + (m + 1) * P.length + 1) ∧ ((hs t b P).2).natAbs < 2 ^ (m * P.length + 1)
  | [], _ => ⟨Nat.two_pow_pos _, by show (1 : Int).natAbs < 2 ^ (m * 0 + 1); simp⟩
  | x :: r, h => by
    obtain ⟨h1, h2⟩ := hs_sz ht hb r (fun y hy => h y (List.mem_cons_of_mem _ hy))
    have hx := h x (List.mem_cons_self ..)
    have a1 : ((hs t b r).1 * t).natAbs < 2 ^ (n + (m + 1) * r.length + 1 + m) := L2.wide_lt h1 ht
    have a2 : (x * (hs t b r).2).natAbs < 2 ^ (n + (m * r.length + 1)) := L2.wide_lt hx h2
    have a3 : ((hs t b r).2 * b).natAbs < 2 ^ (m * r.length + 1 + m) := L2.wide_lt h2 hb
    have e1 : (m + 1) * (r.length + 1) = m * r.length + r.length + m + 1 := by
      rw [Nat.mul_add, Nat.add_mul]; omega
    have e1' : (m + 1) * r.length = m * r.length + r.length := by rw [Nat.add_mul, Nat.one_mul]
    have e2 : m * (r.length + 1) = m * r.length + m := by rw [Nat.mul_add]; omega
    rw [hs_cons, List.length_cons, e1, e2]
    refine ⟨?_, Nat.lt_of_lt_of_le a3 (Nat.pow_le_pow_right (by decide) (by omega))⟩
    have b1 : ((hs t b r).1 * t).natAbs < 2 ^ (n + (m * r.length + r.length + m + 1)) := Nat.lt_of_lt_of_le a1 (Nat.pow_le_pow_right (by decide) (by omega))
    have b2 : (x * (hs t b r).2).natAbs < 2 ^ (n + (m * r.length + r.length + m + 1)) := Nat.lt_of_lt_of_le a2 (Nat.pow_le_pow_right (by decide) (by omega))
    rw [Nat.pow_succ]
    show ((hs t b r).1 * t + x * (hs t b r).2).natAbs < _
    generalize 2 ^ (n + (m * r.length + r.length + m + 1)) = z at b1 b2 ⊢
    omega
theorem hs_scale (p q g : Int) : ∀ P : List Int, (hs (p * g) (q * g) P).1 * g = (hs p q P).1 * g ^ P.length ∧ (hs (p * g) (q * g) P).2 = (hs p q P).2 * g ^ P.length
  | [] => ⟨by show (0 : Int) * g = 0 * g ^ 0; rw [Int.zero_mul, Int.zero_mul], by show (1 : Int) = 1 * g ^ 0; rw [Int.pow_zero]; rfl⟩
  | x :: r => by
    obtain ⟨h1, h2⟩ := hs_scale p q g r
    rw [hs_cons, hs_cons, List.length_cons, Int.pow_succ, h2]
    constructor
    · show ((hs (p * g) (q * g) r).1 * (p * g) + x * ((hs p q r).2 * g ^ r.length)) * g = ((hs p q r).1 * p + x * (hs p q r).2) * (g ^ r.length * g)
      generalize (hs (p * g) (q * g) r).1 = A at *
      generalize (hs p q r).1 = B at *
      generalize g ^ r.length = G at *
      grind
    · show (hs p q r).2 * g ^ r.length * (q * g) = (hs p q r).2 * q * (g ^ r.length * g)
      generalize g ^ r.length = G
      grind
theorem pow_pos {g : Int} (h : 0 < g) : ∀ n : Nat, 0 < g ^ n
  | 0 => by rw [Int.pow_zero]; decide
  | n + 1 => by rw [Int.pow_succ]; exact Int.mul_pos (pow_pos h n) h
/-- the sign at a made fraction is that at what it is made of -/
theorem sign_made (P : List Int) {t b : Int} (hb : 0 < b) : RB.ordI (topL P (RB.rT t b) (RB.rB t b)) 0 = RB.ordI (topL P t b) 0 := by
  have hg := RB.rG_gt (t := t) hb
  have e1 := RB.rT_mul (t := t) (b := b) (by omega)
  have e2 := RB.rB_mul (t := t) (b := b) (by omega)
  have h := (hs_scale (RB.rT t b) (RB.rB t b) (RB.rG t b) P).1
  rw [e1, e2] at h
  have a1 := RB.ordI_scale hg (topL P t b) 0
  have a2 := RB.ordI_scale (pow_pos hg P.length) (topL P (RB.rT t b) (RB.rB t b)) 0
  rw [Int.zero_mul] at a1 a2
  rw [← a1, ← a2]
  unfold topL
  rw [h]
/-- one more sign: how many changes, the last sign -/
def stp (s : Int × Int) (x : Int) : Int × Int := if x ≠ 0 then (if s.2 = 0 - x then s.1 + 1 else s.1, x) else s
def chg (Ps : List (List Int)) (t b : Int) : Int × Int := Ps.foldl (fun s P => stp s (RB.ordI (topL P t b) 0)) (0, 0)
theorem chg_take {Ps : List (List Int)} {t b : Int} {i : Nat} {P : List Int} (h : Ps[i]? = some P) : chg (Ps.take (i + 1)) t b = stp (chg (Ps.take i) t b) (RB.ordI (topL P t b) 0) := by
  unfold chg
  rw [List.take_add_one, h]
  simp [List.foldl_append]
theorem chg_made (Ps : List (List Int)) {t b : Int} (hb : 0 < b) : chg Ps (RB.rT t b) (RB.rB t b) = chg Ps t b := by
  unfold chg
  congr 1
  funext s P
  rw [sign_made P hb]
end MH

namespace RB
structure HSz (n m : Nat) (P : List Int) (t b : Int) : Prop where
  sP : ML.Sz n P
  st : t.natAbs < 2 ^ m
  sb : b.natAbs < 2 ^ m
  n0 : 0 < n
  m0 : 0 < m
  le : n + (m + 1) * (P.length + 1) ≤ 900000
theorem HSz.steps {n m : Nat} {P : List Int} {t b : Int} (s : HSz n m P t b) (k : Nat) : (MH.hs t b (P.drop k)).1.natAbs < 2 ^ (n + (m + 1) * P.length + 1) ∧ (MH.hs t b (P.drop k)).2.natAbs < 2 ^ (m * P.length + 1) := by
  have h := MH.hs_sz s.st s.sb (P.drop k) (s.sP.drop k)
  have hl : (P.drop k).length ≤ P.length := by rw [List.length_drop]; omega
  have h1 := Nat.mul_le_mul_left (m + 1) hl
  have h2 := Nat.mul_le_mul_left m hl
  exact ⟨Nat.lt_of_lt_of_le h.1 (Nat.pow_le_pow_right (by decide) (by omega)), Nat.lt_of_lt_of_le h.2 (Nat.pow_le_pow_right (by decide) (by omega))⟩
end RB

set_option linter.all false
set_option maxRecDepth 100000
/-! Lists of lists of ints. -/
namespace RB
open PySem PySem.Spec PyProof.Rows L2
open Evl (Ex rLenS rListS rMax2 tCut pss_cut)
def Rws (H : Hp) : List Addr → List (List Int) → Prop
  | [], [] => True
  | p :: ps, R :: Rs => H p = some (.lst (R.map V.int)) ∧ Rws H ps Rs
  | _, _ => False
theorem Rws.len {H : Hp} : ∀ {ps : List Addr} {Rs : List (List Int)}, Rws H ps Rs → ps.length = Rs.length
  | [], [], _ => rfl
  | p :: ps, R :: Rs, h => by rw [List.length_cons, List.length_cons, Rws.len h.2]
theorem Rws.ex {H H' : Hp} (e : Ex H H') : ∀ {ps : List Addr} {Rs : List (List Int)}, Rws H ps Rs → Rws H' ps Rs
  | [], [], _ => trivial
  | p :: ps, R :: Rs, h => ⟨e _ _ h.1, Rws.ex e h.2⟩
theorem Rws.exb {l : Addr} {H H' : Hp} (e : Exb l H H') : ∀ {ps : List Addr} {Rs : List (List Int)}, l ∉ ps → Rws H ps Rs → Rws H' ps Rs
  | [], [], _, _ => trivial
  | p :: ps, R :: Rs, hn, h => ⟨e _ (fun x => hn (by rw [x]; exact List.mem_cons_self ..)) _ h.1, Rws.exb e (fun x => hn (List.mem_cons_of_mem _ x)) h.2⟩
theorem Rws.append {H : Hp} : ∀ {ps qs : List Addr} {Rs Ss : List (List Int)}, Rws H ps Rs → Rws H qs Ss → Rws H (ps ++ qs) (Rs ++ Ss)
  | [], _, [], _, _, h => h
  | p :: ps, _, R :: Rs, _, h, h' => ⟨h.1, Rws.append h.2 h'⟩
theorem Rws.get {H : Hp} : ∀ {ps : List Addr} {Rs : List (List Int)} {i : Nat} {p : Addr}, Rws H ps Rs → ps[i]? = some p → ∃ R, Rs[i]? = some R ∧ H p = some (.lst (R.map V.int))
  | p :: ps, R :: Rs, 0, q, h, e => by
    simp only [List.getElem?_cons_zero, Option.some.injEq] at e
    exact ⟨R, rfl, by rw [← e]; exact h.1⟩
  | p :: ps, R :: Rs, i + 1, q, h, e => by
    simp only [List.getElem?_cons_succ] at e
    obtain ⟨S, h1, h2⟩ := Rws.get (i := i) h.2 e
    exact ⟨S, by simpa using h1, h2⟩
theorem dp_rows {K : PySem.W.Frag} {H : Hp} : ∀ {ps : List Addr} {Rs : List (List Int)}, Rws H ps Rs → DpAll K H (ps.map V.ref) (Rs.map dI)
  | [], [], _ => .nil
  | p :: ps, R :: Rs, h => .cons (dp_listI (SqL.inj h.1)) (dp_rows h.2)
theorem canLay_rows : ∀ Rs : List (List Int), PyData.canLayAll0 (Rs.map dI) = true
  | [] => by simp [PyData.canLayAll0]
  | n :: r => by
    rw [List.map_cons, PyData.canLayAll0, canLay_rows r]
    show (PyData.canLay0 (dI n) && true) = true
    unfold dI
    rw [PyData.canLay0, canLay_ints]; rfl
theorem depth_dI (n : List Int) : PyData.depth (dI n) ≤ 2 := by
  have := depth_ints n
  unfold dI
  rw [PyData.depth]
  omega
theorem depth_rows : ∀ Rs : List (List Int), PyData.depthAll (Rs.map dI) ≤ 2
  | [] => by simp [PyData.depthAll]
  | n :: r => by
    have h1 := depth_rows r
    have h2 := depth_dI n
    rw [List.map_cons, PyData.depthAll]
    omega
def dR (Rs : List (List Int)) : PyData := .list (Rs.map dI)
theorem shaped_dR (Rs : List (List Int)) : SeqAt.shaped (dR Rs) = true := by
  have h1 := canLay_rows Rs
  have h2 := depth_rows Rs
  unfold SeqAt.shaped dR
  rw [Bool.and_eq_true, PyData.canLay0, PyData.depth]
  exact ⟨h1, decide_eq_true (by omega)⟩
theorem eqvAll_rows : ∀ Rs Ss : List (List Int), PyData.eqvAll (Rs.map dI) (Ss.map dI) = decide (Rs = Ss)
  | [], [] => by simp [PyData.eqvAll]
  | [], m :: r => by simp [PyData.eqvAll]
  | n :: r, [] => by simp [PyData.eqvAll]
  | n :: r, m :: s => by
    rw [List.map_cons, List.map_cons, PyData.eqvAll, eqvAll_rows r s, eqv_dI]
    simp
theorem eqv_dR (Rs Ss : List (List Int)) : PyData.eqv (dR Rs) (dR Ss) = decide (Rs = Ss) := by
  unfold dR
  rw [PyData.eqv, eqvAll_rows]
def RowsK (K : PySem.W.Frag) (H : Hp) (a : Addr) (Rs : List (List Int)) : Prop := ∃ ps, SqL K H a (ps.map V.ref) ∧ Rws H ps Rs
theorem dp_listR {K : PySem.W.Frag} {H : Hp} {a : Addr} {ps : List Addr} {Rs : List (List Int)} (h : SqL K H a (ps.map V.ref)) (h' : Rws H ps Rs) : Dp K H (.ref a) (dR Rs) := .lst h (dp_rows h')
theorem r_eqRows {K : PySem.W.Frag} {H : Hp} {Q : VK} {a b : Addr} {ps qs : List Addr} {Rs Ss : List (List Int)} (h1 : SqL K H a (ps.map V.ref)) (h1' : Rws H ps Rs) (h2 : SqL K H b (qs.map V.ref)) (h2' : Rws H qs Ss) (q : Q (.bl (decide (Rs = Ss))) H) : rEqD K (.ref a) (.ref b) H Q :=
  ⟨_, _, dp_listR h1 h1', dp_listR h2 h2', shaped_dR Rs, shaped_dR Ss, by rw [eqv_dR]; exact q⟩
/-- what a row tells: new lists -/
def RetRow (Rs : List (List Int)) (H : Hp) (Q : VK) : Prop := ∀ (a : Addr) (ps : List Addr) (H' : Hp), H a = none → (∀ p ∈ ps, H p = none) → a ∉ ps → Ex H H' → H' a = some (.lst (ps.map V.ref)) → Rws H' ps Rs → Q (.ref a) H'
/-- the last two items -/
theorem r_ix2 {K : PySem.W.Frag} {H : Hp} {Q : VK} {p : Addr} {xs : List V} {x y : V} (h : SqL K H p (xs ++ [x, y])) (q : Q x H) : rIxL K (.ref p) (.int (-2)) H Q :=
  r_ixL h (by
    unfold atI
    have e : ixN (xs ++ [x, y]).length (-2) = some xs.length := by
      unfold ixN
      rw [if_neg (by decide), if_pos (by simp; omega)]
      simp
      omega
    rw [e]; simp) q
theorem r_ix1 {K : PySem.W.Frag} {H : Hp} {Q : VK} {p : Addr} {xs : List V} {x y : V} (h : SqL K H p (xs ++ [x, y])) (q : Q y H) : rIxL K (.ref p) (.int (-1)) H Q :=
  r_ixL h (by
    have : xs ++ [x, y] = (xs ++ [x]) ++ [y] := by simp
    rw [this]; exact atI_last _ _) q
end RB
namespace RB
open PySem PySem.Spec PyProof.Rows L2
open Evl (Ex)
theorem Rws.take {H : Hp} : ∀ (n : Nat) {ps : List Addr} {Rs : List (List Int)}, Rws H ps Rs → Rws H (ps.take n) (Rs.take n)
  | 0, _, _, _ => by rw [List.take_zero, List.take_zero]; trivial
  | n + 1, [], [], _ => trivial
  | n + 1, p :: ps, R :: Rs, h => ⟨h.1, Rws.take n h.2⟩
theorem Rws.flat {H : Hp} {ps : List Addr} {Rs : List (List Int)} (h : Rws H ps Rs) : ∀ n : Nat, Rws H (List.replicate n ps).flatten (List.replicate n Rs).flatten
  | 0 => trivial
  | n + 1 => by
    rw [List.replicate_succ, List.replicate_succ, List.flatten_cons, List.flatten_cons]
    exact Rws.append h (Rws.flat h n)
theorem flat_map {α β : Type} (f : α → β) (xs : List α) : ∀ n : Nat, (List.replicate n (xs.map f)).flatten = ((List.replicate n xs).flatten).map f
  | 0 => rfl
  | n + 1 => by rw [List.replicate_succ, List.replicate_succ, List.flatten_cons, List.flatten_cons, flat_map f xs n, List.map_append]
theorem flat_len {α : Type} (xs : List α) : ∀ n : Nat, ((List.replicate n xs).flatten).length = n * xs.length
  | 0 => by simp
  | n + 1 => by rw [List.replicate_succ, List.flatten_cons, List.length_append, flat_len xs n, Nat.add_mul]; omega
theorem flat_mem {α : Type} {xs : List α} {x : α} : ∀ {n : Nat}, x ∈ (List.replicate n xs).flatten → x ∈ xs
  | 0, h => by cases h
  | n + 1, h => by
    rw [List.replicate_succ, List.flatten_cons, List.mem_append] at h
    exact h.elim id flat_mem
/-- a list of lists times a number -/
theorem r_repR {H : Hp} {Q : VK} {l : Addr} {ps : List Addr} {k : Int} (h1 : H l = some (.lst (ps.map V.ref))) (hk : k < 2 ^ 63) (z : ps.length * k.toNat ≤ 16777216) (q : ∀ p H', H p = none → Ex H H' → H' p = some (.lst (((List.replicate k.toNat ps).flatten).map V.ref)) → Q (.ref p) H') (h0 : -(2 ^ 63) ≤ k := by omega) : rRep (.ref l) (.int k) H Q :=
  ⟨l, k, ps.map V.ref, rfl, rfl, h1, h0, hk, by rw [List.length_map]; exact small_le z, newL fun p H' hp e h => q p H' hp e (by rw [← flat_map]; exact h)⟩
theorem cutV_to {xs : List V} {n : Int} (h0 : 0 ≤ n) : cutV xs none (some n) = xs.take n.toNat := by
  obtain ⟨k, rfl⟩ : ∃ k : Nat, n = (k : Int) := ⟨n.toNat, by omega⟩
  unfold cutV
  rw [HT.sIx_none, HT.sIx_nat, List.drop_zero, Int.toNat_natCast, Nat.sub_zero]
  by_cases h : k ≤ xs.length
  · rw [Nat.min_eq_left h]
  · rw [Nat.min_eq_right (by omega), List.take_length, List.take_of_length_le (by omega)]
/-- over a list of lists, each giving a new list -/
theorem lc_rowsN {K : PySem.W.Frag} {σ : L2.St} {H : Hp} {te : TE} {Q : VK} {a : Addr} {ps : List Addr} {Rs : List (List Int)} {j : Nat} (f : List Int → List Int) (hx : SqL K H a (ps.map V.ref)) (hW : Rws H ps Rs) (hz : ps.length < 1000000)
    (he : ∀ p R H1, R ∈ Rs → H1 p = some (.lst (R.map V.int)) → Ex H H1 → ∀ Q' : VK, (∀ q H2, H1 q = none → Ex H1 H2 → H2 q = some (.lst ((f R).map V.int)) → Q' (.ref q) H2) → te (σ.set j (some (.ref p))) H1 Q')
    (q : ∀ D H' qs, H D = none → Ex H H' → H' D = some (.lst (qs.map V.ref)) → Rws H' qs (Rs.map f) → D ∉ qs → Q (.ref D) H') : Lc (Itl K a) (gName j) tYes te [j] σ H Q := fun D hD =>
  lc_list (xs := ps.map V.ref) (fun i H' => Ex H H' ∧ ∃ qs : List Addr, H' D = some (.lst (qs.map V.ref)) ∧ Rws H' qs ((Rs.take i).map f) ∧ D ∉ qs ∧ qs.length ≤ i) ⟨Evl.Ex.new hD, [], upd_same, trivial, (fun h => by cases h), Nat.le_refl _⟩ (fun i H' _ p => p.1.l hx)
    (fun i x H' hi p => ⟨by show ((σ.set j none).set j (some x)).set j none = σ.set j none; rw [set_set, set_set], by
      show te ((σ.set j none).set j (some x)) H' _
      rw [set_set]
      rw [List.getElem?_map] at hi
      obtain ⟨p', hp', rfl⟩ := Option.map_eq_some_iff.mp hi
      obtain ⟨e, qs, hq, hR, hn, hl⟩ := p
      obtain ⟨R, hRm, hpR⟩ := hW.get hp'
      have hlt : i < ps.length := (List.getElem?_eq_some_iff.mp hp').1
      refine he p' R H' (List.mem_of_getElem? hRm) (e _ _ hpR) e _ fun r H2 hr e2 hr2 => ⟨_, e2 D _ hq, ?_, Evl.Ex.mut (e.trans e2) hD, qs ++ [r], ?_, ?_, ?_, ?_⟩
      · rw [List.length_map]; exact small_lt (by omega)
      · rw [upd_same, List.map_append]; rfl
      · rw [List.take_add_one, hRm, List.map_append]
        have nD : r ≠ D := fun z => by rw [z, hq] at hr; cases hr
        refine Rws.append ?_ ⟨by rw [upd_ne nD]; exact hr2, trivial⟩
        exact (hR.ex e2).exb (l := D) (fun c n o h => by rw [upd_ne n]; exact h) hn
      · intro h
        rcases List.mem_append.mp h with h | h
        · exact hn h
        · rw [List.mem_singleton] at h
          rw [← h, hq] at hr
          cases hr
      · rw [List.length_append]; simp; omega⟩)
    (fun H' p => by
      obtain ⟨e, qs, hq, hR, hn, hl⟩ := p
      rw [List.length_map, hW.len, List.take_length] at hR
      exact q D H' qs hD e hq hR hn)
theorem lc_rows {K : PySem.W.Frag} {σ : L2.St} {H : Hp} {te : TE} {Q : VK} {a : Addr} {ps : List Addr} {Rs : List (List Int)} {j : Nat} (f : List Int → List Int) (hx : SqL K H a (ps.map V.ref)) (hW : Rws H ps Rs) (hz : ps.length < 1000000)
    (he : ∀ p R H1, R ∈ Rs → H1 p = some (.lst (R.map V.int)) → Ex H H1 → ∀ Q' : VK, (∀ q H2, H1 q = none → Ex H1 H2 → H2 q = some (.lst ((f R).map V.int)) → Q' (.ref q) H2) → te (σ.set j (some (.ref p))) H1 Q')
    (q : ∀ D H' qs, H D = none → Ex H H' → H' D = some (.lst (qs.map V.ref)) → Rws H' qs (Rs.map f) → Q (.ref D) H') : Lc (Itl K a) (gName j) tYes te [j] σ H Q := lc_rowsN f hx hW hz he fun D H' qs h1 h2 h3 h4 _ => q D H' qs h1 h2 h3 h4
theorem Rws.set {H : Hp} {p : Addr} {R : List Int} (hp : H p = some (.lst (R.map V.int))) : ∀ {ps : List Addr} {Rs : List (List Int)} (i : Nat), Rws H ps Rs → Rws H (ps.set i p) (Rs.set i R)
  | [], [], _, _ => trivial
  | _ :: _, _ :: _, 0, h => ⟨hp, h.2⟩
  | _ :: ps, _ :: Rs, i + 1, h => ⟨h.1, Rws.set hp i h.2⟩
end RB
namespace RB
open PySem PySem.Spec PyProof.Rows L2
theorem Rws.notin {H : Hp} {p : Addr} (hp : H p = none) : ∀ {ps : List Addr} {Rs : List (List Int)}, Rws H ps Rs → p ∉ ps
  | [], [], _ => fun h => by cases h
  | r :: ps, R :: Rs, h => fun hm => by
    rcases List.mem_cons.mp hm with e | e
    · have := h.1
      rw [← e, hp] at this
      cases this
    · exact Rws.notin hp h.2 e
end RB
namespace RB
open PySem PySem.Spec PyProof.Rows L2
theorem r_neRows {K : PySem.W.Frag} {H : Hp} {Q : VK} {a b : Addr} {ps qs : List Addr} {Rs Ss : List (List Int)} (h1 : SqL K H a (ps.map V.ref)) (h1' : Rws H ps Rs) (h2 : SqL K H b (qs.map V.ref)) (h2' : Rws H qs Ss) (q : Q (.bl (!decide (Rs = Ss))) H) : rNeD K (.ref a) (.ref b) H Q :=
  ⟨_, _, dp_listR h1 h1', dp_listR h2 h2', shaped_dR Rs, shaped_dR Ss, by rw [eqv_dR]; exact q⟩
end RB
namespace RB
open PySem PySem.Spec PyProof.Rows L2
/-- two pairs of lists of ints, alike -/
theorem r_neT2 {K : PySem.W.Frag} {H : Hp} {Q : VK} {p q a b c d : Addr} {ns ms : List Int} (h1 : SqT K H p [.ref a, .ref b]) (ha : SqL K H a (ns.map V.int)) (hb : SqL K H b (ms.map V.int)) (h2 : SqT K H q [.ref c, .ref d]) (hc : SqL K H c (ns.map V.int)) (hd : SqL K H d (ms.map V.int)) (k : Q (.bl false) H) : rNeD K (.ref p) (.ref q) H Q := by
  have sh : SeqAt.shaped (PyData.tuple [dI ns, dI ms]) = true := by
    have h1 := depth_dI ns
    have h2 := depth_dI ms
    have l1 : PyData.canLay0 (dI ns) = true := by unfold dI; rw [PyData.canLay0, canLay_ints]
    have l2 : PyData.canLay0 (dI ms) = true := by unfold dI; rw [PyData.canLay0, canLay_ints]
    unfold SeqAt.shaped
    rw [Bool.and_eq_true]
    refine ⟨?_, ?_⟩
    · simp [PyData.canLay0, PyData.canLayAll0, l1, l2]
    · refine decide_eq_true ?_
      simp only [PyData.depth, PyData.depthAll]
      omega
  refine ⟨_, _, .tup h1 (.cons (dp_listI ha) (.cons (dp_listI hb) .nil)), .tup h2 (.cons (dp_listI hc) (.cons (dp_listI hd) .nil)), sh, sh, ?_⟩
  have e : PyData.eqv (.tuple [dI ns, dI ms]) (.tuple [dI ns, dI ms]) = true := by
    simp [PyData.eqv, PyData.eqvAll, eqv_dI]
  show Q (.bl (!PyData.eqv (.tuple [dI ns, dI ms]) (.tuple [dI ns, dI ms]))) H
  rw [e]; exact k
end RB

set_option linter.all false
/-! Products of linear factors, at fractions. -/
namespace MH
open ML MR
/-- times b * x - a, the coefficient ahead given -/
def linM (a b : Int) : List Int → Int → List Int
  | [], p => [b * p]
  | x :: r, p => (b * p - a * x) :: linM a b r x
theorem linM_len (a b : Int) : ∀ (P : List Int) (p : Int), (linM a b P p).length = P.length + 1
  | [], _ => rfl
  | x :: r, p => by
    show (linM a b r x).length + 1 = _
    rw [linM_len a b r x]; rfl
theorem cf_linM (a b : Int) : ∀ (P : List Int) (p : Int) (k : Nat), cf (linM a b P p) k = b * (if k = 0 then p else cf P (k - 1)) - a * cf P k
  | [], p, 0 => by
    show b * p = _
    rw [if_pos rfl, cf_nil, Int.mul_zero, Int.sub_zero]
  | [], p, k + 1 => by
    rw [if_neg (by omega), cf_nil, cf_nil, Int.mul_zero, Int.mul_zero, Int.sub_zero]
    exact cf_beyond (by show 1 ≤ k + 1; omega)
  | x :: r, p, 0 => by
    show b * p - a * x = _
    rw [if_pos rfl, cf_zero]
  | x :: r, p, k + 1 => by
    have h := cf_linM a b r x k
    show cf ((b * p - a * x) :: linM a b r x) (k + 1) = _
    rw [cf_succ, h, cf_succ, if_neg (Nat.succ_ne_zero k), Nat.add_sub_cancel]
    cases k with
    | zero => rw [if_pos rfl, cf_zero]
    | succ k => rw [if_neg (Nat.succ_ne_zero k), cf_succ, Nat.add_sub_cancel]
theorem hs_linM (a b t u : Int) : ∀ (P : List Int) (p : Int), hs t u (linM a b P p) = ((hs t u P).1 * (b * t - a * u) + b * p * (hs t u P).2, (hs t u P).2 * u)
  | [], p => by
    show ((0 : Int) * t + b * p * 1, (1 : Int) * u) = (0 * (b * t - a * u) + b * p * 1, 1 * u)
    rw [Int.zero_mul, Int.zero_mul]
  | x :: r, p => by
    have h := hs_linM a b t u r x
    show ((hs t u (linM a b r x)).1 * t + (b * p - a * x) * (hs t u (linM a b r x)).2, (hs t u (linM a b r x)).2 * u) = (((hs t u r).1 * t + x * (hs t u r).2) * (b * t - a * u) + b * p * ((hs t u r).2 * u), (hs t u r).2 * u * u)
    rw [h]
    refine Prod.ext ?_ rfl
    show ((hs t u r).1 * (b * t - a * u) + b * x * (hs t u r).2) * t + (b * p - a * x) * ((hs t u r).2 * u) = ((hs t u r).1 * t + x * (hs t u r).2) * (b * t - a * u) + b * p * ((hs t u r).2 * u)
    grind
theorem topL_linM (a b t u : Int) (P : List Int) : topL (linM a b P 0) t u = topL P t u * (b * t - a * u) := by
  unfold topL
  rw [hs_linM, Int.mul_zero, Int.zero_mul, Int.add_zero]
theorem cv_lin (a b : Int) (P : List Int) (k : Nat) : cv P [a, b] k = (if k = 0 then 0 else cf P (k - 1) * b) + cf P k * a := by
  have h2 : ∀ j, 2 ≤ j → cf [a, b] j = 0 := fun j hj => cf_beyond (by show 2 ≤ j; exact hj)
  unfold cv
  cases k with
  | zero =>
    rw [if_pos rfl]
    show 0 + cf P 0 * cf [a, b] 0 = _
    rfl
  | succ k =>
    rw [if_neg (by omega), sm_succ, sm_succ]
    have z : sm k (fun i => cf P i * cf [a, b] (k + 1 - i)) = 0 := sm_zero fun i hi => by rw [h2 _ (by omega), Int.mul_zero]
    rw [z, show k + 1 - k = 1 by omega, Nat.sub_self, Nat.add_sub_cancel, Int.zero_add]
    rfl
theorem mul_lin {a b : Int} {P : List Int} (hT : Trim P) (h0 : P ≠ []) (hb : b ≠ 0) : mulL P [-a, b] = linM a b P 0 := by
  have hl := MD.len_pos h0
  refine trim_ext (trim_mulL _ _) (.inr ?_) fun k => ?_
  · rw [linM_len, Nat.add_sub_cancel, cf_linM, if_neg (by omega), cf_beyond (P := P) (Nat.le_refl _), Int.mul_zero, Int.sub_zero]
    exact Int.mul_ne_zero hb (MD.lc_ne hT h0)
  · rw [cf_mulL, cv_lin, cf_linM]
    cases k with
    | zero => rw [if_pos rfl, if_pos rfl, Int.mul_zero, Int.zero_add, Int.zero_sub, Int.mul_neg, Int.mul_comm]
    | succ k => rw [if_neg (by omega), if_neg (by omega), Int.mul_neg, Int.mul_comm b, Int.mul_comm a]; rfl
/-- the product of the factors b * t - a * u -/
def prodF (ab : List (Int × Int)) (t u : Int) : Int := ab.foldl (fun s q => s * (q.2 * t - q.1 * u)) 1
theorem prodF_take {ab : List (Int × Int)} {t u : Int} {i : Nat} {q : Int × Int} (h : ab[i]? = some q) : prodF (ab.take (i + 1)) t u = prodF (ab.take i) t u * (q.2 * t - q.1 * u) := by
  unfold prodF
  rw [List.take_add_one, h]
  simp [List.foldl_append]
theorem prodF_zero {ab : List (Int × Int)} {t u : Int} {q : Int × Int} (h : q ∈ ab) (hz : q.2 * t - q.1 * u = 0) : prodF ab t u = 0 := by
  have gen : ∀ (ab : List (Int × Int)) (s : Int), (s = 0 ∨ q ∈ ab) → ab.foldl (fun s q => s * (q.2 * t - q.1 * u)) s = 0 := by
    intro ab
    induction ab with
    | nil => intro s hs; exact hs.elim id (fun h => by cases h)
    | cons x r ih =>
      intro s hs
      rw [List.foldl_cons]
      apply ih
      rcases hs with hs | hs
      · left; rw [hs, Int.zero_mul]
      · rcases List.mem_cons.mp hs with e | e
        · left; rw [← e, hz, Int.mul_zero]
        · exact .inr e
  exact gen ab 1 (.inr h)
end MH

set_option linter.all false
/-! The bound of the roots. -/
namespace MB
open ML MR MH
/-- at K / M, K far from 0, a polynomial is not small -/
theorem cauchy {K M B l : Int} (hM : 0 < M) (hB : 1 ≤ B) (hK : B * M ≤ (K.natAbs : Int)) : ∀ (r : List Int), (∀ c ∈ r, (c.natAbs : Int) ≤ (B - 1) * (l.natAbs : Int)) → ((l.natAbs : Int) * M ^ r.length ≤ (((hs K M (r ++ [l])).1).natAbs : Int)) ∧ (hs K M (r ++ [l])).2 = M ^ (r.length + 1)
  | [], _ => by
    show (l.natAbs : Int) * M ^ 0 ≤ ((0 * K + l * 1).natAbs : Int) ∧ 1 * M = M ^ (0 + 1)
    constructor
    · have : 0 * K + l * 1 = l := by omega
      rw [this, Int.pow_zero]; omega
    · rw [Int.pow_succ, Int.pow_zero]
  | x :: r, h => by
    obtain ⟨h1, h2⟩ := cauchy hM hB hK r fun c hc => h c (List.mem_cons_of_mem _ hc)
    have hx := h x (List.mem_cons_self ..)
    rw [List.cons_append, hs_cons, h2, List.length_cons]
    generalize (hs K M (r ++ [l])).1 = v at h1
    refine ⟨?_, (Int.pow_succ M (r.length + 1)).symm⟩
    show (l.natAbs : Int) * M ^ (r.length + 1) ≤ ((v * K + x * M ^ (r.length + 1)).natAbs : Int)
    have hP : (0 : Int) < M ^ r.length := Int.pow_pos hM
    have e : M ^ (r.length + 1) = M ^ r.length * M := Int.pow_succ _ _
    rw [e]
    generalize M ^ r.length = p at *
    have hL : (0 : Int) ≤ (l.natAbs : Int) := by omega
    -- |v K| is at least l p B M
    have a1 : (l.natAbs : Int) * p * (B * M) ≤ (v.natAbs : Int) * (K.natAbs : Int) := Int.mul_le_mul h1 hK (Int.mul_nonneg (by omega) (by omega)) (by omega)
    have a2 : ((v * K).natAbs : Int) = (v.natAbs : Int) * (K.natAbs : Int) := by rw [Int.natAbs_mul]; omega
    have pM : 0 < p * M := Int.mul_pos hP hM
    have a3 : ((x * (p * M)).natAbs : Int) ≤ (B - 1) * (l.natAbs : Int) * (p * M) := by
      have : ((x * (p * M)).natAbs : Int) = (x.natAbs : Int) * (p * M) := by
        rw [Int.natAbs_mul]
        have : ((p * M).natAbs : Int) = p * M := by omega
        rw [Int.natCast_mul, this]
      rw [this]
      exact Int.mul_le_mul_of_nonneg_right hx (by omega)
    have a4 : (l.natAbs : Int) * p * (B * M) = (B - 1) * (l.natAbs : Int) * (p * M) + (l.natAbs : Int) * (p * M) := by grind
    omega
/-- the value of a product -/
theorem cv_cons_right (S : List Int) (x : Int) (r : List Int) (k : Nat) : cv S (x :: r) k = cf S k * x + (if k = 0 then 0 else cv S r (k - 1)) := by
  cases k with
  | zero =>
    show sm 1 _ = _
    simp [sm, cf_zero]
  | succ k =>
    rw [if_neg (by omega), Nat.add_sub_cancel]
    show sm (k + 1 + 1) (fun i => cf S i * cf (x :: r) (k + 1 - i)) = _
    rw [sm_succ, Nat.sub_self, cf_zero]
    have e : sm (k + 1) (fun i => cf S i * cf (x :: r) (k + 1 - i)) = cv S r k := sm_congr fun i hi => by
      rw [show k + 1 - i = (k - i) + 1 by omega, cf_succ]
    rw [e]; omega
theorem pair {S : List Int} {c : Int} : ∀ (R : List Int) (g h : Nat → Int) (N : Nat), S.length + R.length ≤ N → (∀ i, i < R.length → sm S.length (fun j => cf S j * g (i + j)) = c * h i) → sm N (fun k => cv S R k * g k) = c * sm R.length (fun i => cf R i * h i)
  | [], g, h, N, _, _ => by
    show _ = c * 0
    rw [Int.mul_zero]
    exact sm_zero fun i _ => by
      have : cv S [] i = 0 := sm_zero fun j _ => by rw [cf_nil, Int.mul_zero]
      rw [this, Int.zero_mul]
  | x :: r, g, h, N, hN, hr => by
    obtain ⟨N', rfl⟩ : ∃ N', N = N' + 1 := ⟨N - 1, by rw [List.length_cons] at hN; omega⟩
    rw [List.length_cons] at hN hr
    have ih := pair (S := S) (c := c) r (fun k => g (k + 1)) (fun i => h (i + 1)) N' (by omega) fun i hi => by
      have := hr (i + 1) (by omega)
      rw [← this]
      exact sm_congr fun j _ => by
        show cf S j * g (i + j + 1) = cf S j * g (i + 1 + j)
        rw [show i + j + 1 = i + 1 + j by omega]
    have e1 : sm (N' + 1) (fun k => cv S (x :: r) k * g k) = sm (N' + 1) (fun k => cf S k * g k * x) + sm (N' + 1) (fun k => (if k = 0 then 0 else cv S r (k - 1)) * g k) := by
      rw [← sm_add]
      exact sm_congr fun k _ => by rw [cv_cons_right]; grind
    have e2 : sm (N' + 1) (fun k => (if k = 0 then 0 else cv S r (k - 1)) * g k) = sm N' (fun k => cv S r k * g (k + 1)) := by
      rw [sm_shift]
      have : sm N' (fun i => (if i + 1 = 0 then 0 else cv S r (i + 1 - 1)) * g (i + 1)) = sm N' (fun k => cv S r k * g (k + 1)) := sm_congr fun i _ => by rw [if_neg (by omega), Nat.add_sub_cancel]
      rw [this]
      simp
    have e3 : sm (N' + 1) (fun k => cf S k * g k) = c * h 0 := by
      rw [← hr 0 (by omega), sm_ext (n := S.length) (by omega) fun i h1 _ => by rw [cf_beyond h1, Int.zero_mul]]
      exact sm_congr fun j _ => by rw [Nat.zero_add]
    rw [e1, sm_mul_r, e2, e3, ih, List.length_cons, sm_shift]
    have e4 : sm r.length (fun i => cf (x :: r) (i + 1) * h (i + 1)) = sm r.length (fun i => cf r i * h (i + 1)) := sm_congr fun i _ => by rw [cf_succ]
    rw [e4, cf_zero]
    grind
/-- Horner's value as a sum -/
theorem hs_sm (K M : Int) : ∀ P : List Int, (hs K M P).1 = sm P.length (fun k => cf P k * (K ^ k * M ^ (P.length - 1 - k))) ∧ (hs K M P).2 = M ^ P.length
  | [] => ⟨rfl, by simp [hs]⟩
  | x :: r => by
    obtain ⟨h1, h2⟩ := hs_sm K M r
    rw [hs_cons, h1, h2, List.length_cons]
    refine ⟨?_, by rw [Int.pow_succ]⟩
    show sm r.length _ * K + x * M ^ r.length = _
    rw [sm_shift, cf_zero, Int.pow_zero, Int.one_mul, Nat.add_sub_cancel, Nat.sub_zero, Int.add_comm, ← sm_mul_r]
    congr 1
    exact sm_congr fun i hi => by
      rw [cf_succ, Int.pow_succ, show r.length - (i + 1) = r.length - 1 - i by omega]
      grind
theorem top_sm (P : List Int) (K M : Int) : topL P K M = sm P.length (fun k => cf P k * (K ^ k * M ^ (P.length - 1 - k))) := (hs_sm K M P).1
/-- the value of a product is the product of the values -/
theorem top_prod {P S R : List Int} (hS : S ≠ []) (hR : R ≠ []) (hl : P.length = S.length + R.length - 1) (h : ∀ k, cf P k = cv S R k) (K M : Int) : topL P K M = topL S K M * topL R K M := by
  have lS := List.length_pos_iff.mpr hS
  have lR := List.length_pos_iff.mpr hR
  rw [top_sm P, top_sm R]
  have e1 : sm P.length (fun k => cf P k * (K ^ k * M ^ (P.length - 1 - k))) = sm (S.length + R.length) (fun k => cv S R k * (K ^ k * M ^ (P.length - 1 - k))) := by
    rw [sm_ext (n := P.length) (m := S.length + R.length) (by omega) fun i h1 _ => by rw [← h, cf_beyond h1, Int.zero_mul]]
    exact sm_congr fun i _ => by rw [h]
  rw [e1]
  refine pair R _ (fun i => K ^ i * M ^ (R.length - 1 - i)) _ (Nat.le_refl _) fun i hi => ?_
  rw [top_sm S, ← sm_mul_r]
  exact sm_congr fun j hj => by
    rw [Int.pow_add, show P.length - 1 - (i + j) = (S.length - 1 - j) + (R.length - 1 - i) by omega, Int.pow_add]
    grind
/-- how great a value can be -/
theorem top_le {K M A : Int} (hM : 0 < M) (hA : 0 ≤ A) (hK : (K.natAbs : Int) ≤ A * M) : ∀ R : List Int, ((topL R K M).natAbs : Int) * M ≤ topL (R.map fun c => (c.natAbs : Int)) A 1 * M ^ R.length
  | [] => by
    show ((0 : Int).natAbs : Int) * M ≤ 0 * M ^ 0
    simp
  | x :: r => by
    have ih := top_le hM hA hK r
    have h2 := (hs_sm K M r).2
    have h3 := (hs_sm A 1 (r.map fun c => (c.natAbs : Int))).2
    unfold topL at ih ⊢
    rw [List.map_cons, hs_cons, hs_cons, h2, h3, Int.one_pow, List.length_cons, Int.pow_succ]
    show ((((hs K M r).1 * K + x * M ^ r.length).natAbs : Nat) : Int) * M ≤ ((hs A 1 (r.map fun c => (c.natAbs : Int))).1 * A + (x.natAbs : Int) * 1) * (M ^ r.length * M)
    have hp : (0 : Int) < M ^ r.length := Int.pow_pos hM
    generalize (hs K M r).1 = v at *
    generalize (hs A 1 (r.map fun c => (c.natAbs : Int))).1 = y at *
    generalize M ^ r.length = p at *
    have a1 : ((v * K + x * p).natAbs : Int) ≤ (v.natAbs : Int) * (K.natAbs : Int) + (x.natAbs : Int) * p := by
      have b1 : ((v * K).natAbs : Int) = (v.natAbs : Int) * (K.natAbs : Int) := by rw [Int.natAbs_mul]; omega
      have b2 : ((x * p).natAbs : Int) = (x.natAbs : Int) * p := by
        rw [Int.natAbs_mul, Int.natCast_mul]
        have : ((p.natAbs : Nat) : Int) = p := by omega
        rw [this]
      omega
    have a2 : (v.natAbs : Int) * (K.natAbs : Int) ≤ (v.natAbs : Int) * (A * M) := Int.mul_le_mul_of_nonneg_left hK (by omega)
    have a3 : (v.natAbs : Int) * (A * M) ≤ A * (y * p) := by
      have := Int.mul_le_mul_of_nonneg_left ih hA
      have e : (v.natAbs : Int) * (A * M) = A * ((v.natAbs : Int) * M) := by grind
      rw [e]; exact this
    have a4 : ((v * K + x * p).natAbs : Int) ≤ (y * A + (x.natAbs : Int) * 1) * p := by
      have e : (y * A + (x.natAbs : Int) * 1) * p = A * (y * p) + (x.natAbs : Int) * p := by grind
      rw [e]; omega
    have := Int.mul_le_mul_of_nonneg_right a4 (show (0 : Int) ≤ M by omega)
    have e : (y * A + (x.natAbs : Int) * 1) * p * M = (y * A + (x.natAbs : Int) * 1) * (p * M) := by grind
    omega
theorem least_ (p : Nat → Prop) (h : ∃ n, p n) : ∃ n, p n ∧ ∀ m, m < n → ¬ p m := by
  obtain ⟨n, hn⟩ := h
  induction n using Nat.strongRecOn with
  | _ n ih =>
    by_cases hm : ∃ m, m < n ∧ p m
    · obtain ⟨m, h1, h2⟩ := hm
      exact ih m h1 h2
    · exact ⟨n, hn, fun m h1 h2 => hm ⟨m, h1, h2⟩⟩
end MB
namespace MB
open ML MR MH MP
/-- the polynomial of a factor -/
def shp (u e b : Int) : List Int := if e = 0 then plainL [0 - u, b] else plainL [u * u - e, -2 * b * u, b * b]
theorem top_scale {A S : List Int} {a : Int} (hl : A.length = S.length) (h : ∀ k, cf A k = a * cf S k) (K M : Int) : topL A K M = a * topL S K M := by
  rw [top_sm A, top_sm S, ← sm_mul, hl]
  exact sm_congr fun k _ => by rw [h]; grind
theorem shp_lin {u b : Int} (hb : b ≠ 0) : ∃ a : Int, a ≠ 0 ∧ (shp u 0 b).length = 2 ∧ ∀ K M, a * topL (shp u 0 b) K M = b * K - u * M := by
  unfold shp
  rw [if_pos rfl]
  obtain ⟨a, h1, h2⟩ := MQ.plain_mul [0 - u, b]
  refine ⟨a, h1 (by simp) (.inr hb), plainL_len _, fun K M => ?_⟩
  rw [← top_scale (plainL_len _).symm h2]
  show (0 * K + b * 1) * K + (0 - u) * (1 * M) = _
  grind
theorem shp_sq {u e b : Int} (he : e ≠ 0) (hb : b ≠ 0) : ∃ a : Int, a ≠ 0 ∧ (shp u e b).length = 3 ∧ ∀ K M, a * topL (shp u e b) K M = (b * K - u * M) * (b * K - u * M) - e * (M * M) := by
  unfold shp
  rw [if_neg he]
  obtain ⟨a, h1, h2⟩ := MQ.plain_mul [u * u - e, -2 * b * u, b * b]
  refine ⟨a, h1 (by simp) (.inr (Int.mul_ne_zero hb hb)), plainL_len _, fun K M => ?_⟩
  rw [← top_scale (plainL_len _).symm h2]
  show ((0 * K + b * b * 1) * K + -2 * b * u * (1 * M)) * K + (u * u - e) * (1 * M * M) = _
  grind
theorem sq_le {x y : Int} (hx : 0 ≤ x) (h : x ≤ y) : x * x ≤ y * y := Int.mul_le_mul h h hx (by omega)
theorem sq_lt {x y : Int} (hx : 0 ≤ x) (h : x < y) : x * x < y * y := by
  have h1 : x * x ≤ x * y := Int.mul_le_mul_of_nonneg_left (by omega) hx
  have h2 : x * y < y * y := Int.mul_lt_mul_of_pos_right h (by omega)
  omega
/-- what the bound is above -/
theorem below {r R : List Int} {l u e b B : Int} (hl : l ≠ 0) (hB : 1 ≤ B) (hb : 1 ≤ b) (he : 0 ≤ e) (hbd : ∀ c ∈ r, (c.natAbs : Int) ≤ (B - 1) * (l.natAbs : Int))
    (hR : R ≠ []) (hlen : (r ++ [l]).length = (shp u e b).length + R.length - 1) (hcf : ∀ k, cf (r ++ [l]) k = cv (shp u e b) R k) : (u.natAbs : Int) < b * B ∧ e < (b * B - (u.natAbs : Int)) * (b * B - (u.natAbs : Int)) := by
  have lR := List.length_pos_iff.mpr hR
  by_cases e0 : e = 0
  · subst e0
    obtain ⟨a, a0, hs, ht⟩ := shp_lin (u := u) (b := b) (by omega)
    have hS : shp u 0 b ≠ [] := fun z => by rw [z] at hs; simp at hs
    have key : (u.natAbs : Int) < b * B := by
      apply Classical.byContradiction
      intro hn
      have hK : B * b ≤ (u.natAbs : Int) := by rw [Int.mul_comm]; omega
      have c := (cauchy (l := l) (K := u) (M := b) (by omega) hB hK r hbd).1
      have z : topL (shp u 0 b) u b = 0 := by
        have := ht u b
        rw [Int.mul_comm b u, Int.sub_self] at this
        exact (Int.mul_eq_zero.mp this).resolve_left a0
      have p := top_prod hS hR hlen hcf u b
      rw [z, Int.zero_mul] at p
      unfold topL at p
      rw [p] at c
      have : 0 < (l.natAbs : Int) * b ^ r.length := Int.mul_pos (by omega) (Int.pow_pos (by omega))
      have : ((0 : Int).natAbs : Int) = 0 := rfl
      omega
    refine ⟨key, ?_⟩
    have := Int.mul_pos (show 0 < b * B - (u.natAbs : Int) by omega) (show 0 < b * B - (u.natAbs : Int) by omega)
    omega
  · obtain ⟨a, a0, hs, ht⟩ := shp_sq (u := u) (e := e) (b := b) e0 (by omega)
    have hS : shp u e b ≠ [] := fun z => by rw [z] at hs; simp at hs
    apply Classical.byContradiction
    intro hn
    generalize hv : (u.natAbs : Int) = v at hn
    have v0 : 0 ≤ v := by omega
    -- the sizes
    have hA : 0 ≤ v + e + 1 := by omega
    generalize hC : topL (R.map fun c => (c.natAbs : Int)) (v + e + 1) 1 = C
    generalize hC1 : b * b * (2 * (v + e + 1) + 1) = C1
    have bb : 0 < b * b := Int.mul_pos (by omega) (by omega)
    have C1p : 0 < C1 := by rw [← hC1]; exact Int.mul_pos bb (by omega)
    have Cn : 0 ≤ C := by
      have := top_le (K := 0) (M := 1) (A := v + e + 1) (by decide) hA (by omega) R
      rw [hC, Int.one_pow] at this
      omega
    have CC : 0 ≤ C1 * C := Int.mul_nonneg (by omega) Cn
    obtain ⟨M, hM⟩ : ∃ M : Int, M = C1 * C + 1 := ⟨_, rfl⟩
    have M0 : 0 < M := by omega
    have MM : 0 < M * M := Int.mul_pos M0 M0
    obtain ⟨k, ⟨hk1, hk2⟩, hmin⟩ := least_ (fun k => 0 ≤ b * (k : Int) - v * M ∧ e * (M * M) ≤ (b * (k : Int) - v * M) * (b * (k : Int) - v * M)) ⟨((v + e + 1) * M).toNat, by
      have h0 : 0 ≤ (v + e + 1) * M := Int.mul_nonneg hA (by omega)
      rw [Int.toNat_of_nonneg h0]
      have h1 : (v + e + 1) * M ≤ b * ((v + e + 1) * M) := by
        have := Int.mul_le_mul_of_nonneg_right hb h0
        omega
      have h2 : (e + 1) * M ≤ b * ((v + e + 1) * M) - v * M := by
        have : (v + e + 1) * M = v * M + (e + 1) * M := by grind
        omega
      have h3 : 0 ≤ (e + 1) * M := Int.mul_nonneg (by omega) (by omega)
      refine ⟨by omega, ?_⟩
      have h4 := sq_le h3 h2
      have h5 : (e + 1) * M * ((e + 1) * M) = e * (M * M) + (e * e + e + 1) * (M * M) := by grind
      have h6 : 0 ≤ (e * e + e + 1) * (M * M) := Int.mul_nonneg (by have := Int.mul_nonneg he he; omega) (by omega)
      omega⟩
    have hkA : (k : Int) ≤ (v + e + 1) * M := by
      have h0 : 0 ≤ (v + e + 1) * M := Int.mul_nonneg hA (by omega)
      apply Classical.byContradiction
      intro hh
      refine hmin ((v + e + 1) * M).toNat (by omega) ?_
      rw [Int.toNat_of_nonneg h0]
      have h1 : (v + e + 1) * M ≤ b * ((v + e + 1) * M) := by
        have := Int.mul_le_mul_of_nonneg_right hb h0
        omega
      have h2 : (e + 1) * M ≤ b * ((v + e + 1) * M) - v * M := by
        have : (v + e + 1) * M = v * M + (e + 1) * M := by grind
        omega
      have h3 : 0 ≤ (e + 1) * M := Int.mul_nonneg (by omega) (by omega)
      refine ⟨by omega, ?_⟩
      have h4 := sq_le h3 h2
      have h5 : (e + 1) * M * ((e + 1) * M) = e * (M * M) + (e * e + e + 1) * (M * M) := by grind
      have h6 : 0 ≤ (e * e + e + 1) * (M * M) := Int.mul_nonneg (by have := Int.mul_nonneg he he; omega) (by omega)
      omega
    have eM : 0 < e * (M * M) := Int.mul_pos (by omega) MM
    have hk0 : 0 < k := by
      apply Classical.byContradiction
      intro hh
      have : k = 0 := by omega
      subst this
      have hvM : 0 ≤ v * M := Int.mul_nonneg v0 (by omega)
      have z : b * ((0 : Nat) : Int) - v * M = 0 := by
        have : b * ((0 : Nat) : Int) = 0 := by simp
        omega
      rw [z] at hk2
      omega
    -- far enough
    have hKB : B * M ≤ (k : Int) := by
      apply Classical.byContradiction
      intro hh
      have h1 : b * (k : Int) - v * M < (b * B - v) * M := by
        have h3 : b * (k : Int) < b * (B * M) := Int.mul_lt_mul_of_pos_left (by omega) (by omega)
        have h4 : (b * B - v) * M = b * (B * M) - v * M := by grind
        omega
      by_cases hbv : v < b * B
      · have h5 : (b * B - v) * (b * B - v) ≤ e := by
          apply Classical.byContradiction
          intro h6
          exact hn ⟨hbv, by omega⟩
        have h6 := sq_lt hk1 h1
        have h7 : (b * B - v) * M * ((b * B - v) * M) = (b * B - v) * (b * B - v) * (M * M) := by grind
        have h8 : (b * B - v) * (b * B - v) * (M * M) ≤ e * (M * M) := Int.mul_le_mul_of_nonneg_right h5 (by omega)
        omega
      · have h9 : (b * B - v) * M ≤ 0 := Int.mul_nonpos_of_nonpos_of_nonneg (by omega) (by omega)
        omega
    -- near enough
    have hq : (b * (k : Int) - v * M) * (b * (k : Int) - v * M) - e * (M * M) ≤ C1 * M := by
      have hp := hmin (k - 1) (by omega)
      have ek : ((k - 1 : Nat) : Int) = (k : Int) - 1 := by omega
      have et : b * ((k : Int) - 1) - v * M = (b * (k : Int) - v * M) - b := by rw [Int.mul_sub]; omega
      rw [ek, et] at hp
      have htA : b * (k : Int) - v * M ≤ b * ((v + e + 1) * M) := by
        have h1 : b * (k : Int) ≤ b * ((v + e + 1) * M) := Int.mul_le_mul_of_nonneg_left hkA (by omega)
        have h2 : 0 ≤ v * M := Int.mul_nonneg v0 (by omega)
        omega
      generalize b * (k : Int) - v * M = t at *
      have hC1M : C1 * M = 2 * (b * (b * ((v + e + 1) * M))) + b * b * M := by rw [← hC1]; grind
      have hbbM : b * b ≤ b * b * M := by
        have := Int.mul_le_mul_of_nonneg_left (show 1 ≤ M by omega) (show 0 ≤ b * b by omega)
        omega
      have hnn : 0 ≤ b * (b * ((v + e + 1) * M)) := Int.mul_nonneg (by omega) (Int.mul_nonneg (by omega) (Int.mul_nonneg hA (by omega)))
      by_cases htb : t < b
      · have := sq_lt hk1 htb
        omega
      · have h1 : (t - b) * (t - b) < e * (M * M) := by
          apply Classical.byContradiction
          intro h2
          exact hp ⟨by omega, by omega⟩
        have h2 : (t - b) * (t - b) = t * t - 2 * (b * t) + b * b := by grind
        have h3 : b * t ≤ b * (b * ((v + e + 1) * M)) := Int.mul_le_mul_of_nonneg_left htA (by omega)
        omega
    -- the place
    obtain ⟨K, hK1, hK2⟩ : ∃ K : Int, (K.natAbs : Int) = k ∧ (b * K - u * M) * (b * K - u * M) = (b * (k : Int) - v * M) * (b * (k : Int) - v * M) := by
      by_cases hu : u < 0
      · refine ⟨-(k : Int), by omega, ?_⟩
        have : u = -v := by omega
        rw [this]; grind
      · refine ⟨(k : Int), by omega, ?_⟩
        have : u = v := by omega
        rw [this]
    have c := (cauchy (l := l) (K := K) (M := M) M0 hB (by omega) r hbd).1
    have p := top_prod hS hR hlen hcf K M
    have t1 := ht K M
    rw [hK2] at t1
    have t2 := top_le (K := K) (M := M) M0 hA (by omega) R
    rw [hC] at t2
    unfold topL at p
    rw [p] at c
    have hlr : r.length = R.length + 1 := by
      rw [List.length_append, List.length_singleton, hs] at hlen
      omega
    change (l.natAbs : Int) * M ^ r.length ≤ ((topL (shp u e b) K M * topL R K M).natAbs : Int) at c
    generalize topL (shp u e b) K M = x at *
    generalize topL R K M = y at *
    have hx : (x.natAbs : Int) ≤ C1 * M := by
      have h1 : ((a * x).natAbs : Int) = (a.natAbs : Int) * (x.natAbs : Int) := by rw [Int.natAbs_mul]; omega
      have h2 : (x.natAbs : Int) ≤ (a.natAbs : Int) * (x.natAbs : Int) := by
        have := Int.mul_le_mul_of_nonneg_right (show 1 ≤ (a.natAbs : Int) by omega) (show 0 ≤ (x.natAbs : Int) by omega)
        omega
      omega
    have hxy : ((x * y).natAbs : Int) * M ≤ C1 * M * (C * M ^ R.length) := by
      have h1 : ((x * y).natAbs : Int) * M = (x.natAbs : Int) * ((y.natAbs : Int) * M) := by rw [Int.natAbs_mul, Int.natCast_mul]; grind
      rw [h1]
      exact Int.mul_le_mul hx t2 (Int.mul_nonneg (by omega) (by omega)) (Int.mul_nonneg (by omega) (by omega))
    have c2 := Int.mul_le_mul_of_nonneg_right c (show 0 ≤ M by omega)
    rw [hlr] at c2
    have hp : 0 < M ^ R.length := Int.pow_pos M0
    rw [Int.pow_succ] at c2
    generalize M ^ R.length = q at *
    have f1 : (l.natAbs : Int) * (q * M) * M = (l.natAbs : Int) * M * (q * M) := by grind
    have f2 : C1 * M * (C * q) = (C1 * C) * (q * M) := by grind
    have qM : 0 < q * M := Int.mul_pos hp M0
    have f3 : (l.natAbs : Int) * M * (q * M) ≤ (C1 * C) * (q * M) := by omega
    have f4 := Int.le_of_mul_le_mul_right f3 qM
    have f5 : M ≤ (l.natAbs : Int) * M := by
      have := Int.mul_le_mul_of_nonneg_right (show 1 ≤ (l.natAbs : Int) by omega) (show 0 ≤ M by omega)
      omega
    omega
end MB

set_option linter.all false
set_option maxRecDepth 100000
/-! Lists of tuples of ints. -/
namespace RB
open PySem PySem.Spec PyProof.Rows L2
open Evl (Ex)
theorem units1 {k : Nat} {A : Around} (r : Room k A) : A.units + 65 < cLine := by have := r.un; omega
def Tws (H : Hp) : List Addr → List (List Int) → Prop
  | [], [] => True
  | p :: ps, R :: Rs => H p = some (.tup (R.map V.int)) ∧ Tws H ps Rs
  | _, _ => False
theorem Tws.len {H : Hp} : ∀ {ps : List Addr} {Rs : List (List Int)}, Tws H ps Rs → ps.length = Rs.length
  | [], [], _ => rfl
  | p :: ps, R :: Rs, h => by rw [List.length_cons, List.length_cons, Tws.len h.2]
theorem Tws.ex {H H' : Hp} (e : Ex H H') : ∀ {ps : List Addr} {Rs : List (List Int)}, Tws H ps Rs → Tws H' ps Rs
  | [], [], _ => trivial
  | p :: ps, R :: Rs, h => ⟨e _ _ h.1, Tws.ex e h.2⟩
theorem Tws.exb {l : Addr} {H H' : Hp} (e : Exb l H H') : ∀ {ps : List Addr} {Rs : List (List Int)}, l ∉ ps → Tws H ps Rs → Tws H' ps Rs
  | [], [], _, _ => trivial
  | p :: ps, R :: Rs, hn, h => ⟨e _ (fun x => hn (by rw [x]; exact List.mem_cons_self ..)) _ h.1, Tws.exb e (fun x => hn (List.mem_cons_of_mem _ x)) h.2⟩
theorem Tws.append {H : Hp} : ∀ {ps qs : List Addr} {Rs Ss : List (List Int)}, Tws H ps Rs → Tws H qs Ss → Tws H (ps ++ qs) (Rs ++ Ss)
  | [], _, [], _, _, h => h
  | p :: ps, _, R :: Rs, _, h, h' => ⟨h.1, Tws.append h.2 h'⟩
theorem Tws.get {H : Hp} : ∀ {ps : List Addr} {Rs : List (List Int)} {i : Nat} {p : Addr}, Tws H ps Rs → ps[i]? = some p → ∃ R, Rs[i]? = some R ∧ H p = some (.tup (R.map V.int))
  | p :: ps, R :: Rs, 0, q, h, e => by
    simp only [List.getElem?_cons_zero, Option.some.injEq] at e
    exact ⟨R, rfl, by rw [← e]; exact h.1⟩
  | p :: ps, R :: Rs, i + 1, q, h, e => by
    simp only [List.getElem?_cons_succ] at e
    obtain ⟨S, h1, h2⟩ := Tws.get (i := i) h.2 e
    exact ⟨S, by simpa using h1, h2⟩
/-- x not in a list of lists: whichever -/
theorem r_notInR {K : PySem.W.Frag} {H : Hp} {Q : VK} {a b : Addr} {ns : List Int} {qs : List Addr} {Ss : List (List Int)} (h1 : SqL K H a (ns.map V.int)) (h2 : SqL K H b (qs.map V.ref)) (h2' : Rws H qs Ss) (q : ∀ c, Q (.bl c) H) : rNotInD K (.ref a) (.ref b) H Q :=
  ⟨_, _, dp_listI h1, dp_listR h2 h2', shaped_dI ns, shaped_dR Ss, q _⟩
/-- an item of a tuple of ints -/
theorem r_ixT' {K : PySem.W.Frag} {H : Hp} {Q : VK} {p : Addr} {i : Nat} {ns : List Int} {x : Int} (h : H p = some (.tup (ns.map V.int))) (hi : ns[i]? = some x) (q : Q (.int x) H) : rIxT K (.ref p) (.int (i : Int)) H Q :=
  r_ixT (.inl (.inl h)) (atI_nat (j := i) (by rw [List.getElem?_map, hi]; rfl)) q
end RB

set_option linter.all false
set_option maxRecDepth 100000
/-! The factors that the laws draw. -/
namespace RB
open PySem PySem.Spec PyProof.Rows L2
/-- a factor as it is drawn, u of at most m -/
structure Fac (m u e b : Int) : Prop where
  su : (u.natAbs : Int) ≤ m
  m9 : m ≤ 1000000000
  se : e.natAbs ≤ 36
  sq : e = 0 ∨ ∃ k : Int, 0 ≤ k ∧ k * k < e.natAbs ∧ (e.natAbs : Int) < (k + 1) * (k + 1)
  b1 : 1 ≤ b
  b3 : b ≤ 3
/-- the factor in a row of three -/
def isF (m : Int) (F : List Int) : Prop := ∃ u e b, F = [u, e, b] ∧ Fac m u e b
/-- the degree that a factor brings -/
def dgF : List Int → Nat
  | [u, e, b] => (MB.shp u e b).length - 1
  | _ => 0
def dgs (FS : List (List Int)) : Nat := (FS.map dgF).sum
def shpF : List Int → List Int
  | [u, e, b] => MB.shp u e b
  | _ => []
/-- the product of the factors' polynomials -/
def prodS (M : List Int) (FS : List (List Int)) : List Int := FS.foldl (fun M F => ML.mulU M (shpF F)) M
theorem Fac.su' {m u e b : Int} (f : Fac m u e b) : u.natAbs ≤ 1000000000 := by have := f.su; have := f.m9; omega
theorem shp_len {m u e b : Int} (f : Fac m u e b) : (MB.shp u e b).length = 2 ∨ (MB.shp u e b).length = 3 := by
  have b1 := f.b1
  by_cases e0 : e = 0
  · subst e0
    obtain ⟨a, _, h, _⟩ := MB.shp_lin (u := u) (b := b) (by omega)
    exact .inl h
  · obtain ⟨a, _, h, _⟩ := MB.shp_sq (u := u) (e := e) (b := b) e0 (by omega)
    exact .inr h
theorem mulU_length {P Q : List Int} (hP : P ≠ []) (hQ : Q ≠ []) : (ML.mulU P Q).length = P.length + Q.length - 1 := by
  unfold ML.mulU
  rw [if_neg fun z => z.elim hP hQ, List.length_map, List.length_range]
theorem shp_ne {m u e b : Int} (f : Fac m u e b) : MB.shp u e b ≠ [] := fun z => by
  have := shp_len f
  rw [z] at this
  simp at this
theorem lin_sz {u b : Int} (hu : u.natAbs ≤ 1000000000) (b1 : 1 ≤ b) (b3 : b ≤ 3) : ML.Sz 62 [0 - u, b] := fun x hx => by
  simp only [List.mem_cons, List.not_mem_nil, or_false] at hx
  rcases hx with rfl | rfl <;> omega
theorem sq_sz {u e b : Int} (hu : u.natAbs ≤ 1000000000) (he : e.natAbs ≤ 36) (b1 : 1 ≤ b) (b3 : b ≤ 3) : ML.Sz 62 [u * u - e, -2 * b * u, b * b] := fun x hx => by
  have h1 : (u * u).natAbs < 2 ^ (30 + 30) := wide_lt (show u.natAbs < 2 ^ 30 by omega) (show u.natAbs < 2 ^ 30 by omega)
  have h2 : (-2 * b * u).natAbs < 2 ^ (4 + 30) := wide_lt (show (-2 * b).natAbs < 2 ^ 4 by omega) (show u.natAbs < 2 ^ 30 by omega)
  have h3 : (b * b).natAbs < 2 ^ (2 + 2) := wide_lt (show b.natAbs < 2 ^ 2 by omega) (show b.natAbs < 2 ^ 2 by omega)
  simp only [List.mem_cons, List.not_mem_nil, or_false] at hx
  rcases hx with rfl | rfl | rfl <;> omega
theorem plain_log {P : List Int} (hT : ML.Trim P) (hs : ML.Sz 62 P) : P ≠ [] → MG.gcdL P ≠ 0 ∧ (MG.gcdL P).natAbs.log2 < 9000 := fun h0 => by
  have h1 := MP.gcdL_trim_pos hT h0
  have h2 := MP.gcdL_log (by decide) hs hT h0
  exact ⟨by omega, Nat.lt_of_lt_of_le (PySem.Flt.log2_lt_of (by decide) h2) (by decide)⟩
theorem shp_sz {m u e b : Int} (f : Fac m u e b) : ML.Sz 62 (MB.shp u e b) := by
  unfold MB.shp
  split
  · exact MP.Sz.plainL (lin_sz f.su' f.b1 f.b3)
  · exact MP.Sz.plainL (sq_sz f.su' f.se f.b1 f.b3)
/-- the product so far -/
structure Prd (M : List Int) (d n : Nat) : Prop where
  ln : M.length = d + 1
  sz : ML.Sz (n + 80 * d) M
theorem Prd.step {M : List Int} {d n : Nat} (h : Prd M d n) {m u e b : Int} (f : Fac m u e b) (hd : d ≤ 15) : Prd (ML.mulU M (MB.shp u e b)) (d + ((MB.shp u e b).length - 1)) n := by
  have ln := h.ln
  have ls := shp_len f
  have nM : M ≠ [] := fun z => by rw [z] at ln; simp at ln
  refine ⟨by rw [mulU_length nM (shp_ne f)]; omega, (ML.Sz.mulU h.sz (shp_sz f)).mono ?_⟩
  rw [ln]
  rcases ls with e | e <;> rw [e] <;> omega
theorem dgs_take {FS : List (List Int)} {i : Nat} {F : List Int} (h : FS[i]? = some F) : dgs (FS.take (i + 1)) = dgs (FS.take i) + dgF F := by
  unfold dgs
  rw [List.take_add_one, h, List.map_append, List.sum_append]; simp
theorem dgs_le (FS : List (List Int)) (i : Nat) : dgs (FS.take i) ≤ dgs FS := by
  unfold dgs
  conv => rhs; rw [← List.take_append_drop i FS, List.map_append, List.sum_append]
  omega
theorem prodS_take {FS : List (List Int)} {i : Nat} {F : List Int} (M : List Int) (h : FS[i]? = some F) : prodS M (FS.take (i + 1)) = ML.mulU (prodS M (FS.take i)) (shpF F) := by
  unfold prodS
  rw [List.take_add_one, h, List.foldl_append]; rfl
theorem prodS_len {m : Int} : ∀ (FS : List (List Int)) (M : List Int), (∀ F ∈ FS, isF m F) → M ≠ [] → (prodS M FS).length = M.length + dgs FS
  | [], M, _, _ => by show M.length = M.length + 0; omega
  | F :: FS, M, hF, hM => by
    obtain ⟨u, e, b, rfl, f⟩ := hF F (List.mem_cons_self ..)
    have hs := shp_ne f
    have ls := shp_len f
    have h1 := mulU_length hM hs
    have hMs : ML.mulU M (MB.shp u e b) ≠ [] := fun z => by
      rw [z] at h1
      simp at h1
      have := List.length_pos_iff.mpr hM
      omega
    have := prodS_len FS (ML.mulU M (MB.shp u e b)) (fun G hG => hF G (List.mem_cons_of_mem _ hG)) hMs
    show (prodS (ML.mulU M (MB.shp u e b)) FS).length = M.length + dgs ([u, e, b] :: FS)
    have e2 : dgs ([u, e, b] :: FS) = ((MB.shp u e b).length - 1) + dgs FS := rfl
    rw [this, h1, e2]; omega
theorem prodS_prd {m : Int} : ∀ (FS : List (List Int)) (M : List Int) (d n : Nat), (∀ F ∈ FS, isF m F) → d + dgs FS ≤ 15 → Prd M d n → Prd (prodS M FS) (d + dgs FS) n
  | [], M, d, n, _, _, h => h
  | F :: FS, M, d, n, hF, hd, h => by
    obtain ⟨u, e, b, rfl, f⟩ := hF F (List.mem_cons_self ..)
    have e2 : dgs ([u, e, b] :: FS) = ((MB.shp u e b).length - 1) + dgs FS := rfl
    rw [e2] at hd
    have := prodS_prd FS (ML.mulU M (MB.shp u e b)) (d + ((MB.shp u e b).length - 1)) n (fun G hG => hF G (List.mem_cons_of_mem _ hG)) (by omega) (h.step f (by omega))
    rw [e2, show d + ((MB.shp u e b).length - 1 + dgs FS) = d + ((MB.shp u e b).length - 1) + dgs FS by omega]
    exact this
theorem shp_lc {m u e b : Int} (f : Fac m u e b) : 0 < ML.cf (MB.shp u e b) ((MB.shp u e b).length - 1) := by
  have b1 := f.b1
  unfold MB.shp
  split
  · have hT : ML.Trim [0 - u, b] := .inr (show b ≠ 0 by omega)
    exact MP.plainL_last hT (by simp)
  · have hT : ML.Trim [u * u - e, -2 * b * u, b * b] := .inr (show b * b ≠ 0 from Int.mul_ne_zero (by omega) (by omega))
    exact MP.plainL_last hT (by simp)
theorem prodS_lc {m : Int} : ∀ (FS : List (List Int)) (M : List Int), (∀ F ∈ FS, isF m F) → M ≠ [] → ML.cf M (M.length - 1) ≠ 0 → ML.cf (prodS M FS) ((prodS M FS).length - 1) ≠ 0
  | [], M, _, _, h => h
  | F :: FS, M, hF, hM, h => by
    obtain ⟨u, e, b, rfl, f⟩ := hF F (List.mem_cons_self ..)
    have hs := shp_ne f
    have lM := List.length_pos_iff.mpr hM
    have ls := List.length_pos_iff.mpr hs
    have h1 := mulU_length hM hs
    refine prodS_lc FS (ML.mulU M (MB.shp u e b)) (fun G hG => hF G (List.mem_cons_of_mem _ hG)) (fun z => ?_) ?_
    · rw [z] at h1
      simp at h1
      omega
    · rw [h1, ML.cf_mulU, show M.length + (MB.shp u e b).length - 1 - 1 = (M.length - 1) + ((MB.shp u e b).length - 1) by omega, MR.cv_top (fun i hi => ML.cf_beyond (by omega)) (fun i hi => ML.cf_beyond (by omega))]
      have := shp_lc f
      exact Int.mul_ne_zero h (by omega)
theorem len_dgs {m : Int} : ∀ FS : List (List Int), (∀ F ∈ FS, isF m F) → FS.length ≤ dgs FS
  | [], _ => Nat.zero_le _
  | F :: FS, hF => by
    obtain ⟨u, e, b, rfl, f⟩ := hF F (List.mem_cons_self ..)
    have ls := shp_len f
    have ih := len_dgs FS fun G hG => hF G (List.mem_cons_of_mem _ hG)
    have e2 : dgs ([u, e, b] :: FS) = ((MB.shp u e b).length - 1) + dgs FS := rfl
    rw [e2, List.length_cons]; omega
/-! ### spots that differ -/
theorem shp_same {u e b u' e' b' : Int} (hb : 1 ≤ b) (hb' : 1 ≤ b') (h : (e = 0 ∧ e' = 0 ∧ u * b' = u' * b) ∨ (e ≠ 0 ∧ e' ≠ 0 ∧ b * b * (-2 * b' * u') = b' * b' * (-2 * b * u) ∧ b * b * (u' * u' - e') = b' * b' * (u * u - e))) : MB.shp u e b = MB.shp u' e' b' := by
  unfold MB.shp
  rcases h with ⟨rfl, rfl, h⟩ | ⟨h0, h0', h1, h2⟩
  · rw [if_pos rfl, if_pos rfl]
    refine MQ.plain_prop (x := b') (y := b) (.inr (show b ≠ 0 by omega)) (.inr (show b' ≠ 0 by omega)) (by omega) (by omega) fun k => ?_
    match k with
    | 0 => show b' * (0 - u) = b * (0 - u'); grind
    | 1 => show b' * b = b * b'; grind
    | k + 2 => rw [ML.cf_beyond (by simp), ML.cf_beyond (by simp)]; omega
  · rw [if_neg h0, if_neg h0']
    refine MQ.plain_prop (x := b' * b') (y := b * b) (.inr (show b * b ≠ 0 from Int.mul_ne_zero (by omega) (by omega))) (.inr (show b' * b' ≠ 0 from Int.mul_ne_zero (by omega) (by omega))) (Int.mul_ne_zero (by omega) (by omega)) (Int.mul_ne_zero (by omega) (by omega)) fun k => ?_
    match k with
    | 0 => show b' * b' * (u * u - e) = b * b * (u' * u' - e'); exact h2.symm
    | 1 => show b' * b' * (-2 * b * u) = b * b * (-2 * b' * u'); exact h1.symm
    | 2 => show b' * b' * (b * b) = b * b * (b' * b'); grind
    | k + 3 => rw [ML.cf_beyond (by simp), ML.cf_beyond (by simp)]; omega
end RB
namespace RB
open PySem PySem.Spec PyProof.Rows L2
theorem any_rows (Ss : List (List Int)) (ns : List Int) : ((Ss.map dI).any fun z => PyData.eqv z (dI ns)) = decide (ns ∈ Ss) := by
  induction Ss with
  | nil => rfl
  | cons S Ss ih =>
    rw [List.map_cons, List.any_cons, ih, eqv_dI]
    by_cases h : S = ns
    · subst h; simp
    · have : ¬ ns = S := fun z => h z.symm
      simp [h, this]
/-- x not in a list of lists -/
theorem r_notInRow {K : PySem.W.Frag} {H : Hp} {Q : VK} {a b : Addr} {ns : List Int} {qs : List Addr} {Ss : List (List Int)} (h1 : SqL K H a (ns.map V.int)) (h2 : SqL K H b (qs.map V.ref)) (h2' : Rws H qs Ss) (q : Q (.bl (!decide (ns ∈ Ss))) H) : rNotInD K (.ref a) (.ref b) H Q :=
  ⟨_, _, dp_listI h1, dp_listR h2 h2', shaped_dI ns, shaped_dR Ss, by rw [show ((Ss.map dI).any fun z => PyData.eqv z (.list (ns.map PyData.int))) = decide (ns ∈ Ss) from any_rows Ss ns]; exact q⟩
theorem r_inRow {K : PySem.W.Frag} {H : Hp} {Q : VK} {a b : Addr} {ns : List Int} {qs : List Addr} {Ss : List (List Int)} (h1 : SqL K H a (ns.map V.int)) (h2 : SqL K H b (qs.map V.ref)) (h2' : Rws H qs Ss) (q : Q (.bl (decide (ns ∈ Ss))) H) : rInD K (.ref a) (.ref b) H Q :=
  ⟨_, _, dp_listI h1, dp_listR h2 h2', shaped_dI ns, shaped_dR Ss, by rw [show ((Ss.map dI).any fun z => PyData.eqv z (.list (ns.map PyData.int))) = decide (ns ∈ Ss) from any_rows Ss ns]; exact q⟩
end RB
namespace RB
open PySem PySem.Spec PyProof.Rows L2
open Evl (Ex)
theorem Tws.take {H : Hp} : ∀ (n : Nat) {ps : List Addr} {Rs : List (List Int)}, Tws H ps Rs → Tws H (ps.take n) (Rs.take n)
  | 0, _, _, _ => by rw [List.take_zero, List.take_zero]; trivial
  | n + 1, [], [], _ => trivial
  | n + 1, p :: ps, R :: Rs, h => ⟨h.1, Tws.take n h.2⟩
/-- over a list of tuples of ints, each giving a new list -/
theorem lc_twsN {K : PySem.W.Frag} {σ : L2.St} {H : Hp} {te : TE} {Q : VK} {a : Addr} {ps : List Addr} {Rs : List (List Int)} {j : Nat} (f : List Int → List Int) (hx : SqL K H a (ps.map V.ref)) (hW : Tws H ps Rs) (hz : ps.length < 1000000)
    (he : ∀ p R H1, R ∈ Rs → H1 p = some (.tup (R.map V.int)) → Ex H H1 → ∀ Q' : VK, (∀ q H2, H1 q = none → Ex H1 H2 → H2 q = some (.lst ((f R).map V.int)) → Q' (.ref q) H2) → te (σ.set j (some (.ref p))) H1 Q')
    (q : ∀ D H' qs, H D = none → Ex H H' → H' D = some (.lst (qs.map V.ref)) → Rws H' qs (Rs.map f) → D ∉ qs → Q (.ref D) H') : Lc (Itl K a) (gName j) tYes te [j] σ H Q := fun D hD =>
  lc_list (xs := ps.map V.ref) (fun i H' => Ex H H' ∧ ∃ qs : List Addr, H' D = some (.lst (qs.map V.ref)) ∧ Rws H' qs ((Rs.take i).map f) ∧ D ∉ qs ∧ qs.length ≤ i) ⟨Evl.Ex.new hD, [], upd_same, trivial, (fun h => by cases h), Nat.le_refl _⟩ (fun i H' _ p => p.1.l hx)
    (fun i x H' hi p => ⟨by show ((σ.set j none).set j (some x)).set j none = σ.set j none; rw [set_set, set_set], by
      show te ((σ.set j none).set j (some x)) H' _
      rw [set_set]
      rw [List.getElem?_map] at hi
      obtain ⟨p', hp', rfl⟩ := Option.map_eq_some_iff.mp hi
      obtain ⟨e, qs, hq, hR, hn, hl⟩ := p
      obtain ⟨R, hRm, hpR⟩ := hW.get hp'
      have hlt : i < ps.length := (List.getElem?_eq_some_iff.mp hp').1
      refine he p' R H' (List.mem_of_getElem? hRm) (e _ _ hpR) e _ fun r H2 hr e2 hr2 => ⟨_, e2 D _ hq, ?_, Evl.Ex.mut (e.trans e2) hD, qs ++ [r], ?_, ?_, ?_, ?_⟩
      · rw [List.length_map]; exact small_lt (by omega)
      · rw [upd_same, List.map_append]; rfl
      · rw [List.take_add_one, hRm, List.map_append]
        have nD : r ≠ D := fun z => by rw [z, hq] at hr; cases hr
        refine Rws.append ?_ ⟨by rw [upd_ne nD]; exact hr2, trivial⟩
        exact (hR.ex e2).exb (l := D) (fun c n o h => by rw [upd_ne n]; exact h) hn
      · intro h
        rcases List.mem_append.mp h with h | h
        · exact hn h
        · rw [List.mem_singleton] at h
          rw [← h, hq] at hr
          cases hr
      · rw [List.length_append]; simp; omega⟩)
    (fun H' p => by
      obtain ⟨e, qs, hq, hR, hn, hl⟩ := p
      rw [List.length_map, hW.len, List.take_length] at hR
      exact q D H' qs hD e hq hR hn)
/-- those of a list of tuples of ints for which a test holds -/
theorem lc_filt {K : PySem.W.Frag} {σ : L2.St} {H : Hp} {tt : TT} {Q : VK} {a : Addr} {ps : List Addr} {Rs : List (List Int)} {j : Nat} (f : List Int → Bool) (hj : j < σ.length) (hx : SqL K H a (ps.map V.ref)) (hW : Tws H ps Rs) (hz : ps.length < 1000000)
    (he : ∀ p R H1, R ∈ Rs → H1 p = some (.tup (R.map V.int)) → Ex H H1 → ∀ Q' : Bool → Hp → Prop, Q' (f R) H1 → tt (σ.set j (some (.ref p))) H1 Q')
    (q : ∀ D H' qs, H D = none → Ex H H' → H' D = some (.lst (qs.map V.ref)) → Tws H' qs (Rs.filter f) → D ∉ qs → Q (.ref D) H') : Lc (Itl K a) (gName j) tt (tVar j) [j] σ H Q := fun D hD =>
  lc_list (xs := ps.map V.ref) (fun i H' => Ex H H' ∧ ∃ qs : List Addr, H' D = some (.lst (qs.map V.ref)) ∧ Tws H' qs ((Rs.take i).filter f) ∧ D ∉ qs ∧ qs.length ≤ i) ⟨Evl.Ex.new hD, [], upd_same, trivial, (fun h => by cases h), Nat.le_refl _⟩ (fun i H' _ p => p.1.l hx)
    (fun i x H' hi p => ⟨by show ((σ.set j none).set j (some x)).set j none = σ.set j none; rw [set_set, set_set], by
      show tt ((σ.set j none).set j (some x)) H' _
      rw [set_set]
      rw [List.getElem?_map] at hi
      obtain ⟨p', hp', rfl⟩ := Option.map_eq_some_iff.mp hi
      obtain ⟨e, qs, hq, hR, hn, hl⟩ := p
      obtain ⟨R, hRm, hpR⟩ := hW.get hp'
      have hlt : i < ps.length := (List.getElem?_eq_some_iff.mp hp').1
      refine he p' R H' (List.mem_of_getElem? hRm) (e _ _ hpR) e _ ?_
      by_cases hf : f R = true
      · rw [if_pos hf]
        refine ⟨.ref p', (by show ((σ.set j none).set j (some (V.ref p')))[j]? = _; rw [set_set, List.getElem?_set_self hj]), _, hq, ?_, Evl.Ex.mut e hD, qs ++ [p'], ?_, ?_, ?_, ?_⟩
        · rw [List.length_map]; exact small_lt (by omega)
        · rw [upd_same, List.map_append]; rfl
        · have nD : p' ≠ D := fun z => by rw [z, hD] at hpR; cases hpR
          rw [List.take_add_one, hRm, List.filter_append]
          refine Tws.append (hR.exb (l := D) (fun c n o h => by rw [upd_ne n]; exact h) hn) ?_
          rw [show (some R).toList.filter f = [R] by simp [hf]]
          exact ⟨by rw [upd_ne nD]; exact e _ _ hpR, trivial⟩
        · intro h
          rcases List.mem_append.mp h with h | h
          · exact hn h
          · rw [List.mem_singleton] at h
            rw [← h, hD] at hpR
            cases hpR
        · rw [List.length_append]; simp; omega
      · rw [if_neg hf]
        refine ⟨e, qs, hq, ?_, hn, by omega⟩
        rw [List.take_add_one, hRm, List.filter_append, show (some R).toList.filter f = [] by simp [hf], List.append_nil]
        exact hR⟩)
    (fun H' p => by
      obtain ⟨e, qs, hq, hR, hn, hl⟩ := p
      rw [List.length_map, hW.len, List.take_length] at hR
      exact q D H' qs hD e hq hR hn)
/-- an and of which the false ways go on alike -/
theorem and_go {t1 t2 : TT} {σ : L2.St} {H : Hp} {Q : Bool → Hp → Prop} (P : Hp → Prop) (go : ∀ H', P H' → Q false H') (h : (∀ H', P H' → Q false H') → t1 σ H fun c H1 => if c = true then t2 σ H1 Q else Q false H1) : tAnd t1 t2 σ H Q := h go
end RB

set_option linter.all false
/-! Numbers that are no squares. -/
namespace MJ
open ML MR MH MP MB
theorem neg_sq (d : Int) : (0 - d) * (0 - d) = d * d := by grind
theorem sq_mono {x y : Int} (hx : 0 ≤ x) (h : x ≤ y) : x * x ≤ y * y := MB.sq_le hx h
/-- no square between two squares that follow each other -/
theorem irr {k e : Int} (k0 : 0 ≤ k) (h1 : k * k < e) (h2 : e < (k + 1) * (k + 1)) : ∀ (n : Nat) (x y : Int), 0 ≤ y → y.toNat ≤ n → x * x = e * (y * y) → y = 0
  | 0, x, y, y0, hn, _ => by omega
  | n + 1, x, y, y0, hn, h => by
    apply Classical.byContradiction
    intro hy
    have yp : 0 < y := by omega
    obtain ⟨X, X0, hX⟩ : ∃ X : Int, 0 ≤ X ∧ X * X = x * x := by
      by_cases hx : 0 ≤ x
      · exact ⟨x, hx, rfl⟩
      · exact ⟨0 - x, by omega, neg_sq x⟩
    rw [← hX] at h
    have yy : 0 < y * y := Int.mul_pos yp yp
    have lo : k * y < X := by
      apply Classical.byContradiction
      intro hh
      have a1 := sq_mono X0 (show X ≤ k * y by omega)
      have a2 : k * y * (k * y) = k * k * (y * y) := by grind
      have a3 := Int.mul_lt_mul_of_pos_right h1 yy
      omega
    have hi : X < (k + 1) * y := by
      apply Classical.byContradiction
      intro hh
      have kp : 0 ≤ (k + 1) * y := Int.mul_nonneg (by omega) y0
      have a1 := sq_mono kp (show (k + 1) * y ≤ X by omega)
      have a2 : (k + 1) * y * ((k + 1) * y) = (k + 1) * (k + 1) * (y * y) := by grind
      have a3 := Int.mul_lt_mul_of_pos_right h2 yy
      omega
    have e1 : (k + 1) * y = k * y + y := by grind
    have := irr k0 h1 h2 n (e * y - k * X) (X - k * y) (by omega) (by omega) (by
      have : (e * y - k * X) * (e * y - k * X) - e * ((X - k * y) * (X - k * y)) = (e * (y * y) - X * X) * (e - k * k) := by grind
      rw [h, Int.sub_self, Int.zero_mul] at this
      omega)
    omega
theorem irr' {k e x y : Int} (k0 : 0 ≤ k) (h1 : k * k < e) (h2 : e < (k + 1) * (k + 1)) (h : x * x = e * (y * y)) : y = 0 := by
  by_cases hy : 0 ≤ y
  · exact irr k0 h1 h2 y.toNat x y hy (Nat.le_refl _) h
  · have := irr k0 h1 h2 (0 - y).toNat x (0 - y) (by omega) (Nat.le_refl _) (by rw [neg_sq]; exact h)
    omega
theorem res_ne {p r1 r0 p' r1' r0' : Int} (disc : ∀ x y : Int, p * (x * x) + r1 * (x * y) + r0 * (y * y) = 0 → y = 0) (pp : p ≠ 0) (ne : ¬ (p * r1' = p' * r1 ∧ p * r0' = p' * r0)) :
    (p * r0' - p' * r0) * (p * r0' - p' * r0) - (p * r1' - p' * r1) * (r1 * r0' - r1' * r0) ≠ 0 := fun z => by
  by_cases h1 : p * r1' - p' * r1 = 0
  · have h2 : p * r0' - p' * r0 = 0 := by
      rw [h1, Int.zero_mul, Int.sub_zero] at z
      exact (Int.mul_eq_zero.mp z).elim id id
    exact ne ⟨by omega, by omega⟩
  · refine h1 (disc (-(p * r0' - p' * r0)) _ ?_)
    have : p * (-(p * r0' - p' * r0) * -(p * r0' - p' * r0)) + r1 * (-(p * r0' - p' * r0) * (p * r1' - p' * r1)) + r0 * ((p * r1' - p' * r1) * (p * r1' - p' * r1)) = p * ((p * r0' - p' * r0) * (p * r0' - p' * r0) - (p * r1' - p' * r1) * (r1 * r0' - r1' * r0)) := by grind
    rw [this, z, Int.mul_zero]
theorem mul_abs {x y : Int} {A B : Nat} (hx : x.natAbs ≤ A) (hy : y.natAbs ≤ B) : (x * y).natAbs ≤ A * B := by
  rw [Int.natAbs_mul]; exact Nat.mul_le_mul hx hy
end MJ

set_option linter.all false
/-! Spots: the fractions and the roots (u ± sqrt e) / b, told by squares. -/
namespace MJ
open ML MR MH MP MB
def sureV (s d : Int) : Int := if d < 0 ∨ s > d * d then 1 else 0 - (if s < d * d then 1 else 0)
/-- where a spot is, by b * t - u * m and e * m * m: 1 above, 0 there, -1 below -/
def sd (s d E : Int) : Int := if s > 0 then sureV E d else 0 - sureV E (0 - d)
def sideV (u e b s t m : Int) : Int := sd s (b * t - u * m) (e * m * m)
theorem sure_cases (E d : Int) : (sureV E d = 1 ∧ (d < 0 ∨ d * d < E)) ∨ (sureV E d = 0 ∧ 0 ≤ d ∧ E = d * d) ∨ (sureV E d = -1 ∧ 0 ≤ d ∧ E < d * d) := by
  unfold sureV
  by_cases h : d < 0 ∨ E > d * d
  · rw [if_pos h]; exact .inl ⟨rfl, h⟩
  · rw [if_neg h]
    by_cases h2 : E < d * d
    · rw [if_pos h2]; exact .inr (.inr ⟨rfl, by omega, h2⟩)
    · rw [if_neg h2]; exact .inr (.inl ⟨rfl, by omega, by omega⟩)
theorem sd_vals (s d E : Int) : sd s d E = 1 ∨ sd s d E = 0 ∨ sd s d E = -1 := by
  unfold sd
  split
  · rcases sure_cases E d with h | h | h
    · exact .inl h.1
    · exact .inr (.inl h.1)
    · exact .inr (.inr h.1)
  · rcases sure_cases E (0 - d) with h | h | h
    · rw [h.1]; exact .inr (.inr rfl)
    · rw [h.1]; exact .inr (.inl rfl)
    · rw [h.1]; exact .inl rfl
/-- the root is above -/
theorem sd_pos {s d E : Int} (hs : s = 1 ∨ s = -1) : 0 < sd s d E ↔ ((s = 1 ∧ (d < 0 ∨ d * d < E)) ∨ (s = -1 ∧ d ≤ 0 ∧ E < d * d)) := by
  unfold sd
  rcases hs with rfl | rfl
  · rw [if_pos (by decide)]
    rcases sure_cases E d with h | h | h <;> rw [h.1] <;> constructor <;> intro x <;> omega
  · rw [if_neg (by decide)]
    have := sure_cases E (0 - d)
    rw [neg_sq] at this
    rcases this with h | h | h <;> rw [h.1] <;> constructor <;> intro x <;> omega
theorem sd_neg {s d E : Int} (hs : s = 1 ∨ s = -1) : sd s d E < 0 ↔ ((s = 1 ∧ 0 ≤ d ∧ E < d * d) ∨ (s = -1 ∧ (0 < d ∨ d * d < E))) := by
  unfold sd
  rcases hs with rfl | rfl
  · rw [if_pos (by decide)]
    rcases sure_cases E d with h | h | h <;> rw [h.1] <;> constructor <;> intro x <;> omega
  · rw [if_neg (by decide)]
    have := sure_cases E (0 - d)
    rw [neg_sq] at this
    rcases this with h | h | h <;> rw [h.1] <;> constructor <;> intro x <;> omega
theorem sq_anti {x y : Int} (hx : x ≤ 0) (h : y ≤ x) : x * x ≤ y * y := by
  have := MB.sq_le (x := 0 - x) (y := 0 - y) (by omega) (by omega)
  rw [neg_sq, neg_sq] at this
  exact this
theorem sq_mono' {x y : Int} (hx : 0 ≤ x) (h : x < y) : x * x < y * y := MB.sq_lt hx h
theorem sq_anti' {x y : Int} (hx : x ≤ 0) (h : y < x) : x * x < y * y := by
  have := MB.sq_lt (x := 0 - x) (y := 0 - y) (by omega) (by omega)
  rw [neg_sq, neg_sq] at this
  exact this
/-- to the left of a place that is left of the spot -/
theorem sd_left {s d d' E : Int} (hs : s = 1 ∨ s = -1) (h : d ≤ d') (h' : 0 < sd s d' E) : 0 < sd s d E := by
  rw [sd_pos hs] at h' ⊢
  rcases h' with ⟨e, h1⟩ | ⟨e, h1, h2⟩
  · refine .inl ⟨e, ?_⟩
    by_cases hd : d < 0
    · exact .inl hd
    · right
      have := sq_mono (x := d) (y := d') (by omega) h
      omega
  · refine .inr ⟨e, by omega, ?_⟩
    have := sq_anti (x := d') (y := d) h1 h
    omega
/-- right of a place that is not left of the spot -/
theorem sd_right {s d d' E : Int} (hs : s = 1 ∨ s = -1) (h : d < d') (h' : sd s d E ≤ 0) : sd s d' E < 0 := by
  have hn : ¬ 0 < sd s d E := by omega
  rw [sd_pos hs] at hn
  rw [sd_neg hs]
  rcases hs with rfl | rfl
  · left
    have hd : 0 ≤ d := by omega
    have hE : E ≤ d * d := by omega
    have := sq_mono' hd h
    omega
  · right
    refine ⟨rfl, ?_⟩
    by_cases hd : 0 < d'
    · exact .inl hd
    · right
      have hE : d * d ≤ E := by omega
      have := sq_anti' (x := d') (y := d) (by omega) h
      omega
/-- told by greater numbers -/
theorem sd_scale {s d E k : Int} (hs : s = 1 ∨ s = -1) (hk : 0 < k) : sd s (k * d) (k * k * E) = sd s d E := by
  have kk : 0 < k * k := Int.mul_pos hk hk
  have e1 : k * d * (k * d) = k * k * (d * d) := by grind
  have m1 : ∀ x : Int, k * x < 0 ↔ x < 0 := fun x => by
    constructor
    · intro h
      apply Classical.byContradiction
      intro hh
      have := Int.mul_nonneg (Int.le_of_lt hk) (show 0 ≤ x by omega)
      omega
    · intro h
      exact Int.mul_neg_of_pos_of_neg hk h
  have m2 : ∀ x y : Int, k * k * x < k * k * y ↔ x < y := fun x y => ⟨fun h => Int.lt_of_mul_lt_mul_left h (Int.le_of_lt kk), fun h => Int.mul_lt_mul_of_pos_left h kk⟩
  have key : ∀ d : Int, sureV (k * k * E) (k * d) = sureV E d := fun d => by
    have e1 : k * d * (k * d) = k * k * (d * d) := by grind
    unfold sureV
    rw [e1]
    have p1 := m1 d
    have p2 := m2 (d * d) E
    have p3 := m2 E (d * d)
    by_cases h1 : d < 0 ∨ E > d * d
    · rw [if_pos h1, if_pos (h1.imp p1.mpr p2.mpr)]
    · rw [if_neg h1, if_neg (fun z => h1 (z.imp p1.mp p2.mp))]
      by_cases h2 : E < d * d
      · rw [if_pos h2, if_pos (p3.mpr h2)]
      · rw [if_neg h2, if_neg (fun z => h2 (p3.mp z))]
  unfold sd
  rw [key, show 0 - k * d = k * (0 - d) by grind, key]
theorem side_scale {u e b s t m k : Int} (hs : s = 1 ∨ s = -1) (hk : 0 < k) : sideV u e b s (k * t) (k * m) = sideV u e b s t m := by
  unfold sideV
  rw [← sd_scale (d := b * t - u * m) (E := e * m * m) hs hk]
  congr 1 <;> grind
theorem side_left {u e b s t m t' m' : Int} (hs : s = 1 ∨ s = -1) (hb : 0 < b) (hm : 0 < m) (hm' : 0 < m') (h : t * m' ≤ t' * m) (h' : 0 < sideV u e b s t' m') : 0 < sideV u e b s t m := by
  rw [← side_scale (k := m') hs hm']
  rw [← side_scale (k := m) hs hm] at h'
  unfold sideV at h' ⊢
  rw [show m * m' = m' * m from Int.mul_comm ..] at h'
  refine sd_left hs ?_ h'
  have : b * (m' * t) ≤ b * (m * t') := Int.mul_le_mul_of_nonneg_left (by rw [Int.mul_comm m', Int.mul_comm m]; exact h) (by omega)
  omega
theorem side_right {u e b s t m t' m' : Int} (hs : s = 1 ∨ s = -1) (hb : 0 < b) (hm : 0 < m) (hm' : 0 < m') (h : t * m' < t' * m) (h' : sideV u e b s t m ≤ 0) : sideV u e b s t' m' < 0 := by
  rw [← side_scale (k := m') hs hm'] at h'
  rw [← side_scale (k := m) hs hm]
  unfold sideV at h' ⊢
  rw [show m * m' = m' * m from Int.mul_comm ..]
  refine sd_right hs ?_ h'
  have : b * (m' * t) < b * (m * t') := Int.mul_lt_mul_of_pos_left (by rw [Int.mul_comm m', Int.mul_comm m]; exact h) hb
  omega
theorem side_vals (u e b s t m : Int) : sideV u e b s t m = 1 ∨ sideV u e b s t m = 0 ∨ sideV u e b s t m = -1 := sd_vals ..
/-! ## the signs of the polynomials -/
def sg (x : Int) : Int := if x < 0 then -1 else if x = 0 then 0 else 1
theorem sg_mul (x y : Int) : sg (x * y) = sg x * sg y := by
  have c : ∀ z : Int, (z < 0 ∧ sg z = -1) ∨ (z = 0 ∧ sg z = 0) ∨ (0 < z ∧ sg z = 1) := fun z => by
    unfold sg
    by_cases h : z < 0
    · rw [if_pos h]; exact .inl ⟨h, rfl⟩
    · rw [if_neg h]
      by_cases h2 : z = 0
      · rw [if_pos h2]; exact .inr (.inl ⟨h2, rfl⟩)
      · rw [if_neg h2]; exact .inr (.inr ⟨by omega, rfl⟩)
  rcases c x with ⟨hx, ex⟩ | ⟨hx, ex⟩ | ⟨hx, ex⟩ <;> rcases c y with ⟨hy, ey⟩ | ⟨hy, ey⟩ | ⟨hy, ey⟩ <;> rw [ex, ey] <;> rcases c (x * y) with ⟨h, e⟩ | ⟨h, e⟩ | ⟨h, e⟩ <;> rw [e] <;> first | rfl | (exfalso; first | (have := Int.mul_pos hx hy; omega) | (have := Int.mul_pos_of_neg_of_neg hx hy; omega) | (have := Int.mul_neg_of_neg_of_pos hx hy; omega) | (have := Int.mul_neg_of_pos_of_neg hx hy; omega) | (rw [hx, Int.zero_mul] at h; omega) | (rw [hy, Int.mul_zero] at h; omega))
theorem sg_pos {x : Int} (h : 0 < x) : sg x = 1 := by unfold sg; rw [if_neg (by omega), if_neg (by omega)]
theorem sg_neg {x : Int} (h : x < 0) : sg x = -1 := by unfold sg; rw [if_pos h]
theorem sg_zero : sg 0 = 0 := rfl
/-- the spots of a factor -/
def rts : Int → Int → Int → List (List Int) := fun u e b => (if e ≥ 0 then [[u, e, b, 1]] else []) ++ (if e > 0 then [[u, e, b, -1]] else [])
def sideR (R : List Int) (t m : Int) : Int := match R with
  | [u, e, b, s] => sideV u e b s t m
  | _ => 0
/-- the product of the opposite sides -/
def pS (RS : List (List Int)) (t m : Int) : Int := RS.foldl (fun x R => x * (0 - sideR R t m)) 1
theorem pS_fold (RS : List (List Int)) (t m x : Int) : RS.foldl (fun x R => x * (0 - sideR R t m)) x = x * pS RS t m := by
  unfold pS
  induction RS generalizing x with
  | nil => simp
  | cons R RS ih =>
    rw [List.foldl_cons, List.foldl_cons, ih, ih (1 * (0 - sideR R t m)), Int.one_mul, Int.mul_assoc]
theorem pS_append (A B : List (List Int)) (t m : Int) : pS (A ++ B) t m = pS A t m * pS B t m := by
  unfold pS
  rw [List.foldl_append, pS_fold]; rfl
theorem pS_one (R : List Int) (t m : Int) : pS [R] t m = 0 - sideR R t m := by
  show 1 * (0 - sideR R t m) = _
  omega
theorem pS_nil (t m : Int) : pS [] t m = 1 := rfl
/-- the value's sign -/
theorem val_sign {u e b t m : Int} (hb : 0 < b) (hm : 0 < m) : sg (if e = 0 then b * t - u * m else (b * t - u * m) * (b * t - u * m) - e * (m * m)) = pS (rts u e b) t m := by
  have mm : 0 < m * m := Int.mul_pos hm hm
  generalize hd : b * t - u * m = d
  have em : e * m * m = e * (m * m) := Int.mul_assoc ..
  have s1 : sideR [u, e, b, 1] t m = sd 1 d (e * (m * m)) := by show sideV _ _ _ _ _ _ = _; unfold sideV; rw [hd, em]
  have s2 : sideR [u, e, b, -1] t m = sd (-1) d (e * (m * m)) := by show sideV _ _ _ _ _ _ = _; unfold sideV; rw [hd, em]
  have hd0 : 0 ≤ d * d := by
    by_cases h : 0 ≤ d
    · exact Int.mul_nonneg h h
    · have := Int.mul_pos_of_neg_of_neg (show d < 0 by omega) (show d < 0 by omega); omega
  unfold rts
  by_cases e0 : e = 0
  · subst e0
    rw [if_pos rfl, if_pos (by decide), if_neg (by decide), List.append_nil, pS_one, s1, Int.zero_mul]
    unfold sd
    rw [if_pos (by decide)]
    rcases sure_cases 0 d with ⟨h, h2⟩ | ⟨h, h2, h3⟩ | ⟨h, h2, h3⟩
    · rw [h]
      have : d < 0 := by omega
      rw [sg_neg this]; rfl
    · rw [h]
      have : d = 0 := by
        have := Int.mul_eq_zero.mp h3.symm
        omega
      rw [this]; rfl
    · rw [h]
      have : d ≠ 0 := fun z => by rw [z] at h3; omega
      rw [sg_pos (by omega)]; rfl
  · rw [if_neg e0]
    by_cases ep : 0 < e
    · rw [if_pos (by omega), if_pos ep, pS_append, pS_one, pS_one, s1, s2]
      have Ep : 0 < e * (m * m) := Int.mul_pos ep mm
      generalize e * (m * m) = E at *
      unfold sd
      rw [if_pos (by decide), if_neg (by decide)]
      have c1 := sure_cases E d
      have c2 := sure_cases E (0 - d)
      rw [neg_sq] at c2
      by_cases h1 : d * d < E
      · rw [sg_neg (by omega)]
        rcases c1 with ⟨h, _⟩ | ⟨h, x, y⟩ | ⟨h, x, y⟩
        · rcases c2 with ⟨h', _⟩ | ⟨h', x, y⟩ | ⟨h', x, y⟩
          · rw [h, h']; rfl
          · omega
          · omega
        · omega
        · omega
      · by_cases h2 : d * d = E
        · rw [h2, Int.sub_self, sg_zero]
          by_cases hdp : 0 ≤ d
          · rcases c1 with ⟨h, x⟩ | ⟨h, x, y⟩ | ⟨h, x, y⟩
            · omega
            · rw [h]; grind
            · omega
          · rcases c2 with ⟨h, x⟩ | ⟨h, x, y⟩ | ⟨h, x, y⟩
            · omega
            · rw [h]; grind
            · omega
        · rw [sg_pos (by omega)]
          by_cases hdp : 0 ≤ d
          · have dz : d ≠ 0 := fun z => by rw [z] at h1; omega
            rcases c1 with ⟨h, x⟩ | ⟨h, x, y⟩ | ⟨h, x, y⟩
            · omega
            · omega
            · rcases c2 with ⟨h', _⟩ | ⟨h', x, y⟩ | ⟨h', x, y⟩
              · rw [h, h']; rfl
              · omega
              · omega
          · rcases c1 with ⟨h, x⟩ | ⟨h, x, y⟩ | ⟨h, x, y⟩
            · rcases c2 with ⟨h', x⟩ | ⟨h', x, y⟩ | ⟨h', x, y⟩
              · omega
              · omega
              · rw [h, h']; rfl
            · omega
            · omega
    · rw [if_neg (by omega), if_neg (by omega), List.append_nil, pS_nil]
      have : e * (m * m) < 0 := Int.mul_neg_of_neg_of_pos (by omega) mm
      rw [sg_pos (by omega)]
/-- a polynomial of the law, by its row of three -/
def shpF : List Int → List Int
  | [u, e, b] => shp u e b
  | _ => []
def rtsF : List Int → List (List Int)
  | [u, e, b] => rts u e b
  | _ => []
theorem plain_fac_pos {A : List Int} (t : Trim A) (n : A ≠ []) (hl : 0 < cf A (A.length - 1)) : ∃ a : Int, 0 < a ∧ ∀ k, cf A k = a * cf (plainL A) k := by
  obtain ⟨a, ha, e⟩ := MQ.plain_mul A
  refine ⟨a, ?_, e⟩
  have h1 := e (A.length - 1)
  have h2 := plainL_last t n
  rw [plainL_len] at h2
  have a0 := ha n t
  apply Classical.byContradiction
  intro hh
  have := Int.mul_neg_of_neg_of_pos (show a < 0 by omega) h2
  omega
theorem shp_sign {u e b t m : Int} (hb : 0 < b) (hm : 0 < m) : sg (topL (shp u e b) t m) = pS (rts u e b) t m := by
  rw [← val_sign hb hm]
  by_cases e0 : e = 0
  · rw [if_pos e0]
    obtain ⟨a, a0, ea⟩ := plain_fac_pos (A := [0 - u, b]) (.inr (by show b ≠ 0; omega)) (by simp) hb
    have h1 : a * topL (shp u e b) t m = b * t - u * m := by
      unfold shp
      rw [if_pos e0, ← top_scale (plainL_len _).symm ea]
      show (0 * t + b * 1) * t + (0 - u) * (1 * m) = _
      grind
    rw [← h1, sg_mul, sg_pos a0, Int.one_mul]
  · rw [if_neg e0]
    obtain ⟨a, a0, ea⟩ := plain_fac_pos (A := [u * u - e, -2 * b * u, b * b]) (.inr (by show b * b ≠ 0; exact Int.mul_ne_zero (by omega) (by omega))) (by simp) (Int.mul_pos hb hb)
    have h1 : a * topL (shp u e b) t m = (b * t - u * m) * (b * t - u * m) - e * (m * m) := by
      unfold shp
      rw [if_neg e0, ← top_scale (plainL_len _).symm ea]
      show ((0 * t + b * b * 1) * t + -2 * b * u * (1 * m)) * t + (u * u - e) * (1 * m * m) = _
      grind
    rw [← h1, sg_mul, sg_pos a0, Int.one_mul]
end MJ

set_option linter.all false
/-! Spots apart: two of them do not come near each other. -/
namespace MJ
open ML MR MH MP MB
/-- a spot of the law, and a span of halves -/
structure Spt (u e b s : Int) : Prop where
  hs : s = 1 ∨ s = -1
  b1 : 1 ≤ b
  b3 : b ≤ 3
  su : u.natAbs ≤ 11
  sq : (e = 0 ∧ s = 1) ∨ ∃ k, 0 ≤ k ∧ k * k < e ∧ e < (k + 1) * (k + 1) ∧ e ≤ 36
structure Spn2 (l h q : Int) : Prop where
  q0 : 0 < q
  lh : l < h
  sl : l.natAbs ≤ 64 * q.natAbs
  sh : h.natAbs ≤ 64 * q.natAbs
def Amid (u e b s l h q : Int) : Prop := 0 < sideV u e b s l q ∧ sideV u e b s h q ≤ 0
theorem dist_abs {u b t q : Int} (b1 : 1 ≤ b) (b3 : b ≤ 3) (su : u.natAbs ≤ 11) (st : t.natAbs ≤ 64 * q.natAbs) : (b * t - u * q).natAbs ≤ 203 * q.natAbs := by
  have h1 := mul_abs (show b.natAbs ≤ 3 by omega) st
  have h2 := mul_abs su (Nat.le_refl q.natAbs)
  omega
/-- near the high end the value is small -/
theorem near {s dl dh E de : Int} {D : Nat} (hs : s = 1 ∨ s = -1) (E0 : 0 ≤ E) (hd : dh = dl + de) (d0 : 0 < de) (bl : dl.natAbs ≤ D) (bh : dh.natAbs ≤ D) (h1 : 0 < sd s dl E) (h2 : sd s dh E ≤ 0) : (dh * dh - E).natAbs ≤ 2 * D * de.natAbs := by
  have hn : ¬ 0 < sd s dh E := by omega
  rw [sd_pos hs] at h1 hn
  have k1 : dh * dh - dl * dl = de * (dh + dl) := by rw [hd]; grind
  have k2 : (de * (dh + dl)).natAbs ≤ de.natAbs * (D + D) := mul_abs (Nat.le_refl _) (by omega)
  have k3 : de.natAbs * (D + D) = 2 * D * de.natAbs := by rw [Nat.mul_comm]; congr 1; omega
  have sqn : ∀ x : Int, 0 ≤ x * x := fun x => by
    by_cases h : 0 ≤ x
    · exact Int.mul_nonneg h h
    · have := Int.mul_pos_of_neg_of_neg (show x < 0 by omega) (show x < 0 by omega); omega
  have sm1 : ∀ x : Int, x.natAbs ≤ D → x.natAbs ≤ de.natAbs → (x * x).natAbs ≤ D * de.natAbs := fun x a b => mul_abs a b
  have k4 : D * de.natAbs ≤ 2 * D * de.natAbs := Nat.mul_le_mul_right _ (by omega)
  have q1 := sqn dl
  have q2 := sqn dh
  rcases hs with rfl | rfl
  · by_cases hl : 0 ≤ dl
    · omega
    · have := sm1 dh bh (by omega)
      omega
  · by_cases hh : dh ≤ 0
    · omega
    · have a1 := sm1 dh bh (by omega)
      have a2 := sm1 dl bl (by omega)
      omega
theorem near_lin {dl dh de : Int} (hd : dh = dl + de) (h1 : 0 < sd 1 dl 0) (h2 : sd 1 dh 0 ≤ 0) : dl < 0 ∧ 0 ≤ dh := by
  have hn : ¬ 0 < sd 1 dh 0 := by omega
  rw [sd_pos (.inl rfl)] at h1 hn
  have sqn : ∀ x : Int, 0 ≤ x * x := fun x => by
    by_cases h : 0 ≤ x
    · exact Int.mul_nonneg h h
    · have := Int.mul_pos_of_neg_of_neg (show x < 0 by omega) (show x < 0 by omega); omega
  have := sqn dl
  omega
theorem amid_val {u e b s l h q : Int} (S : Spt u e b s) (P : Spn2 l h q) (he : 0 < e) (A : Amid u e b s l h q) : ((b * h - u * q) * (b * h - u * q) - e * q * q).natAbs ≤ 1218 * (q.natAbs * (h - l).natAbs) := by
  obtain ⟨a1, a2⟩ := A
  have b1 := S.b1
  have b3 := S.b3
  have lh := P.lh
  have q0 := P.q0
  have E0 : 0 ≤ e * q * q := Int.mul_nonneg (Int.mul_nonneg (by omega) (by omega)) (by omega)
  have dp : 0 < b * (h - l) := Int.mul_pos (by omega) (by omega)
  have hd : b * h - u * q = b * l - u * q + b * (h - l) := by grind
  have k := near (D := 203 * q.natAbs) S.hs E0 hd dp (dist_abs b1 b3 S.su P.sl) (dist_abs b1 b3 S.su P.sh) a1 a2
  refine Nat.le_trans k ?_
  have : (b * (h - l)).natAbs ≤ 3 * (h - l).natAbs := mul_abs (by omega) (Nat.le_refl _)
  calc 2 * (203 * q.natAbs) * (b * (h - l)).natAbs ≤ 2 * (203 * q.natAbs) * (3 * (h - l).natAbs) := Nat.mul_le_mul_left _ this
    _ = 1218 * (q.natAbs * (h - l).natAbs) := by grind
theorem amid_lin {u b l h q : Int} (b1 : 1 ≤ b) (b3 : b ≤ 3) (P : Spn2 l h q) (A : Amid u 0 b 1 l h q) : (b * h - u * q).natAbs ≤ 3 * (h - l).natAbs := by
  obtain ⟨a1, a2⟩ := A
  unfold sideV at a1 a2
  rw [Int.zero_mul, Int.zero_mul] at a1 a2
  have lh := P.lh
  have hd : b * h - u * q = b * l - u * q + b * (h - l) := by grind
  have k := near_lin hd a1 a2
  have : (b * (h - l)).natAbs ≤ 3 * (h - l).natAbs := mul_abs (by omega) (Nat.le_refl _)
  omega
theorem sep_ll {u b u' b' l h q : Int} (b1 : 1 ≤ b) (b3 : b ≤ 3) (b1' : 1 ≤ b') (b3' : b' ≤ 3) (P : Spn2 l h q) (A : Amid u 0 b 1 l h q) (A' : Amid u' 0 b' 1 l h q) (ne : u * b' ≠ u' * b) : q.natAbs ≤ 18 * (h - l).natAbs := by
  have k1 := amid_lin b1 b3 P A
  have k2 := amid_lin b1' b3' P A'
  have e : b' * (b * h - u * q) - b * (b' * h - u' * q) = q * (u' * b - u * b') := by grind
  have m1 := mul_abs (show b'.natAbs ≤ 3 by omega) k1
  have m2 := mul_abs (show b.natAbs ≤ 3 by omega) k2
  have m3 : q.natAbs * 1 ≤ (q * (u' * b - u * b')).natAbs := by
    rw [Int.natAbs_mul]; exact Nat.mul_le_mul_left _ (by omega)
  rw [← e] at m3
  omega
theorem cancel_q {Q W c : Nat} (hQ : 0 < Q) (h : Q * Q ≤ c * (Q * W)) : Q ≤ c * W := by
  have : Q * Q ≤ Q * (c * W) := by rw [Nat.mul_left_comm]; exact h
  exact Nat.le_of_mul_le_mul_left this hQ
theorem sep_lq {u b u' e' b' s' l h q : Int} (b1 : 1 ≤ b) (b3 : b ≤ 3) (su : u.natAbs ≤ 11) (S' : Spt u' e' b' s') (he : 0 < e') (P : Spn2 l h q) (A : Amid u 0 b 1 l h q) (A' : Amid u' e' b' s' l h q) : q.natAbs ≤ 25000 * (h - l).natAbs := by
  have k1 := amid_lin b1 b3 P A
  have k2 := amid_val S' P he A'
  have b1' := S'.b1
  have b3' := S'.b3
  have su' := S'.su
  have q0 := P.q0
  obtain ⟨kk, kk0, kk1, kk2, _⟩ : ∃ k, 0 ≤ k ∧ k * k < e' ∧ e' < (k + 1) * (k + 1) ∧ e' ≤ 36 := by
    rcases S'.sq with h | h
    · omega
    · exact h
  have kd := dist_abs b1 b3 su P.sh
  have N0 : (b' * u - b * u') * (b' * u - b * u') - b * b * e' ≠ 0 := fun z => by
    have := irr' kk0 kk1 kk2 (x := b' * u - b * u') (y := b) (by rw [Int.mul_comm e']; omega)
    omega
  generalize hdh : b * h - u * q = dh at *
  generalize hV : (b' * h - u' * q) * (b' * h - u' * q) - e' * q * q = V at *
  have e1 : b * b * V - b' * dh * (b' * dh + 2 * q * (b' * u - b * u')) = q * q * ((b' * u - b * u') * (b' * u - b * u') - b * b * e') := by
    rw [← hV, ← hdh]; grind
  generalize (b' * u - b * u') * (b' * u - b * u') - b * b * e' = N at *
  have m0 : (b' * u - b * u').natAbs ≤ 66 := by
    have x1 := mul_abs (show b'.natAbs ≤ 3 by omega) su
    have x2 := mul_abs (show b.natAbs ≤ 3 by omega) su'
    omega
  generalize b' * u - b * u' = k at *
  have m1 : (b * b * V).natAbs ≤ 9 * (1218 * (q.natAbs * (h - l).natAbs)) := mul_abs (Nat.le_trans (mul_abs (show b.natAbs ≤ 3 by omega) (show b.natAbs ≤ 3 by omega)) (by decide)) k2
  have m2 : (b' * dh).natAbs ≤ 3 * (3 * (h - l).natAbs) := mul_abs (by omega) k1
  have m3 : (b' * dh).natAbs ≤ 3 * (203 * q.natAbs) := mul_abs (by omega) kd
  have m4 : (2 * q * k).natAbs ≤ 2 * q.natAbs * 66 := mul_abs (mul_abs (Nat.le_refl _) (Nat.le_refl _)) m0
  have m5 : (b' * dh * (b' * dh + 2 * q * k)).natAbs ≤ 3 * (3 * (h - l).natAbs) * (741 * q.natAbs) := mul_abs m2 (by omega)
  have m6 : q.natAbs * q.natAbs * 1 ≤ (q * q * N).natAbs := by
    rw [Int.natAbs_mul, Int.natAbs_mul]; exact Nat.mul_le_mul_left _ (by omega)
  rw [← e1] at m6
  have m7 : 3 * (3 * (h - l).natAbs) * (741 * q.natAbs) = 6669 * (q.natAbs * (h - l).natAbs) := by grind
  rw [m7] at m5
  refine cancel_q (by omega) ?_
  omega
theorem coef_le {x y z D1 D2 h q : Int} (hx : x.natAbs ≤ 9) (d1 : D1.natAbs ≤ 1188) (sh : h.natAbs ≤ 64 * q.natAbs) (d2 : D2.natAbs ≤ 2826) (hy : y.natAbs ≤ 9) (hz : z.natAbs ≤ 66) : (x * D1 * h + (D2 * y - D1 * z) * q).natAbs ≤ 788130 * q.natAbs := by
  have x1 : (x * D1 * h).natAbs ≤ 9 * 1188 * (64 * q.natAbs) := mul_abs (mul_abs hx d1) sh
  have x2 : (D2 * y).natAbs ≤ 2826 * 9 := mul_abs d2 hy
  have x3 : (D1 * z).natAbs ≤ 1188 * 66 := mul_abs d1 hz
  generalize D2 * y = a at *
  generalize D1 * z = b at *
  have x4 : ((a - b) * q).natAbs ≤ 103842 * q.natAbs := mul_abs (by omega) (Nat.le_refl _)
  generalize (a - b) * q = c at *
  generalize x * D1 * h = d at *
  omega
theorem sep_fin (Q W X Y Z : Nat) (hQ : 0 < Q) (hX : X ≤ 788130 * Q * (1218 * (Q * W))) (hY : Y ≤ 788130 * Q * (1218 * (Q * W))) (hZ : Z ≤ X + Y) (h3 : Q * Q * Q ≤ Z) : Q ≤ 4294967296 * W := by
  have z1 : 788130 * Q * (1218 * (Q * W)) = 959942340 * (Q * Q * W) := by
    have : 788130 * Q * (1218 * (Q * W)) = 788130 * 1218 * (Q * Q * W) := by grind
    exact this
  rw [z1] at hX hY
  have h4 : Q * Q * Q ≤ Q * Q * (1919884680 * W) := by
    have : Q * Q * (1919884680 * W) = 1919884680 * (Q * Q * W) := by rw [Nat.mul_left_comm]
    rw [this]
    omega
  have h5 := Nat.le_of_mul_le_mul_left h4 (Nat.mul_pos hQ hQ)
  omega
theorem sep_alg {p r1 r0 p' r1' r0' D1 D2 D3 h q : Int} (hD1 : p * r1' - p' * r1 = D1) (hD2 : p * r0' - p' * r0 = D2) (hD3 : r1 * r0' - r1' * r0 = D3) :
    (-p' * D1 * h + (D2 * p' - D1 * r1') * q) * (p * (h * h) + r1 * (h * q) + r0 * (q * q)) + (p * D1 * h + (D1 * r1 - D2 * p) * q) * (p' * (h * h) + r1' * (h * q) + r0' * (q * q)) = -((D2 * D2 - D1 * D3) * (q * q * q)) := by
  subst hD1; subst hD2; subst hD3
  grind
theorem sep_core {p r1 r0 p' r1' r0' h q : Int} {W : Nat} (hq : 0 < q) (sh : h.natAbs ≤ 64 * q.natAbs) (bp : p.natAbs ≤ 9) (bp' : p'.natAbs ≤ 9) (br : r1.natAbs ≤ 66) (br' : r1'.natAbs ≤ 66) (bz : r0.natAbs ≤ 157) (bz' : r0'.natAbs ≤ 157)
    (k1 : (p * (h * h) + r1 * (h * q) + r0 * (q * q)).natAbs ≤ 1218 * (q.natAbs * W)) (k2 : (p' * (h * h) + r1' * (h * q) + r0' * (q * q)).natAbs ≤ 1218 * (q.natAbs * W))
    (disc : ∀ x y : Int, p * (x * x) + r1 * (x * y) + r0 * (y * y) = 0 → y = 0) (pp : p ≠ 0) (ne : ¬ (p * r1' = p' * r1 ∧ p * r0' = p' * r0)) : q.natAbs ≤ 4294967296 * W := by
  have res := res_ne disc pp ne
  have d1 : (p * r1' - p' * r1).natAbs ≤ 1188 := by
    have x1 := mul_abs bp br'
    have x2 := mul_abs bp' br
    omega
  have d2 : (p * r0' - p' * r0).natAbs ≤ 2826 := by
    have x1 := mul_abs bp bz'
    have x2 := mul_abs bp' bz
    omega
  obtain ⟨D1, hD1⟩ : ∃ D, p * r1' - p' * r1 = D := ⟨_, rfl⟩
  obtain ⟨D2, hD2⟩ : ∃ D, p * r0' - p' * r0 = D := ⟨_, rfl⟩
  obtain ⟨D3, hD3⟩ : ∃ D, r1 * r0' - r1' * r0 = D := ⟨_, rfl⟩
  have key := sep_alg (h := h) (q := q) hD1 hD2 hD3
  rw [hD1, hD2, hD3] at res
  rw [hD1] at d1
  rw [hD2] at d2
  clear hD1 hD2 hD3 disc ne pp
  have c1 : (-p' * D1 * h + (D2 * p' - D1 * r1') * q).natAbs ≤ 788130 * q.natAbs := coef_le (by rw [Int.natAbs_neg]; exact bp') d1 sh d2 bp' br'
  have c2 : (p * D1 * h + (D1 * r1 - D2 * p) * q).natAbs ≤ 788130 * q.natAbs := by
    have := coef_le (x := p) (y := -p) (z := -r1) bp d1 sh d2 (by rw [Int.natAbs_neg]; exact bp) (by rw [Int.natAbs_neg]; exact br)
    rw [show D2 * -p - D1 * -r1 = D1 * r1 - D2 * p by rw [Int.mul_neg, Int.mul_neg]; omega] at this
    exact this
  have y1 := mul_abs c1 k1
  have y2 := mul_abs c2 k2
  have y3 : q.natAbs * q.natAbs * q.natAbs ≤ (-((D2 * D2 - D1 * D3) * (q * q * q))).natAbs := by
    rw [Int.natAbs_neg, Int.natAbs_mul, Int.natAbs_mul, Int.natAbs_mul]
    have : 1 * (q.natAbs * q.natAbs * q.natAbs) ≤ (D2 * D2 - D1 * D3).natAbs * (q.natAbs * q.natAbs * q.natAbs) := Nat.mul_le_mul_right _ (Int.natAbs_pos.mpr res)
    rw [Nat.one_mul] at this
    exact this
  rw [← key] at y3
  exact sep_fin q.natAbs W _ _ _ (Int.natAbs_pos.mpr (by omega)) y1 y2 (Int.natAbs_add_le _ _) y3
theorem sep_qq {u e b s u' e' b' s' l h q : Int} (S : Spt u e b s) (S' : Spt u' e' b' s') (he : 0 < e) (he' : 0 < e') (P : Spn2 l h q) (A : Amid u e b s l h q) (A' : Amid u' e' b' s' l h q) (ne : ¬ (b * b * (-2 * b' * u') = b' * b' * (-2 * b * u) ∧ b * b * (u' * u' - e') = b' * b' * (u * u - e))) : q.natAbs ≤ 4294967296 * (h - l).natAbs := by
  have k1 := amid_val S P he A
  have k2 := amid_val S' P he' A'
  have b1 := S.b1
  have b3 := S.b3
  have su := S.su
  have b1' := S'.b1
  have b3' := S'.b3
  have su' := S'.su
  obtain ⟨kk, kk0, kk1, kk2, e36⟩ : ∃ k, 0 ≤ k ∧ k * k < e ∧ e < (k + 1) * (k + 1) ∧ e ≤ 36 := by
    rcases S.sq with h | h
    · omega
    · exact h
  obtain ⟨_, _, _, _, e36'⟩ : ∃ k, 0 ≤ k ∧ k * k < e' ∧ e' < (k + 1) * (k + 1) ∧ e' ≤ 36 := by
    rcases S'.sq with h | h
    · omega
    · exact h
  have uu : (u * u).natAbs ≤ 121 := mul_abs su su
  have uu' : (u' * u').natAbs ≤ 121 := mul_abs su' su'
  have hV : (b * h - u * q) * (b * h - u * q) - e * q * q = b * b * (h * h) + -2 * b * u * (h * q) + (u * u - e) * (q * q) := by grind
  have hV' : (b' * h - u' * q) * (b' * h - u' * q) - e' * q * q = b' * b' * (h * h) + -2 * b' * u' * (h * q) + (u' * u' - e') * (q * q) := by grind
  rw [hV] at k1
  rw [hV'] at k2
  have disc : ∀ x y : Int, b * b * (x * x) + -2 * b * u * (x * y) + (u * u - e) * (y * y) = 0 → y = 0 := fun x y hz => by
    refine irr' kk0 kk1 kk2 (x := b * x - u * y) (y := y) ?_
    have : (b * x - u * y) * (b * x - u * y) - e * (y * y) = b * b * (x * x) + -2 * b * u * (x * y) + (u * u - e) * (y * y) := by grind
    omega
  exact sep_core P.q0 P.sh (mul_abs (show b.natAbs ≤ 3 by omega) (show b.natAbs ≤ 3 by omega)) (mul_abs (show b'.natAbs ≤ 3 by omega) (show b'.natAbs ≤ 3 by omega))
    (mul_abs (A := 6) (B := 11) (by omega) su) (mul_abs (A := 6) (B := 11) (by omega) su') (by omega) (by omega) k1 k2 disc (Int.mul_ne_zero (by omega) (by omega)) ne
theorem sep_same {u e b l h q : Int} (b1 : 1 ≤ b) (b3 : b ≤ 3) (he : 0 < e) (P : Spn2 l h q) (A : Amid u e b 1 l h q) (A' : Amid u e b (-1) l h q) : q.natAbs ≤ 3 * (h - l).natAbs := by
  have q0 := P.q0
  have lh := P.lh
  have a1 : ¬ 0 < sd 1 (b * h - u * q) (e * q * q) := by have := A.2; unfold sideV at this; omega
  have a2 : 0 < sd (-1) (b * l - u * q) (e * q * q) := A'.1
  rw [sd_pos (.inl rfl)] at a1
  rw [sd_pos (.inr rfl)] at a2
  have hd : b * h - u * q = b * l - u * q + b * (h - l) := by grind
  have E1 : q * q ≤ e * q * q := by
    rw [Int.mul_assoc]
    have := Int.mul_le_mul_of_nonneg_right (show 1 ≤ e by omega) (Int.le_of_lt (Int.mul_pos q0 q0))
    omega
  have g : q ≤ b * h - u * q := by
    apply Classical.byContradiction
    intro hh
    have := sq_mono' (x := b * h - u * q) (y := q) (by omega) (by omega)
    omega
  have : (b * (h - l)).natAbs ≤ 3 * (h - l).natAbs := mul_abs (by omega) (Nat.le_refl _)
  omega
end MJ

set_option linter.all false
set_option maxRecDepth 100000
set_option maxHeartbeats 1000000
/-! Sturm's count, told with fractions alone. -/
namespace ST
open ML
/-! ### changes of sign along two rows of signs -/
def stp (s : Int × Int) (x : Int) : Int × Int := if x ≠ 0 then (if s.2 = 0 - x then s.1 + 1 else s.1, x) else s
theorem stp_shift (n m l : Int) (xs : List Int) : (xs.foldl stp (n + m, l)) = ((xs.foldl stp (n, l)).1 + m, (xs.foldl stp (n, l)).2) := by
  induction xs generalizing n l with
  | nil => rfl
  | cons x xs ih =>
    rw [List.foldl_cons, List.foldl_cons]
    unfold stp
    by_cases hx : x ≠ 0
    · rw [if_pos hx, if_pos hx]
      by_cases h : l = 0 - x
      · rw [if_pos h, if_pos h]
        show List.foldl stp (n + m + 1, x) xs = _
        rw [show n + m + 1 = (n + 1) + m by omega, ih]; rfl
      · rw [if_neg h, if_neg h]
        exact ih n x
    · rw [if_neg hx, if_neg hx]; exact ih n l
def St (p : Int × Int) : Prop := p.1 = p.2 ∧ (p.1 = 1 ∨ p.1 = -1)
def Sg (x : Int) : Prop := x = 1 ∨ x = 0 ∨ x = -1
/-- rows of signs at two places that lie near: the first sign is the same at both -/
inductive Chn : List (Int × Int) → Prop where
  | one {p} : St p → Chn [p]
  | st {p q r} : St p → Chn (q :: r) → Chn (p :: q :: r)
  | sk {p h k r} : St p → Sg h.1 → Sg h.2 → p.1 = 0 - k.1 → Chn (k :: r) → Chn (p :: h :: k :: r)
theorem Chn.hd {p : Int × Int} {r} (h : Chn (p :: r)) : St p := by
  cases h <;> assumption
theorem chn_same : ∀ {l : List (Int × Int)}, Chn l → ∀ p r, l = p :: r → ∀ n : Int, ((r.map Prod.fst).foldl stp (n, p.1)).1 = ((r.map Prod.snd).foldl stp (n, p.2)).1 := by
  intro l h
  induction h with
  | one h => intro p r e n; cases e; rfl
  | @st p q r hp hc ih =>
    intro p' r' e n
    cases e
    have hq := hc.hd
    rw [List.map_cons, List.map_cons, List.foldl_cons, List.foldl_cons]
    have e1 : stp (n, p.1) q.1 = ((if p.1 = 0 - q.1 then n + 1 else n), q.1) := by
      unfold stp; rw [if_pos (by rcases hq.2 with h | h <;> omega)]
    have e2 : stp (n, p.2) q.2 = ((if p.1 = 0 - q.1 then n + 1 else n), q.2) := by
      unfold stp; rw [if_pos (by have := hq.1; rcases hq.2 with h | h <;> omega), ← hp.1, ← hq.1]
    rw [e1, e2]
    exact ih q r rfl _
  | @sk p h k r hp h1 h2 hk hc ih =>
    intro p' r' e n
    cases e
    have hq := hc.hd
    have key : ∀ (σ x y : Int), (σ = 1 ∨ σ = -1) → Sg x → σ = 0 - y → stp (stp (n, σ) x) y = (n + 1, y) := by
      intro σ x y hσ hx hy
      have hy0 : y = 0 - σ := by omega
      subst hy0
      have e : ∀ a b : Int, a = b → (a, 0 - σ) = (b, 0 - σ) := fun a b h => by rw [h]
      rcases hσ with rfl | rfl <;> rcases hx with rfl | rfl | rfl <;> simp [stp]
    rw [List.map_cons, List.map_cons, List.map_cons, List.map_cons, List.foldl_cons, List.foldl_cons, List.foldl_cons, List.foldl_cons]
    rw [key p.1 h.1 k.1 hp.2 h1 hk, key p.2 h.2 k.2 (by rw [← hp.1]; exact hp.2) h2 (by rw [← hp.1, ← hq.1]; exact hk)]
    exact ih k r rfl _
def var (xs : List Int) : Int := (xs.foldl stp (0, 0)).1
theorem stp0 {x : Int} (h : x ≠ 0) : stp (0, 0) x = (0, x) := by
  unfold stp; rw [if_pos h, if_neg (by show ¬ ((0:Int) = _); omega)]
theorem var_cons {x : Int} (h : x ≠ 0) (xs : List Int) : var (x :: xs) = (xs.foldl stp (0, x)).1 := by
  unfold var; rw [List.foldl_cons, stp0 h]
theorem var_zero (xs : List Int) : var (0 :: xs) = var xs := by
  unfold var; rw [List.foldl_cons]; rfl
/-- the same changes -/
theorem var_same {l : List (Int × Int)} (h : Chn l) : var (l.map Prod.fst) = var (l.map Prod.snd) := by
  cases l with
  | nil => rfl
  | cons p r =>
    have hp := h.hd
    rw [List.map_cons, List.map_cons, var_cons (by rcases hp.2 with h | h <;> omega), var_cons (by have := hp.1; rcases hp.2 with h | h <;> omega)]
    exact chn_same h p r rfl 0
theorem var_two {x y : Int} (hy : y = 1 ∨ y = -1) (hx : Sg x) (xs : List Int) : var (x :: y :: xs) = var (y :: xs) + (if x = 0 - y then 1 else 0) := by
  rcases hx with rfl | rfl | rfl
  · rw [var_cons (by decide), List.foldl_cons, var_cons (by omega)]
    unfold stp
    rw [if_pos (by omega)]
    by_cases h : (1 : Int) = 0 - y
    · rw [if_pos h, if_pos h]
      show (List.foldl stp (0 + 1, y) xs).1 = _
      rw [stp_shift]; rfl
    · rw [if_neg h, if_neg h]; show _ = _ + (0 : Int); rw [Int.add_zero]
  · rw [var_zero, if_neg (by omega), Int.add_zero]
  · rw [var_cons (by decide), List.foldl_cons, var_cons (by omega)]
    unfold stp
    rw [if_pos (by omega)]
    by_cases h : (-1 : Int) = 0 - y
    · rw [if_pos h, if_pos h]
      show (List.foldl stp (0 + 1, y) xs).1 = _
      rw [stp_shift]; rfl
    · rw [if_neg h, if_neg h]; show _ = _ + (0 : Int); rw [Int.add_zero]
/-- the first sign moves along the second one's -/
def Up (p q : Int × Int) : Prop := Sg p.1 ∧ Sg p.2 ∧ ((q.1 = 1 ∧ p.1 < p.2) ∨ (q.1 = -1 ∧ p.2 < p.1))
def Tn (p : Int × Int) : Prop := p.1 ≠ 0 ∧ (p.2 = 0 ∨ p.2 = 0 - p.1)
theorem var_up {p q : Int × Int} {r : List (Int × Int)} (hc : Chn (q :: r)) (hu : Up p q) : (Tn p ∧ var ((p :: q :: r).map Prod.fst) = var ((p :: q :: r).map Prod.snd) + 1) ∨ (¬ Tn p ∧ var ((p :: q :: r).map Prod.fst) = var ((p :: q :: r).map Prod.snd)) := by
  have hq := hc.hd
  have hs := var_same hc
  obtain ⟨s1, s2, hu⟩ := hu
  simp only [List.map_cons] at hs ⊢
  rw [var_two hq.2 s1, var_two (by rw [← hq.1]; exact hq.2) s2, hs, ← hq.1]
  unfold Tn
  generalize var (q.2 :: List.map Prod.snd r) = v
  have hq1 := hq.1
  have hq2 := hq.2
  clear hs hq hc
  obtain ⟨a, b⟩ := p
  obtain ⟨c, d⟩ := q
  simp only at *
  subst hq1
  rcases hq2 with rfl | rfl <;> rcases s1 with rfl | rfl | rfl <;> rcases s2 with rfl | rfl | rfl <;> simp at hu ⊢
/-! ### fractions -/
def sgR (x : Rat) : Int := if x < 0 then -1 else if x = 0 then 0 else 1
theorem sgR_cases (x : Rat) : (x < 0 ∧ sgR x = -1) ∨ (x = 0 ∧ sgR x = 0) ∨ (0 < x ∧ sgR x = 1) := by
  unfold sgR
  by_cases h : x < 0
  · rw [if_pos h]; exact .inl ⟨h, rfl⟩
  · rw [if_neg h]
    by_cases h2 : x = 0
    · rw [if_pos h2]; exact .inr (.inl ⟨h2, rfl⟩)
    · rw [if_neg h2]; exact .inr (.inr ⟨by grind, rfl⟩)
theorem sgR_pos {x : Rat} (h : 0 < x) : sgR x = 1 := by rcases sgR_cases x with ⟨a, b⟩ | ⟨a, b⟩ | ⟨a, b⟩ <;> grind
theorem sgR_neg {x : Rat} (h : x < 0) : sgR x = -1 := by rcases sgR_cases x with ⟨a, b⟩ | ⟨a, b⟩ | ⟨a, b⟩ <;> grind
theorem sgR_sg (x : Rat) : Sg (sgR x) := by unfold Sg; rcases sgR_cases x with ⟨a, b⟩ | ⟨a, b⟩ | ⟨a, b⟩ <;> grind
theorem sgR_mul (x y : Rat) : sgR (x * y) = sgR x * sgR y := by
  rcases sgR_cases x with ⟨a, b⟩ | ⟨a, b⟩ | ⟨a, b⟩ <;> rcases sgR_cases y with ⟨c, d⟩ | ⟨c, d⟩ | ⟨c, d⟩ <;> rw [b, d]
  · have := Rat.mul_pos (show 0 < -x by grind) (show 0 < -y by grind)
    rw [sgR_pos (by grind)]; rfl
  · rw [c]; simp [sgR]
  · have := Rat.mul_pos (show 0 < -x by grind) c
    rw [sgR_neg (by grind)]; rfl
  · rw [a]; simp [sgR]
  · rw [a]; simp [sgR]
  · rw [a]; simp [sgR]
  · have := Rat.mul_pos a (show 0 < -y by grind)
    rw [sgR_neg (by grind)]; rfl
  · rw [c]; simp [sgR]
  · rw [sgR_pos (Rat.mul_pos a c)]; rfl
/-! ### functions that are bounded and do not move fast -/
def In (B x : Rat) : Prop := -B ≤ x ∧ x ≤ B
def Tame (B : Rat) (f : Rat → Rat) : Prop := ∃ M : Rat, 0 < M ∧ (∀ x, In B x → In M (f x)) ∧ ∀ x y, In B x → In B y → x ≤ y → In (M * (y - x)) (f y - f x)
theorem In.mono {a b x : Rat} (h : In a x) (hab : a ≤ b) : In b x := by unfold In at *; grind
theorem In.mul {a b x y : Rat} (h : In a x) (h' : In b y) : In (a * b) (x * y) := by
  unfold In at *
  have h1 := Rat.mul_nonneg (show 0 ≤ a - x by grind) (show 0 ≤ b - y by grind)
  have h2 := Rat.mul_nonneg (show 0 ≤ a + x by grind) (show 0 ≤ b + y by grind)
  have h3 := Rat.mul_nonneg (show 0 ≤ a - x by grind) (show 0 ≤ b + y by grind)
  have h4 := Rat.mul_nonneg (show 0 ≤ a + x by grind) (show 0 ≤ b - y by grind)
  constructor <;> grind
theorem In.add {a b x y : Rat} (h : In a x) (h' : In b y) : In (a + b) (x + y) := by unfold In at *; grind
theorem tame_const (B c : Rat) : Tame B (fun _ => c) := by
  refine ⟨c * c + 1, ?_, fun x _ => ?_, fun x y _ _ h => ?_⟩
  · have : 0 ≤ c * c := by rcases Rat.le_total (a := 0) (b := c) with h | h
                           · exact Rat.mul_nonneg h h
                           · have := Rat.mul_nonneg (show 0 ≤ -c by grind) (show 0 ≤ -c by grind); grind
    grind
  · unfold In
    rcases Rat.le_total (a := 0) (b := c) with h | h
    · have k := Rat.mul_nonneg h h
      rcases Rat.le_total (a := c) (b := 1) with g | g
      · grind
      · have := Rat.mul_nonneg h (show 0 ≤ c - 1 by grind); grind
    · have k := Rat.mul_nonneg (show 0 ≤ -c by grind) (show 0 ≤ -c by grind)
      rcases Rat.le_total (a := -c) (b := 1) with g | g
      · grind
      · have := Rat.mul_nonneg (show 0 ≤ -c by grind) (show 0 ≤ -c - 1 by grind); grind
  · have : 0 ≤ c * c := by rcases Rat.le_total (a := 0) (b := c) with h | h
                           · exact Rat.mul_nonneg h h
                           · have := Rat.mul_nonneg (show 0 ≤ -c by grind) (show 0 ≤ -c by grind); grind
    have := Rat.mul_nonneg (show 0 ≤ c * c + 1 by grind) (show 0 ≤ y - x by grind)
    unfold In; grind
theorem Tame.add {B : Rat} {f g : Rat → Rat} (hf : Tame B f) (hg : Tame B g) : Tame B (fun x => f x + g x) := by
  obtain ⟨M, m0, m1, m2⟩ := hf
  obtain ⟨N, n0, n1, n2⟩ := hg
  refine ⟨M + N, by grind, fun x h => (m1 x h).add (n1 x h), fun x y hx hy h => ?_⟩
  have := (m2 x y hx hy h).add (n2 x y hx hy h)
  unfold In at *; grind
theorem Tame.mul {B : Rat} {f g : Rat → Rat} (hf : Tame B f) (hg : Tame B g) : Tame B (fun x => f x * g x) := by
  obtain ⟨M, m0, m1, m2⟩ := hf
  obtain ⟨N, n0, n1, n2⟩ := hg
  have mn := Rat.mul_pos m0 n0
  refine ⟨2 * M * N, by grind, fun x h => ((m1 x h).mul (n1 x h)).mono (by grind), fun x y hx hy h => ?_⟩
  have a1 := (m2 x y hx hy h).mul (n1 y hy)
  have a2 := (m1 x hx).mul (n2 x y hx hy h)
  have e : f y * g y - f x * g x = (f y - f x) * g y + f x * (g y - g x) := by grind
  rw [e]
  refine (a1.add a2).mono ?_
  grind
theorem tame_id {B : Rat} (h : 0 < B) : Tame B (fun x => x) := by
  refine ⟨B + 1, by grind, fun x h => h.mono (by grind), fun x y hx hy h => ?_⟩
  have := Rat.mul_nonneg (show 0 ≤ B by grind) (show 0 ≤ y - x by grind)
  unfold In; grind
/-! ### polynomials at fractions -/
def ev : List Int → Rat → Rat
  | [], _ => 0
  | c :: r, x => (c : Rat) + x * ev r x
theorem tame_ev {B : Rat} (h : 0 < B) : ∀ P : List Int, Tame B (ev P)
  | [] => tame_const B 0
  | c :: r => (tame_const B c).add ((tame_id h).mul (tame_ev h r))
def dv : List Int → Rat → Rat
  | [], _ => 0
  | _ :: r, x => ev r x + x * dv r x
theorem tame_dv {B : Rat} (h : 0 < B) : ∀ P : List Int, Tame B (dv P)
  | [] => tame_const B 0
  | c :: r => (tame_ev h r).add ((tame_id h).mul (tame_dv h r))
theorem taylor {B : Rat} (h : 0 < B) : ∀ P : List Int, ∃ M : Rat, 0 < M ∧ ∀ x y, In B x → In B y → ∃ e, In M e ∧ ev P y - ev P x = (y - x) * (dv P x + (y - x) * e)
  | [] => ⟨1, by decide, fun x y _ _ => ⟨0, by unfold In; grind, by show (0:Rat) - 0 = (y - x) * (0 + (y - x) * 0); grind⟩⟩
  | c :: r => by
    obtain ⟨M, m0, hM⟩ := taylor h r
    obtain ⟨N, n0, hN, _⟩ := tame_dv h r
    have bm := Rat.mul_pos h m0
    refine ⟨N + B * M, by grind, fun x y hx hy => ?_⟩
    obtain ⟨e, he, eq⟩ := hM x y hx hy
    refine ⟨dv r x + y * e, (hN x hx).add (hy.mul he), ?_⟩
    show ((c : Rat) + y * ev r y) - ((c : Rat) + x * ev r x) = (y - x) * (ev r x + x * dv r x + (y - x) * (dv r x + y * e))
    have : ev r y = ev r x + (y - x) * (dv r x + (y - x) * e) := by grind
    rw [this]; grind
end ST

set_option linter.all false
set_option exponentiation.threshold 100000
/-! Polynomials of degree one. -/
namespace MN
open ML MD MP
theorem gcd_one (c : Int) : MG.gcdL [c] = (c.natAbs : Int) := by
  unfold MG.gcdL MG.gcdN
  simp
theorem gcd_two (f c : Int) : MG.gcdL [f, c] = (Int.gcd f c : Int) := by
  unfold MG.gcdL MG.gcdN Int.gcd
  simp
/-- what a fraction's polynomial asks -/
structure Frc (n : Nat) (t d : Int) : Prop where
  d0 : 0 < d
  g1 : Int.gcd t d = 1
  st : t.natAbs < 2 ^ n
  sd : d.natAbs < 2 ^ n
  n0 : 0 < n
  n9 : n ≤ 4000
variable {n : Nat} {t d : Int}
theorem gcdN_lin (h : Frc n t d) : MG.gcdN [-t, d] = 1 := by
  have e := gcd_two (-t) d
  rw [Int.neg_gcd, h.g1] at e
  unfold MG.gcdL at e
  omega
theorem plain_lin (h : Frc n t d) : plainL [-t, d] = [-t, d] := plainL_self (gcdN_lin h) fun _ => by
  show 0 ≤ d
  have := h.d0
  omega
theorem shrunk_lin (h : Frc n t d) : shrunkL [-t, d] = [-t, d] := shrunkL_one (gcdN_lin h)
theorem shrunk_one (h : 0 < d) : shrunkL [d] = [1] := shrunkL_of (c := d) h rfl (fun k => by
  cases k with
  | zero => show d = d * 1; omega
  | succ k => show (0 : Int) = d * 0; omega) (by decide)
theorem plain_one (h : 0 < d) : plainL [d] = [1] := plainL_of (c := d) (by omega) rfl (fun k => by
  cases k with
  | zero => show d = d * 1; omega
  | succ k => show (0 : Int) = d * 0; omega) (by decide) (fun _ => by decide)
theorem slope_lin (f c : Int) : slopeL [f, c] = [c] := by
  have e : slopeL [f, c] = [(((0 : Nat) : Int) + 1) * c] := rfl
  rw [e]; simp
theorem rem_one (A : List Int) : remL A [1] = [] := by
  have := rem_len (P := A) (Q := [1]) (.inr (by decide)) (by simp)
  exact List.eq_nil_of_length_eq_zero (Nat.lt_one_iff.mp this)
theorem trim_lin (h : d ≠ 0) : Trim [t, d] := .inr h
theorem cv_one_right (P : List Int) (k : Nat) : cv P [1] k = cf P k := by
  unfold cv
  rw [sm_single (j := k) (by omega) fun i hi hn => by
    have : cf [1] (k - i) = 0 := cf_beyond (by show 1 ≤ k - i; omega)
    rw [this, Int.mul_zero], Nat.sub_self]
  show cf P k * 1 = _
  omega
theorem fac_one (A : List Int) : facL A [1] = 1 := by
  unfold facL
  split
  · rfl
  · show ((1 : Nat) : Int) ^ _ = 1
    exact Int.one_pow
theorem quo_one {A : List Int} (hA : Trim A) : quoL A [1] = A := trim_ext (trim_quo _ _) hA fun k => by
  have h := div_eq (P := A) (Q := [1]) (.inr (by decide)) (by simp) k
  rw [fac_one, cv_one_right, rem_one, cf_nil] at h
  omega
theorem sz_lin (h : Frc n t d) : Sz n [-t, d] := fun x hx => by
  simp only [List.mem_cons, List.not_mem_nil, or_false] at hx
  have h1 := h.st
  have h2 := h.sd
  rcases hx with rfl | rfl
  · rw [Int.natAbs_neg]; exact h1
  · exact h2
theorem row_lin (h : Frc n t d) : MS.rowL 2 [-t, d] = [[-t, d], [1]] := by
  unfold MS.rowL
  rw [if_neg (by simp), slope_lin, shrunk_one h.d0, shrunk_lin h]
  show _ :: (if [1] = [] then [] else [1] :: MS.rowG 1 [1] (MS.nextL _ [1])) = _
  have e : MS.nextL [-t, d] [1] = [] := by unfold MS.nextL; rw [rem_one]; rfl
  rw [if_neg (by simp), e]
  rfl
theorem row_ok (h : Frc n t d) : MS.RowOk 2 (shrunkL [-t, d]) (shrunkL (slopeL [-t, d])) := by
  have n0 := h.n0
  have n9 := h.n9
  rw [slope_lin, shrunk_one h.d0, shrunk_lin h]
  have e : MS.nextL [-t, d] [1] = [] := by unfold MS.nextL; rw [rem_one]; rfl
  refine .inr ⟨.inr (by decide), ⟨n, 1, sz_lin h, fun x hx => ?_, by simp, by simp, n0, by decide, by decide, ?_⟩, fun hn => absurd (rem_one _) hn, .inl e⟩
  · rw [List.mem_singleton] at hx
    rw [hx]; decide
  · show n + (2 * 1 + 1) * (2 + 1) ≤ 900000
    omega
theorem log_gcd (h : Frc n t d) : MG.gcdL [-t, d] ≠ 0 ∧ (MG.gcdL [-t, d]).natAbs.log2 < 9000 := by
  have e := gcd_two (-t) d
  rw [Int.neg_gcd, h.g1] at e
  rw [e]
  exact ⟨by decide, by decide⟩
theorem top_lin (t d x y : Int) : MH.topL [-t, d] x y = d * x - t * y := by
  show (0 * x + d * 1) * x + -t * (1 * y) = _
  grind
theorem top_one (x y : Int) : MH.topL [1] x y = 1 := by
  show 0 * x + 1 * 1 = 1
  omega
/-- one change between what is below and what is not -/
theorem chg_below {x y : Int} (h : d * x < t * y) : (MH.chg [[-t, d], [1]] x y).1 = 1 := by
  show (MH.stp (MH.stp (0, 0) (RB.ordI (MH.topL [-t, d] x y) 0)) (RB.ordI (MH.topL [1] x y) 0)).1 = 1
  rw [top_lin, top_one, RB.ordI_lt (show d * x - t * y < 0 by omega)]
  rfl
theorem chg_above {x y : Int} (h : t * y ≤ d * x) : (MH.chg [[-t, d], [1]] x y).1 = 0 := by
  show (MH.stp (MH.stp (0, 0) (RB.ordI (MH.topL [-t, d] x y) 0)) (RB.ordI (MH.topL [1] x y) 0)).1 = 0
  rw [top_lin, top_one]
  by_cases h1 : d * x - t * y = 0
  · rw [h1]; rfl
  · rw [RB.ordI_gt (show 0 < d * x - t * y by omega)]
    rfl
end MN

set_option linter.all false
set_option maxRecDepth 100000
/-! Fractions as they are made; figures. -/
namespace RB
theorem low_unique {p q p' q' : Int} (hq : 0 < q) (hq' : 0 < q') (h1 : Int.gcd p q = 1) (h2 : Int.gcd p' q' = 1) (h : p * q' = p' * q) : p = p' ∧ q = q' := by
  have e : p.natAbs * q'.natAbs = p'.natAbs * q.natAbs := by rw [← Int.natAbs_mul, h, Int.natAbs_mul]
  have c1 : Nat.Coprime q.natAbs p.natAbs := by
    show Nat.gcd q.natAbs p.natAbs = 1
    rw [Nat.gcd_comm]; exact h1
  have c2 : Nat.Coprime q'.natAbs p'.natAbs := by
    show Nat.gcd q'.natAbs p'.natAbs = 1
    rw [Nat.gcd_comm]; exact h2
  have d1 : q.natAbs ∣ q'.natAbs := c1.dvd_of_dvd_mul_left (by rw [e]; exact Nat.dvd_mul_left ..)
  have d2 : q'.natAbs ∣ q.natAbs := c2.dvd_of_dvd_mul_left (by rw [← e]; exact Nat.dvd_mul_left ..)
  have d3 := Nat.dvd_antisymm d1 d2
  have eq_ : q = q' := by omega
  subst eq_
  exact ⟨Int.eq_of_mul_eq_mul_right (by omega) h, rfl⟩
theorem made_same {X Y X' Y' : Int} (hY : 0 < Y) (hY' : 0 < Y') (h : X * Y' = X' * Y) : rT X Y = rT X' Y' ∧ rB X Y = rB X' Y' := by
  have e1 := r_cross (t := X) (b := Y) (by omega)
  have e2 := r_cross (t := X') (b := Y') (by omega)
  have b1 := rB_pos (t := X) (b := Y) (by omega)
  have b2 := rB_pos (t := X') (b := Y') (by omega)
  refine low_unique b1 b2 (r_low (by omega)) (r_low (by omega)) ?_
  generalize rT X Y = p at *
  generalize rB X Y = q at *
  generalize rT X' Y' = p' at *
  generalize rB X' Y' = q' at *
  have hYY : Y * Y' ≠ 0 := Int.mul_ne_zero (by omega) (by omega)
  refine Int.eq_of_mul_eq_mul_right hYY ?_
  -- p q' Y Y' = X q q' Y' = X' Y q q' = p' Y' q Y
  have a1 : p * q' * (Y * Y') = (p * Y) * (q' * Y') := by grind
  have a2 : p' * q * (Y * Y') = (p' * Y') * (q * Y) := by grind
  rw [a1, a2, e1, e2]
  have a3 : X * q * (q' * Y') = (X * Y') * (q * q') := by grind
  have a4 : X' * q' * (q * Y) = (X' * Y) * (q * q') := by grind
  rw [a3, a4, h]
theorem IsR.same {C p : PySem.Addr} {H : L2.Hp} {X Y X' Y' : Int} (h : IsR C H p (rT X Y) (rB X Y)) (hY : 0 < Y) (hY' : 0 < Y') (e : X * Y' = X' * Y) : IsR C H p (rT X' Y') (rB X' Y') := by
  obtain ⟨h1, h2⟩ := made_same hY hY' e
  rw [← h1, ← h2]; exact h
theorem ord_le0 {a b : Int} : ordI a b ≤ 0 ↔ a ≤ b := by
  unfold ordI
  split
  · constructor <;> intro <;> omega
  · split
    · constructor <;> intro <;> omega
    · constructor <;> intro <;> omega
theorem ord_gt0 {a b : Int} : ordI a b > 0 ↔ b < a := by
  unfold ordI
  split
  · constructor <;> intro <;> omega
  · split
    · constructor <;> intro <;> omega
    · constructor <;> intro <;> omega
end RB
namespace MX
open RB
theorem fd_eq {x q w : Int} (hq : 0 < q) (h1 : w * q ≤ x) (h2 : x < (w + 1) * q) : x.fdiv q = w := by
  obtain ⟨h3, h4⟩ := fdiv_two (p := x) hq
  generalize x.fdiv q = v at *
  have a1 : v < w + 1 := by
    apply Classical.byContradiction
    intro h
    have := Int.mul_le_mul_of_nonneg_right (show w + 1 ≤ v by omega) (show 0 ≤ q by omega)
    omega
  have a2 : w < v + 1 := by
    apply Classical.byContradiction
    intro h
    have := Int.mul_le_mul_of_nonneg_right (show v + 1 ≤ w by omega) (show 0 ≤ q by omega)
    omega
  omega
/-- halves of a floor -/
theorem half_floor {x d : Int} (hd : 0 < d) : ((2 * x).fdiv d + 1).fdiv 2 = (2 * x + d).fdiv (2 * d) := by
  obtain ⟨h1, h2⟩ := fdiv_two (p := 2 * x) hd
  obtain ⟨h3, h4⟩ := fdiv_two (p := (2 * x).fdiv d + 1) (show (0 : Int) < 2 by decide)
  generalize (2 * x).fdiv d = m at *
  generalize (m + 1).fdiv 2 = w at *
  refine (fd_eq (by omega) ?_ ?_).symm
  · have a := Int.mul_le_mul_of_nonneg_right (show 2 * w - 1 ≤ m by omega) (show 0 ≤ d by omega)
    have e : w * (2 * d) = (2 * w - 1) * d + d := by grind
    omega
  · have a := Int.mul_le_mul_of_nonneg_right (show m + 1 ≤ 2 * w + 1 by omega) (show 0 ≤ d by omega)
    have e : (w + 1) * (2 * d) = (2 * w + 1) * d + d := by grind
    omega
theorem fd_cross {x q x' q' : Int} (hq : 0 < q) (hq' : 0 < q') (h : x * q' = x' * q) : x.fdiv q = x'.fdiv q' := by
  obtain ⟨h1, h2⟩ := fdiv_two (p := x') hq'
  generalize x'.fdiv q' = w at *
  refine fd_eq hq ?_ ?_
  · have a := Int.mul_le_mul_of_nonneg_right h1 (show 0 ≤ q by omega)
    rw [← h] at a
    have e : w * q' * q = (w * q) * q' := by grind
    rw [e] at a
    exact Int.le_of_mul_le_mul_right a hq'
  · have a := Int.mul_lt_mul_of_pos_right h2 hq
    rw [← h] at a
    have e : (w + 1) * q' * q = ((w + 1) * q) * q' := by grind
    rw [e] at a
    exact Int.lt_of_mul_lt_mul_right a (by omega)
/-- the floor, from a fraction that is a little greater -/
theorem steps_eq {A t d b p : Int} (hd : 0 < d) (hp : 0 < p) (hb : 0 < b) (h1 : A < t * p) (h2 : t * p ≤ A + d) (h3 : b ≤ p) {w : Int} (hw1 : w * (d * p) ≤ (A + d) * b) (hw2 : (A + d) * b < (w + 1) * (d * p)) : (if t * b < w * d then w - 1 else w) = (t * b).fdiv d := by
  have dp : 0 < d * p := Int.mul_pos hd hp
  have k1 : (t * b) * p ≤ (A + d) * b := by
    have := Int.mul_le_mul_of_nonneg_right h2 (show 0 ≤ b by omega)
    have e : t * p * b = t * b * p := by grind
    omega
  have k2 : (A + d) * b < (t * b) * p + d * p := by
    have := Int.mul_lt_mul_of_pos_right h1 hb
    have e : t * p * b = t * b * p := by grind
    have e2 : (A + d) * b = A * b + d * b := by grind
    have := Int.mul_le_mul_of_nonneg_left h3 (show 0 ≤ d by omega)
    omega
  have c1 : w * (d * p) = (w * d) * p := by grind
  have c2 : (w + 1) * (d * p) = ((w + 1) * d) * p := by grind
  have c3 : t * b * p + d * p = (t * b + d) * p := by grind
  have l1 : w * d < t * b + d := by
    have : (w * d) * p < (t * b + d) * p := by omega
    exact Int.lt_of_mul_lt_mul_right this (by omega)
  have l2 : t * b < (w + 1) * d := by
    have : (t * b) * p < ((w + 1) * d) * p := by omega
    exact Int.lt_of_mul_lt_mul_right this (by omega)
  have e1 : (w + 1) * d = w * d + d := by grind
  have e2 : (w - 1) * d = w * d - d := by grind
  split
  · next h =>
    refine (fd_eq hd (by omega) ?_).symm
    rw [show w - 1 + 1 = w by omega]; exact h
  · next h => exact (fd_eq hd (by omega) l2).symm
end MX

set_option linter.all false
set_option maxRecDepth 100000
/-! The program's fractions as fractions of Lean. -/
namespace RB
open PySem PySem.Spec PyProof.Rows L2
open Evl (Ex)
/-- t / b as a fraction -/
def mq (t b : Int) : Rat := (t : Rat) / (b : Rat)
theorem cast_ne {b : Int} (h : b ≠ 0) : (b : Rat) ≠ 0 := fun z => h (by
  have : (b : Rat) = ((0 : Int) : Rat) := z
  exact Rat.intCast_inj.mp this)
theorem cast_pos {b : Int} (h : 0 < b) : (0 : Rat) < (b : Rat) := by
  have := Rat.intCast_lt_intCast.mpr h
  exact this
theorem mq_mul {t b : Int} (hb : b ≠ 0) : mq t b * (b : Rat) = (t : Rat) := Rat.div_mul_cancel (cast_ne hb)
theorem den_cast (x : Rat) : (((x.den : Nat) : Int) : Rat) = ((x.den : Nat) : Rat) := rfl
theorem q_self (x : Rat) : mq x.num (x.den : Int) = x := by
  unfold mq
  rw [← Rat.divInt_eq_div]
  exact Rat.num_divInt_den x
theorem q_den (x : Rat) : x * ((x.den : Int) : Rat) = (x.num : Rat) := by
  have h := mq_mul (t := x.num) (b := (x.den : Int)) (by have := x.den_pos; omega)
  rw [q_self] at h
  exact h
theorem q_low (x : Rat) : Int.gcd x.num (x.den : Int) = 1 := x.reduced
theorem q_pos (x : Rat) : (0 : Int) < (x.den : Int) := by have := x.den_pos; omega
theorem cast_inj {a b : Int} (h : (a : Rat) = (b : Rat)) : a = b := Rat.intCast_inj.mp h
/-- what a fraction is, by whole numbers -/
theorem q_eq {x : Rat} {t b : Int} (h : x * (b : Rat) = (t : Rat)) : x.num * b = t * (x.den : Int) := by
  refine cast_inj ?_
  have e := q_den x
  rw [Rat.intCast_mul, Rat.intCast_mul, ← e, ← h]
  grind
theorem q_of {x : Rat} {t b : Int} (h : x.num * b = t * (x.den : Int)) : x * (b : Rat) = (t : Rat) := by
  have e := q_den x
  have h2 : ((x.num * b : Int) : Rat) = ((t * (x.den : Int) : Int) : Rat) := by rw [h]
  rw [Rat.intCast_mul, Rat.intCast_mul, ← e] at h2
  have h3 : ((x.den : Int) : Rat) ≠ 0 := cast_ne (by have := q_pos x; omega)
  have h4 : (x * (b : Rat) - (t : Rat)) * ((x.den : Int) : Rat) = 0 := by grind
  rcases Rat.mul_eq_zero.mp h4 with h | h
  · grind
  · exact absurd h h3
/-- made of t and b it is t / b -/
theorem made_q {t b : Int} (hb : b ≠ 0) : rT t b = (mq t b).num ∧ rB t b = ((mq t b).den : Int) := by
  have h := q_eq (mq_mul (t := t) hb)
  refine low_unique (rB_pos hb) (q_pos _) (r_low hb) (q_low _) ?_
  have c := r_cross (t := t) hb
  refine Int.eq_of_mul_eq_mul_right hb ?_
  generalize rT t b = p at *
  generalize rB t b = q at *
  generalize (mq t b).num = p' at *
  generalize ((mq t b).den : Int) = q' at *
  have e1 : p * q' * b = p * b * q' := by grind
  have e2 : p' * q * b = p' * b * q := by grind
  rw [e1, e2, c, h]; grind
/-- a Ratio that is a fraction -/
def IsQ (C : Addr) (H : Hp) (a : Addr) (x : Rat) : Prop := IsR C H a x.num (x.den : Int)
theorem IsQ.ex {C : Addr} {H H' : Hp} {a : Addr} {x : Rat} (e : Ex H H') (h : IsQ C H a x) : IsQ C H' a x := IsR.ex e h
theorem IsQ.exb {C : Addr} {H H' : Hp} {a l : Addr} {x : Rat} (e : Exb l H H') (n : a ≠ l) (h : IsQ C H a x) : IsQ C H' a x := IsR.exb e n h
theorem IsR.toQ {C : Addr} {H : Hp} {a : Addr} {t b : Int} (h : IsR C H a (rT t b) (rB t b)) (hb : b ≠ 0) : IsQ C H a (mq t b) := by
  have e := made_q (t := t) hb
  rw [e.1, e.2] at h
  exact h
theorem IsQ.toR {C : Addr} {H : Hp} {a : Addr} {t b : Int} (h : IsQ C H a (mq t b)) (hb : b ≠ 0) : IsR C H a (rT t b) (rB t b) := by
  have e := made_q (t := t) hb
  rw [e.1, e.2]
  exact h
def RetQ (C : Addr) (x : Rat) (H : Hp) (Q : VK) : Prop := ∀ p H', H p = none → Ex H H' → IsQ C H' p x → Q (.ref p) H'
theorem RetQ.go {C : Addr} {x : Rat} {H H1 : Hp} {Q : VK} (k : RetQ C x H Q) (e : Ex H H1) : RetQ C x H1 Q := fun p H' hp e2 h => k p H' (Evl.fresh_back e hp) (e.trans e2) h
theorem RetQ.toR {C : Addr} {t b : Int} {x : Rat} {H : Hp} {Q : VK} (hb : b ≠ 0) (e : mq t b = x) (k : RetQ C x H Q) : RetR C (rT t b) (rB t b) H Q := fun p H' hp e2 h => k p H' hp e2 (by rw [← e]; exact h.toQ hb)
/-- sizes -/
def Qz (n : Nat) (x : Rat) : Prop := x.num.natAbs < 2 ^ n ∧ x.den < 2 ^ n
theorem Qz.mono {n m : Nat} {x : Rat} (h : Qz n x) (hm : n ≤ m) : Qz m x := ⟨Nat.lt_of_lt_of_le h.1 (Nat.pow_le_pow_right (by decide) hm), Nat.lt_of_lt_of_le h.2 (Nat.pow_le_pow_right (by decide) hm)⟩
theorem Qz.den' {n : Nat} {x : Rat} (h : Qz n x) : ((x.den : Int)).natAbs < 2 ^ n := h.2
theorem Qz.of {x : Rat} {t b : Int} {n : Nat} (hb : b ≠ 0) (h : x * (b : Rat) = (t : Rat)) (ht : t.natAbs < 2 ^ n) (hb' : b.natAbs < 2 ^ n) : Qz n x := by
  have e : x = mq t b := by
    have := mq_mul (t := t) hb
    have h3 := cast_ne hb
    have h4 : (x - mq t b) * (b : Rat) = 0 := by grind
    rcases Rat.mul_eq_zero.mp h4 with h | h
    · grind
    · exact absurd h h3
  have m := made_q (t := t) hb
  subst e
  have a1 := rT_abs (t := t) hb
  have a2 := rB_abs (t := t) hb
  rw [m.1] at a1
  rw [m.2] at a2
  exact ⟨Nat.lt_of_le_of_lt a1 ht, Nat.lt_of_le_of_lt a2 hb'⟩
theorem Qz.mq {t b : Int} {n : Nat} (hb : b ≠ 0) (ht : t.natAbs < 2 ^ n) (hb' : b.natAbs < 2 ^ n) : Qz n (RB.mq t b) := Qz.of hb (mq_mul hb) ht hb'
theorem den_ne (x y : Rat) : (x.den : Int) * (y.den : Int) ≠ 0 := Int.mul_ne_zero (by have := q_pos x; omega) (by have := q_pos y; omega)
theorem mq_of {x : Rat} {t b : Int} (hb : b ≠ 0) (h : x * (b : Rat) = (t : Rat)) : mq t b = x := by
  have := mq_mul (t := t) hb
  have h3 := cast_ne hb
  have h4 : (mq t b - x) * (b : Rat) = 0 := by grind
  rcases Rat.mul_eq_zero.mp h4 with h | h
  · grind
  · exact absurd h h3
/-! order -/
theorem cast_lt {a b : Int} : (a : Rat) < (b : Rat) ↔ a < b := Rat.intCast_lt_intCast
theorem cross_lt {x y : Rat} {a b c d : Int} (hb : 0 < b) (hd : 0 < d) (hx : x * (b : Rat) = (a : Rat)) (hy : y * (d : Rat) = (c : Rat)) : a * d < c * b ↔ x < y := by
  have pb := cast_pos hb
  have pd := cast_pos hd
  have bd := Rat.mul_pos pb pd
  have e1 : ((a * d : Int) : Rat) = x * ((b : Rat) * (d : Rat)) := by rw [Rat.intCast_mul, ← hx]; grind
  have e2 : ((c * b : Int) : Rat) = y * ((b : Rat) * (d : Rat)) := by rw [Rat.intCast_mul, ← hy]; grind
  rw [← cast_lt, e1, e2]
  constructor
  · intro h
    apply Classical.byContradiction
    intro hn
    have := Rat.mul_le_mul_of_nonneg_right (show y ≤ x by grind) (show 0 ≤ (b : Rat) * (d : Rat) by grind)
    grind
  · intro h
    exact Rat.mul_lt_mul_of_pos_right h bd
theorem ordI_q {x y : Rat} {a b c d : Int} (hb : 0 < b) (hd : 0 < d) (hx : x * (b : Rat) = (a : Rat)) (hy : y * (d : Rat) = (c : Rat)) : ordI (a * d) (c * b) = ST.sgR (x - y) := by
  have h1 := cross_lt hb hd hx hy
  have h2 := cross_lt hd hb hy hx
  unfold ordI
  rcases ST.sgR_cases (x - y) with ⟨a, e⟩ | ⟨a, e⟩ | ⟨a, e⟩ <;> rw [e]
  · rw [if_pos (h1.mpr (by grind))]
  · rw [if_neg (fun z => by have := h1.mp z; grind), if_neg (fun z => by have := h2.mp z; grind)]
  · rw [if_neg (fun z => by have := h1.mp z; grind), if_pos (h2.mpr (by grind))]
theorem ordI_qq (x y : Rat) : ordI (x.num * (y.den : Int)) (y.num * (x.den : Int)) = ST.sgR (x - y) := ordI_q (q_pos x) (q_pos y) (q_den x) (q_den y)
theorem ordI_zero (z : Int) : ordI z 0 = ST.sgR (z : Rat) := by
  unfold ordI
  rcases ST.sgR_cases (z : Rat) with ⟨a, e⟩ | ⟨a, e⟩ | ⟨a, e⟩ <;> rw [e]
  · have : z < 0 := cast_lt.mp a
    rw [if_pos this]
  · have : z = 0 := cast_inj a
    rw [this]; rfl
  · have : 0 < z := cast_lt.mp a
    rw [if_neg (by omega), if_pos this]
theorem sgR_scale {x c : Rat} (h : 0 < c) : ST.sgR (x * c) = ST.sgR x := by rw [ST.sgR_mul, ST.sgR_pos h, Int.mul_one]
/-! values -/
theorem hs_ev {t b : Int} {x : Rat} (hx : x * (b : Rat) = (t : Rat)) : ∀ P : List Int, ((MH.hs t b P).1 : Rat) * (b : Rat) = ST.ev P x * ((MH.hs t b P).2 : Rat) ∧ ((MH.hs t b P).2 : Rat) = (b : Rat) ^ P.length
  | [] => by
    constructor
    · show ((0 : Int) : Rat) * _ = (0 : Rat) * _
      have : ((0 : Int) : Rat) = 0 := rfl
      rw [this]; grind
    · show ((1 : Int) : Rat) = (b : Rat) ^ 0
      have : ((1 : Int) : Rat) = 1 := rfl
      rw [this]; grind
  | c :: r => by
    obtain ⟨h1, h2⟩ := hs_ev hx r
    rw [MH.hs_cons]
    constructor
    · show (((MH.hs t b r).1 * t + c * (MH.hs t b r).2 : Int) : Rat) * (b : Rat) = ((c : Rat) + x * ST.ev r x) * (((MH.hs t b r).2 * b : Int) : Rat)
      rw [Rat.intCast_add, Rat.intCast_mul, Rat.intCast_mul, Rat.intCast_mul, ← hx]
      generalize ((MH.hs t b r).1 : Rat) = A at *
      generalize ((MH.hs t b r).2 : Rat) = B at *
      generalize ST.ev r x = e at *
      grind
    · show (((MH.hs t b r).2 * b : Int) : Rat) = (b : Rat) ^ (r.length + 1)
      rw [Rat.intCast_mul, h2]
      grind
theorem rpow_pos {b : Rat} (h : 0 < b) : ∀ n : Nat, 0 < b ^ n
  | 0 => by rw [show b ^ 0 = 1 by grind]; decide
  | n + 1 => by rw [show b ^ (n + 1) = b ^ n * b by grind]; exact Rat.mul_pos (rpow_pos h n) h
/-- the sign of a polynomial at a fraction -/
theorem sign_ev {t b : Int} {x : Rat} (hb : 0 < b) (hx : x * (b : Rat) = (t : Rat)) (P : List Int) : ordI (MH.topL P t b) 0 = ST.sgR (ST.ev P x) := by
  obtain ⟨h1, h2⟩ := hs_ev hx P
  have pb := cast_pos hb
  have pp := rpow_pos pb P.length
  rw [← h2] at pp
  rw [ordI_zero]
  show ST.sgR ((MH.hs t b P).1 : Rat) = _
  rw [← sgR_scale pb, h1, sgR_scale pp]
theorem sign_q (P : List Int) (x : Rat) : ordI (MH.topL P x.num (x.den : Int)) 0 = ST.sgR (ST.ev P x) := sign_ev (q_pos x) (q_den x) P
end RB

set_option linter.all false
set_option maxRecDepth 100000
set_option maxHeartbeats 1000000
namespace ST
open ML
/-! ### a chain of functions -/
def Far (e v : Rat) : Prop := v ≤ -e ∨ e ≤ v
def Lnk (B : Rat) (f g h : Rat → Rat) : Prop := ∃ (a b : Rat) (q : Rat → Rat), 0 < a ∧ 0 < b ∧ Tame B q ∧ ∀ x, a * f x = q x * g x - b * h x
inductive Chain (B : Rat) : List (Rat → Rat) → Prop where
  | one {f} : (∃ c : Rat, c ≠ 0 ∧ ∀ x, f x = c) → Chain B [f]
  | two {f g} : Tame B f → Chain B [g] → Chain B [f, g]
  | more {f g h r} : Tame B f → Lnk B f g h → Chain B (g :: h :: r) → Chain B (f :: g :: h :: r)
theorem Chain.tame {B : Rat} {f : Rat → Rat} {r} (h : Chain B (f :: r)) : Tame B f := by
  cases h with
  | one h => obtain ⟨c, _, e⟩ := h; have : f = fun _ => c := funext e; rw [this]; exact tame_const B c
  | two h _ => exact h
  | more h _ _ => exact h
theorem far_const {c : Rat} (h : c ≠ 0) : ∃ e, 0 < e ∧ Far e c := by
  by_cases h2 : 0 < c
  · exact ⟨c, h2, .inr (by grind)⟩
  · exact ⟨-c, by grind, .inl (by grind)⟩
theorem Far.mono {a b v : Rat} (h : Far b v) (hab : a ≤ b) : Far a v := by unfold Far at *; grind
theorem rmin (a b : Rat) (ha : 0 < a) (hb : 0 < b) : ∃ c, 0 < c ∧ c ≤ a ∧ c ≤ b := by
  rcases Rat.le_total (a := a) (b := b) with h | h
  · exact ⟨a, ha, by grind, h⟩
  · exact ⟨b, hb, h, by grind⟩
theorem rdiv {a b : Rat} (ha : 0 < a) (hb : 0 < b) : ∃ c, 0 < c ∧ b * c = a := by
  refine ⟨a * b⁻¹, Rat.mul_pos ha (Rat.inv_pos.mpr hb), ?_⟩
  grind
theorem chain_sep {B : Rat} : ∀ {l : List (Rat → Rat)}, Chain B l → ∀ f g r, l = f :: g :: r → ∃ e, 0 < e ∧ ∀ x, In B x → Far e (f x) ∨ Far e (g x) := by
  intro l hl
  induction hl with
  | one h => intro f g r e; cases e
  | two h1 h2 _ =>
    intro f g r e; cases e
    cases h2 with
    | one h =>
      obtain ⟨c, c0, hc⟩ := h
      obtain ⟨e, e0, he⟩ := far_const c0
      exact ⟨e, e0, fun x _ => .inr (by rw [hc]; exact he)⟩
  | @more f g h r hf hl hc ih =>
    intro f' g' r' e; cases e
    obtain ⟨e, e0, he⟩ := ih g h r rfl
    obtain ⟨a, b, q, a0, b0, ⟨M, m0, hM, _⟩, eq⟩ := hl
    -- where g is small h is far, so f is far
    obtain ⟨d, d0, hd⟩ := rdiv (Rat.mul_pos b0 e0) (show 0 < 2 * M by grind)
    obtain ⟨c, c0, hc⟩ := rdiv (Rat.mul_pos b0 e0) (show 0 < 2 * a by grind)
    obtain ⟨z, z0, z1, z2⟩ := rmin d c d0 c0
    obtain ⟨w, w0, w1, w2⟩ := rmin z e z0 e0
    refine ⟨w, w0, fun x hx => ?_⟩
    by_cases hg : Far w (g x)
    · exact .inr hg
    · refine .inl ?_
      have hgs : In w (g x) := by unfold Far at hg; unfold In; grind
      have hh : Far e (h x) := by
        rcases he x hx with h | h
        · exact absurd (h.mono w2) hg
        · exact h
      have k1 := (hM x hx).mul hgs
      have k2 := eq x
      have k3 : M * w ≤ M * d := Rat.mul_le_mul_of_nonneg_left (by grind) (by grind)
      have k4 : a * w ≤ a * c := Rat.mul_le_mul_of_nonneg_left (by grind) (by grind)
      unfold In at k1
      rcases hh with hh | hh
      · have k5 := Rat.mul_le_mul_of_nonneg_left hh (show 0 ≤ b by grind)
        right
        apply Classical.byContradiction
        intro hn
        have := Rat.mul_lt_mul_of_pos_left (show f x < w by grind) a0
        grind
      · have k5 := Rat.mul_le_mul_of_nonneg_left hh (show 0 ≤ b by grind)
        left
        apply Classical.byContradiction
        intro hn
        have := Rat.mul_lt_mul_of_pos_left (show -w < f x by grind) a0
        grind
theorem not_st {u v d : Rat} (h : ¬ St (sgR u, sgR v)) (hd : In d (v - u)) : In d u ∧ In d v := by
  unfold St at h
  unfold In at *
  rcases sgR_cases u with ⟨a, b⟩ | ⟨a, b⟩ | ⟨a, b⟩ <;> rcases sgR_cases v with ⟨c, e⟩ | ⟨c, e⟩ | ⟨c, e⟩ <;> rw [b, e] at h <;> first | (exfalso; apply h; decide) | (constructor <;> constructor <;> grind)
theorem far_st {u v e d : Rat} (he : 0 < e) (hu : Far e u) (hd : In d (v - u)) (hde : d < e) : St (sgR u, sgR v) := by
  unfold Far at hu; unfold In at hd; unfold St
  rcases hu with hu | hu
  · rw [sgR_neg (show u < 0 by grind), sgR_neg (show v < 0 by grind)]; decide
  · rw [sgR_pos (show 0 < u by grind), sgR_pos (show 0 < v by grind)]; decide
def pr (x y : Rat) (f : Rat → Rat) : Int × Int := (sgR (f x), sgR (f y))
theorem small_le {M d e : Rat} (hM : 0 < M) (hd : M * d < e) (h : Rat) (hh : h ≤ d) : M * h < e := by
  have := Rat.mul_le_mul_of_nonneg_left hh (show 0 ≤ M by grind)
  grind
theorem rsmall {M e : Rat} (hM : 0 < M) (he : 0 < e) : ∃ d, 0 < d ∧ M * d < e := by
  obtain ⟨c, c0, hc⟩ := rdiv he (show 0 < 2 * M by grind)
  refine ⟨c, c0, ?_⟩
  have := Rat.mul_pos hM c0
  grind
theorem chain_near {B : Rat} : ∀ {l : List (Rat → Rat)}, Chain B l → ∃ d, 0 < d ∧ ∀ x y, In B x → In B y → x ≤ y → y - x ≤ d →
    (∀ f r, l = f :: r → St (pr x y f) → Chn (l.map (pr x y))) ∧ (∀ f g r, l = f :: g :: r → St (pr x y g) → Chn ((g :: r).map (pr x y))) := by
  intro l hl
  induction hl with
  | one h => exact ⟨1, by decide, fun x y _ _ _ _ => ⟨fun f r e hs => by cases e; exact .one hs, fun f g r e => by cases e⟩⟩
  | two h1 h2 ih =>
    obtain ⟨d, d0, hd⟩ := ih
    refine ⟨d, d0, fun x y hx hy hxy hle => ?_⟩
    obtain ⟨i1, _⟩ := hd x y hx hy hxy hle
    cases h2 with
    | one h =>
      obtain ⟨c, c0, hc⟩ := h
      have hs : ∀ g : Rat → Rat, (∀ x, g x = c) → St (pr x y g) := fun g hg => by
        unfold pr; rw [hg, hg]
        refine ⟨rfl, ?_⟩
        rcases sgR_cases c with ⟨a, b⟩ | ⟨a, b⟩ | ⟨a, b⟩
        · exact .inr b
        · exact absurd a c0
        · exact .inl b
      refine ⟨fun f r e hf => ?_, fun f g r e hg => ?_⟩
      · cases e
        exact .st hf (.one (hs _ hc))
      · cases e
        exact .one hg
  | @more f g h r hf hl hc ih =>
    obtain ⟨d, d0, hd⟩ := ih
    have hC : Chain B (f :: g :: h :: r) := .more hf hl hc
    obtain ⟨e1, e10, he1⟩ := chain_sep hC f g (h :: r) rfl
    obtain ⟨e2, e20, he2⟩ := chain_sep hc g h r rfl
    obtain ⟨a, b, q, a0, b0, ⟨Q, q0, hQ, _⟩, eq⟩ := hl
    obtain ⟨M, m0, _, hM⟩ := hc.tame
    have htail : Chain B (h :: r) := by cases hc with
      | two _ h => exact h
      | more _ _ h => exact h
    obtain ⟨N, n0, _, hN⟩ := htail.tame
    obtain ⟨e, e0, ee1, ee2⟩ := rmin e1 e2 e10 e20
    obtain ⟨u1, u10, hu1⟩ := rsmall m0 e0
    obtain ⟨u2, u20, hu2⟩ := rsmall n0 e0
    obtain ⟨u3, u30, hu3⟩ := rsmall (Rat.mul_pos q0 m0) (Rat.mul_pos a0 e0)
    obtain ⟨v1, v10, v11, v12⟩ := rmin u1 u2 u10 u20
    obtain ⟨v2, v20, v21, v22⟩ := rmin v1 u3 v10 u30
    obtain ⟨w, w0, w1, w2⟩ := rmin v2 d v20 d0
    refine ⟨w, w0, fun x y hx hy hxy hle => ?_⟩
    obtain ⟨i1, i2⟩ := hd x y hx hy hxy (by grind)
    have D0 : 0 ≤ y - x := by grind
    have k1 : M * (y - x) < e := small_le m0 hu1 _ (by grind)
    have k2 : N * (y - x) < e := small_le n0 hu2 _ (by grind)
    have k3 : Q * M * (y - x) < a * e := small_le (Rat.mul_pos q0 m0) hu3 _ (by grind)
    refine ⟨fun f' r' eq' hf' => ?_, fun f' g' r' eq' hg' => ?_⟩
    · cases eq'
      by_cases hg : St (pr x y g)
      · exact .st hf' (i1 g (h :: r) rfl hg)
      · obtain ⟨gx, gy⟩ := not_st hg (hM x y hx hy hxy)
        have nf : ∀ v, In (M * (y - x)) v → ¬ Far e v := fun v hv hf => by unfold In at hv; unfold Far at hf; grind
        have ff : Far e (f x) := by
          rcases he1 x hx with z | z
          · exact z.mono ee1
          · exact absurd (z.mono ee1) (nf _ gx)
        have fh : Far e (h x) := by
          rcases he2 x hx with z | z
          · exact absurd (z.mono ee2) (nf _ gx)
          · exact z.mono ee2
        have sh : St (pr x y h) := far_st e0 fh (hN x y hx hy hxy) k2
        have op : (pr x y f).1 = 0 - (pr x y h).1 := by
          show sgR (f x) = 0 - sgR (h x)
          have t1 := (hQ x hx).mul gx
          have t2 := eq x
          have t3 : Q * (M * (y - x)) < a * e := by grind
          unfold In at t1
          unfold Far at ff fh
          rcases ff with ff | ff
          · have t4 := Rat.mul_le_mul_of_nonneg_left ff (show 0 ≤ a by grind)
            have t5 : 0 < b * h x := by grind
            have t6 : 0 < h x := by
              apply Classical.byContradiction
              intro hn
              have := Rat.mul_le_mul_of_nonneg_left (show h x ≤ 0 by grind) (show 0 ≤ b by grind)
              grind
            rw [sgR_neg (by grind), sgR_pos t6]; rfl
          · have t4 := Rat.mul_le_mul_of_nonneg_left ff (show 0 ≤ a by grind)
            have t5 : b * h x < 0 := by grind
            have t6 : h x < 0 := by
              apply Classical.byContradiction
              intro hn
              have := Rat.mul_le_mul_of_nonneg_left (show 0 ≤ h x by grind) (show 0 ≤ b by grind)
              grind
            rw [sgR_pos (by grind), sgR_neg t6]; rfl
        exact .sk hf' (sgR_sg _) (sgR_sg _) op (i2 g h r rfl sh)
    · cases eq'
      exact i1 g (h :: r) rfl hg'
/-- the changes at a place -/
def vr (l : List (Rat → Rat)) (x : Rat) : Int := var (l.map fun f => sgR (f x))
theorem fst_pr (l : List (Rat → Rat)) (x y : Rat) : (l.map (pr x y)).map Prod.fst = l.map fun f => sgR (f x) := by rw [List.map_map]; rfl
theorem snd_pr (l : List (Rat → Rat)) (x y : Rat) : (l.map (pr x y)).map Prod.snd = l.map fun f => sgR (f y) := by rw [List.map_map]; rfl
/-- a row whose second one is the first one's slope -/
theorem cell {B : Rat} {P P1 : List Int} {m : Rat} {r : List (Rat → Rat)} (hB : 0 < B) (hc : Chain B (ev P :: ev P1 :: r)) (m0 : 0 < m) (hm : ∀ x, dv P x = m * ev P1 x) :
    ∃ d, 0 < d ∧ ∀ x y, In B x → In B y → x < y → y - x ≤ d → (Tn (pr x y (ev P)) ∧ vr (ev P :: ev P1 :: r) x = vr (ev P :: ev P1 :: r) y + 1) ∨ (¬ Tn (pr x y (ev P)) ∧ vr (ev P :: ev P1 :: r) x = vr (ev P :: ev P1 :: r) y) := by
  obtain ⟨d, d0, hd⟩ := chain_near hc
  obtain ⟨e, e0, he⟩ := chain_sep hc (ev P) (ev P1) r rfl
  obtain ⟨M, M0, _, hM⟩ := tame_ev hB P
  have htail : Chain B (ev P1 :: r) := by cases hc with
    | two _ h => exact h
    | more _ _ h => exact h
  obtain ⟨N, N0, _, hN⟩ := htail.tame
  obtain ⟨T, T0, hT⟩ := taylor hB P
  obtain ⟨u1, u10, hu1⟩ := rsmall M0 e0
  obtain ⟨u2, u20, hu2⟩ := rsmall N0 e0
  obtain ⟨u3, u30, hu3⟩ := rsmall T0 (Rat.mul_pos m0 e0)
  obtain ⟨v1, v10, v11, v12⟩ := rmin u1 u2 u10 u20
  obtain ⟨v2, v20, v21, v22⟩ := rmin v1 u3 v10 u30
  obtain ⟨w, w0, w1, w2⟩ := rmin v2 d v20 d0
  refine ⟨w, w0, fun x y hx hy hxy hle => ?_⟩
  obtain ⟨i1, i2⟩ := hd x y hx hy (by grind) (by grind)
  have k1 : M * (y - x) < e := small_le M0 hu1 _ (by grind)
  have k2 : N * (y - x) < e := small_le N0 hu2 _ (by grind)
  have k3 : T * (y - x) < m * e := small_le T0 hu3 _ (by grind)
  unfold vr
  rw [← fst_pr _ x y, ← snd_pr _ x y]
  by_cases hs : St (pr x y (ev P))
  · refine .inr ⟨fun z => ?_, var_same (i1 _ _ rfl hs)⟩
    unfold Tn at z; unfold St at hs; omega
  · obtain ⟨gx, gy⟩ := not_st hs (hM x y hx hy (by grind))
    have f1 : Far e (ev P1 x) := by
      rcases he x hx with z | z
      · unfold In at gx; unfold Far at z; grind
      · exact z
    have s1 : St (pr x y (ev P1)) := far_st e0 f1 (hN x y hx hy (by grind)) k2
    refine var_up (i2 _ _ _ rfl s1) ⟨sgR_sg _, sgR_sg _, ?_⟩
    obtain ⟨z, hz, ez⟩ := hT x y hx hy
    rw [hm] at ez
    have dp : 0 < y - x := by grind
    have t1 : In (T * (y - x)) ((y - x) * z) := by
      have := (show In (y - x) (y - x) by unfold In; grind).mul hz
      exact this.mono (by grind)
    unfold In at t1
    show (sgR (ev P1 x) = 1 ∧ sgR (ev P x) < sgR (ev P y)) ∨ (sgR (ev P1 x) = -1 ∧ sgR (ev P y) < sgR (ev P x))
    have ns : ¬ (sgR (ev P x) = sgR (ev P y) ∧ (sgR (ev P x) = 1 ∨ sgR (ev P x) = -1)) := hs
    unfold Far at f1
    rcases f1 with f1 | f1
    · right
      have t2 := Rat.mul_le_mul_of_nonneg_left f1 (show 0 ≤ m by grind)
      have t3 : 0 < -(m * ev P1 x + (y - x) * z) := by grind
      have t4 := Rat.mul_pos dp t3
      refine ⟨sgR_neg (by grind), ?_⟩
      rcases sgR_cases (ev P x) with ⟨a, b⟩ | ⟨a, b⟩ | ⟨a, b⟩ <;> rcases sgR_cases (ev P y) with ⟨c, f⟩ | ⟨c, f⟩ | ⟨c, f⟩ <;> rw [b, f] at ns ⊢ <;> first | decide | (exfalso; apply ns; decide) | (exfalso; grind)
    · left
      have t2 := Rat.mul_le_mul_of_nonneg_left f1 (show 0 ≤ m by grind)
      have t3 : 0 < m * ev P1 x + (y - x) * z := by grind
      have t4 := Rat.mul_pos dp t3
      refine ⟨sgR_pos (by grind), ?_⟩
      rcases sgR_cases (ev P x) with ⟨a, b⟩ | ⟨a, b⟩ | ⟨a, b⟩ <;> rcases sgR_cases (ev P y) with ⟨c, f⟩ | ⟨c, f⟩ | ⟨c, f⟩ <;> rw [b, f] at ns ⊢ <;> first | decide | (exfalso; apply ns; decide) | (exfalso; grind)
end ST

set_option linter.all false
set_option maxRecDepth 100000
set_option maxHeartbeats 1000000
namespace ST
open ML
/-! ### spots: where a number is, told at each fraction: 1 above it, 0 there, -1 below -/
structure Spot (s : Rat → Int) : Prop where
  vals : ∀ x, Sg (s x)
  dn : ∀ x y, x < y → s x ≤ 0 → s y = -1
  op : ∀ x, s x = 1 → ∃ y, x < y ∧ s y = 1
  oq : ∀ x, s x = -1 → ∃ y, y < x ∧ s y = -1
theorem Spot.up {s : Rat → Int} (h : Spot s) {x y : Rat} (hxy : x ≤ y) (hy : s y = 1) : s x = 1 := by
  rcases h.vals x with e | e | e
  · exact e
  · by_cases hh : x = y
    · rw [hh]; exact hy
    · have := h.dn x y (by grind) (by omega); omega
  · by_cases hh : x = y
    · rw [hh]; exact hy
    · have := h.dn x y (by grind) (by omega); omega
def Sep (s t : Rat → Int) : Prop := ∃ c d : Rat, c < d ∧ ((s c ≤ 0 ∧ 0 ≤ t d) ∨ (t c ≤ 0 ∧ 0 ≤ s d))
theorem sep_of_ne {s t : Rat → Int} (hs : Spot s) (ht : Spot t) {x : Rat} (h : s x ≠ t x) : Sep s t := by
  have key : ∀ {s t : Rat → Int}, Spot s → Spot t → s x < t x → Sep s t := fun {s t} hs ht h => by
    rcases hs.vals x with e | e | e
    · rcases ht.vals x with f | f | f <;> omega
    · rcases ht.vals x with f | f | f
      · obtain ⟨d, h1, h2⟩ := ht.op x f
        exact ⟨x, d, h1, .inl ⟨by omega, by omega⟩⟩
      · omega
      · omega
    · obtain ⟨c, h1, h2⟩ := hs.oq x e
      rcases ht.vals x with f | f | f
      · exact ⟨c, x, h1, .inl ⟨by omega, by omega⟩⟩
      · exact ⟨c, x, h1, .inl ⟨by omega, by omega⟩⟩
      · omega
  by_cases hlt : s x < t x
  · exact key hs ht hlt
  · obtain ⟨c, d, h1, h2⟩ := key ht hs (by omega)
    exact ⟨c, d, h1, h2.symm⟩
def Inn (x y : Rat) (s : Rat → Int) : Prop := 0 ≤ s x ∧ s y ≤ 0
theorem sep_far {s t : Rat → Int} (hs : Spot s) (ht : Spot t) (h : Sep s t) : ∃ d, 0 < d ∧ ∀ x y, x ≤ y → y - x < d → ¬ (Inn x y s ∧ Inn x y t) := by
  have key : ∀ {s t : Rat → Int}, Spot s → Spot t → ∀ {c d x y : Rat}, c < d → s c ≤ 0 → 0 ≤ t d → Inn x y s → Inn x y t → d - c ≤ y - x := fun {s t} hs ht c d x y hcd h1 h2 ⟨a1, a2⟩ ⟨b1, b2⟩ => by
    have k1 : x ≤ c := by
      apply Classical.byContradiction
      intro hn
      have := hs.dn c x (by grind) h1
      omega
    have k2 : d ≤ y := by
      apply Classical.byContradiction
      intro hn
      have := ht.dn y d (by grind) b2
      omega
    grind
  obtain ⟨c, d, hcd, h⟩ := h
  refine ⟨d - c, by grind, fun x y hxy hlt ⟨a, b⟩ => ?_⟩
  rcases h with ⟨h1, h2⟩ | ⟨h1, h2⟩
  · have := key hs ht hcd h1 h2 a b; grind
  · have := key ht hs hcd h1 h2 b a; grind
/-- how many spots are above x and not above y -/
def cnt (S : List (Rat → Int)) (x y : Rat) : Nat := S.countP fun s => decide (s x = 1 ∧ s y ≤ 0)
/-- the product of the opposite sides -/
def pS : List (Rat → Int) → Rat → Int
  | [], _ => 1
  | s :: S, x => (0 - s x) * pS S x
theorem cnt_cons (s : Rat → Int) (S : List (Rat → Int)) (x y : Rat) : cnt (s :: S) x y = cnt S x y + (if s x = 1 ∧ s y ≤ 0 then 1 else 0) := by
  unfold cnt
  rw [List.countP_cons]
  simp
theorem cnt_add {S : List (Rat → Int)} (hS : ∀ s ∈ S, Spot s) {x m y : Rat} (h1 : x ≤ m) (h2 : m ≤ y) : cnt S x y = cnt S x m + cnt S m y := by
  induction S with
  | nil => rfl
  | cons s S ih =>
    rw [cnt_cons, cnt_cons, cnt_cons, ih fun t h => hS t (List.mem_cons_of_mem _ h)]
    have hs := hS s (List.mem_cons_self ..)
    have k1 : s m = 1 → s x = 1 := hs.up h1
    have k2 : s y = 1 → s m = 1 := hs.up h2
    have v1 := hs.vals x
    have v2 := hs.vals m
    have v3 := hs.vals y
    unfold Sg at v1 v2 v3
    split <;> split <;> split <;> omega
theorem far_all {S : List (Rat → Int)} {x y : Rat} (hxy : x < y) (hS : ∀ s ∈ S, Spot s) (h : ∀ s ∈ S, ¬ Inn x y s) : cnt S x y = 0 ∧ pS S x = pS S y ∧ (pS S x = 1 ∨ pS S x = -1) := by
  induction S with
  | nil => exact ⟨rfl, rfl, .inl rfl⟩
  | cons s S ih =>
    obtain ⟨i1, i2, i3⟩ := ih (fun t h => hS t (List.mem_cons_of_mem _ h)) fun t ht => h t (List.mem_cons_of_mem _ ht)
    have hs := hS s (List.mem_cons_self ..)
    have hn := h s (List.mem_cons_self ..)
    have v1 := hs.vals x
    have v2 := hs.vals y
    have v3 := hs.dn x y hxy
    have v4 := hs.up (show x ≤ y by grind)
    unfold Sg at v1 v2
    unfold Inn at hn
    rw [cnt_cons, i1]
    show 0 + _ = 0 ∧ (0 - s x) * pS S x = (0 - s y) * pS S y ∧ ((0 - s x) * pS S x = 1 ∨ (0 - s x) * pS S x = -1)
    rw [← i2]
    rcases v1 with e | e | e <;> rcases v2 with f | f | f <;> first | omega | (rw [e, f]; refine ⟨by simp, rfl, ?_⟩; rcases i3 with g | g <;> rw [g] <;> decide)
def Apart (x y : Rat) (S : List (Rat → Int)) : Prop := S.Pairwise fun s t => ¬ (Inn x y s ∧ Inn x y t)
theorem apart_cell {S : List (Rat → Int)} {x y : Rat} (hxy : x < y) (hS : ∀ s ∈ S, Spot s) (h : Apart x y S) :
    (cnt S x y = 0 ∧ (pS S x = 0 ∨ (pS S x = pS S y ∧ (pS S x = 1 ∨ pS S x = -1)))) ∨ (cnt S x y = 1 ∧ (pS S x = 1 ∨ pS S x = -1) ∧ (pS S y = 0 ∨ pS S y = 0 - pS S x)) := by
  induction S with
  | nil => exact .inl ⟨rfl, .inr ⟨rfl, .inl rfl⟩⟩
  | cons s S ih =>
    obtain ⟨h1, h2⟩ := List.pairwise_cons.mp h
    have hS' : ∀ t ∈ S, Spot t := fun t h => hS t (List.mem_cons_of_mem _ h)
    have hs := hS s (List.mem_cons_self ..)
    have v1 := hs.vals x
    have v2 := hs.vals y
    have v3 := hs.dn x y hxy
    have v4 := hs.up (show x ≤ y by grind)
    unfold Sg at v1 v2
    rw [cnt_cons]
    show (_ ∧ ((0 - s x) * pS S x = 0 ∨ (0 - s x) * pS S x = (0 - s y) * pS S y ∧ ((0 - s x) * pS S x = 1 ∨ (0 - s x) * pS S x = -1))) ∨ (_ ∧ ((0 - s x) * pS S x = 1 ∨ (0 - s x) * pS S x = -1) ∧ ((0 - s y) * pS S y = 0 ∨ (0 - s y) * pS S y = 0 - (0 - s x) * pS S x))
    by_cases hi : Inn x y s
    · obtain ⟨i1, i2, i3⟩ := far_all hxy hS' fun t ht z => h1 t ht ⟨hi, z⟩
      rw [i1, ← i2]
      unfold Inn at hi
      rcases v1 with e | e | e <;> rcases v2 with f | f | f <;> first | omega | (rw [e, f]; rcases i3 with g | g <;> rw [g] <;> decide)
    · have i := ih hS' h2
      unfold Inn at hi
      rcases v1 with e | e | e <;> rcases v2 with f | f | f <;> first | omega | skip
      · rw [e, f, if_neg (by decide), Nat.add_zero]
        rcases i with ⟨i1, i2⟩ | ⟨i1, i2, i3⟩
        · refine .inl ⟨i1, ?_⟩
          rcases i2 with g | ⟨g, g2⟩
          · exact .inl (by omega)
          · exact .inr ⟨by omega, by omega⟩
        · exact .inr ⟨i1, by omega, by omega⟩
      · rw [e, f, if_neg (by decide), Nat.add_zero]
        rcases i with ⟨i1, i2⟩ | ⟨i1, i2, i3⟩
        · refine .inl ⟨i1, ?_⟩
          rcases i2 with g | ⟨g, g2⟩
          · exact .inl (by omega)
          · exact .inr ⟨by omega, by omega⟩
        · exact .inr ⟨i1, by omega, by omega⟩
theorem apart_near {S : List (Rat → Int)} (hS : ∀ s ∈ S, Spot s) (hp : S.Pairwise Sep) : ∃ d, 0 < d ∧ ∀ x y, x ≤ y → y - x < d → Apart x y S := by
  induction S with
  | nil => exact ⟨1, by decide, fun _ _ _ _ => .nil⟩
  | cons s S ih =>
    obtain ⟨h1, h2⟩ := List.pairwise_cons.mp hp
    have hS' : ∀ t ∈ S, Spot t := fun t h => hS t (List.mem_cons_of_mem _ h)
    have hs := hS s (List.mem_cons_self ..)
    obtain ⟨d, d0, hd⟩ := ih hS' h2
    have : ∀ T : List (Rat → Int), (∀ t ∈ T, Spot t ∧ Sep s t) → ∃ e, 0 < e ∧ ∀ x y, x ≤ y → y - x < e → ∀ t ∈ T, ¬ (Inn x y s ∧ Inn x y t) := by
      intro T
      induction T with
      | nil => exact fun _ => ⟨1, by decide, fun _ _ _ _ t ht => by cases ht⟩
      | cons t T iT =>
        intro hT
        obtain ⟨e, e0, he⟩ := iT fun u hu => hT u (List.mem_cons_of_mem _ hu)
        obtain ⟨ht, hst⟩ := hT t (List.mem_cons_self ..)
        obtain ⟨f, f0, hf⟩ := sep_far hs ht hst
        obtain ⟨g, g0, g1, g2⟩ := rmin e f e0 f0
        refine ⟨g, g0, fun x y hxy hlt u hu => ?_⟩
        rcases List.mem_cons.mp hu with rfl | hu
        · exact hf x y hxy (by grind)
        · exact he x y hxy (by grind) u hu
    obtain ⟨e, e0, he⟩ := this S fun t ht => ⟨hS' t ht, h1 t ht⟩
    obtain ⟨g, g0, g1, g2⟩ := rmin d e d0 e0
    exact ⟨g, g0, fun x y hxy hlt => List.pairwise_cons.mpr ⟨he x y hxy (by grind), hd x y hxy (by grind)⟩⟩
/-- Sturm's count -/
theorem sturm_B {B : Rat} {P P1 : List Int} {m : Rat} {r : List (Rat → Rat)} {S : List (Rat → Int)} {g : Int} (hB : 0 < B) (hc : Chain B (ev P :: ev P1 :: r)) (m0 : 0 < m) (hm : ∀ x, dv P x = m * ev P1 x)
    (hS : ∀ s ∈ S, Spot s) (hp : S.Pairwise Sep) (hg : g = 1 ∨ g = -1) (hsg : ∀ x, sgR (ev P x) = g * pS S x) :
    ∀ a b, In B a → In B b → a ≤ b → vr (ev P :: ev P1 :: r) a - vr (ev P :: ev P1 :: r) b = (cnt S a b : Int) := by
  obtain ⟨d1, d10, h1⟩ := cell hB hc m0 hm
  obtain ⟨d2, d20, h2⟩ := apart_near hS hp
  obtain ⟨d3, d30, w1, w2⟩ := rmin d1 d2 d10 d20
  obtain ⟨d, d0, hd⟩ := rdiv d30 (show (0 : Rat) < 2 by decide)
  have cellD : ∀ x y, In B x → In B y → x < y → y - x ≤ d → vr (ev P :: ev P1 :: r) x - vr (ev P :: ev P1 :: r) y = (cnt S x y : Int) := fun x y hx hy hxy hle => by
    have k1 := h1 x y hx hy hxy (by grind)
    have k2 := apart_cell hxy hS (h2 x y (by grind) (by grind))
    unfold Tn pr at k1
    simp only [hsg] at k1
    generalize pS S x = px at *
    generalize pS S y = py at *
    rcases hg with rfl | rfl <;> rcases k1 with ⟨k, k'⟩ | ⟨k, k'⟩ <;> rcases k2 with ⟨j, j'⟩ | ⟨j, j', j''⟩ <;> omega
  have step : ∀ (n : Nat) a b, In B a → In B b → a ≤ b → b - a ≤ (n : Rat) * d → vr (ev P :: ev P1 :: r) a - vr (ev P :: ev P1 :: r) b = (cnt S a b : Int) := by
    intro n
    induction n with
    | zero =>
      intro a b ha hb hab hle
      have : a = b := by grind
      subst this
      have : cnt S a a = 0 := by
        unfold cnt
        rw [List.countP_eq_zero]
        intro s _
        simp
        intro h; omega
      omega
    | succ n ih =>
      intro a b ha hb hab hle
      by_cases hd : b - a ≤ d
      · by_cases he : a = b
        · subst he
          refine ih a a ha ha (by grind) ?_
          have : (0 : Rat) ≤ (n : Rat) := by exact_mod_cast Nat.zero_le n
          have := Rat.mul_nonneg this (show 0 ≤ d by grind)
          grind
        · exact cellD a b ha hb (by grind) hd
      · have hm : In B (a + d) := by unfold In at *; grind
        have e1 := cellD a (a + d) ha hm (by grind) (by grind)
        have e2 := ih (a + d) b hm hb (by grind) (by
          have : ((n + 1 : Nat) : Rat) = (n : Rat) + 1 := by grind
          rw [this] at hle
          grind)
        have e3 := cnt_add hS (x := a) (m := a + d) (y := b) (by grind) (by grind)
        omega
  intro a b ha hb hab
  obtain ⟨n, hn⟩ : ∃ n : Nat, b - a ≤ (n : Rat) * d := by
    refine ⟨((b - a) / d).ceil.toNat, ?_⟩
    have h1 : (b - a) / d ≤ (((b - a) / d).ceil : Rat) := Rat.le_ceil
    have h2 : (((b - a) / d).ceil : Rat) ≤ ((((b - a) / d).ceil.toNat : Nat) : Rat) := by
      have : ((b - a) / d).ceil ≤ ((((b - a) / d).ceil.toNat : Nat) : Int) := by omega
      have := Rat.intCast_le_intCast.mpr this
      rw [Rat.intCast_natCast] at this
      exact this
    have h3 := Rat.mul_le_mul_of_nonneg_right (show (b - a) / d ≤ ((((b - a) / d).ceil.toNat : Nat) : Rat) by grind) (show 0 ≤ d by grind)
    rw [Rat.div_mul_cancel (show d ≠ 0 by grind)] at h3
    exact h3
  exact step n a b ha hb hab hn
end ST

set_option linter.all false
set_option maxRecDepth 100000
/-! Sums and products of rows, item by item. -/
namespace ST
open ML MR
def pd : List Int → List Int → List Int
  | [], Q => Q
  | P, [] => P
  | a :: p, b :: q => (a + b) :: pd p q
theorem cf_pd : ∀ (P Q : List Int) (k : Nat), cf (pd P Q) k = cf P k + cf Q k
  | [], Q, k => by show cf Q k = _; rw [cf_nil]; omega
  | a :: p, [], k => by show cf (a :: p) k = _; rw [cf_nil]; omega
  | a :: p, b :: q, 0 => rfl
  | a :: p, b :: q, k + 1 => by show cf ((a + b) :: pd p q) (k + 1) = _; rw [cf_succ, cf_succ, cf_succ, cf_pd p q k]
def pml : List Int → List Int → List Int
  | [], _ => []
  | a :: p, Q => pd (sclL a Q) (0 :: pml p Q)
theorem cf_pml : ∀ (P Q : List Int) (k : Nat), cf (pml P Q) k = cv P Q k
  | [], Q, k => by
    rw [MD.cv_zero_left fun i => cf_nil i]; exact cf_nil k
  | a :: p, Q, k => by
    show cf (pd (sclL a Q) (0 :: pml p Q)) k = _
    rw [cf_pd, cf_sclL, cv_comm, MB.cv_cons_right]
    cases k with
    | zero => rw [cf_zero, if_pos rfl]; grind
    | succ k => rw [cf_succ, if_neg (by omega), Nat.add_sub_cancel, cf_pml p Q k, cv_comm]; grind
end ST

set_option linter.all false
set_option maxRecDepth 100000
/-! Values of sums, products and slopes. -/
namespace ST
open ML MR
theorem ev_zero {P : List Int} (h : ∀ k, cf P k = 0) (x : Rat) : ev P x = 0 := by
  induction P with
  | nil => rfl
  | cons c r ih =>
    have h0 : c = 0 := h 0
    show (c : Rat) + x * ev r x = 0
    rw [ih fun k => by have := h (k + 1); rw [cf_succ] at this; exact this, h0]
    show (0 : Rat) + x * 0 = 0
    grind
theorem ev_ext {P Q : List Int} (h : ∀ k, cf P k = cf Q k) (x : Rat) : ev P x = ev Q x := by
  induction P generalizing Q with
  | nil => exact (ev_zero (fun k => by rw [← h, cf_nil]) x).symm
  | cons c r ih =>
    cases Q with
    | nil => exact ev_zero (fun k => by rw [h, cf_nil]) x
    | cons d s =>
      have h0 : c = d := h 0
      show (c : Rat) + x * ev r x = (d : Rat) + x * ev s x
      rw [h0, ih (Q := s) fun k => (by have := h (k + 1); rw [cf_succ, cf_succ] at this; exact this)]
theorem ev_pd : ∀ (P Q : List Int) (x : Rat), ev (pd P Q) x = ev P x + ev Q x
  | [], Q, x => by show ev Q x = 0 + _; grind
  | a :: p, [], x => by show ev (a :: p) x = _ + 0; grind
  | a :: p, b :: q, x => by
    show ((a + b : Int) : Rat) + x * ev (pd p q) x = ((a : Rat) + x * ev p x) + ((b : Rat) + x * ev q x)
    rw [ev_pd p q x, Rat.intCast_add]; grind
theorem ev_scl (c : Int) : ∀ (P : List Int) (x : Rat), ev (sclL c P) x = (c : Rat) * ev P x
  | [], x => by show (0 : Rat) = _ * 0; grind
  | a :: p, x => by
    show ((c * a : Int) : Rat) + x * ev (sclL c p) x = (c : Rat) * ((a : Rat) + x * ev p x)
    rw [ev_scl c p x, Rat.intCast_mul]; grind
theorem ev_pml : ∀ (P Q : List Int) (x : Rat), ev (pml P Q) x = ev P x * ev Q x
  | [], Q, x => by show (0 : Rat) = 0 * _; grind
  | a :: p, Q, x => by
    show ev (pd (sclL a Q) (0 :: pml p Q)) x = ((a : Rat) + x * ev p x) * ev Q x
    rw [ev_pd, ev_scl]
    show _ + (((0 : Int) : Rat) + x * ev (pml p Q) x) = _
    rw [ev_pml p Q x]
    have : ((0 : Int) : Rat) = 0 := rfl
    rw [this]; grind
/-- the value of a product -/
theorem ev_cv {R P Q : List Int} (h : ∀ k, cf R k = cv P Q k) (x : Rat) : ev R x = ev P x * ev Q x := by
  rw [← ev_pml]
  exact ev_ext (fun k => by rw [h, cf_pml]) x
/-- a link of a row -/
theorem ev_link {A B C Q : List Int} {a b : Int} (h : ∀ k, a * cf A k = cv Q B k - b * cf C k) (x : Rat) : (a : Rat) * ev A x = ev Q x * ev B x - (b : Rat) * ev C x := by
  have h1 : ∀ k, cf (sclL a A) k = cf (pd (pml Q B) (sclL (-b) C)) k := fun k => by
    rw [cf_sclL, cf_pd, cf_pml, cf_sclL, h]; grind
  have := ev_ext h1 x
  rw [ev_scl, ev_pd, ev_pml, ev_scl, Rat.intCast_neg] at this
  grind
theorem ev_prop {A B : List Int} {a b : Int} (h : ∀ k, a * cf A k = b * cf B k) (x : Rat) : (a : Rat) * ev A x = (b : Rat) * ev B x := by
  have := ev_ext (P := sclL a A) (Q := sclL b B) (fun k => by rw [cf_sclL, cf_sclL, h]) x
  rw [ev_scl, ev_scl] at this
  exact this
theorem dv_ev : ∀ (P : List Int) (x : Rat), dv P x = ev (slopeL P) x
  | [], x => rfl
  | c :: r, x => by
    show ev r x + x * dv r x = _
    rw [dv_ev r x]
    have h : ∀ k, cf (slopeL (c :: r)) k = cf (pd r (0 :: slopeL r)) k := fun k => by
      rw [cf_slopeL, cf_pd, cf_succ]
      cases k with
      | zero => rw [cf_zero]; show ((0 : Int) + 1) * _ = _; grind
      | succ k => rw [cf_succ, cf_slopeL]; grind
    rw [ev_ext h, ev_pd]
    show _ = _ + (((0 : Int) : Rat) + x * ev (slopeL r) x)
    have : ((0 : Int) : Rat) = 0 := rfl
    rw [this]; grind
end ST

set_option linter.all false
set_option maxRecDepth 100000
/-! The spots of the laws (fractions, roots of degree two) as places among the fractions. -/
namespace SP
open ST MJ RB
def spQ (u e b s : Int) (x : Rat) : Int := sideV u e b s x.num (x.den : Int)
theorem side_q {u e b s t m : Int} {x : Rat} (hs : s = 1 ∨ s = -1) (hm : 0 < m) (h : x * (m : Rat) = (t : Rat)) : sideV u e b s t m = spQ u e b s x := by
  unfold spQ
  have e := q_eq h
  rw [← side_scale (k := (x.den : Int)) (t := t) (m := m) hs (q_pos x), ← side_scale (k := m) (t := x.num) hs hm, Int.mul_comm _ t, ← e, Int.mul_comm x.num, Int.mul_comm (x.den : Int) m]
theorem sq_nn (x : Rat) : 0 ≤ x * x := by
  rcases Rat.le_total (a := 0) (b := x) with h | h
  · exact Rat.mul_nonneg h h
  · have := Rat.mul_nonneg (show 0 ≤ -x by grind) (show 0 ≤ -x by grind); grind
/-- where a spot is, by fractions -/
def Ab (s : Int) (D e : Rat) : Prop := (s = 1 ∧ (D < 0 ∨ D * D < e)) ∨ (s = -1 ∧ D ≤ 0 ∧ e < D * D)
def Bl (s : Int) (D e : Rat) : Prop := (s = 1 ∧ 0 ≤ D ∧ e < D * D) ∨ (s = -1 ∧ (0 < D ∨ D * D < e))
theorem spQ_facts (u e b s : Int) (x : Rat) (hs : s = 1 ∨ s = -1) : (0 < spQ u e b s x ↔ Ab s ((b : Rat) * x - (u : Rat)) (e : Rat)) ∧ (spQ u e b s x < 0 ↔ Bl s ((b : Rat) * x - (u : Rat)) (e : Rat)) := by
  unfold spQ sideV
  rw [sd_pos hs, sd_neg hs]
  have hq := q_den x
  have hp := cast_pos (q_pos x)
  have hp2 := Rat.mul_pos hp hp
  have e1 : ((b * x.num - u * (x.den : Int) : Int) : Rat) = ((b : Rat) * x - (u : Rat)) * ((x.den : Int) : Rat) := by
    rw [Rat.intCast_sub, Rat.intCast_mul, Rat.intCast_mul, ← hq]; grind
  have e2 : ((e * (x.den : Int) * (x.den : Int) : Int) : Rat) = (e : Rat) * (((x.den : Int) : Rat) * ((x.den : Int) : Rat)) := by
    rw [Rat.intCast_mul, Rat.intCast_mul]; grind
  have e3 : (((b * x.num - u * (x.den : Int)) * (b * x.num - u * (x.den : Int)) : Int) : Rat) = (((b : Rat) * x - (u : Rat)) * ((b : Rat) * x - (u : Rat))) * (((x.den : Int) : Rat) * ((x.den : Int) : Rat)) := by
    rw [Rat.intCast_mul, e1]; grind
  generalize b * x.num - u * (x.den : Int) = d at *
  generalize e * (x.den : Int) * (x.den : Int) = E at *
  generalize (b : Rat) * x - (u : Rat) = D at *
  generalize ((x.den : Int) : Rat) = m at *
  generalize (e : Rat) = f at *
  have mono : ∀ {y z : Rat} {m : Rat}, 0 < m → (y * m < z * m ↔ y < z) := fun {y z m} hm => by
    constructor
    · intro h
      apply Classical.byContradiction
      intro hn
      have := Rat.mul_le_mul_of_nonneg_right (show z ≤ y by grind) (show 0 ≤ m by grind)
      grind
    · intro h; exact Rat.mul_lt_mul_of_pos_right h hm
  have z0 : ((0 : Int) : Rat) = 0 := rfl
  have c1 : d < 0 ↔ D < 0 := by rw [← cast_lt, e1, z0, show (0 : Rat) = 0 * m by grind, mono hp]; grind
  have c2 : 0 < d ↔ 0 < D := by rw [← cast_lt, e1, z0, show (0 : Rat) = 0 * m by grind, mono hp]; grind
  have c3 : d * d < E ↔ D * D < f := by rw [← cast_lt, e2, e3, mono hp2]
  have c4 : E < d * d ↔ f < D * D := by rw [← cast_lt, e2, e3, mono hp2]
  have c5 : d ≤ 0 ↔ D ≤ 0 := by
    rw [← Int.not_lt, c2]; grind
  have c6 : 0 ≤ d ↔ 0 ≤ D := by
    rw [← Int.not_lt, c1]; grind
  unfold Ab Bl
  rw [c1, c2, c3, c4, c5, c6]
  exact ⟨Iff.rfl, Iff.rfl⟩
theorem small_sq {D e : Rat} (hD : 0 ≤ D) (h : D * D < e) : ∃ d, 0 < d ∧ (D + d) * (D + d) < e := by
  obtain ⟨c, c0, hc⟩ := rsmall (M := 2 * D + 1) (e := e - D * D) (by grind) (by grind)
  obtain ⟨w, w0, w1, w2⟩ := rmin c 1 c0 (by decide)
  refine ⟨w, w0, ?_⟩
  have k1 := Rat.mul_le_mul_of_nonneg_left w1 (show 0 ≤ 2 * D + 1 by grind)
  have k2 := Rat.mul_le_mul_of_nonneg_left w2 (show 0 ≤ w by grind)
  grind
theorem small_sq' {D e : Rat} (hD : D < 0) (he : 0 ≤ e) (h : e < D * D) : ∃ d, 0 < d ∧ d ≤ -D ∧ e < (D + d) * (D + d) := by
  obtain ⟨c, c0, hc⟩ := rsmall (M := -2 * D) (e := D * D - e) (by grind) (by grind)
  obtain ⟨w, w0, w1, w2⟩ := rmin c (-D) c0 (by grind)
  refine ⟨w, w0, w2, ?_⟩
  have k1 := Rat.mul_le_mul_of_nonneg_left w1 (show 0 ≤ -2 * D by grind)
  have k2 := sq_nn w
  grind
/-- every spot is one -/
theorem spot {u e b s : Int} (hs : s = 1 ∨ s = -1) (hb : 0 < b) (he : 0 ≤ e) : Spot (spQ u e b s) := by
  have hbq := cast_pos hb
  have heq : (0 : Rat) ≤ (e : Rat) := Rat.intCast_le_intCast.mpr he
  have vals : ∀ x, Sg (spQ u e b s x) := fun x => by
    unfold spQ; have := side_vals u e b s x.num (x.den : Int); unfold Sg; omega
  have stepU : ∀ (x d : Rat), 0 < d → ∃ y, x < y ∧ (b : Rat) * y - (u : Rat) = (b : Rat) * x - (u : Rat) + d := fun x d hd => by
    obtain ⟨c, c0, hc⟩ := rdiv hd hbq
    exact ⟨x + c, by grind, by grind⟩
  have stepD : ∀ (x d : Rat), 0 < d → ∃ y, y < x ∧ (b : Rat) * y - (u : Rat) = (b : Rat) * x - (u : Rat) - d := fun x d hd => by
    obtain ⟨c, c0, hc⟩ := rdiv hd hbq
    exact ⟨x - c, by grind, by grind⟩
  refine ⟨vals, fun x y hxy h => ?_, fun x h => ?_, fun x h => ?_⟩
  · have f1 := (spQ_facts u e b s x hs).1
    have f2 := (spQ_facts u e b s y hs).2
    have hn : ¬ Ab s ((b : Rat) * x - (u : Rat)) (e : Rat) := fun z => by have := f1.mpr z; omega
    have hD := Rat.mul_lt_mul_of_pos_left hxy hbq
    suffices hh : Bl s ((b : Rat) * y - (u : Rat)) (e : Rat) by
      have := f2.mpr hh
      rcases vals y with v | v | v <;> omega
    have hlt : (b : Rat) * x - (u : Rat) < (b : Rat) * y - (u : Rat) := by grind
    generalize (b : Rat) * x - (u : Rat) = D at *
    generalize (b : Rat) * y - (u : Rat) = D' at *
    unfold Ab at hn
    unfold Bl
    rcases hs with rfl | rfl
    · left
      have d0 : 0 ≤ D := by
        apply Classical.byContradiction; intro z; exact hn (.inl ⟨rfl, .inl (by grind)⟩)
      have d1 : (e : Rat) ≤ D * D := by
        apply Classical.byContradiction; intro z; exact hn (.inl ⟨rfl, .inr (by grind)⟩)
      have k1 := Rat.mul_lt_mul_of_pos_left hlt (show 0 < D' by grind)
      have k2 := Rat.mul_le_mul_of_nonneg_right (show D ≤ D' by grind) d0
      exact ⟨rfl, by grind, by grind⟩
    · right
      refine ⟨rfl, ?_⟩
      by_cases hd : 0 < D'
      · exact .inl hd
      · right
        have d1 : D * D ≤ (e : Rat) := by
          apply Classical.byContradiction; intro z; exact hn (.inr ⟨rfl, by grind, by grind⟩)
        have k1 := Rat.mul_pos (show 0 < -D + D' by grind) (show 0 < -D by grind)
        have k2 := Rat.mul_nonneg (show 0 ≤ -D + D' by grind) (show 0 ≤ -D' by grind)
        grind
  · have f1 := (spQ_facts u e b s x hs).1.mp (by omega)
    have fin : ∀ {y : Rat}, Ab s ((b : Rat) * y - (u : Rat)) (e : Rat) → spQ u e b s y = 1 := fun {y} z => by
      have := (spQ_facts u e b s y hs).1.mpr z
      rcases vals y with v | v | v <;> omega
    rcases f1 with ⟨rfl, f | f⟩ | ⟨rfl, f1, f2⟩
    · obtain ⟨c, c0, c1⟩ := rdiv (show 0 < -((b : Rat) * x - (u : Rat)) by grind) (show (0 : Rat) < 2 by decide)
      obtain ⟨y, hy, ey⟩ := stepU x c c0
      exact ⟨y, hy, fin (.inl ⟨rfl, .inl (by grind)⟩)⟩
    · by_cases hd : 0 ≤ (b : Rat) * x - (u : Rat)
      · obtain ⟨d, d0, h⟩ := small_sq hd f
        obtain ⟨y, hy, ey⟩ := stepU x d d0
        exact ⟨y, hy, fin (.inl ⟨rfl, .inr (by rw [ey]; exact h)⟩)⟩
      · obtain ⟨c, c0, c1⟩ := rdiv (show 0 < -((b : Rat) * x - (u : Rat)) by grind) (show (0 : Rat) < 2 by decide)
        obtain ⟨y, hy, ey⟩ := stepU x c c0
        exact ⟨y, hy, fin (.inl ⟨rfl, .inl (by grind)⟩)⟩
    · have dn : (b : Rat) * x - (u : Rat) < 0 := by
        apply Classical.byContradiction
        intro z
        have : (b : Rat) * x - (u : Rat) = 0 := by grind
        rw [this] at f2; grind
      obtain ⟨d, d0, d1, h⟩ := small_sq' dn heq f2
      obtain ⟨y, hy, ey⟩ := stepU x d d0
      exact ⟨y, hy, fin (.inr ⟨rfl, by grind, by rw [ey]; exact h⟩)⟩
  · have f1 := (spQ_facts u e b s x hs).2.mp (by omega)
    have fin : ∀ {y : Rat}, Bl s ((b : Rat) * y - (u : Rat)) (e : Rat) → spQ u e b s y = -1 := fun {y} z => by
      have := (spQ_facts u e b s y hs).2.mpr z
      rcases vals y with v | v | v <;> omega
    rcases f1 with ⟨rfl, f1, f2⟩ | ⟨rfl, f | f⟩
    · have dn : 0 < (b : Rat) * x - (u : Rat) := by
        apply Classical.byContradiction
        intro z
        have : (b : Rat) * x - (u : Rat) = 0 := by grind
        rw [this] at f2; grind
      obtain ⟨d, d0, d1, h⟩ := small_sq' (D := -((b : Rat) * x - (u : Rat))) (by grind) heq (by grind)
      obtain ⟨y, hy, ey⟩ := stepD x d d0
      exact ⟨y, hy, fin (.inl ⟨rfl, by grind, by rw [ey]; grind⟩)⟩
    · obtain ⟨c, c0, c1⟩ := rdiv f (show (0 : Rat) < 2 by decide)
      obtain ⟨y, hy, ey⟩ := stepD x c c0
      exact ⟨y, hy, fin (.inr ⟨rfl, .inl (by grind)⟩)⟩
    · by_cases hd : 0 < (b : Rat) * x - (u : Rat)
      · obtain ⟨c, c0, c1⟩ := rdiv hd (show (0 : Rat) < 2 by decide)
        obtain ⟨y, hy, ey⟩ := stepD x c c0
        exact ⟨y, hy, fin (.inr ⟨rfl, .inl (by grind)⟩)⟩
      · obtain ⟨d, d0, h⟩ := small_sq (D := -((b : Rat) * x - (u : Rat))) (e := (e : Rat)) (by grind) (by grind)
        obtain ⟨y, hy, ey⟩ := stepD x d d0
        exact ⟨y, hy, fin (.inr ⟨rfl, .inr (by rw [ey]; grind)⟩)⟩
end SP

set_option linter.all false
set_option maxRecDepth 100000
/-! The spots of the factors that the laws draw. -/
namespace RB
open PySem PySem.Spec PyProof.Rows L2
/-! ### spots of factors -/
/-- the spots of factors, rows of four -/
def rtsS (FS : List (List Int)) : List (List Int) := FS.flatMap MJ.rtsF
/-- a spot of a factor with u of at most m -/
def isS (m : Int) (R : List Int) : Prop := ∃ u e b s, R = [u, e, b, s] ∧ Fac m u e b ∧ 0 ≤ e ∧ (s = 1 ∨ s = -1) ∧ (e = 0 → s = 1)
def spR : List Int → Rat → Int
  | [u, e, b, s] => SP.spQ u e b s
  | _ => fun _ => 0
theorem rts_isS {m u e b : Int} (f : Fac m u e b) {R : List Int} (h : R ∈ MJ.rts u e b) : isS m R := by
  unfold MJ.rts at h
  rcases List.mem_append.mp h with h | h
  · split at h
    · rw [List.mem_singleton.mp h]; exact ⟨u, e, b, 1, rfl, f, by omega, .inl rfl, fun _ => rfl⟩
    · cases h
  · split at h
    · rw [List.mem_singleton.mp h]; exact ⟨u, e, b, -1, rfl, f, by omega, .inr rfl, fun _ => by omega⟩
    · cases h
theorem rtsS_isS {m : Int} {FS : List (List Int)} (hF : ∀ F ∈ FS, isF m F) : ∀ R ∈ rtsS FS, isS m R := fun R hR => by
  obtain ⟨F, hF1, hF2⟩ := List.mem_flatMap.mp hR
  obtain ⟨u, e, b, rfl, f⟩ := hF F hF1
  exact rts_isS f hF2
theorem isS.spot {m : Int} {R : List Int} (h : isS m R) : ST.Spot (spR R) := by
  obtain ⟨u, e, b, s, rfl, f, e0, hs, _⟩ := h
  exact SP.spot hs (by have := f.b1; omega) e0
/-- the product of the opposite sides, both ways -/
theorem pS_q {m : Int} {RS : List (List Int)} (h : ∀ R ∈ RS, isS m R) (x : Rat) : MJ.pS RS x.num (x.den : Int) = ST.pS (RS.map spR) x := by
  induction RS with
  | nil => rfl
  | cons R RS ih =>
    rw [show R :: RS = [R] ++ RS from rfl, MJ.pS_append, MJ.pS_one, ih fun S hS => h S (List.mem_cons_of_mem _ hS)]
    obtain ⟨u, e, b, s, rfl, _⟩ := h R (List.mem_cons_self ..)
    rfl
theorem rsgn (x : Rat) (z : Int) : MJ.sg z = ST.sgR (z : Rat) := by
  rw [← ordI_zero]
  unfold MJ.sg ordI
  split
  · rfl
  · split
    · next h => rw [h]; rfl
    · rw [if_pos (by omega)]
/-- the sign of a product of factors -/
theorem prod_sign {m : Int} : ∀ (FS : List (List Int)) (M : List Int), (∀ F ∈ FS, isF m F) → ∀ x : Rat, ST.sgR (ST.ev (prodS M FS) x) = ST.sgR (ST.ev M x) * ST.pS ((rtsS FS).map spR) x
  | [], M, _, x => by show ST.sgR (ST.ev M x) = _ * 1; omega
  | F :: FS, M, hF, x => by
    obtain ⟨u, e, b, rfl, f⟩ := hF F (List.mem_cons_self ..)
    have hF' : ∀ G ∈ FS, isF m G := fun G hG => hF G (List.mem_cons_of_mem _ hG)
    have ih := prod_sign FS (ML.mulU M (MB.shp u e b)) hF' x
    show ST.sgR (ST.ev (prodS (ML.mulU M (MB.shp u e b)) FS) x) = _
    rw [ih, ST.ev_cv (fun k => ML.cf_mulU M (MB.shp u e b) k), ST.sgR_mul]
    have h1 : ST.sgR (ST.ev (MB.shp u e b) x) = ST.pS ((MJ.rts u e b).map spR) x := by
      rw [← sign_q, ← pS_q (m := m) (fun R hR => rts_isS f hR), ← MJ.shp_sign (by have := f.b1; omega) (q_pos x), rsgn x, ordI_zero]
    rw [h1]
    have h2 : ∀ A B : List (Rat → Int), ST.pS (A ++ B) x = ST.pS A x * ST.pS B x := fun A B => by
      induction A with
      | nil => show ST.pS B x = 1 * _; rw [Int.one_mul]
      | cons a A ih => show (0 - a x) * ST.pS (A ++ B) x = (0 - a x) * ST.pS A x * _; rw [ih]; grind
    show _ = _ * ST.pS ((MJ.rtsF [u, e, b] ++ rtsS FS).map spR) x
    rw [List.map_append, h2, ← Int.mul_assoc]
    rfl
/-- a spot amid a span -/
def amidR (R : List Int) (l h q : Int) : Bool := decide (0 < MJ.sideR R l q ∧ MJ.sideR R h q ≤ 0)
theorem amid_iff {u e b s l h q : Int} : amidR [u, e, b, s] l h q = true ↔ MJ.Amid u e b s l h q := by
  unfold amidR MJ.Amid
  rw [decide_eq_true_iff]
  exact Iff.rfl
def Difs (R R' : List Int) : Prop := ∀ u e b s u' e' b' s', R = [u, e, b, s] → R' = [u', e', b', s'] → (MB.shp u e b ≠ MB.shp u' e' b') ∨ (u = u' ∧ e = e' ∧ b = b' ∧ s = 1 ∧ s' = -1 ∧ 0 < e)
theorem rts_pair {FS : List (List Int)} {m : Int} (hF : ∀ F ∈ FS, isF m F) (hp : FS.Pairwise fun F G => shpF F ≠ shpF G) : (rtsS FS).Pairwise Difs := by
  unfold rtsS
  rw [List.pairwise_flatMap]
  refine ⟨fun F hF1 => ?_, hp.imp_of_mem fun {F G} hF1 hG1 hne R hR R' hR' => ?_⟩
  · obtain ⟨u, e, b, rfl, f⟩ := hF F hF1
    show (MJ.rts u e b).Pairwise Difs
    unfold MJ.rts
    by_cases h1 : e ≥ 0
    · by_cases h2 : e > 0
      · rw [if_pos h1, if_pos h2]
        refine List.pairwise_cons.mpr ⟨fun R hR => ?_, List.pairwise_singleton ..⟩
        intro u1 e1 b1 s1 u2 e2 b2 s2 q1 q2
        rw [List.mem_singleton.mp hR] at q2
        simp only [List.cons.injEq, and_true] at q1 q2
        obtain ⟨rfl, rfl, rfl, rfl⟩ := q1
        obtain ⟨rfl, rfl, rfl, rfl⟩ := q2
        exact .inr ⟨rfl, rfl, rfl, rfl, rfl, h2⟩
      · rw [if_pos h1, if_neg h2, List.append_nil]; exact List.pairwise_singleton ..
    · rw [if_neg h1, if_neg (by omega)]; exact .nil
  · obtain ⟨u, e, b, rfl, f⟩ := hF F hF1
    obtain ⟨u', e', b', rfl, f'⟩ := hF G hG1
    have mem : ∀ {u e b : Int} {R : List Int}, R ∈ MJ.rts u e b → ∃ s, R = [u, e, b, s] := fun {u e b R} hR => by
      unfold MJ.rts at hR
      rcases List.mem_append.mp hR with h | h <;> split at h <;> first | exact ⟨_, List.mem_singleton.mp h⟩ | cases h
    obtain ⟨s, rfl⟩ := mem hR
    obtain ⟨s', rfl⟩ := mem hR'
    intro u1 e1 b1 s1 u2 e2 b2 s2 q1 q2
    simp only [List.cons.injEq, and_true] at q1 q2
    obtain ⟨rfl, rfl, rfl, rfl⟩ := q1
    obtain ⟨rfl, rfl, rfl, rfl⟩ := q2
    exact .inl hne
theorem Fac.spt {u e b s : Int} (f : Fac 11 u e b) (e0 : 0 ≤ e) (hs : s = 1 ∨ s = -1) (h1 : e = 0 → s = 1) : MJ.Spt u e b s :=
  ⟨hs, f.b1, f.b3, by have := f.su; omega, by
    rcases f.sq with h | ⟨k, k0, k1, k2⟩
    · exact .inl ⟨h, h1 h⟩
    · by_cases h : e = 0
      · exact .inl ⟨h, h1 h⟩
      · have := f.se
        have ea : (e.natAbs : Int) = e := by omega
        rw [ea] at k1 k2
        exact .inr ⟨k, k0, k1, k2, by omega⟩⟩
/-- two of them amid a span: it is not too short -/
theorem sep_any {R R' : List Int} {l h q : Int} (hR : isS 11 R) (hR' : isS 11 R') (hd : Difs R R') (P : MJ.Spn2 l h q) (A : amidR R l h q = true) (A' : amidR R' l h q = true) : q.natAbs ≤ 4294967296 * (h - l).natAbs := by
  obtain ⟨u, e, b, s, rfl, f, e0, hs, es⟩ := hR
  obtain ⟨u', e', b', s', rfl, f', e0', hs', es'⟩ := hR'
  rw [amid_iff] at A A'
  have lh := P.lh
  have S := f.spt e0 hs es
  have S' := f'.spt e0' hs' es'
  rcases hd u e b s u' e' b' s' rfl rfl with hne | ⟨rfl, rfl, rfl, rfl, rfl, hp⟩
  · by_cases h1 : e = 0
    · have s1 := es h1
      subst h1; subst s1
      by_cases h2 : e' = 0
      · have s2 := es' h2
        subst h2; subst s2
        have := MJ.sep_ll S.b1 S.b3 S'.b1 S'.b3 P A A' fun z => hne (shp_same S.b1 S'.b1 (.inl ⟨rfl, rfl, z⟩))
        omega
      · have := MJ.sep_lq S.b1 S.b3 S.su S' (by omega) P A A'
        omega
    · by_cases h2 : e' = 0
      · have s2 := es' h2
        subst h2; subst s2
        have := MJ.sep_lq S'.b1 S'.b3 S'.su S (by omega) P A' A
        omega
      · exact MJ.sep_qq S S' (by omega) (by omega) P A A' fun z => hne (shp_same S.b1 S'.b1 (.inr ⟨h1, h2, z.1, z.2⟩))
  · have := MJ.sep_same S.b1 S.b3 hp P A A'
    omega
end RB
namespace RB
open PySem PySem.Spec PyProof.Rows L2
/-- the half of a span in which a spot is -/
def halfS (R : List Int) (l h q : Int) : List Int := if MJ.sideR R (l + h) (2 * q) ≤ 0 then [2 * l, l + h, 2 * q] else [l + h, 2 * h, 2 * q]
end RB

set_option linter.all false
set_option maxRecDepth 100000
/-! A comprehension over enumerate. -/
namespace RB
open PySem PySem.Spec PyProof.Rows L2
open Evl (Ex)
theorem set_swap {α : Type} (l : List α) {i j : Nat} (a b : α) (h : i ≠ j) : (l.set i a).set j b = (l.set j b).set i a := List.set_comm a b h
section
variable {K : PySem.W.Frag} {σ : L2.St} {H : Hp} {te : TE} {Q : VK}
theorem wipe2 {j k : Nat} (u v : Option V) (σ : L2.St) (h : j ≠ k) : wipe (((wipe σ [j, k]).set j u).set k v) [j, k] = wipe σ [j, k] := by
  show ((((((σ.set k none).set j none).set j u).set k v).set k none).set j none) = (σ.set k none).set j none
  rw [set_set (((σ.set k none).set j none).set j u) k v none, set_set (σ.set k none) j none u, set_swap (σ.set k none) u none h, set_set ((σ.set k none).set k none) j u none, set_set σ k none none]
/-- over a list of ints with their places, each giving an int -/
theorem lc_enumI {a : Addr} {ns : List Int} {j k : Nat} (f : Nat → Int → Int) (hjk : j ≠ k) (hx : SqL K H a (ns.map V.int)) (hz : ns.length < 1000000)
    (he : ∀ i x, ns[i]? = some x → ∀ H1, Ex H H1 → ∀ Q' : VK, (∀ H2, Ex H1 H2 → Q' (.int (f i x)) H2) → te (((wipe σ [j, k]).set j (some (.int (i : Int)))).set k (some (.int x))) H1 Q')
    (q : ∀ p H', H p = none → Ex H H' → H' p = some (.lst (((List.range ns.length).map fun i => f i (ML.cf ns i)).map V.int)) → Q (.ref p) H') : Lc (Ite K a) (gTup K 2 (gCons (gName j) (gCons (gName k) gNil))) tYes te [j, k] σ H Q := fun D hD => by
  refine ⟨fun i m H' => m = ns.length - i ∧ i ≤ ns.length ∧ Ex H H' ∧ H' D = some (.lst (((List.range i).map fun i => f i (ML.cf ns i)).map V.int)), ⟨ns.length, by simp, Nat.zero_le _, Evl.Ex.new hD, upd_same⟩, ?_⟩
  rintro i m H1 ⟨rfl, hi, e1, h1⟩
  have hx1 := e1.l hx
  by_cases hlt : i < ns.length
  · have hget : (ns.map V.int)[i]? = some (.int (ML.cf ns i)) := by rw [List.getElem?_map, ML.cf_getElem? hlt]; rfl
    refine .inr ⟨⟨ns.map V.int, _, hx1, hget⟩, fun H' => i + 1 ≤ ns.length ∧ Ex H H' ∧ H' D = some (.lst (((List.range (i + 1)).map fun i => f i (ML.cf ns i)).map V.int)), fun H' p' => ⟨ns.length - (i + 1), by omega, rfl, p'⟩, fun v H' y => ?_⟩
    obtain ⟨T, x, rfl, nT, rfl, y⟩ := y
    have ey := y (ns.map V.int) hx1
    rw [hget] at ey
    cases ey
    have e2 := Evl.Ex.new (o := .tup [.int (i : Int), .int (ML.cf ns i)]) nT
    refine ⟨T, _, rfl, .inl (.inl upd_same), rfl, _, _, rfl, _, [], rfl, rfl, wipe2 _ _ σ hjk, ?_⟩
    refine he i (ML.cf ns i) (ML.cf_getElem? hlt) _ (e1.trans e2) _ fun H2 e3 => ⟨_, e3 D _ (e2 D _ h1), ?_, hlt, Evl.Ex.mut ((e1.trans e2).trans e3) hD, ?_⟩
    · rw [List.length_map, List.length_map, List.length_range]; exact small_lt (by omega)
    · rw [upd_same, List.range_succ, List.map_append, List.map_append]; rfl
  · have e : i = ns.length := by omega
    subst e
    exact .inl ⟨⟨_, hx1, by rw [List.length_map]; exact Nat.le_refl _⟩, q D H1 hD e1 h1⟩
theorem r_cEnumA {a : Addr} {xs : List V} {g : TG} {tt : TT} {vs : List Nat} (h : SqL K H a xs) (q : Lc (Ite K a) g tt te vs σ H Q) : ∃ (a' : Addr) (xs : List V), [V.ref a] = [.ref a'] ∧ SqL K H a' xs ∧ Lc (Ite K a') g tt te vs σ H Q := ⟨a, xs, rfl, h, q⟩
end
end RB

set_option linter.all false
/-! The determinant as the program reckons it. -/
namespace MT
open ML
/-- a cell -/
def at_ (M : List (List Int)) (i j : Nat) : Int := cf (M.getD i []) j
def pivL (M : List (List Int)) (k : Nat) : Nat := k + ((M.drop k).takeWhile (fun R => decide (cf R k = 0))).length
def clrRow (top : List Int) (k : Nat) (before : Int) (R : List Int) : List Int := (List.range R.length).map fun j => (cf top k * cf R j - cf R k * cf top j).fdiv before
def clrL (M : List (List Int)) (k : Nat) (before : Int) : List (List Int) := M.take (k + 1) ++ (M.drop (k + 1)).map (clrRow (M.getD k []) k before)
def swapL (M : List (List Int)) (i k : Nat) : List (List Int) := (M.set i (M.getD k [])).set k (M.getD i [])
/-- the rows as they stand when they are cleared -/
def swp (M : List (List Int)) (k : Nat) : List (List Int) := if pivL M k > k then swapL M k (pivL M k) else M
def sgn_ (M : List (List Int)) (k : Nat) (s : Int) : Int := if pivL M k > k then -s else s
def detG : Nat → Nat → List (List Int) → Int → Int → Int
  | 0, _, _, s, b => s * b
  | r + 1, k, M, s, b => if pivL M k = M.length then 0 else detG r (k + 1) (clrL (swp M k) k b) (sgn_ M k s) (at_ (clrL (swp M k) k b) k k)
def detL (M : List (List Int)) : Int := detG M.length 0 M 1 1
theorem pivL_ge (M : List (List Int)) (k : Nat) : k ≤ pivL M k := Nat.le_add_right ..
theorem pivL_le {M : List (List Int)} {k : Nat} (h : k ≤ M.length) : pivL M k ≤ M.length := by
  unfold pivL
  have : ((M.drop k).takeWhile (fun R => decide (cf R k = 0))).length ≤ (M.drop k).length := (List.takeWhile_sublist _).length_le
  rw [List.length_drop] at this
  omega
end MT
namespace MT
open ML
theorem swapL_len (M : List (List Int)) (i k : Nat) : (swapL M i k).length = M.length := by unfold swapL; simp
theorem swp_len (M : List (List Int)) (k : Nat) : (swp M k).length = M.length := by
  unfold swp
  split
  · exact swapL_len ..
  · rfl
theorem clrL_len (M : List (List Int)) (k : Nat) (b : Int) : (clrL M k b).length = M.length := by
  unfold clrL
  rw [List.length_append, List.length_map, List.length_take, List.length_drop]; omega
end MT

set_option linter.all false
/-! The determinant of at most two rows. -/
namespace MT
open ML
theorem detG_no {r k : Nat} {M : List (List Int)} {s b : Int} (h : pivL M k = M.length) : detG (r + 1) k M s b = 0 := by
  unfold detG; rw [if_pos h]
theorem detG_go {r k : Nat} {M : List (List Int)} {s b : Int} (h : pivL M k ≠ M.length) : detG (r + 1) k M s b = detG r (k + 1) (clrL (swp M k) k b) (sgn_ M k s) (at_ (clrL (swp M k) k b) k k) := by
  conv => lhs; unfold detG
  rw [if_neg h]
theorem swp_eq {k : Nat} {M : List (List Int)} (h : pivL M k = k) : swp M k = M := by
  unfold swp; rw [if_neg (by omega)]
theorem sgn_eq {k : Nat} {M : List (List Int)} {s : Int} (h : pivL M k = k) : sgn_ M k s = s := by
  unfold sgn_; rw [if_neg (by omega)]
theorem swp_gt {k i : Nat} {M : List (List Int)} (h : pivL M k = i) (h' : k < i) : swp M k = swapL M k i := by
  unfold swp; rw [h, if_pos (by omega)]
theorem sgn_gt {k i : Nat} {M : List (List Int)} {s : Int} (h : pivL M k = i) (h' : k < i) : sgn_ M k s = -s := by
  unfold sgn_; rw [h, if_pos (by omega)]
theorem detL_nil : detL [] = 1 := rfl
theorem pivL_cons (R : List Int) (M : List (List Int)) : pivL (R :: M) 0 = if cf R 0 = 0 then 1 + pivL M 0 else 0 := by
  unfold pivL
  rw [List.drop_zero, List.drop_zero, Nat.zero_add, Nat.zero_add, List.takeWhile_cons]
  by_cases h : cf R 0 = 0
  · rw [if_pos h, if_pos (by simpa using h), List.length_cons]; omega
  · rw [if_neg h, if_neg (by simpa using h)]; rfl
theorem pivL_nil : pivL [] 0 = 0 := rfl
theorem pivL_one (a : Int) : pivL [[a]] 0 = if a = 0 then 1 else 0 := by
  rw [pivL_cons, pivL_nil]; rfl
theorem clr1 (a : Int) (b : Int) : clrL [[a]] 0 b = [[a]] := rfl
theorem clr2 (a b c d : Int) : clrL [[a, b], [c, d]] 0 1 = [[a, b], [0, a * d - c * b]] := by
  show [[a, b], [(a * c - c * a).fdiv 1, (a * d - c * b).fdiv 1]] = _
  rw [Int.fdiv_one, Int.fdiv_one, Int.mul_comm c a, Int.sub_self]
theorem detL_one (a : Int) : detL [[a]] = a := by
  show detG 1 0 [[a]] 1 1 = a
  have e := pivL_one a
  by_cases h : a = 0
  · rw [if_pos h] at e
    rw [detG_no e, h]
  · rw [if_neg h] at e
    rw [detG_go (by rw [e]; show 0 ≠ 1; decide), swp_eq e, sgn_eq e, clr1]
    show 1 * a = a
    omega
theorem pivL_last (R : List Int) (x y : Int) : pivL [R, [x, y]] 1 = if y = 0 then 2 else 1 := by
  show 1 + (List.takeWhile _ [[x, y]]).length = _
  rw [List.takeWhile_cons]
  show 1 + (if decide (y = 0) = true then _ else _ : List (List Int)).length = _
  by_cases h : y = 0
  · rw [if_pos h, if_pos (by simpa using h)]; rfl
  · rw [if_neg h, if_neg (by simpa using h)]; rfl
theorem detG_last (R : List Int) (x y s b : Int) : detG 1 1 [R, [x, y]] s b = s * y := by
  have e := pivL_last R x y
  by_cases h : y = 0
  · rw [if_pos h] at e
    rw [detG_no e, h, Int.mul_zero]
  · rw [if_neg h] at e
    rw [detG_go (by rw [e]; show 1 ≠ 2; decide), swp_eq e, sgn_eq e]
    rfl
theorem pivL_two (a b c d : Int) : pivL [[a, b], [c, d]] 0 = if a = 0 then if c = 0 then 2 else 1 else 0 := by
  rw [pivL_cons, pivL_cons, pivL_nil]
  show (if a = 0 then 1 + (if c = 0 then 1 + 0 else 0) else 0) = _
  split
  · split <;> rfl
  · rfl
theorem detL_two (a b c d : Int) : detL [[a, b], [c, d]] = a * d - b * c := by
  show detG 2 0 [[a, b], [c, d]] 1 1 = _
  have e := pivL_two a b c d
  by_cases h1 : a = 0
  · rw [if_pos h1] at e
    by_cases h2 : c = 0
    · rw [if_pos h2] at e
      rw [detG_no e, h1, h2]; simp
    · rw [if_neg h2] at e
      rw [detG_go (by rw [e]; show 1 ≠ 2; decide), swp_gt e (by decide), sgn_gt e (by decide)]
      show detG 1 1 (clrL [[c, d], [a, b]] 0 1) (-1) _ = _
      rw [clr2, detG_last, h1]
      grind
  · rw [if_neg h1] at e
    rw [detG_go (by rw [e]; show 0 ≠ 2; decide), swp_eq e, sgn_eq e, clr2, detG_last]
    grind
/-- the rows that are cleared -/
theorem swp_two (a b c d : Int) (h : pivL [[a, b], [c, d]] 0 ≠ 2) : ∃ p q r s, swp [[a, b], [c, d]] 0 = [[p, q], [r, s]] ∧ ((p = a ∧ q = b ∧ r = c ∧ s = d) ∨ (p = c ∧ q = d ∧ r = a ∧ s = b)) ∧ p ≠ 0 := by
  have e := pivL_two a b c d
  by_cases h1 : a = 0
  · rw [if_pos h1] at e
    by_cases h2 : c = 0
    · rw [if_pos h2] at e
      exact absurd e h
    · rw [if_neg h2] at e
      exact ⟨c, d, a, b, by rw [swp_gt e (by decide)]; rfl, .inr ⟨rfl, rfl, rfl, rfl⟩, h2⟩
  · rw [if_neg h1] at e
    exact ⟨a, b, c, d, by rw [swp_eq e], .inl ⟨rfl, rfl, rfl, rfl⟩, h1⟩
end MT

set_option linter.all false
/-! Determinants, expanded along the first of the columns. -/
namespace DT
abbrev Row := Nat → Int
def ex (c : Nat) (F : List Row → Int) : List Row → List Row → Int
  | _, [] => 0
  | pre, r :: post => r c * F (pre ++ post) - ex c F (pre ++ [r]) post
def D : List Nat → List Row → Int
  | [], [] => 1
  | [], _ :: _ => 0
  | c :: cs, rs => ex c (D cs) [] rs
def Anti (F : List Row → Int) : Prop := ∀ a b r s, F (a ++ r :: s :: b) = - F (a ++ s :: r :: b)
theorem ex_anti1 {F : List Row → Int} (h : Anti F) (c : Nat) (p : List Row) (r s : Row) : ∀ (b q : List Row), ex c F (p ++ r :: s :: q) b = - ex c F (p ++ s :: r :: q) b
  | [], q => rfl
  | t :: b, q => by
    have ih := ex_anti1 h c p r s b (q ++ [t])
    have hF := h p (q ++ b) r s
    unfold ex
    simp only [List.append_assoc, List.cons_append, List.nil_append] at ih hF ⊢
    rw [ih, hF]
    grind
theorem ex_anti2 {F : List Row → Int} (h : Anti F) (c : Nat) (r s : Row) (b : List Row) : ∀ (a p : List Row), ex c F p (a ++ r :: s :: b) = - ex c F p (a ++ s :: r :: b)
  | [], p => by
    have h1 := ex_anti1 h c p r s b []
    simp only [List.nil_append, ex, List.append_assoc, List.cons_append] at h1 ⊢
    rw [h1]
    grind
  | t :: a, p => by
    have ih := ex_anti2 h c r s b a (p ++ [t])
    have hF := h (p ++ a) b r s
    simp only [List.cons_append, ex]
    simp only [List.append_assoc, List.cons_append, List.nil_append] at ih hF ⊢
    rw [ih, hF]
    grind
theorem anti : ∀ cs : List Nat, Anti (D cs)
  | [] => fun a b r s => by
    cases a <;> rfl
  | c :: cs => fun a b r s => ex_anti2 (anti cs) c r s b a []
def Lin (F : List Row → Int) : Prop := ∀ (a b : List Row) (x y : Row) (l : Int), F (a ++ (fun j => x j + l * y j) :: b) = F (a ++ x :: b) + l * F (a ++ y :: b)
theorem ex_lin1 {F : List Row → Int} (h : Lin F) (c : Nat) (p : List Row) (x y : Row) (l : Int) : ∀ (b q : List Row), ex c F (p ++ (fun j => x j + l * y j) :: q) b = ex c F (p ++ x :: q) b + l * ex c F (p ++ y :: q) b
  | [], q => by simp [ex]
  | t :: b, q => by
    have ih := ex_lin1 h c p x y l b (q ++ [t])
    have hF := h p (q ++ b) x y l
    unfold ex
    simp only [List.append_assoc, List.cons_append, List.nil_append] at ih hF ⊢
    rw [ih, hF]
    grind
theorem ex_lin2 {F : List Row → Int} (h : Lin F) (c : Nat) (x y : Row) (l : Int) (b : List Row) : ∀ (a p : List Row), ex c F p (a ++ (fun j => x j + l * y j) :: b) = ex c F p (a ++ x :: b) + l * ex c F p (a ++ y :: b)
  | [], p => by
    have h1 := ex_lin1 h c p x y l b []
    simp only [List.nil_append, ex] at h1 ⊢
    rw [h1]
    grind
  | t :: a, p => by
    have ih := ex_lin2 h c x y l b a (p ++ [t])
    have hF := h (p ++ a) b x y l
    simp only [List.cons_append, ex]
    simp only [List.append_assoc, List.cons_append, List.nil_append] at ih hF ⊢
    rw [ih, hF]
    grind
theorem lin : ∀ cs : List Nat, Lin (D cs)
  | [] => fun a b x y l => by
    cases a <;> simp [D]
  | c :: cs => fun a b x y l => ex_lin2 (lin cs) c x y l b a []
/-- a row moved over others -/
theorem moved (cs : List Nat) (r : Row) (c : List Row) : ∀ (b a : List Row), D cs (a ++ r :: (b ++ c)) = (-1) ^ b.length * D cs (a ++ (b ++ r :: c))
  | [], a => by simp
  | t :: b, a => by
    have ih := moved cs r c b (a ++ [t])
    have h := anti cs a (b ++ c) r t
    simp only [List.append_assoc, List.cons_append, List.nil_append] at ih h ⊢
    rw [h, ih, List.length_cons, Int.pow_succ]
    grind
theorem alike0 (cs : List Nat) (a b : List Row) (r : Row) : D cs (a ++ r :: r :: b) = 0 := by
  have := anti cs a b r r
  omega
theorem alike (cs : List Nat) (a b c : List Row) (r : Row) : D cs (a ++ r :: (b ++ r :: c)) = 0 := by
  have h := moved cs r (r :: c) b a
  have h2 := alike0 cs (a ++ b) c r
  simp only [List.append_assoc] at h2
  rw [h, h2, Int.mul_zero]
theorem add_before (cs : List Nat) (a b c : List Row) (x y : Row) (l : Int) : D cs (a ++ y :: (b ++ (fun j => x j + l * y j) :: c)) = D cs (a ++ y :: (b ++ x :: c)) := by
  have h := lin cs (a ++ y :: b) c x y l
  simp only [List.append_assoc, List.cons_append] at h
  rw [h, alike]
  omega
theorem add_after (cs : List Nat) (a b c : List Row) (x y : Row) (l : Int) : D cs (a ++ (fun j => x j + l * y j) :: (b ++ y :: c)) = D cs (a ++ x :: (b ++ y :: c)) := by
  rw [lin cs a (b ++ y :: c) x y l, alike]
  omega
theorem swapped (cs : List Nat) (a b c : List Row) (r s : Row) : D cs (a ++ r :: (b ++ s :: c)) = - D cs (a ++ s :: (b ++ r :: c)) := by
  -- (r + s) twice
  have h := alike cs a b c (fun j => r j + 1 * s j)
  rw [lin cs a _ r s 1] at h
  have h1 := lin cs (a ++ r :: b) c r s 1
  have h2 := lin cs (a ++ s :: b) c r s 1
  simp only [List.append_assoc, List.cons_append] at h1 h2
  rw [h1, h2, alike, alike] at h
  omega
theorem ex_zero (c : Nat) (F : List Row → Int) : ∀ (us p : List Row), (∀ u ∈ us, u c = 0) → ex c F p us = 0
  | [], _, _ => rfl
  | u :: us, p, h => by
    unfold ex
    rw [h u (List.mem_cons_self ..), ex_zero c F us _ fun v hv => h v (List.mem_cons_of_mem _ hv)]
    omega
theorem block (ds : List Nat) (us : List Row) : ∀ (cs : List Nat) (as : List Row), as.length = cs.length → (∀ u ∈ us, ∀ c ∈ cs, u c = 0) → D (cs ++ ds) (as ++ us) = D cs as * D ds us
  | [], [], _, _ => by simp [D]
  | c :: cs, as, hl, h => by
    have ih := block ds us cs
    have hu : ∀ u ∈ us, ∀ d ∈ cs, u d = 0 := fun u hu d hd => h u hu d (List.mem_cons_of_mem _ hd)
    have aux : ∀ (post pre : List Row), pre.length + post.length = cs.length + 1 → ex c (D (cs ++ ds)) pre (post ++ us) = ex c (D cs) pre post * D ds us := by
      intro post
      induction post with
      | nil =>
        intro pre _
        rw [List.nil_append, ex_zero c _ us pre fun u hu' => h u hu' c (List.mem_cons_self ..)]
        show 0 = 0 * _
        rw [Int.zero_mul]
      | cons r post ih2 =>
        intro pre hp
        rw [List.length_cons] at hp
        rw [List.cons_append]
        unfold ex
        rw [ih2 (pre ++ [r]) (by rw [List.length_append, List.length_singleton]; omega), ← List.append_assoc, ih (pre ++ post) (by rw [List.length_append]; omega) hu]
        grind
    exact aux as [] (by rw [List.length_nil, hl, List.length_cons]; omega)
theorem one (j : Nat) (u : Row) : D [j] [u] = u j := by simp [D, ex]
theorem two (i j : Nat) (u v : Row) : D [i, j] [u, v] = u i * v j - v i * u j := by simp [D, ex]
/-- a bound -/
theorem ex_bound {c : Nat} {F : List Row → Int} {L B m : Nat} : ∀ (post pre : List Row), pre.length + post.length ≤ L + 1 → (∀ r ∈ post, (r c).natAbs ≤ B) → (∀ q, q.Sublist (pre ++ post) → q.length ≤ L → (F q).natAbs ≤ m) → (ex c F pre post).natAbs ≤ post.length * (B * m)
  | [], pre, _, _, _ => by simp [ex]
  | r :: post, pre, hl, hB, hF => by
    have ih := ex_bound (c := c) (F := F) (L := L) (B := B) (m := m) post (pre ++ [r]) (by rw [List.length_append, List.length_singleton]; rw [List.length_cons] at hl; omega) (fun s hs => hB s (List.mem_cons_of_mem _ hs)) (fun q hq hl' => hF q (by simpa using hq) hl')
    have h1 := hF (pre ++ post) (List.Sublist.append (List.Sublist.refl _) (List.sublist_cons_self ..)) (by rw [List.length_append]; rw [List.length_cons] at hl; omega)
    have h2 := hB r (List.mem_cons_self ..)
    unfold ex
    rw [List.length_cons, Nat.add_mul, Nat.one_mul]
    have h3 : (r c * F (pre ++ post)).natAbs ≤ B * m := by rw [Int.natAbs_mul]; exact Nat.mul_le_mul h2 h1
    omega
theorem bound {L B : Nat} (hL : 1 ≤ L) : ∀ (cs : List Nat) (rs : List Row), rs.length ≤ L → (∀ r ∈ rs, ∀ c ∈ cs, (r c).natAbs ≤ B) → (D cs rs).natAbs ≤ (L * B) ^ cs.length
  | [], [], _, _ => by simp [D]
  | [], _ :: _, _, _ => by simp [D]
  | c :: cs, rs, hl, h => by
    have ih := bound hL (B := B) cs
    have hh := ex_bound (c := c) (F := D cs) (L := L) (B := B) (m := (L * B) ^ cs.length) rs [] (by rw [List.length_nil]; omega) (fun r hr => h r hr c (List.mem_cons_self ..)) (fun q hq hl' => ih q hl' fun r hr d hd => h r (hq.subset (by simpa using hr)) d (List.mem_cons_of_mem _ hd))
    rw [List.length_cons, Nat.pow_succ]
    refine Nat.le_trans hh ?_
    calc rs.length * (B * (L * B) ^ cs.length) ≤ L * (B * (L * B) ^ cs.length) := Nat.mul_le_mul_right _ hl
      _ = (L * B) ^ cs.length * (L * B) := by rw [← Nat.mul_assoc, Nat.mul_comm]
end DT

set_option linter.all false
/-! The program's determinant is the determinant. -/
namespace DT
open ML MT
theorem getD_sw (M : List (List Int)) (k p j : Nat) (hk : k < M.length) (hp : p < M.length) : (swapL M k p).getD j [] = if j = p then M.getD k [] else if j = k then M.getD p [] else M.getD j [] := by
  unfold swapL
  simp only [List.getD_eq_getElem?_getD, List.getElem?_set, List.length_set]
  by_cases h1 : j = p
  · subst h1; simp [hp]
  · have h1' : ¬ p = j := fun z => h1 z.symm
    by_cases h2 : j = k
    · subst h2; simp [hk, h1, h1']
    · have h2' : ¬ k = j := fun z => h2 z.symm
      simp [h1, h1', h2, h2']
theorem split2 {α : Type} (A : List α) (k p : Nat) (h : k < p) (hp : p < A.length) : ∃ a r b s c, A = a ++ r :: (b ++ s :: c) ∧ a.length = k ∧ a.length + (1 + b.length) = p := by
  refine ⟨A.take k, A[k], (A.drop (k + 1)).take (p - k - 1), A[p], A.drop (p + 1), ?_, ?_, ?_⟩
  · conv => lhs; rw [← List.take_append_drop k A, List.drop_eq_getElem_cons (show k < A.length by omega), ← List.take_append_drop (p - k - 1) (A.drop (k + 1)), List.drop_drop, show k + 1 + (p - k - 1) = p by omega, List.drop_eq_getElem_cons hp]
  · rw [List.length_take]; omega
  · rw [List.length_take, List.length_take, List.length_drop]; omega
theorem swap_split (a b c : List (List Int)) (r s : List Int) : swapL (a ++ r :: (b ++ s :: c)) a.length (a.length + (1 + b.length)) = a ++ s :: (b ++ r :: c) := by
  unfold swapL
  have e1 : (a ++ r :: (b ++ s :: c)).getD (a.length + (1 + b.length)) [] = s := by
    rw [List.getD_eq_getElem?_getD, List.getElem?_append_right (by omega), show a.length + (1 + b.length) - a.length = b.length + 1 by omega, List.getElem?_cons_succ, List.getElem?_append_right (by omega), Nat.sub_self]
    rfl
  have e2 : (a ++ r :: (b ++ s :: c)).getD a.length [] = r := by
    rw [List.getD_eq_getElem?_getD, List.getElem?_append_right (by omega), Nat.sub_self]
    rfl
  rw [e1, e2, List.set_append_right _ _ (Nat.le_refl _), Nat.sub_self, List.set_cons_zero, List.set_append_right _ _ (by omega), show a.length + (1 + b.length) - a.length = b.length + 1 by omega, List.set_cons_succ, List.set_append_right _ _ (by omega), Nat.sub_self, List.set_cons_zero]
/-- two rows change places -/
theorem D_swap {A : List (List Int)} {k p : Nat} (h : k < p) (hp : p < A.length) (cs : List Nat) : D cs ((swapL A k p).map cf) = - D cs (A.map cf) := by
  obtain ⟨a, r, b, s, c, e, h1, h2⟩ := split2 A k p h hp
  rw [e, ← h1, ← h2, swap_split]
  simp only [List.map_append, List.map_cons]
  rw [swapped]
theorem take_swap {A : List (List Int)} {k p : Nat} (h : k < p) (hp : p < A.length) : (swapL A k p).take k = A.take k := by
  obtain ⟨a, r, b, s, c, e, h1, h2⟩ := split2 A k p h hp
  rw [e, ← h1, ← h2, swap_split, List.take_left, List.take_left]
theorem mem_swap {A : List (List Int)} {k p : Nat} (h : k < p) (hp : p < A.length) {R : List Int} (hR : R ∈ swapL A k p) : R ∈ A := by
  obtain ⟨a, r, b, s, c, e, h1, h2⟩ := split2 A k p h hp
  rw [e, ← h1, ← h2, swap_split] at hR
  rw [e]
  simp only [List.mem_append, List.mem_cons] at hR ⊢
  rcases hR with h | h | h | h | h
  · exact .inl h
  · exact .inr (.inr (.inr (.inl h)))
  · exact .inr (.inr (.inl h))
  · exact .inr (.inl h)
  · exact .inr (.inr (.inr (.inr h)))
theorem sum_swap {A : List (List Int)} {w : List Int → Nat} {k p : Nat} (h : k < p) (hp : p < A.length) : ((swapL A k p).map w).sum = (A.map w).sum := by
  obtain ⟨a, r, b, s, c, e, h1, h2⟩ := split2 A k p h hp
  rw [e, ← h1, ← h2, swap_split]
  simp only [List.map_append, List.map_cons, List.sum_append, List.sum_cons]
  omega
theorem sum_sub (w : List Int → Nat) {a b : List (List Int)} (h : a.Sublist b) : (a.map w).sum ≤ (b.map w).sum := by
  induction h with
  | slnil => exact Nat.le_refl _
  | cons x _ ih => rw [List.map_cons, List.sum_cons]; omega
  | cons_cons x _ ih => rw [List.map_cons, List.map_cons, List.sum_cons, List.sum_cons]; omega
theorem ex_boundW {c : Nat} {F : List Row → Int} {L m : Nat} (w : List Int → Nat) : ∀ (post pre : List (List Int)), pre.length + post.length ≤ L + 1 → (∀ R ∈ post, (cf R c).natAbs ≤ 2 ^ w R) → (∀ q : List (List Int), q.Sublist (pre ++ post) → q.length ≤ L → (F (q.map cf)).natAbs ≤ m * 2 ^ (q.map w).sum) → (ex c F (pre.map cf) (post.map cf)).natAbs ≤ post.length * (m * 2 ^ ((pre ++ post).map w).sum)
  | [], pre, _, _, _ => by simp [ex]
  | r :: post, pre, hl, hB, hF => by
    have ih := ex_boundW (c := c) (F := F) (L := L) (m := m) w post (pre ++ [r]) (by rw [List.length_append, List.length_singleton]; rw [List.length_cons] at hl; omega) (fun s hs => hB s (List.mem_cons_of_mem _ hs)) (fun q hq hl' => hF q (by simpa using hq) hl')
    have h1 := hF (pre ++ post) (List.Sublist.append (List.Sublist.refl _) (List.sublist_cons_self ..)) (by rw [List.length_append]; rw [List.length_cons] at hl; omega)
    have h2 := hB r (List.mem_cons_self ..)
    rw [List.map_cons, List.length_cons, Nat.add_mul, Nat.one_mul]
    unfold ex
    rw [List.map_append] at h1
    have e1 : List.map cf (pre ++ [r]) = List.map cf pre ++ [cf r] := by rw [List.map_append]; rfl
    rw [e1] at ih
    have e2 : pre ++ [r] ++ post = pre ++ r :: post := by simp
    rw [e2] at ih
    have h3 : (cf r c * F (List.map cf pre ++ List.map cf post)).natAbs ≤ m * 2 ^ ((pre ++ r :: post).map w).sum := by
      rw [Int.natAbs_mul]
      refine Nat.le_trans (Nat.mul_le_mul h2 h1) (Nat.le_of_eq ?_)
      simp only [List.map_append, List.map_cons, List.sum_append, List.sum_cons]
      rw [show (pre.map w).sum + (w r + (post.map w).sum) = w r + ((pre.map w).sum + (post.map w).sum) by omega, Nat.pow_add 2 (w r)]
      rw [Nat.mul_left_comm]
    omega
theorem boundW {L : Nat} (w : List Int → Nat) : ∀ (cs : List Nat) (rs : List (List Int)), rs.length ≤ L → (∀ R ∈ rs, ∀ c, (cf R c).natAbs ≤ 2 ^ w R) → (D cs (rs.map cf)).natAbs ≤ L ^ cs.length * 2 ^ (rs.map w).sum
  | [], [], _, _ => by simp [D]
  | [], _ :: _, _, _ => by simp [D]
  | c :: cs, rs, hl, h => by
    have ih := boundW (L := L) w cs
    have hh := ex_boundW (c := c) (F := D cs) (L := L) (m := L ^ cs.length) w rs [] (by rw [List.length_nil]; omega) (fun r hr => h r hr c) (fun q hq hl' => ih q hl' fun r hr d => h r (hq.subset (by simpa using hr)) d)
    rw [List.length_cons, Nat.pow_succ]
    refine Nat.le_trans hh ?_
    rw [List.nil_append, ← Nat.mul_assoc, Nat.mul_comm (L ^ cs.length) L]
    exact Nat.mul_le_mul_right _ (Nat.mul_le_mul_right _ hl)
theorem pivL_all {M : List (List Int)} {k : Nat} (hk : k ≤ M.length) (h : pivL M k = M.length) : ∀ i, k ≤ i → i < M.length → cf (M.getD i []) k = 0 := by
  unfold pivL at h
  have aux : ∀ (L : List (List Int)), (L.takeWhile (fun R => decide (cf R k = 0))).length = L.length → ∀ R ∈ L, cf R k = 0 := by
    intro L
    induction L with
    | nil => intro _ R hR; cases hR
    | cons R L ih =>
      intro e S hS
      rw [List.takeWhile_cons] at e
      by_cases hz : cf R k = 0
      · rw [if_pos (by simpa using hz), List.length_cons, List.length_cons] at e
        rcases List.mem_cons.mp hS with rfl | hS
        · exact hz
        · exact ih (by omega) S hS
      · rw [if_neg (by simpa using hz)] at e
        simp at e
  intro i h1 h2
  refine aux (M.drop k) (by rw [List.length_drop]; omega) _ ?_
  rw [List.getD_eq_getElem?_getD, List.getElem?_eq_getElem h2]
  rw [List.mem_drop_iff_getElem]
  exact ⟨i - k, by omega, by congr 1; omega⟩
theorem pivL_at {M : List (List Int)} {k : Nat} (hk : k ≤ M.length) (h : pivL M k ≠ M.length) : cf (M.getD (pivL M k) []) k ≠ 0 := by
  have aux : ∀ (L : List (List Int)), (L.takeWhile (fun R => decide (cf R k = 0))).length ≠ L.length → cf (L.getD (L.takeWhile (fun R => decide (cf R k = 0))).length []) k ≠ 0 := by
    intro L
    induction L with
    | nil => intro h; exact absurd rfl h
    | cons R L ih =>
      intro e
      rw [List.takeWhile_cons] at e ⊢
      by_cases hz : cf R k = 0
      · rw [if_pos (by simpa using hz), List.length_cons, List.length_cons] at e
        rw [if_pos (by simpa using hz), List.length_cons]
        exact ih (by omega)
      · rw [if_neg (by simpa using hz)]
        exact hz
  have h1 := aux (M.drop k) (by unfold pivL at h; rw [List.length_drop]; omega)
  have e : (M.drop k).getD ((M.drop k).takeWhile (fun R => decide (cf R k = 0))).length [] = M.getD (pivL M k) [] := by
    rw [List.getD_eq_getElem?_getD, List.getD_eq_getElem?_getD, List.getElem?_drop]; rfl
  rw [e] at h1
  exact h1
/-- what holds at each step -/
structure Inv (n W k : Nat) (w : List Int → Nat) (A M : List (List Int)) (b : Int) : Prop where
  lA : A.length = n
  lM : M.length = n
  wd : ∀ R ∈ M, R.length = n
  hb : D (List.range k) ((A.take k).map cf) = b
  b0 : b ≠ 0
  z : ∀ i, k ≤ i → i < n → ∀ j, j < k → cf (M.getD i []) j = 0
  rel : ∀ i, k ≤ i → i < n → ∀ cs t, D cs ((A.take k).map cf ++ cf (M.getD i []) :: t) = b * D cs ((A.take k).map cf ++ cf (A.getD i []) :: t)
  sA : ∀ R ∈ A, ∀ j, (cf R j).natAbs ≤ 2 ^ w R
  tot : (A.map w).sum ≤ W
  sM : ∀ R ∈ M, ∀ j, (cf R j).natAbs ≤ n ^ n * 2 ^ W
theorem mem_getD {M : List (List Int)} {i : Nat} (h : i < M.length) : M.getD i [] ∈ M := by
  rw [List.getD_eq_getElem?_getD, List.getElem?_eq_getElem h]
  exact List.getElem_mem h
theorem Inv.swap {n W k p : Nat} {w : List Int → Nat} {A M : List (List Int)} {b : Int} (h : Inv n W k w A M b) (hk : k < p) (hp : p < n) : Inv n W k w (swapL A k p) (swapL M k p) b := by
  have lA := h.lA
  have lM := h.lM
  have tA := take_swap (A := A) hk (by omega)
  refine ⟨by rw [swapL_len, lA], by rw [swapL_len, lM], fun R hR => h.wd R (mem_swap hk (by omega) hR), by rw [tA]; exact h.hb, h.b0, ?_, ?_, fun R hR => h.sA R (mem_swap hk (by omega) hR), by rw [sum_swap hk (by omega)]; exact h.tot, fun R hR => h.sM R (mem_swap hk (by omega) hR)⟩
  · intro i h1 h2 j hj
    rw [getD_sw M k p i (by omega) (by omega)]
    split
    · exact h.z k (by omega) (by omega) j hj
    · split
      · exact h.z p (by omega) (by omega) j hj
      · exact h.z i h1 h2 j hj
  · intro i h1 h2 cs t
    rw [tA, getD_sw M k p i (by omega) (by omega), getD_sw A k p i (by omega) (by omega)]
    split
    · exact h.rel k (by omega) (by omega) cs t
    · split
      · exact h.rel p (by omega) (by omega) cs t
      · exact h.rel i h1 h2 cs t
theorem cf_clrRow {top R : List Int} (k : Nat) (b : Int) (hl : top.length = R.length) (j : Nat) : cf (clrRow top k b R) j = (cf top k * cf R j - cf R k * cf top j).fdiv b := by
  by_cases h : j < R.length
  · rw [show cf (clrRow top k b R) j = _ from cf_some (x := (cf top k * cf R j - cf R k * cf top j).fdiv b) (by unfold clrRow; rw [List.getElem?_map, List.getElem?_range h]; rfl)]
  · rw [cf_beyond (P := clrRow top k b R) (by unfold clrRow; rw [List.length_map, List.length_range]; omega), cf_beyond (P := R) (k := j) (by omega), cf_beyond (P := top) (k := j) (by omega)]
    simp
theorem getD_clr {M : List (List Int)} {k : Nat} {b : Int} (i : Nat) (hk : k < M.length) (hi : i < M.length) : (clrL M k b).getD i [] = if i ≤ k then M.getD i [] else clrRow (M.getD k []) k b (M.getD i []) := by
  unfold clrL
  rw [List.getD_eq_getElem?_getD]
  split
  · rw [List.getElem?_append_left (by rw [List.length_take]; omega), List.getElem?_take, if_pos (by omega), List.getD_eq_getElem?_getD]
  · rw [List.getElem?_append_right (by rw [List.length_take]; omega), List.length_take, List.getElem?_map, List.getElem?_drop, show k + 1 + (i - min (k + 1) M.length) = i by omega, List.getD_eq_getElem?_getD (l := M) (i := i), List.getElem?_eq_getElem hi]
    rfl
theorem take_one {A : List (List Int)} {k : Nat} (hk : k < A.length) : (A.take (k + 1)).map cf = (A.take k).map cf ++ [cf (A.getD k [])] := by
  rw [List.take_add_one, List.map_append, List.getD_eq_getElem?_getD, List.getElem?_eq_getElem hk]
  rfl
theorem Inv.as_len {n W k : Nat} {w : List Int → Nat} {A M : List (List Int)} {b : Int} (h : Inv n W k w A M b) (hk : k ≤ n) : ((A.take k).map cf).length = (List.range k).length := by
  rw [List.length_map, List.length_take, List.length_range, h.lA]; omega
/-- the pivot is the next first minor -/
theorem Inv.pivot {n W k : Nat} {w : List Int → Nat} {A M : List (List Int)} {b : Int} (h : Inv n W k w A M b) (hk : k < n) : D (List.range (k + 1)) ((A.take (k + 1)).map cf) = at_ M k k := by
  have lA := h.lA
  rw [take_one (by omega), List.range_succ]
  have h1 := h.rel k (Nat.le_refl _) hk (List.range k ++ [k]) []
  rw [block [k] [cf (M.getD k [])] (List.range k) _ (h.as_len (by omega)) (fun u hu c hc => by
    rw [List.mem_singleton] at hu
    subst hu
    exact h.z k (Nat.le_refl _) hk c (List.mem_range.mp hc)), h.hb, one] at h1
  exact (Int.eq_of_mul_eq_mul_left h.b0 h1).symm
/-- the division has no rest: what comes is a minor -/
theorem Inv.exact {n W k i : Nat} {w : List Int → Nat} {A M : List (List Int)} {b : Int} (h : Inv n W k w A M b) (hk : k < n) (hi : k < i) (hin : i < n) (j : Nat) : cf (M.getD k []) k * cf (M.getD i []) j - cf (M.getD i []) k * cf (M.getD k []) j = b * D (List.range k ++ [k, j]) ((A.take k).map cf ++ [cf (A.getD k []), cf (A.getD i [])]) := by
  have h1 := block [k, j] [cf (M.getD k []), cf (M.getD i [])] (List.range k) _ (h.as_len (by omega)) (fun u hu c hc => by
    simp only [List.mem_cons, List.not_mem_nil, or_false] at hu
    rcases hu with rfl | rfl
    · exact h.z k (Nat.le_refl _) hk c (List.mem_range.mp hc)
    · exact h.z i (by omega) hin c (List.mem_range.mp hc))
  rw [h.hb, two, h.rel k (Nat.le_refl _) hk, anti, h.rel i (by omega) hin, anti] at h1
  have b0 := h.b0
  refine Int.eq_of_mul_eq_mul_left b0 ?_
  rw [← h1]
  grind
theorem Inv.step {n W k : Nat} {w : List Int → Nat} {A M : List (List Int)} {b : Int} (h : Inv n W k w A M b) (hk : k < n) (hp : at_ M k k ≠ 0) : Inv n W (k + 1) w A (clrL M k b) (at_ M k k) := by
  have lA := h.lA
  have lM := h.lM
  have b0 := h.b0
  have wk : (M.getD k []).length = n := h.wd _ (mem_getD (by omega))
  have ent : ∀ i, k < i → i < n → ∀ j, cf (clrRow (M.getD k []) k b (M.getD i [])) j = D (List.range k ++ [k, j]) ((A.take k).map cf ++ [cf (A.getD k []), cf (A.getD i [])]) := by
    intro i h1 h2 j
    rw [cf_clrRow k b (by rw [wk, h.wd _ (mem_getD (show i < M.length by omega))]) j, h.exact hk h1 h2 j, Int.mul_fdiv_cancel_left _ b0]
  have bent : ∀ i, k < i → i < n → ∀ j, b * cf (clrRow (M.getD k []) k b (M.getD i [])) j = cf (M.getD k []) k * cf (M.getD i []) j - cf (M.getD i []) k * cf (M.getD k []) j := by
    intro i h1 h2 j
    rw [ent i h1 h2 j, h.exact hk h1 h2 j]
  refine ⟨lA, by rw [clrL_len, lM], ?_, h.pivot hk, hp, ?_, ?_, h.sA, h.tot, ?_⟩
  · intro R hR
    unfold clrL at hR
    rcases List.mem_append.mp hR with hR | hR
    · exact h.wd R (List.mem_of_mem_take hR)
    · obtain ⟨S, hS, rfl⟩ := List.mem_map.mp hR
      unfold clrRow
      rw [List.length_map, List.length_range]
      exact h.wd S (List.mem_of_mem_drop hS)
  · intro i h1 h2 j hj
    rw [getD_clr i (by omega) (by omega), if_neg (by omega)]
    have e := bent i (by omega) h2 j
    have : cf (M.getD k []) k * cf (M.getD i []) j - cf (M.getD i []) k * cf (M.getD k []) j = 0 := by
      by_cases hjk : j = k
      · subst hjk; rw [Int.mul_comm]; omega
      · rw [h.z i (by omega) h2 j (by omega), h.z k (Nat.le_refl _) hk j (by omega)]; simp
    rw [this] at e
    exact (Int.mul_eq_zero.mp e).resolve_left b0
  · intro i h1 h2 cs t
    rw [getD_clr i (by omega) (by omega), if_neg (by omega), take_one (by omega)]
    simp only [List.append_assoc, List.cons_append, List.nil_append]
    have e1 : (fun j => b * cf (clrRow (M.getD k []) k b (M.getD i [])) j) = fun j => (fun j => cf (M.getD k []) k * cf (M.getD i []) j) j + (-cf (M.getD i []) k) * cf (M.getD k []) j := by
      funext j
      rw [bent i (by omega) h2 j]
      grind
    have sc : ∀ (l : Int) (x : Row) (a : List Row), D cs (a ++ (fun j => l * x j) :: t) = l * D cs (a ++ x :: t) := by
      intro l x a
      have h1 := lin cs a t x x (l - 1)
      have e : (fun j => x j + (l - 1) * x j) = fun j => l * x j := by funext j; grind
      rw [e] at h1
      rw [h1]; grind
    have key := sc b (cf (clrRow (M.getD k []) k b (M.getD i []))) ((A.take k).map cf ++ [cf (A.getD k [])])
    rw [e1, lin, sc] at key
    simp only [List.append_assoc, List.cons_append, List.nil_append] at key
    rw [anti cs _ t (cf (A.getD k [])) (cf (M.getD i [])), anti cs _ t (cf (A.getD k [])) (cf (M.getD k [])), h.rel i (by omega) h2, h.rel k (Nat.le_refl _) hk, alike0, anti cs _ t (cf (A.getD i [])) (cf (A.getD k []))] at key
    have := Int.eq_of_mul_eq_mul_left b0 (a := b) (b := b) rfl
    refine Int.eq_of_mul_eq_mul_left b0 ?_
    rw [← key]
    show _ = b * (at_ M k k * _)
    unfold at_
    grind
  · intro R hR j
    unfold clrL at hR
    rcases List.mem_append.mp hR with hR | hR
    · exact h.sM R (List.mem_of_mem_take hR) j
    · obtain ⟨S, hS, rfl⟩ := List.mem_map.mp hR
      obtain ⟨i, hi, hSi⟩ := List.mem_iff_getElem.mp hS
      rw [List.length_drop] at hi
      have e : S = M.getD (k + 1 + i) [] := by
        rw [← hSi, List.getElem_drop, List.getD_eq_getElem?_getD, List.getElem?_eq_getElem (by omega)]; rfl
      rw [e, ent (k + 1 + i) (by omega) (by omega) j]
      have hsub : (A.take k ++ [A.getD k [], A.getD (k + 1 + i) []]).Sublist A := by
        have e1 : A = A.take k ++ (A.getD k [] :: ((A.drop (k + 1)).take i ++ (A.getD (k + 1 + i) [] :: A.drop (k + 1 + i + 1)))) := by
          conv => lhs; rw [← List.take_append_drop k A, List.drop_eq_getElem_cons (show k < A.length by omega), ← List.take_append_drop i (A.drop (k + 1)), List.drop_drop, List.drop_eq_getElem_cons (show k + 1 + i < A.length by omega)]
          rw [List.getD_eq_getElem?_getD, List.getD_eq_getElem?_getD, List.getElem?_eq_getElem (show k < A.length by omega), List.getElem?_eq_getElem (show k + 1 + i < A.length by omega)]
          rfl
        conv => rhs; rw [e1]
        refine List.Sublist.append (List.Sublist.refl _) (List.Sublist.cons_cons _ ?_)
        exact List.Sublist.trans (List.Sublist.cons_cons _ (List.nil_sublist _)) (List.sublist_append_right _ _)
      have hb := boundW (L := n) w (List.range k ++ [k, j]) (A.take k ++ [A.getD k [], A.getD (k + 1 + i) []]) (by rw [List.length_append, List.length_take]; show min k A.length + 2 ≤ n; omega) (fun R hR c => h.sA R (hsub.subset hR) c)
      rw [List.map_append] at hb
      refine Nat.le_trans hb (Nat.mul_le_mul ?_ (Nat.pow_le_pow_right (by decide) (Nat.le_trans (sum_sub w hsub) h.tot)))
      refine Nat.pow_le_pow_right (by omega) ?_
      rw [List.length_append, List.length_range]; show k + 2 ≤ n; omega
/-- lists of rows, pair by pair -/
def All2 (P : Row → Row → Prop) : List Row → List Row → Prop
  | [], [] => True
  | e :: es, a :: as => P e a ∧ All2 P es as
  | _, _ => False
theorem rel_mid {as : List Row} {b : Int} {e a : Row} (h : ∀ cs t, D cs (as ++ e :: t) = b * D cs (as ++ a :: t)) (cs : List Nat) (mid t : List Row) : D cs (as ++ (mid ++ e :: t)) = b * D cs (as ++ (mid ++ a :: t)) := by
  have h1 := moved cs e t mid as
  have h2 := moved cs a t mid as
  rw [h cs (mid ++ t), h2] at h1
  have s : ((-1 : Int) ^ mid.length) ≠ 0 := Int.pow_ne_zero (by decide)
  refine Int.eq_of_mul_eq_mul_left s ?_
  rw [← h1]; grind
theorem rel_all {as : List Row} {b : Int} (cs : List Nat) : ∀ (es aas mid : List Row), All2 (fun e a => ∀ cs t, D cs (as ++ e :: t) = b * D cs (as ++ a :: t)) es aas → D cs (as ++ (mid ++ es)) = b ^ es.length * D cs (as ++ (mid ++ aas))
  | [], [], mid, _ => by simp
  | e :: es, a :: aas, mid, h => by
    have ih := rel_all cs es aas (mid ++ [a]) h.2
    have h1 := rel_mid h.1 cs mid es
    simp only [List.append_assoc, List.cons_append, List.nil_append] at ih
    rw [h1, ih, List.length_cons, Int.pow_succ]; grind
theorem all2_drop {P : Row → Row → Prop} {A M : List (List Int)} {n : Nat} (lA : A.length = n) (lM : M.length = n) : ∀ (d k : Nat), k + d = n → (∀ i, k ≤ i → i < n → P (cf (M.getD i [])) (cf (A.getD i []))) → All2 P ((M.drop k).map cf) ((A.drop k).map cf)
  | 0, k, hd, _ => by
    rw [List.drop_eq_nil_of_le (by omega), List.drop_eq_nil_of_le (by omega)]
    trivial
  | d + 1, k, hd, h => by
    rw [List.drop_eq_getElem_cons (show k < M.length by omega), List.drop_eq_getElem_cons (show k < A.length by omega)]
    refine ⟨?_, all2_drop lA lM d (k + 1) (by omega) fun i h1 h2 => h i (by omega) h2⟩
    have := h k (Nat.le_refl _) (by omega)
    rw [List.getD_eq_getElem?_getD, List.getD_eq_getElem?_getD, List.getElem?_eq_getElem (show k < M.length by omega), List.getElem?_eq_getElem (show k < A.length by omega)] at this
    exact this
theorem range_split {k n : Nat} (h : k ≤ n) : List.range n = List.range k ++ (List.range (n - k)).map (k + ·) := by
  conv => lhs; rw [show n = k + (n - k) by omega, List.range_add]
theorem Inv.none {n W k : Nat} {w : List Int → Nat} {A M : List (List Int)} {b : Int} (h : Inv n W k w A M b) (hk : k < n) (hp : pivL M k = M.length) : D (List.range n) (A.map cf) = 0 := by
  have lA := h.lA
  have lM := h.lM
  have h1 := rel_all (as := (A.take k).map cf) (b := b) (List.range n) ((M.drop k).map cf) ((A.drop k).map cf) [] (all2_drop lA lM (n - k) k (by omega) fun i h1 h2 => h.rel i h1 h2)
  have hz : ∀ u ∈ (M.drop k).map cf, ∀ c, c ≤ k → u c = 0 := by
    intro u hu c hc
    obtain ⟨S, hS, rfl⟩ := List.mem_map.mp hu
    obtain ⟨i, hi, hSi⟩ := List.mem_iff_getElem.mp hS
    rw [List.length_drop] at hi
    have e : S = M.getD (k + i) [] := by
      rw [← hSi, List.getElem_drop, List.getD_eq_getElem?_getD, List.getElem?_eq_getElem (by omega)]; rfl
    rw [e]
    by_cases hck : c = k
    · subst hck; exact pivL_all (by omega) hp (c + i) (by omega) (by omega)
    · exact h.z (k + i) (by omega) (by omega) c (by omega)
  rw [List.nil_append, List.nil_append, ← List.map_append (l₁ := A.take k) (l₂ := A.drop k), List.take_append_drop] at h1
  have h2 : D (List.range n) ((A.take k).map cf ++ (M.drop k).map cf) = 0 := by
    rw [range_split (k := k) (n := n) (by omega), block _ _ _ _ (h.as_len (by omega)) (fun u hu c hc => hz u hu c (by have := List.mem_range.mp hc; omega))]
    obtain ⟨m, hm⟩ : ∃ m, n - k = m + 1 := ⟨n - k - 1, by omega⟩
    rw [hm, List.range_succ_eq_map, List.map_cons]
    show _ * ex _ _ _ _ = 0
    rw [ex_zero _ _ _ _ fun u hu => hz u hu _ (by omega), Int.mul_zero]
  rw [h2] at h1
  exact (Int.mul_eq_zero.mp h1.symm).resolve_left (Int.pow_ne_zero h.b0)
theorem detG_eq {n W : Nat} {w : List Int → Nat} : ∀ (r k : Nat) (A M : List (List Int)) (s b : Int), Inv n W k w A M b → k + r = n → detG r k M s b = s * D (List.range n) (A.map cf)
  | 0, k, A, M, s, b, h, hr => by
    have hk : k = n := by omega
    subst hk
    have := h.hb
    rw [List.take_of_length_le (by rw [h.lA]; exact Nat.le_refl _)] at this
    rw [this]; rfl
  | r + 1, k, A, M, s, b, h, hr => by
    have lA := h.lA
    have lM := h.lM
    by_cases hp : pivL M k = M.length
    · rw [detG_no hp, h.none (by omega) hp, Int.mul_zero]
    · rw [detG_go hp]
      have hge := pivL_ge M k
      have hle := pivL_le (M := M) (k := k) (by omega)
      have hat := pivL_at (M := M) (k := k) (by omega) hp
      have same : ∀ N : List (List Int), N.length = n → at_ (clrL N k b) k k = at_ N k k := by
        intro N hN
        unfold at_
        rw [getD_clr k (by omega) (by omega), if_pos (Nat.le_refl _)]
      by_cases hgt : k < pivL M k
      · rw [swp_gt rfl hgt, sgn_gt rfl hgt, same _ (by rw [swapL_len]; exact lM)]
        have hs := h.swap hgt (show pivL M k < n by omega)
        have := hs.step (by omega) (by
          unfold at_
          rw [getD_sw M k _ k (by omega) (by omega), if_neg (by omega), if_pos rfl]
          exact hat)
        rw [detG_eq r (k + 1) _ _ (-s) _ this (by omega), D_swap hgt (by omega)]
        grind
      · have he : pivL M k = k := by omega
        rw [he] at hat
        rw [swp_eq he, sgn_eq he, same _ lM]
        exact detG_eq r (k + 1) _ _ s _ (h.step (by omega) hat) (by omega)
theorem Inv.start {n W : Nat} {w : List Int → Nat} {A : List (List Int)} (lA : A.length = n) (wd : ∀ R ∈ A, R.length = n) (sA : ∀ R ∈ A, ∀ j, (cf R j).natAbs ≤ 2 ^ w R) (tot : (A.map w).sum ≤ W) (hn : 0 < n) : Inv n W 0 w A A 1 := by
  refine ⟨lA, lA, wd, by simp [D], by decide, fun _ _ _ j hj => absurd hj (by omega), fun i _ _ cs t => by simp, sA, tot, fun R hR j => ?_⟩
  refine Nat.le_trans (sA R hR j) ?_
  have h1 : w R ≤ W := by
    have := sum_sub w (List.singleton_sublist.mpr hR)
    simp only [List.map_cons, List.map_nil, List.sum_cons, List.sum_nil] at this
    omega
  exact Nat.le_trans (Nat.pow_le_pow_right (by decide) h1) (Nat.le_mul_of_pos_left _ (Nat.pow_pos hn))
theorem detL_eq {n : Nat} {w : List Int → Nat} {A : List (List Int)} (lA : A.length = n) (wd : ∀ R ∈ A, R.length = n) (sA : ∀ R ∈ A, ∀ j, (cf R j).natAbs ≤ 2 ^ w R) : detL A = D (List.range n) (A.map cf) := by
  by_cases hn : n = 0
  · subst hn
    rw [List.length_eq_zero_iff] at lA
    subst lA; rfl
  · unfold detL
    rw [lA, detG_eq (w := w) (W := (A.map w).sum) n 0 A A 1 1 (Inv.start lA wd sA (Nat.le_refl _) (by omega)) (by omega), Int.one_mul]
end DT

set_option linter.all false
/-! Resultants. -/
namespace DT
open ML
/-- the columns from the last to the first -/
def dn : Nat → List Nat
  | 0 => []
  | n + 1 => n :: dn n
theorem mem_dn {c : Nat} : ∀ {n : Nat}, c ∈ dn n → c < n
  | n + 1, h => by
    rcases List.mem_cons.mp h with rfl | h
    · omega
    · have := mem_dn h; omega
theorem dn_len : ∀ n, (dn n).length = n
  | 0 => rfl
  | n + 1 => by unfold dn; rw [List.length_cons, dn_len n]
/-- x^k times p -/
def sh (k : Nat) (p : Row) : Row := fun j => if j < k then 0 else p (j - k)
def shs : Nat → Row → List Row
  | 0, _ => []
  | k + 1, p => sh k p :: shs k p
theorem shs_len (p : Row) : ∀ k, (shs k p).length = k
  | 0 => rfl
  | k + 1 => by unfold shs; rw [List.length_cons, shs_len p k]
theorem sh_zero (p : Row) : sh 0 p = p := by funext j; simp [sh]
theorem sh_sh (i k : Nat) (p : Row) : sh i (sh k p) = sh (i + k) p := by
  funext j
  unfold sh
  by_cases h1 : j < i
  · rw [if_pos h1, if_pos (by omega)]
  · rw [if_neg h1]
    by_cases h2 : j - i < k
    · rw [if_pos h2, if_pos (by omega)]
    · rw [if_neg h2, if_neg (by omega), show j - i - k = j - (i + k) by omega]
theorem shs_add (n : Nat) (p : Row) : ∀ m, shs (m + n) p = shs m (sh n p) ++ shs n p
  | 0 => by rw [Nat.zero_add]; rfl
  | m + 1 => by
    rw [show m + 1 + n = (m + n) + 1 by omega]
    show sh (m + n) p :: shs (m + n) p = sh m (sh n p) :: (shs m (sh n p) ++ shs n p)
    rw [shs_add n p m, sh_sh]
theorem mem_shs {u p : Row} : ∀ {k : Nat}, u ∈ shs k p → ∃ i, i < k ∧ u = sh i p
  | k + 1, h => by
    rcases List.mem_cons.mp h with rfl | h
    · exact ⟨k, by omega, rfl⟩
    · obtain ⟨i, h1, h2⟩ := mem_shs h; exact ⟨i, by omega, h2⟩
/-! alike on the columns -/
theorem ex_congr {P : Row → Row → Prop} {c : Nat} {F : List Row → Int} (hP : ∀ e a, P e a → e c = a c) (hF : ∀ q q', All2 P q q' → F q = F q') : ∀ (post post' pre pre' : List Row), All2 P pre pre' → All2 P post post' → ex c F pre post = ex c F pre' post'
  | [], [], _, _, _, _ => rfl
  | r :: post, r' :: post', pre, pre', h1, h2 => by
    have app : ∀ (a a' b b' : List Row), All2 P a a' → All2 P b b' → All2 P (a ++ b) (a' ++ b') := by
      intro a
      induction a with
      | nil => intro a' b b' h h'; cases a' with
        | nil => exact h'
        | cons _ _ => exact h.elim
      | cons x a ih => intro a' b b' h h'; cases a' with
        | nil => exact h.elim
        | cons y a' => exact ⟨h.1, ih a' b b' h.2 h'⟩
    unfold ex
    rw [hP r r' h2.1, hF _ _ (app _ _ _ _ h1 h2.2), ex_congr hP hF post post' (pre ++ [r]) (pre' ++ [r']) (app _ _ _ _ h1 ⟨h2.1, trivial⟩) h2.2]
theorem D_congr : ∀ (cs : List Nat) (rs rs' : List Row), All2 (fun e a => ∀ c ∈ cs, e c = a c) rs rs' → D cs rs = D cs rs'
  | [], [], [], _ => rfl
  | [], _ :: _, _ :: _, _ => rfl
  | c :: cs, rs, rs', h => by
    refine ex_congr (P := fun e a => ∀ d ∈ c :: cs, e d = a d) (fun e a h => h c (List.mem_cons_self ..)) (fun q q' hq => ?_) rs rs' [] [] trivial h
    refine D_congr cs q q' ?_
    have wk : ∀ (a b : List Row), All2 (fun e a => ∀ d ∈ c :: cs, e d = a d) a b → All2 (fun e a => ∀ d ∈ cs, e d = a d) a b := by
      intro a
      induction a with
      | nil => intro b h; cases b with
        | nil => trivial
        | cons _ _ => exact h.elim
      | cons x a ih => intro b h; cases b with
        | nil => exact h.elim
        | cons y b => exact ⟨fun d hd => h.1 d (List.mem_cons_of_mem _ hd), ih b h.2⟩
    exact wk q q' hq
theorem all2_refl {P : Row → Row → Prop} (h : ∀ r, P r r) : ∀ rs, All2 P rs rs
  | [] => trivial
  | r :: rs => ⟨h r, all2_refl h rs⟩
theorem all2_app {P : Row → Row → Prop} : ∀ {a a' b b' : List Row}, All2 P a a' → All2 P b b' → All2 P (a ++ b) (a' ++ b')
  | [], [], _, _, _, h' => h'
  | x :: a, y :: a', _, _, h, h' => ⟨h.1, all2_app h.2 h'⟩
theorem D_relabel (g : Nat → Nat) : ∀ (cs : List Nat) (rs : List Row), D (cs.map g) rs = D cs (rs.map fun r c => r (g c))
  | [], [] => rfl
  | [], _ :: _ => rfl
  | c :: cs, rs => by
    have aux : ∀ (post pre : List Row), ex (g c) (D (cs.map g)) pre post = ex c (D cs) (pre.map fun r c => r (g c)) (post.map fun r c => r (g c)) := by
      intro post
      induction post with
      | nil => intro pre; rfl
      | cons r post ih =>
        intro pre
        rw [List.map_cons]
        unfold ex
        rw [ih, D_relabel g cs, List.map_append, List.map_append]
        rfl
    exact aux rs []
theorem range_dn : ∀ N, List.range N = (dn N).map fun c => N - 1 - c
  | 0 => rfl
  | N + 1 => by
    rw [List.range_succ_eq_map, range_dn N, List.map_map]
    show 0 :: _ = (N + 1 - 1 - N) :: List.map (fun c => N + 1 - 1 - c) (dn N)
    congr 1
    · omega
    · refine List.map_congr_left fun c hc => ?_
      have := mem_dn hc
      show N - 1 - c + 1 = N + 1 - 1 - c
      omega
theorem D_zero (cs : List Nat) (a b : List Row) : D cs (a ++ (fun _ => 0) :: b) = 0 := by
  have h := lin cs a b (fun _ => 0) (fun _ => 0) 1
  simp only [Int.mul_zero, Int.add_zero, Int.one_mul] at h
  omega
theorem D_zero' {cs : List Nat} {u : Row} (h : ∀ d ∈ cs, u d = 0) (a b : List Row) : D cs (a ++ u :: b) = 0 := by
  rw [D_congr cs _ (a ++ (fun _ => 0) :: b) (all2_app (b := u :: b) (b' := (fun _ => 0) :: b) (all2_refl (fun _ _ _ => rfl) a) ⟨fun c hc => h c hc, all2_refl (fun _ _ _ => rfl) b⟩), D_zero]
theorem D_top {c : Nat} {cs : List Nat} {u : Row} {us : List Row} (h : ∀ v ∈ us, v c = 0) : D (c :: cs) (u :: us) = u c * D cs us := by
  show ex c (D cs) [] (u :: us) = _
  unfold ex
  rw [ex_zero c _ us _ h]
  simp
theorem D_first {c : Nat} {cs : List Nat} {u : Row} {us : List Row} (h : ∀ d ∈ cs, u d = 0) : D (c :: cs) (u :: us) = u c * D cs us := by
  have aux : ∀ (post q : List Row), ex c (D cs) (u :: q) post = 0 := by
    intro post
    induction post with
    | nil => intro q; rfl
    | cons r post ih =>
      intro q
      unfold ex
      have h1 := D_zero' h [] (q ++ post)
      rw [List.nil_append] at h1
      rw [List.cons_append, h1, List.cons_append, ih]
      simp
  show ex c (D cs) [] (u :: us) = _
  unfold ex
  rw [List.nil_append, List.nil_append, aux us []]
  omega
theorem D_long : ∀ (cs : List Nat) (rs : List Row), cs.length < rs.length → D cs rs = 0
  | [], _ :: _, _ => rfl
  | c :: cs, rs, h => by
    have aux : ∀ (post pre : List Row), cs.length + 1 < pre.length + post.length → ex c (D cs) pre post = 0 := by
      intro post
      induction post with
      | nil => intro pre _; rfl
      | cons r post ih =>
        intro pre hp
        rw [List.length_cons] at hp
        unfold ex
        rw [D_long cs (pre ++ post) (by rw [List.length_append]; omega), ih (pre ++ [r]) (by rw [List.length_append, List.length_singleton]; omega)]
        simp
    exact aux rs [] (by rw [List.length_cons] at h; rw [List.length_nil]; omega)
/-- the rows ws, so many times as r says -/
def comb : List Nat → List Row → Row → Row
  | t :: ts, w :: ws, r => fun j => comb ts ws r j + r t * w j
  | _, _, _ => fun _ => 0
theorem D_comb (cols : List Nat) (rest : List Row) : ∀ (ts : List Nat) (ws : List Row), ts.length = ws.length → ∀ (as Cs : List Row), ws.length ≤ Cs.length → D cols (as ++ (Cs.map (comb ts ws) ++ rest)) = D ts Cs * D cols (as ++ (ws ++ rest))
  | [], [], _, as, Cs, _ => by
    cases Cs with
    | nil => simp [D]
    | cons c Cs =>
      rw [List.map_cons]
      show D cols (as ++ (fun _ => 0) :: _) = 0 * _
      rw [D_zero, Int.zero_mul]
  | t :: ts, w :: ws, hl, as, Cs, hC => by
    rw [List.length_cons, List.length_cons] at hl
    rw [List.length_cons] at hC
    have IH := D_comb cols rest ts ws (by omega)
    have clr : ∀ (post a b : List Row), D cols (a ++ w :: (b ++ (post.map (comb (t :: ts) (w :: ws)) ++ rest))) = D cols (a ++ w :: (b ++ (post.map (comb ts ws) ++ rest))) := by
      intro post
      induction post with
      | nil => intro a b; rfl
      | cons r post ih =>
        intro a b
        rw [List.map_cons, List.map_cons]
        have h1 := add_before cols a b (post.map (comb (t :: ts) (w :: ws)) ++ rest) (comb ts ws r) w (r t)
        have h2 := ih a (b ++ [comb ts ws r])
        simp only [List.append_assoc, List.cons_append, List.nil_append] at h2
        rw [List.cons_append, List.cons_append, ← h2]
        exact h1
    have aux : ∀ (post pre : List Row), pre.length + post.length = Cs.length → D cols (as ++ (pre.map (comb ts ws) ++ (post.map (comb (t :: ts) (w :: ws)) ++ rest))) = D cols (as ++ ((pre ++ post).map (comb ts ws) ++ rest)) + (-1) ^ pre.length * ex t (D ts) pre post * D cols (as ++ (w :: ws ++ rest)) := by
      intro post
      induction post with
      | nil => intro pre _; simp [ex]
      | cons r post ih =>
        intro pre hp
        rw [List.length_cons] at hp
        have h1 := lin cols (as ++ pre.map (comb ts ws)) (post.map (comb (t :: ts) (w :: ws)) ++ rest) (comb ts ws r) w (r t)
        have h2 := ih (pre ++ [r]) (by rw [List.length_append, List.length_singleton]; omega)
        have h3 := clr post (as ++ pre.map (comb ts ws)) []
        have h4 := moved cols w (post.map (comb ts ws) ++ rest) (pre.map (comb ts ws)) as
        have h5 := IH (as ++ [w]) (pre ++ post) (by rw [List.length_append]; omega)
        rw [List.map_cons]
        have e : comb (t :: ts) (w :: ws) r = fun j => comb ts ws r j + r t * w j := rfl
        rw [List.cons_append, e]
        simp only [List.append_assoc, List.cons_append, List.nil_append, List.map_append, List.map_cons, List.map_nil, List.length_append, List.length_singleton, List.length_map] at h1 h2 h3 h4 h5 ⊢
        rw [h1, h2, h3]
        rw [h5] at h4
        have sq : ((-1 : Int) ^ pre.length) * ((-1) ^ pre.length) = 1 := by
          rw [← Int.pow_add, ← Nat.two_mul, Int.pow_mul, show ((-1 : Int) ^ 2) = 1 from rfl, Int.one_pow]
        have h6 : D cols (as ++ (List.map (comb ts ws) pre ++ w :: (List.map (comb ts ws) post ++ rest))) = (-1) ^ pre.length * (D ts (pre ++ post) * D cols (as ++ w :: (ws ++ rest))) := by
          rw [h4, ← Int.mul_assoc, sq, Int.one_mul]
        rw [h6, ex, Int.pow_succ]
        grind
    have h1 := aux Cs [] (by simp)
    have h2 := IH as Cs (by omega)
    rw [D_long ts Cs (by omega), Int.zero_mul] at h2
    simp only [List.map_nil, List.nil_append, List.length_nil, Int.pow_zero, Int.one_mul] at h1
    rw [h2, Int.zero_add] at h1
    exact h1
theorem comb_null {cols : List Nat} {as : List Row} (r : Row) (mid t : List Row) : ∀ (ts : List Nat) (ws : List Row), (∀ w ∈ ws, w ∈ as) → D cols (as ++ (mid ++ comb ts ws r :: t)) = 0
  | [], _, _ => by
    have := D_zero cols (as ++ mid) t
    rw [List.append_assoc] at this
    exact this
  | _ :: _, [], _ => by
    have := D_zero cols (as ++ mid) t
    rw [List.append_assoc] at this
    exact this
  | k :: ts, w :: ws, h => by
    have h1 := lin cols (as ++ mid) t (comb ts ws r) w (r k)
    rw [List.append_assoc, List.append_assoc, List.append_assoc, comb_null r mid t ts ws fun x hx => h x (List.mem_cons_of_mem _ hx)] at h1
    obtain ⟨a, b, e⟩ := List.append_of_mem (h w (List.mem_cons_self ..))
    have h2 := alike cols a (b ++ mid) t w
    rw [e] at h1 ⊢
    simp only [List.append_assoc, List.cons_append] at h1 h2 ⊢
    rw [h2] at h1
    exact h1.trans (by omega)
/-- the higher rows of a triangle -/
theorem peel {N : Nat} {q : Row} {us : List Row} (hq : ∀ j, N < j → q j = 0) (hu : ∀ u ∈ us, ∀ c, N ≤ c → u c = 0) : ∀ k, D (dn (N + k)) (shs k q ++ us) = q N ^ k * D (dn N) us
  | 0 => by simp [shs]
  | k + 1 => by
    show D ((N + k) :: dn (N + k)) (sh k q :: (shs k q ++ us)) = _
    rw [D_top, peel hq hu k, Int.pow_succ]
    · have : sh k q (N + k) = q N := by unfold sh; rw [if_neg (by omega), Nat.add_sub_cancel]
      rw [this]; grind
    · intro v hv
      rcases List.mem_append.mp hv with hv | hv
      · obtain ⟨i, hi, rfl⟩ := mem_shs hv
        unfold sh
        rw [if_neg (by omega)]
        exact hq _ (by omega)
      · exact hu v hv _ (by omega)
/-- the product -/
def pm (p q : Row) : Row := fun k => sm (k + 1) fun i => p i * q (k - i)
theorem sh_van {k N : Nat} {p : Row} (h : ∀ j, N < j → p j = 0) {c : Nat} (hc : N + k < c) : sh k p c = 0 := by
  unfold sh
  rw [if_neg (by omega)]
  exact h _ (by omega)
theorem comb_sm (q r : Row) (j : Nat) : ∀ K, comb (dn K) (shs K q) r j = sm K fun i => r i * sh i q j
  | 0 => rfl
  | K + 1 => by
    show comb (dn K) (shs K q) r j + r K * sh K q j = _
    rw [comb_sm q r j K]; rfl
theorem comb_pm {q r : Row} {K : Nat} (h : ∀ j, K ≤ j → r j = 0) : comb (dn K) (shs K q) r = pm r q := by
  funext j
  rw [comb_sm]
  unfold pm
  have e : ∀ i, i < j + 1 → r i * q (j - i) = r i * sh i q j := fun i hi => by
    unfold sh; rw [if_neg (by omega)]
  rw [sm_congr e]
  rcases Nat.le_total K (j + 1) with hK | hK
  · exact (sm_ext hK fun i h1 h2 => by rw [h i h1, Int.zero_mul]).symm
  · exact sm_ext hK fun i h1 h2 => by
      unfold sh; rw [if_pos (by omega), Int.mul_zero]
end DT

set_option linter.all false
/-! The laws of resultants. -/
namespace DT
open ML
def Res (m n : Nat) (p q : Row) : Int := D (dn (m + n)) (shs n p ++ shs m q)
def Deg (p : Row) (m : Nat) : Prop := ∀ j, m < j → p j = 0
theorem Deg.sh {p : Row} {m : Nat} (h : Deg p m) {k c : Nat} (hc : m + k < c) : sh k p c = 0 := sh_van h hc
def one_ : Row := fun j => if j = 0 then 1 else 0
theorem deg_one : Deg one_ 0 := fun j hj => if_neg (by omega)
theorem pm_one (q : Row) : pm one_ q = q := by
  funext j
  unfold pm one_
  rw [sm_single (j := 0) (by omega) fun i _ hi => by rw [if_neg hi, Int.zero_mul]]
  simp
theorem pm_sh1 (p q : Row) : pm (sh 1 p) q = sh 1 (pm p q) := by
  funext j
  cases j with
  | zero =>
    show sm 1 _ = 0
    simp [sm, sh]
  | succ j =>
    show sm (j + 1 + 1) _ = sh 1 (pm p q) (j + 1)
    rw [sm_shift]
    have e : sh 1 (pm p q) (j + 1) = pm p q j := by unfold sh; rw [if_neg (by omega), Nat.add_sub_cancel]
    rw [e]
    unfold pm
    have z : sh 1 p 0 * q (j + 1 - 0) = 0 := by simp [sh]
    rw [z, Int.zero_add]
    refine sm_congr fun i hi => ?_
    have e1 : sh 1 p (i + 1) = p i := by unfold sh; rw [if_neg (by omega), Nat.add_sub_cancel]
    rw [e1, show j + 1 - (i + 1) = j - i by omega]
theorem pm_sh (p q : Row) : ∀ k, pm (sh k p) q = sh k (pm p q)
  | 0 => by rw [sh_zero, sh_zero]
  | k + 1 => by
    rw [show k + 1 = 1 + k by omega, ← sh_sh, pm_sh1, pm_sh p q k, sh_sh]
theorem pm_comm (p q : Row) : pm p q = pm q p := by
  funext j
  unfold pm
  rw [← sm_rev]
  refine sm_congr fun i hi => ?_
  rw [show j + 1 - 1 - i = j - i by omega, show j - (j - i) = i by omega, Int.mul_comm]
theorem deg_pm {p q : Row} {m n : Nat} (hp : Deg p m) (hq : Deg q n) : Deg (pm p q) (m + n) := fun j hj => sm_zero fun i hi => by
  by_cases h : m < i
  · rw [hp i h, Int.zero_mul]
  · rw [hq _ (by omega), Int.mul_zero]
theorem pm_top {p q : Row} {m n : Nat} (hp : Deg p m) (hq : Deg q n) : pm p q (m + n) = p m * q n := by
  unfold pm
  rw [sm_single (j := m) (by omega) fun i _ hi => by
    by_cases h : m < i
    · rw [hp i h, Int.zero_mul]
    · rw [hq _ (by omega), Int.mul_zero]]
  rw [show m + n - m = n by omega]
theorem comb_shs {p q : Row} {m k K : Nat} (hp : Deg p m) (h : m + k ≤ K) : (shs k p).map (comb (dn K) (shs K q)) = shs k (pm p q) := by
  have aux : ∀ i, i ≤ k → (shs i p).map (comb (dn K) (shs K q)) = shs i (pm p q) := by
    intro i
    induction i with
    | zero => intro _; rfl
    | succ i ih =>
      intro hi
      show comb (dn K) (shs K q) (DT.sh i p) :: _ = DT.sh i (pm p q) :: _
      rw [ih (by omega), comb_pm (fun j hj => hp.sh (k := i) (by omega)), pm_sh]
  exact aux k (Nat.le_refl _)
/-- a constant -/
theorem Res_const {n : Nat} {p q : Row} (hp : Deg p 0) : Res 0 n p q = p 0 ^ n := by
  unfold Res
  have := peel (us := []) hp (fun u hu => by cases hu) n
  show D (dn (0 + n)) (shs n p ++ []) = _
  rw [this]
  show _ * 1 = _
  rw [Int.mul_one]
/-- one row of R's less: the top's power -/
theorem Res_over {m n k : Nat} {p q : Row} (hp : Deg p m) (hq : Deg q n) : D (dn (m + n + k)) (shs (k + n) p ++ shs m q) = p m ^ k * Res m n p q := by
  rw [shs_add, List.append_assoc]
  have hs : ∀ j, m + n < j → sh n p j = 0 := fun j hj => hp.sh hj
  rw [peel hs (fun u hu c hc => ?_) k]
  · have : sh n p (m + n) = p m := by unfold sh; rw [if_neg (by omega), Nat.add_sub_cancel]
    rw [this]; rfl
  · rcases List.mem_append.mp hu with hu | hu
    · obtain ⟨i, hi, rfl⟩ := mem_shs hu
      exact hp.sh (by omega)
    · obtain ⟨i, hi, rfl⟩ := mem_shs hu
      exact hq.sh (by omega)
theorem Res_mul {m n d : Nat} {p q r : Row} (hp : Deg p m) (hq : Deg q n) (hr : Deg r d) (h0 : r d ≠ 0) : Res (m + d) n (pm p r) q = Res m n p q * Res d n r q := by
  have h1 := D_comb (dn (m + d + n)) [] (dn (d + m)) (shs (d + m) q) (by rw [dn_len, shs_len]) (shs n (pm p r)) (shs m r ++ shs d one_) (by rw [shs_len, List.length_append, shs_len, shs_len]; omega)
  rw [List.map_append, comb_shs hr (Nat.le_refl _), comb_shs deg_one (by omega), pm_one] at h1
  have h2 : D (dn (d + m)) (shs m r ++ shs d one_) = r d ^ m := by
    rw [peel hr (fun u hu c hc => ?_) m]
    · have := peel (us := []) deg_one (fun u hu => by cases hu) d
      rw [Nat.zero_add, List.append_nil] at this
      rw [this]
      show r d ^ m * ((1 : Int) ^ d * 1) = _
      rw [Int.one_pow]; simp
    · obtain ⟨i, hi, rfl⟩ := mem_shs hu
      exact deg_one.sh (by omega)
  rw [h2] at h1
  have h3 := D_comb (dn (m + d + n)) (shs d q) (dn (m + n)) (shs (m + n) r) (by rw [dn_len, shs_len]) [] (shs n p ++ shs m q) (by rw [shs_len, List.length_append, shs_len, shs_len]; omega)
  rw [List.map_append, comb_shs hp (Nat.le_refl _), comb_shs hq (by omega)] at h3
  have h4 := Res_over (k := m) hr hq
  rw [show m + d + n = d + n + m by omega] at h1 h3
  simp only [List.nil_append, List.append_nil] at h1 h3
  rw [h4] at h3
  rw [pm_comm q r, List.append_assoc] at h3
  rw [h3] at h1
  have e : Res (m + d) n (pm p r) q = D (dn (d + n + m)) (shs n (pm p r) ++ shs (d + m) q) := by
    unfold Res
    rw [show m + d + n = d + n + m by omega, show m + d = d + m by omega]
  rw [← e] at h1
  have hm : r d ^ m ≠ 0 := Int.pow_ne_zero h0
  refine Int.eq_of_mul_eq_mul_left hm ?_
  rw [← h1]
  unfold Res
  grind
/-- a common part -/
theorem Res_common {m n d : Nat} {p q f : Row} (hp : Deg p m) (hq : Deg q n) (hd : 0 < d) : Res (m + d) (n + d) (pm p f) (pm q f) = 0 := by
  have h1 := D_comb (dn (m + d + (n + d))) [] (dn (m + n + d)) (shs (m + n + d) f) (by rw [dn_len, shs_len]) [] (shs (n + d) p ++ shs (m + d) q) (by rw [shs_len, List.length_append, shs_len, shs_len]; omega)
  rw [List.map_append, comb_shs hp (by omega), comb_shs hq (by omega), D_long (dn (m + n + d)) _ (by rw [dn_len, List.length_append, shs_len, shs_len]; omega), Int.zero_mul] at h1
  simp only [List.nil_append, List.append_nil] at h1
  exact h1
/-- the other with so many times the one added -/
theorem Res_add {m h d : Nat} {p q r : Row} (hp : Deg p m) (hh : Deg q h) (hr : Deg r d) (hd : d < m) : Res m (m + h) p (fun j => r j + pm q p j) = p m ^ (m + h - d) * Res m d p r := by
  have h1 := rel_all (as := shs (m + h) p) (b := 1) (dn (m + (m + h))) (shs m (fun j => r j + pm q p j)) (shs m r) [] ?_
  · rw [List.nil_append, List.nil_append, Int.one_pow, Int.one_mul] at h1
    unfold Res
    rw [h1]
    have := Res_over (k := m + h - d) hp hr
    rw [show m + d + (m + h - d) = m + (m + h) by omega, show m + h - d + d = m + h by omega] at this
    exact this
  · have aux : ∀ k, k ≤ m → All2 (fun e a => ∀ cs t, D cs (shs (m + h) p ++ e :: t) = 1 * D cs (shs (m + h) p ++ a :: t)) (shs k (fun j => r j + pm q p j)) (shs k r) := by
      intro k
      induction k with
      | zero => intro _; trivial
      | succ k ih =>
        intro hk
        refine ⟨fun cs t => ?_, ih (by omega)⟩
        have e : DT.sh k (fun j => r j + pm q p j) = fun j => DT.sh k r j + 1 * comb (dn (m + h)) (shs (m + h) p) (DT.sh k q) j := by
          rw [comb_pm (fun j hj => hh.sh (k := k) (by omega)), pm_sh]
          funext j
          unfold DT.sh
          split
          · simp
          · show r (j - k) + pm q p (j - k) = r (j - k) + 1 * pm q p (j - k)
            omega
        rw [e, lin, Int.one_mul, Int.one_mul]
        have := comb_null (cols := cs) (as := shs (m + h) p) (DT.sh k q) [] t (dn (m + h)) (shs (m + h) p) (fun w hw => hw)
        rw [List.nil_append] at this
        rw [this, Int.add_zero]
    exact aux m (Nat.le_refl _)
theorem swap_blocks (cs : List Nat) (d : List Row) : ∀ (b a c : List Row), D cs (a ++ (b ++ (c ++ d))) = (-1) ^ (b.length * c.length) * D cs (a ++ (c ++ (b ++ d)))
  | [], a, c => by simp
  | x :: b, a, c => by
    have h1 := swap_blocks cs d b (a ++ [x]) c
    have h2 := moved cs x (b ++ d) c a
    simp only [List.append_assoc, List.cons_append, List.nil_append] at h1 h2 ⊢
    rw [h1, h2, List.length_cons, Nat.add_mul, Nat.one_mul, Int.pow_add]
    grind
theorem Res_swap (m n : Nat) (p q : Row) : Res n m q p = (-1) ^ (m * n) * Res m n p q := by
  unfold Res
  have := swap_blocks (dn (m + n)) [] (shs m q) [] (shs n p)
  simp only [List.append_nil, List.nil_append] at this
  rw [show n + m = m + n by omega, this, shs_len, shs_len]
theorem ex_app {c : Nat} {F : List Row → Int} (u : Row) : ∀ (zs pre : List Row), (∀ z ∈ zs, z c = 0) → ex c F pre (zs ++ [u]) = (-1) ^ zs.length * (u c * F (pre ++ zs))
  | [], pre, _ => by simp [ex]
  | z :: zs, pre, h => by
    rw [List.cons_append]
    unfold ex
    rw [h z (List.mem_cons_self ..), ex_app u zs (pre ++ [z]) fun x hx => h x (List.mem_cons_of_mem _ hx), List.length_cons, Int.pow_succ]
    simp only [List.append_assoc, List.cons_append, List.nil_append]
    grind
theorem low_tri (p : Row) : ∀ k, D (dn k) (shs k p) = p 0 ^ k
  | 0 => by simp [dn, shs, D]
  | k + 1 => by
    show D (k :: dn k) (sh k p :: shs k p) = _
    rw [D_first (fun d hd => by unfold sh; rw [if_pos (mem_dn hd)]), low_tri p k, Int.pow_succ]
    have : sh k p k = p 0 := by unfold sh; rw [if_neg (by omega), Nat.sub_self]
    rw [this]; grind
/-- what Q comes to at a / b, times b to the n -/
def hom (a b : Int) (q : Row) : Nat → Int
  | 0 => q 0
  | n + 1 => b * hom a b q n + q (n + 1) * a ^ (n + 1)
theorem Res_lin {p q : Row} (hp : Deg p 1) (a : Int) (h0 : p 0 = -a) : ∀ n, D (dn (n + 1)) (shs n p ++ [q]) = hom a (p 1) q n
  | 0 => by
    show D (0 :: []) [q] = _
    rw [one]; rfl
  | n + 1 => by
    show ex (n + 1) (D (dn (n + 1))) [] (sh n p :: (shs n p ++ [q])) = _
    unfold ex
    rw [ex_app q (shs n p) _ (fun z hz => by
      obtain ⟨i, hi, rfl⟩ := mem_shs hz
      exact hp.sh (by omega)), List.nil_append, List.nil_append, Res_lin hp a h0 n, shs_len]
    have e1 : sh n p (n + 1) = p 1 := by unfold sh; rw [if_neg (by omega), Nat.add_sub_cancel_left]
    have e2 := low_tri p (n + 1)
    have e3 : shs (n + 1) p = [sh n p] ++ shs n p := rfl
    rw [e3] at e2
    rw [e1, e2, h0]
    show _ = p 1 * hom a (p 1) q n + q (n + 1) * a ^ (n + 1)
    have e4 : ((-1 : Int) ^ n) * (-a) ^ (n + 1) = - a ^ (n + 1) := by
      have : (-a) ^ (n + 1) = (-1) ^ (n + 1) * a ^ (n + 1) := by rw [← Int.mul_pow]; simp
      rw [this, Int.pow_succ]
      have sq : ((-1 : Int) ^ n) * ((-1) ^ n) = 1 := by
        rw [← Int.pow_add, ← Nat.two_mul, Int.pow_mul, show ((-1 : Int) ^ 2) = 1 from rfl, Int.one_pow]
      grind
    grind
end DT

set_option linter.all false
/-! What the walk of the determinant asks. -/
namespace RB
/-- rows that can be cleared -/
structure ClSz (n : Nat) (M : List (List Int)) (k : Nat) (b : Int) : Prop where
  k0 : k < M.length
  ln : M.length ≤ 100000
  wd : ∀ R ∈ M, R.length = (M.getD k []).length
  kw : k < (M.getD k []).length
  lw : (M.getD k []).length ≤ 100000
  sz : ∀ R ∈ M, ML.Sz n R
  n0 : 0 < n
  n9 : n ≤ 400000
  b0 : b ≠ 0
  b9 : b.natAbs.log2 < 9000
/-- what the walk asks of each step -/
def detOk : Nat → Nat → List (List Int) → Int → Prop
  | 0, _, _, b => ∃ n, 0 < n ∧ n ≤ 400000 ∧ b.natAbs < 2 ^ n
  | r + 1, k, M, b => (∀ R ∈ M, k < R.length) ∧ (MT.pivL M k ≠ M.length → (∃ n, ClSz n (MT.swp M k) k b) ∧ detOk r (k + 1) (MT.clrL (MT.swp M k) k b) (MT.at_ (MT.clrL (MT.swp M k) k b) k k))
end RB

set_option linter.all false
/-! Determinants: sizes, and what is done to rows. -/
namespace DT
open ML MT RB
theorem Inv.cl {n W k N : Nat} {w : List Int → Nat} {A M : List (List Int)} {b : Int} (h : Inv n W k w A M b) (hk : k < n) (hn : n ≤ 100000) (hN : n ^ n * 2 ^ W < 2 ^ N) (N9 : N ≤ 9000) (N0 : 0 < N) (bb : b.natAbs < 2 ^ N) : ClSz N M k b := by
  have lM := h.lM
  have wk : (M.getD k []).length = n := h.wd _ (mem_getD (by omega))
  refine ⟨by omega, by omega, fun R hR => by rw [wk]; exact h.wd R hR, by omega, by omega, fun R hR => Sz.of fun j _ => Nat.lt_of_le_of_lt (h.sM R hR j) hN, N0, by omega, h.b0, ?_⟩
  have b0 := h.b0
  have : b.natAbs.log2 < N := (Nat.log2_lt (by omega)).mpr bb
  omega
theorem detOk_go {n W N : Nat} {w : List Int → Nat} (hn : n ≤ 100000) (hN : n ^ n * 2 ^ W < 2 ^ N) (N9 : N ≤ 9000) (N0 : 0 < N) : ∀ (r k : Nat) (A M : List (List Int)) (b : Int), Inv n W k w A M b → k + r = n → b.natAbs < 2 ^ N → detOk r k M b
  | 0, k, A, M, b, h, hr, bb => ⟨N, N0, by omega, bb⟩
  | r + 1, k, A, M, b, h, hr, bb => by
    have lA := h.lA
    have lM := h.lM
    refine ⟨fun R hR => by rw [h.wd R hR]; omega, fun hp => ?_⟩
    have hge := pivL_ge M k
    have hle := pivL_le (M := M) (k := k) (by omega)
    have hat := pivL_at (M := M) (k := k) (by omega) hp
    have same : ∀ N : List (List Int), N.length = n → at_ (clrL N k b) k k = at_ N k k := by
      intro N hN
      unfold at_
      rw [getD_clr k (by omega) (by omega), if_pos (Nat.le_refl _)]
    by_cases hgt : k < pivL M k
    · rw [swp_gt rfl hgt, same _ (by rw [swapL_len]; exact lM)]
      have hs := h.swap hgt (show pivL M k < n by omega)
      have := hs.step (by omega) (by
        unfold at_
        rw [getD_sw M k _ k (by omega) (by omega), if_neg (by omega), if_pos rfl]
        exact hat)
      exact ⟨⟨N, hs.cl (by omega) hn hN N9 N0 bb⟩, detOk_go hn hN N9 N0 r (k + 1) _ _ _ this (by omega) (Nat.lt_of_le_of_lt (hs.sM _ (mem_getD (by have := hs.lM; omega)) k) hN)⟩
    · have he : pivL M k = k := by omega
      rw [he] at hat
      rw [swp_eq he, same _ lM]
      exact ⟨⟨N, h.cl (by omega) hn hN N9 N0 bb⟩, detOk_go hn hN N9 N0 r (k + 1) _ _ _ (h.step (by omega) hat) (by omega) (Nat.lt_of_le_of_lt (h.sM _ (mem_getD (by omega)) k) hN)⟩
theorem detOk_of {n W N : Nat} {w : List Int → Nat} {A : List (List Int)} (lA : A.length = n) (wd : ∀ R ∈ A, R.length = n) (sA : ∀ R ∈ A, ∀ j, (cf R j).natAbs ≤ 2 ^ w R) (tot : (A.map w).sum ≤ W) (hn : n ≤ 100000) (hN : n ^ n * 2 ^ W < 2 ^ N) (N9 : N ≤ 9000) (N0 : 0 < N) : detOk A.length 0 A 1 := by
  have one : (1 : Int).natAbs < 2 ^ N := by
    show 1 < 2 ^ N
    exact Nat.one_lt_two_pow (by omega)
  by_cases h0 : n = 0
  · subst h0
    rw [lA]
    exact ⟨N, N0, by omega, one⟩
  · rw [lA]
    exact detOk_go hn hN N9 N0 n 0 A A 1 (Inv.start lA wd sA tot (by omega)) (by omega) one
/-- the product along the slant -/
def pd (M : List (List Int)) : Nat → Int
  | 0 => 1
  | k + 1 => pd M k * at_ M k k
theorem D_tri {M : List (List Int)} {n : Nat} (hl : M.length = n) (h : ∀ i, i < n → ∀ j, j < i → at_ M i j = 0) : ∀ k, k ≤ n → D (List.range k) ((M.take k).map cf) = pd M k
  | 0, _ => by simp [D, pd]
  | k + 1, hk => by
    rw [take_one (by omega), List.range_succ, block [k] _ (List.range k) _ (by rw [List.length_map, List.length_take, List.length_range]; omega) (fun u hu c hc => by
      rw [List.mem_singleton] at hu
      subst hu
      exact h k (by omega) c (List.mem_range.mp hc)), D_tri hl h k (by omega), one]
    rfl
theorem swapL_comm (M : List (List Int)) {i j : Nat} (h : i ≠ j) : swapL M i j = swapL M j i := by
  unfold swapL
  rw [List.set_comm _ _ h]
theorem D_swap' {A : List (List Int)} {i j : Nat} (h : i ≠ j) (hi : i < A.length) (hj : j < A.length) (cs : List Nat) : D cs ((swapL A i j).map cf) = - D cs (A.map cf) := by
  rcases Nat.lt_or_gt_of_ne h with h | h
  · exact D_swap h hj cs
  · rw [swapL_comm _ (by omega)]
    exact D_swap h hi cs
/-- a row with so many times another one added -/
def addRow (n : Nat) (R S : List Int) (m : Int) : List Int := (List.range n).map fun k => cf R k + m * cf S k
theorem cf_addRow {n : Nat} {R S : List Int} (m : Int) (hR : R.length = n) (hS : S.length = n) : cf (addRow n R S m) = fun j => cf R j + m * cf S j := by
  funext j
  by_cases h : j < n
  · exact cf_some (by unfold addRow; rw [List.getElem?_map, List.getElem?_range h]; rfl)
  · rw [cf_beyond (P := addRow n R S m) (by unfold addRow; rw [List.length_map, List.length_range]; omega), cf_beyond (P := R) (by omega), cf_beyond (P := S) (by omega)]
    simp
theorem D_add {A : List (List Int)} {n i j : Nat} (wd : ∀ R ∈ A, R.length = n) (h : i ≠ j) (hi : i < A.length) (hj : j < A.length) (m : Int) (cs : List Nat) : D cs ((A.set i (addRow n (A.getD i []) (A.getD j []) m)).map cf) = D cs (A.map cf) := by
  have hR := wd _ (mem_getD hi)
  have hS := wd _ (mem_getD hj)
  rcases Nat.lt_or_gt_of_ne h with h | h
  · obtain ⟨a, r, b, s, c, e, h1, h2⟩ := split2 A i j h hj
    have e1 : A.getD i [] = r := by
      rw [e, List.getD_eq_getElem?_getD, List.getElem?_append_right (by omega), h1, Nat.sub_self]; rfl
    have e2 : A.getD j [] = s := by
      rw [e, ← h2, List.getD_eq_getElem?_getD, List.getElem?_append_right (by omega), show a.length + (1 + b.length) - a.length = b.length + 1 by omega, List.getElem?_cons_succ, List.getElem?_append_right (by omega), Nat.sub_self]; rfl
    rw [e1] at hR ⊢
    rw [e2] at hS ⊢
    have e3 : A.set i (addRow n r s m) = a ++ addRow n r s m :: (b ++ s :: c) := by
      rw [e, ← h1, List.set_append_right _ _ (Nat.le_refl _), Nat.sub_self, List.set_cons_zero]
    rw [e3, e]
    simp only [List.map_append, List.map_cons]
    rw [cf_addRow m hR hS, add_after]
  · obtain ⟨a, s, b, r, c, e, h1, h2⟩ := split2 A j i h hi
    have e1 : A.getD j [] = s := by
      rw [e, List.getD_eq_getElem?_getD, List.getElem?_append_right (by omega), h1, Nat.sub_self]; rfl
    have e2 : A.getD i [] = r := by
      rw [e, ← h2, List.getD_eq_getElem?_getD, List.getElem?_append_right (by omega), show a.length + (1 + b.length) - a.length = b.length + 1 by omega, List.getElem?_cons_succ, List.getElem?_append_right (by omega), Nat.sub_self]; rfl
    rw [e1] at hS ⊢
    rw [e2] at hR ⊢
    have e3 : A.set i (addRow n r s m) = a ++ s :: (b ++ addRow n r s m :: c) := by
      rw [e, ← h2, List.set_append_right _ _ (by omega), show a.length + (1 + b.length) - a.length = b.length + 1 by omega, List.set_cons_succ, List.set_append_right _ _ (by omega), Nat.sub_self, List.set_cons_zero]
    rw [e3, e]
    simp only [List.map_append, List.map_cons]
    rw [cf_addRow m hR hS, add_before]
end DT

set_option linter.all false
set_option exponentiation.threshold 100000
/-! The rows of a resultant. -/
namespace DT
open ML RB
def bits : List Int → Nat
  | [] => 0
  | x :: r => max (x.natAbs.log2 + 1) (bits r)
theorem bits_cf : ∀ (R : List Int) (j : Nat), (cf R j).natAbs ≤ 2 ^ bits R
  | [], j => by rw [cf_nil]; exact Nat.zero_le _
  | x :: r, 0 => by
    rw [cf_zero]
    have h1 : x.natAbs < 2 ^ (x.natAbs.log2 + 1) := Nat.lt_log2_self
    exact Nat.le_trans (Nat.le_of_lt h1) (Nat.pow_le_pow_right (by decide) (Nat.le_max_left ..))
  | x :: r, j + 1 => by
    rw [cf_succ]
    exact Nat.le_trans (bits_cf r j) (Nat.pow_le_pow_right (by decide) (Nat.le_max_right ..))
theorem bits_le {b : Nat} (h0 : 1 ≤ b) : ∀ {R : List Int}, Sz b R → bits R ≤ b
  | [], _ => Nat.zero_le _
  | x :: r, h => by
    unfold bits
    refine Nat.max_le.mpr ⟨?_, bits_le h0 fun y hy => h y (List.mem_cons_of_mem _ hy)⟩
    have hx := h x (List.mem_cons_self ..)
    by_cases z : x.natAbs = 0
    · rw [z]; show 0 + 1 ≤ b; omega
    · have := (Nat.log2_lt z).mpr hx
      omega
/-- a row: the list turned round, noughts ahead and behind -/
def sylRow (k t : Nat) (P : List Int) : List Int := List.replicate k 0 ++ P.reverse ++ List.replicate t 0
def sylR (n : Nat) (P : List Int) : List (List Int) := (List.range n).map fun k => sylRow k (n - 1 - k) P
def sylL (P Q : List Int) : List (List Int) := sylR (Q.length - 1) P ++ sylR (P.length - 1) Q
theorem sylR_len (n : Nat) (P : List Int) : (sylR n P).length = n := by unfold sylR; rw [List.length_map, List.length_range]
theorem sylRow_sz {b k t : Nat} {P : List Int} (h : Sz b P) : Sz b (sylRow k t P) := fun x hx => by
  unfold sylRow at hx
  simp only [List.mem_append, List.mem_replicate, List.mem_reverse] at hx
  rcases hx with (⟨_, rfl⟩ | hx) | ⟨_, rfl⟩
  · exact Nat.two_pow_pos _
  · exact h x hx
  · exact Nat.two_pow_pos _
theorem sylRow_len (k t : Nat) (P : List Int) : (sylRow k t P).length = k + P.length + t := by
  unfold sylRow; simp only [List.length_append, List.length_replicate, List.length_reverse]
theorem cf_sylRow {k t N : Nat} {P : List Int} (hN : k + P.length + t = N) {c : Nat} (hc : c < N) : cf (sylRow k t P) (N - 1 - c) = sh t (cf P) c := by
  unfold sh
  by_cases h1 : c < t
  · rw [if_pos h1]
    refine cf_some ?_
    unfold sylRow
    rw [List.getElem?_append_right (by simp only [List.length_append, List.length_replicate, List.length_reverse]; omega), List.getElem?_replicate, if_pos]
    simp only [List.length_append, List.length_replicate, List.length_reverse]; omega
  · rw [if_neg h1]
    by_cases h2 : c - t < P.length
    · rw [cf_get h2]
      refine cf_some ?_
      unfold sylRow
      rw [List.getElem?_append_left (by simp only [List.length_append, List.length_replicate, List.length_reverse]; omega), List.getElem?_append_right (by rw [List.length_replicate]; omega), List.length_replicate, List.getElem?_reverse (by omega), show P.length - 1 - (N - 1 - c - k) = c - t by omega, List.getElem?_eq_getElem h2]
    · rw [cf_beyond (P := P) (by omega)]
      refine cf_some ?_
      unfold sylRow
      rw [List.append_assoc, List.getElem?_append_left (by rw [List.length_replicate]; omega), List.getElem?_replicate, if_pos (by omega)]
theorem all2_shs {P : Row → Row → Prop} {p : Row} : ∀ (n : Nat) (f : Nat → Row), (∀ k, k < n → P (f k) (sh (n - 1 - k) p)) → All2 P ((List.range n).map f) (shs n p)
  | 0, _, _ => trivial
  | n + 1, f, h => by
    rw [List.range_succ_eq_map, List.map_cons, List.map_map]
    refine ⟨h 0 (by omega), all2_shs n (f ∘ Nat.succ) fun k hk => ?_⟩
    have := h (k + 1) (by omega)
    rw [show n + 1 - 1 - (k + 1) = n - 1 - k by omega] at this
    exact this
theorem syl_part {N n : Nat} {P : List Int} (h : n - 1 + P.length = N ∨ n = 0) : All2 (fun e a => ∀ c ∈ dn N, e c = a c) (((sylR n P).map cf).map fun r c => r (N - 1 - c)) (shs n (cf P)) := by
  unfold sylR
  rw [List.map_map, List.map_map]
  refine all2_shs n _ fun k hk c hc => ?_
  have := mem_dn hc
  exact cf_sylRow (by omega) this
theorem syl_D {P Q : List Int} (hP : P ≠ []) (hQ : Q ≠ []) : D (List.range (P.length - 1 + (Q.length - 1))) ((sylL P Q).map cf) = Res (P.length - 1) (Q.length - 1) (cf P) (cf Q) := by
  have lP := List.length_pos_iff.mpr hP
  have lQ := List.length_pos_iff.mpr hQ
  rw [range_dn, D_relabel]
  unfold Res
  refine D_congr _ _ _ ?_
  unfold sylL
  rw [List.map_append, List.map_append]
  exact all2_app (syl_part (by omega)) (syl_part (by omega))
theorem sum_le (w : List Int → Nat) (b : Nat) : ∀ l : List (List Int), (∀ R ∈ l, w R ≤ b) → (l.map w).sum ≤ l.length * b
  | [], _ => by simp
  | R :: l, h => by
    have h1 := h R (List.mem_cons_self ..)
    have h2 := sum_le w b l fun S hS => h S (List.mem_cons_of_mem _ hS)
    rw [List.map_cons, List.sum_cons, List.length_cons, Nat.add_mul, Nat.one_mul]
    omega
/-- the resultant -/
def resL (P Q : List Int) : Int := if P = [] ∨ Q = [] then 0 else Res (P.length - 1) (Q.length - 1) (cf P) (cf Q)
/-- what the walk asks -/
structure ResOk (P Q : List Int) (b c : Nat) : Prop where
  b0 : 1 ≤ b
  c0 : 1 ≤ c
  sP : Sz b P
  sQ : Sz c Q
  n9 : P.length - 1 + (Q.length - 1) ≤ 16
  w9 : (Q.length - 1) * b + (P.length - 1) * c ≤ 8900
theorem syl_wd {P Q : List Int} (hP : P ≠ []) (hQ : Q ≠ []) : ∀ R ∈ sylL P Q, R.length = P.length - 1 + (Q.length - 1) := by
  have lP := List.length_pos_iff.mpr hP
  have lQ := List.length_pos_iff.mpr hQ
  intro R hR
  unfold sylL sylR at hR
  rcases List.mem_append.mp hR with hR | hR
  · obtain ⟨k, hk, rfl⟩ := List.mem_map.mp hR
    have := List.mem_range.mp hk
    rw [sylRow_len]; omega
  · obtain ⟨k, hk, rfl⟩ := List.mem_map.mp hR
    have := List.mem_range.mp hk
    rw [sylRow_len]; omega
/-- a bound of a resultant -/
theorem bound_le {N W M : Nat} (hN : N ≤ 16) (hW : W ≤ M) : N ^ N * 2 ^ W ≤ 2 ^ (64 + M) := by
  have h1 : N ^ N ≤ 16 ^ 16 := Nat.le_trans (Nat.pow_le_pow_left hN _) (Nat.pow_le_pow_right (by decide) hN)
  rw [Nat.pow_add]
  exact Nat.mul_le_mul (Nat.le_trans h1 (by decide)) (Nat.pow_le_pow_right (by decide) hW)
theorem ResOk.ok {P Q : List Int} {b c : Nat} (h : ResOk P Q b c) (hP : P ≠ []) (hQ : Q ≠ []) : detOk (sylL P Q).length 0 (sylL P Q) 1 ∧ MT.detL (sylL P Q) = resL P Q := by
  have wd := syl_wd hP hQ
  have ln : (sylL P Q).length = P.length - 1 + (Q.length - 1) := by
    unfold sylL; rw [List.length_append, sylR_len, sylR_len]; omega
  have n9 := h.n9
  have w9 := h.w9
  refine ⟨detOk_of (N := 9000) (W := 8900) ln wd (fun R _ j => bits_cf R j) ?_ (by omega) ?_ (by decide) (by decide), ?_⟩
  · refine Nat.le_trans ?_ w9
    unfold sylL
    rw [List.map_append, List.sum_append]
    have h1 := sum_le bits b (sylR (Q.length - 1) P) fun R hR => by
      unfold sylR at hR
      obtain ⟨k, _, rfl⟩ := List.mem_map.mp hR
      exact bits_le h.b0 (sylRow_sz h.sP)
    have h2 := sum_le bits c (sylR (P.length - 1) Q) fun R hR => by
      unfold sylR at hR
      obtain ⟨k, _, rfl⟩ := List.mem_map.mp hR
      exact bits_le h.c0 (sylRow_sz h.sQ)
    rw [sylR_len] at h1 h2
    omega
  · exact Nat.lt_of_le_of_lt (bound_le n9 (Nat.le_refl _)) (Nat.pow_lt_pow_right (by decide) (by decide))
  · rw [detL_eq ln wd (fun R _ j => bits_cf R j), syl_D hP hQ]
    unfold resL
    rw [if_neg fun z => z.elim hP hQ]
theorem ResOk.lt {P Q : List Int} {b c M : Nat} (h : ResOk P Q b c) (hM : (Q.length - 1) * b + (P.length - 1) * c ≤ M) : (resL P Q).natAbs < 2 ^ (65 + M) := by
  unfold resL
  split
  · exact Nat.two_pow_pos _
  · next hn =>
    have hP : P ≠ [] := fun z => hn (.inl z)
    have hQ : Q ≠ [] := fun z => hn (.inr z)
    have ln : (sylL P Q).length = P.length - 1 + (Q.length - 1) := by
      unfold sylL; rw [List.length_append, sylR_len, sylR_len]; omega
    rw [← syl_D hP hQ]
    have hb := boundW (L := P.length - 1 + (Q.length - 1)) bits (List.range (P.length - 1 + (Q.length - 1))) (sylL P Q) (by omega) (fun R _ j => bits_cf R j)
    rw [List.length_range] at hb
    have hs : ((sylL P Q).map bits).sum ≤ M := by
      refine Nat.le_trans ?_ hM
      unfold sylL
      rw [List.map_append, List.sum_append]
      have h1 := sum_le bits b (sylR (Q.length - 1) P) fun R hR => by
        unfold sylR at hR
        obtain ⟨k, _, rfl⟩ := List.mem_map.mp hR
        exact bits_le h.b0 (sylRow_sz h.sP)
      have h2 := sum_le bits c (sylR (P.length - 1) Q) fun R hR => by
        unfold sylR at hR
        obtain ⟨k, _, rfl⟩ := List.mem_map.mp hR
        exact bits_le h.c0 (sylRow_sz h.sQ)
      rw [sylR_len] at h1 h2
      omega
    refine Nat.lt_of_le_of_lt (Nat.le_trans hb (bound_le h.n9 hs)) (Nat.pow_lt_pow_right (by decide) (by omega))
end DT

set_option linter.all false
set_option exponentiation.threshold 100000
/-! Resultants of lists. -/
namespace DT
open ML RB
theorem cf_pm (P Q : List Int) : cf (mulU P Q) = pm (cf P) (cf Q) := by
  funext k
  rw [cf_mulU]; rfl
theorem deg_cf {P : List Int} {m : Nat} (h : P.length ≤ m + 1) : Deg (cf P) m := fun j hj => cf_beyond (by omega)
theorem mulU_len' {P Q : List Int} (hP : P ≠ []) (hQ : Q ≠ []) : (mulU P Q).length = P.length + Q.length - 1 := by
  unfold mulU
  rw [if_neg fun z => z.elim hP hQ, List.length_map, List.length_range]
theorem mulU_ne {P Q : List Int} (hP : P ≠ []) (hQ : Q ≠ []) : mulU P Q ≠ [] := by
  have lP := List.length_pos_iff.mpr hP
  have lQ := List.length_pos_iff.mpr hQ
  have := mulU_len' hP hQ
  intro z
  rw [z] at this
  simp at this
  omega
theorem resL_eq {P Q : List Int} {m n : Nat} (hP : P.length = m + 1) (hQ : Q.length = n + 1) : resL P Q = Res m n (cf P) (cf Q) := by
  unfold resL
  rw [if_neg, hP, hQ]
  · rfl
  · rintro (rfl | rfl)
    · simp at hP
    · simp at hQ
theorem resL_const {c : Int} {Q : List Int} {n : Nat} (hQ : Q.length = n + 1) : resL [c] Q = c ^ n := by
  rw [resL_eq (m := 0) rfl hQ, Res_const (deg_cf (by simp))]; rfl
theorem resL_mul {P Q R : List Int} {m n d : Nat} (hP : P.length = m + 1) (hQ : Q.length = n + 1) (hR : R.length = d + 1) (h0 : cf R d ≠ 0) : resL (mulU P R) Q = resL P Q * resL R Q := by
  have nP : P ≠ [] := fun z => by rw [z] at hP; simp at hP
  have nR : R ≠ [] := fun z => by rw [z] at hR; simp at hR
  rw [resL_eq (m := m + d) (n := n) (by rw [mulU_len' nP nR]; omega) hQ, resL_eq hP hQ, resL_eq hR hQ, cf_pm]
  exact Res_mul (deg_cf (by omega)) (deg_cf (by omega)) (deg_cf (by omega)) h0
theorem resL_swap {P Q : List Int} {m n : Nat} (hP : P.length = m + 1) (hQ : Q.length = n + 1) : resL Q P = (-1) ^ (m * n) * resL P Q := by
  rw [resL_eq hP hQ, resL_eq hQ hP, Res_swap]
theorem resL_common {P Q F : List Int} {m n d : Nat} (hP : P.length = m + 1) (hQ : Q.length = n + 1) (hF : F.length = d + 1) (hd : 0 < d) : resL (mulU P F) (mulU Q F) = 0 := by
  have nP : P ≠ [] := fun z => by rw [z] at hP; simp at hP
  have nQ : Q ≠ [] := fun z => by rw [z] at hQ; simp at hQ
  have nF : F ≠ [] := fun z => by rw [z] at hF; simp at hF
  rw [resL_eq (m := m + d) (n := n + d) (by rw [mulU_len' nP nF]; omega) (by rw [mulU_len' nQ nF]; omega), cf_pm, cf_pm]
  exact Res_common (deg_cf (by omega)) (deg_cf (by omega)) hd
theorem resL_add {P H L S : List Int} {m h d : Nat} (hP : P.length = m + 1) (hH : H.length = h + 1) (hL : L.length = d + 1) (hS : S.length = m + h + 1) (hd : d < m) (e : ∀ j, cf S j = cf L j + cv P H j) : resL P S = cf P m ^ (m + h - d) * resL P L := by
  rw [resL_eq hP hS, resL_eq hP hL]
  have : cf S = fun j => cf L j + pm (cf H) (cf P) j := by
    funext j
    rw [e, pm_comm]; rfl
  rw [this]
  exact Res_add (deg_cf (by omega)) (deg_cf (by omega)) (deg_cf (by omega)) hd
theorem hom_shift (a b : Int) : ∀ (n : Nat) (q : Row), hom a b q (n + 1) = a * hom a b (fun j => q (j + 1)) n + q 0 * b ^ (n + 1)
  | 0, q => by
    show b * q 0 + q 1 * a ^ 1 = a * q 1 + q 0 * b ^ 1
    grind
  | n + 1, q => by
    have ih := hom_shift a b n q
    have e : hom a b q (n + 1 + 1) = b * hom a b q (n + 1) + q (n + 1 + 1) * a ^ (n + 1 + 1) := rfl
    have e2 : hom a b (fun j => q (j + 1)) (n + 1) = b * hom a b (fun j => q (j + 1)) n + q (n + 1 + 1) * a ^ (n + 1) := rfl
    rw [e, ih, e2, Int.pow_succ a (n + 1), Int.pow_succ b (n + 1)]
    grind
theorem hs_two (a b : Int) : ∀ Q : List Int, (MH.hs a b Q).2 = b ^ Q.length
  | [] => by simp [MH.hs]
  | x :: r => by rw [MH.hs_cons, hs_two a b r, List.length_cons, Int.pow_succ]
theorem hs_hom (a b : Int) : ∀ (n : Nat) (Q : List Int), Q.length = n + 1 → MH.topL Q a b = hom a b (cf Q) n
  | 0, [x], _ => by simp [MH.topL, MH.hs, hom, cf]
  | n + 1, x :: r, h => by
    have hr : r.length = n + 1 := by rw [List.length_cons] at h; omega
    have ih := hs_hom a b n r hr
    unfold MH.topL at ih ⊢
    rw [MH.hs_cons, hom_shift]
    show (MH.hs a b r).1 * a + x * (MH.hs a b r).2 = a * hom a b (fun j => cf (x :: r) (j + 1)) n + cf (x :: r) 0 * b ^ (n + 1)
    have e : (fun j => cf (x :: r) (j + 1)) = cf r := by funext j; rw [cf_succ]
    rw [e, ih, hs_two, hr, cf_zero]
    grind
theorem resL_lin {Q : List Int} {n : Nat} (a b : Int) (hQ : Q.length = n + 1) : resL [-a, b] Q = MH.topL Q a b := by
  rw [resL_eq (m := 1) rfl hQ, hs_hom a b n Q hQ]
  unfold Res
  rw [show 1 + n = n + 1 by omega]
  have := Res_lin (p := cf [-a, b]) (q := cf Q) (deg_cf (by simp)) a rfl n
  show D (dn (n + 1)) (shs n (cf [-a, b]) ++ [sh 0 (cf Q)]) = _
  rw [sh_zero]
  exact this
theorem sz_lin {P : List Int} {a b : Int} {n k : Nat} (hP : Sz n P) (ha : a.natAbs < 2 ^ k) (hb : b.natAbs < 2 ^ k) : Sz (n + k + 1) (mulU P [-a, b]) := Sz.of fun j _ => by
  rw [cf_mulU, MH.cv_lin]
  have h1 := L2.wide_lt (hP.cf j) ha
  have h2 : (if j = 0 then 0 else cf P (j - 1) * b).natAbs < 2 ^ (n + k) := by
    split
    · exact Nat.two_pow_pos _
    · exact L2.wide_lt (hP.cf _) hb
  rw [Nat.pow_succ]
  have e : (cf P j * -a).natAbs = (cf P j * a).natAbs := by rw [Int.mul_neg, Int.natAbs_neg]
  generalize (2 : Nat) ^ (n + k) = B at h1 h2
  omega
end DT
namespace DT
open ML RB
theorem sq_one (k : Nat) : ((-1 : Int) ^ k) * ((-1) ^ k) = 1 := by
  rw [← Int.pow_add, ← Nat.two_mul, Int.pow_mul, show ((-1 : Int) ^ 2) = 1 from rfl, Int.one_pow]
theorem resL_mul_right {P Q R : List Int} {m n r : Nat} (hP : P.length = m + 1) (hQ : Q.length = n + 1) (hR : R.length = r + 1) (h0 : cf R r ≠ 0) : resL P (mulU Q R) = resL P Q * resL P R := by
  have nQ : Q ≠ [] := fun z => by rw [z] at hQ; simp at hQ
  have nR : R ≠ [] := fun z => by rw [z] at hR; simp at hR
  have lQR : (mulU Q R).length = n + r + 1 := by rw [mulU_len' nQ nR]; omega
  rw [resL_swap lQR hP, resL_mul hQ hP hR h0, resL_swap hP hQ, resL_swap hP hR, show (n + r) * m = m * n + m * r by rw [Nat.add_mul, Nat.mul_comm n, Nat.mul_comm r], Int.pow_add]
  have h1 := sq_one (m * n)
  have h2 := sq_one (m * r)
  generalize ((-1 : Int) ^ (m * n)) = x at h1 ⊢
  generalize ((-1 : Int) ^ (m * r)) = y at h2 ⊢
  grind
theorem resL_add' {P H L S : List Int} {m h d : Nat} (hP : P.length = m + 1) (hH : H.length = h + 1) (hL : L.length = d + 1) (hS : S.length = m + h + 1) (hd : d < m) (e : ∀ j, cf S j = cv P H j + cf L j) : resL P S * cf P m ^ d = resL P L * cf P m ^ (m + h) := by
  rw [resL_add hP hH hL hS hd fun j => by rw [e]; omega, show m + h = m + h - d + d by omega, Int.pow_add, Nat.add_sub_cancel]
  grind
end DT

set_option linter.all false
set_option exponentiation.threshold 100000
/-! The greatest common part: Gauss, Euclid's row of plain polynomials, what it ends with. -/
namespace CG
open ML MR MP MQ MD PS PS.S MG CO MS
/-! ## Gauss -/
theorem least_div {g : Nat} (h : g ≠ 1) : ∃ p, 2 ≤ p ∧ p ∣ g ∧ ∀ d, 2 ≤ d → d ∣ g → p ≤ d := by
  obtain ⟨n, hn, hl⟩ := MB.least_ (fun d => 2 ≤ d ∧ d ∣ g) (by
    by_cases h0 : g = 0
    · exact ⟨2, Nat.le_refl _, by rw [h0]; exact Nat.dvd_zero 2⟩
    · exact ⟨g, by omega, Nat.dvd_refl g⟩)
  refine ⟨n, hn.1, hn.2, fun d h2 hd => ?_⟩
  apply Classical.byContradiction
  intro hh
  exact hl d (by omega) ⟨h2, hd⟩
theorem prime_like {p g : Nat} (h2 : 2 ≤ p) (hg : p ∣ g) (hm : ∀ d, 2 ≤ d → d ∣ g → p ≤ d) {a b : Int} (h : (p : Int) ∣ a * b) : (p : Int) ∣ a ∨ (p : Int) ∣ b := by
  have hN : p ∣ a.natAbs * b.natAbs := by
    have := Int.natAbs_dvd_natAbs.mpr h
    rw [Int.natAbs_mul] at this
    exact this
  have hd : Nat.gcd p a.natAbs ∣ p := Nat.gcd_dvd_left ..
  by_cases h1 : Nat.gcd p a.natAbs = 1
  · right
    exact Int.natAbs_dvd_natAbs.mp (Nat.Coprime.dvd_of_dvd_mul_left h1 hN)
  · left
    have hpos : Nat.gcd p a.natAbs ≠ 0 := fun z => by
      have := Nat.gcd_eq_zero_iff.mp z
      omega
    have hle := hm _ (by omega) (Nat.dvd_trans hd hg)
    have hle2 := Nat.le_of_dvd (by omega) hd
    have e : Nat.gcd p a.natAbs = p := by omega
    have : p ∣ a.natAbs := by
      have := Nat.gcd_dvd_right p a.natAbs
      rwa [e] at this
    exact Int.natAbs_dvd_natAbs.mp this
theorem dvd_single {p : Int} {n : Nat} {f : Nat → Int} {i : Nat} (hi : i < n) (h : ∀ k, k < n → k ≠ i → p ∣ f k) (hs : p ∣ sm n f) : p ∣ f i := by
  have : p ∣ sm n f - f i := by
    have h1 : sm n (fun k => if k = i then 0 else f k) = sm n f - f i := by
      have h2 : sm n (fun k => if k = i then f k else 0) = f i := by
        rw [sm_single hi fun k _ hn => if_neg hn, if_pos rfl]
      rw [← h2, ← sm_sub]
      refine sm_congr fun k _ => ?_
      split <;> omega
    rw [← h1]
    have : ∀ m, m ≤ n → p ∣ sm m (fun k => if k = i then 0 else f k) := fun m => by
      induction m with
      | zero => intro _; exact Int.dvd_zero p
      | succ m ih =>
        intro hm
        rw [sm_succ]
        refine Int.dvd_add (ih (by omega)) ?_
        show p ∣ (if m = i then 0 else f m)
        split
        · exact Int.dvd_zero p
        · next hn => exact h m (by omega) hn
    exact this n (Nat.le_refl _)
  have := Int.dvd_sub hs this
  rwa [Int.sub_sub_self] at this
theorem gauss {P Q : List Int} (hP : gcdN P = 1) (hQ : gcdN Q = 1) : gcdN (mulU P Q) = 1 := by
  apply Classical.byContradiction
  intro hg
  obtain ⟨p, p2, pg, pm⟩ := least_div hg
  have some_not : ∀ {R : List Int}, gcdN R = 1 → ∃ i, ¬ (p : Int) ∣ cf R i := fun {R} hR => by
    apply Classical.byContradiction
    intro hh
    have : p ∣ gcdN R := dvd_gcdN (mem_cf.mpr fun k => by
      apply Classical.byContradiction
      intro hk; exact hh ⟨k, hk⟩)
    rw [hR] at this
    have := Nat.le_of_dvd (by decide) this
    omega
  obtain ⟨i, hi, hil⟩ := MB.least_ _ (some_not hP)
  obtain ⟨j, hj, hjl⟩ := MB.least_ _ (some_not hQ)
  have hd : (p : Int) ∣ cv P Q (i + j) := by
    rw [← cf_mulU]
    exact Int.dvd_trans (Int.ofNat_dvd.mpr pg) (gcdN_cf _ _)
  have := dvd_single (i := i) (f := fun k => cf P k * cf Q (i + j - k)) (by omega) (fun k hk hn => by
    by_cases hlt : k < i
    · have h1 : (p : Int) ∣ cf P k := by
        apply Classical.byContradiction
        intro h; exact hil k hlt h
      exact Int.dvd_trans h1 (Int.dvd_mul_right ..)
    · have h1 : (p : Int) ∣ cf Q (i + j - k) := by
        apply Classical.byContradiction
        intro h; exact hjl (i + j - k) (by omega) h
      exact Int.dvd_trans h1 (Int.dvd_mul_left ..)) hd
  rw [show i + j - i = j by omega] at this
  rcases prime_like p2 pg pm this with h | h
  · exact hi h
  · exact hj h
/-! ## plain polynomials -/
/-- a plain polynomial, not [] -/
structure Pl (P : List Int) : Prop where
  ne : P ≠ []
  g1 : gcdN P = 1
  pos : 0 < cf P (P.length - 1)
variable {P Q A B H T : List Int}
theorem Pl.trim (h : Pl P) : Trim P := .inr (by have := h.pos; omega)
theorem Pl.plain (h : Pl P) : plainL P = P := plainL_self h.g1 fun _ => Int.le_of_lt h.pos
theorem Pl.of (t : Trim P) (n : P ≠ []) : Pl (plainL P) := by
  have l := plainL_len P
  refine ⟨fun z => n (List.eq_nil_of_length_eq_zero (by rw [← l, z]; rfl)), gcd_one_of (p := []) n t, plainL_last t n⟩
theorem Pl.mul (h : Pl P) (h' : Pl Q) : Pl (mulU P Q) := by
  have ne := DT.mulU_ne h.ne h'.ne
  have lP := List.length_pos_iff.mpr h.ne
  have lQ := List.length_pos_iff.mpr h'.ne
  refine ⟨ne, gauss h.g1 h'.g1, ?_⟩
  rw [DT.mulU_len' h.ne h'.ne, cf_mulU, show P.length + Q.length - 1 - 1 = (P.length - 1) + (Q.length - 1) by omega, cv_top (fun i hi => cf_beyond (by omega)) (fun i hi => cf_beyond (by omega))]
  exact Int.mul_pos h.pos h'.pos
/-- two plain ones that differ by a factor -/
theorem Pl.eq {x y : Int} (h : Pl P) (h' : Pl Q) (hx : x ≠ 0) (hy : y ≠ 0) (e : ∀ k, x * cf P k = y * cf Q k) : P = Q := by
  rw [← h.plain, ← h'.plain]
  exact plain_prop h.trim h'.trim hx hy e
/-- Q divides P, but for a number -/
def Dvd (Q P : List Int) : Prop := ∃ (w : Int) (X : List Int), w ≠ 0 ∧ ∀ k, w * cf P k = cv X Q k
theorem Dvd.rem (h : Dvd Q P) (tP : Trim P) (tQ : Trim Q) (nQ : Q ≠ []) : remL P Q = [] := by
  obtain ⟨w, X, w0, e⟩ := h
  exact (rem_nil w0 tP tQ nQ (R := []) (List.length_pos_iff.mpr nQ) (.inl rfl) fun k => by rw [e, cf_nil, Int.add_zero]).mpr rfl
/-- the list of a row that ends -/
def toL (p : Nat → Int) (n : Nat) : List Int := (List.range n).map p
theorem toL_len (p : Nat → Int) (n : Nat) : (toL p n).length = n := by unfold toL; rw [List.length_map, List.length_range]
theorem cf_toL {p : S} {n : Nat} (h : Lt p n) (k : Nat) : cf (toL p n) k = p k := by
  by_cases hk : k < n
  · exact cf_range hk
  · rw [cf_beyond (Nat.le_trans (Nat.le_of_eq (toL_len p n)) (by omega)), h k (by omega)]
theorem of_toL {p : S} {n : Nat} (h : Lt p n) : of (toL p n) = p := S.ext fun k => cf_toL h k
theorem Dvd.ofS {w : Int} {X : S} {n : Nat} (w0 : w ≠ 0) (hX : Lt X n) (e : con w * of P = X * of Q) : Dvd Q P := ⟨w, toL X n, w0, fun k => by
  have := congrFun e k
  rw [S.con_mul, ← of_toL hX] at this
  exact this⟩
theorem of_mulU (P Q : List Int) : of (mulU P Q) = of P * of Q := S.ext fun k => by rw [of_at, cf_mulU]; rfl
theorem cancel {p q h : S} {n b : Nat} (hp : Lt p n) (hq : Lt q n) (hh : Lt h (b + 1)) (h0 : h b ≠ 0) (e : p * h = q * h) : p = q := by
  have l : Lt ((p - q) * h) (0 + b) := fun j _ => by
    have : (p - q) * h = 0 := by
      have : (p - q) * h = p * h - q * h := by grind
      rw [this, e]; grind
    rw [this, zero_at]
  have := Lt.zero (lt_div hh h0 l n ((hp.sub hq).mono (by omega)))
  have h2 : p = (p - q) + q := by grind
  rw [h2, this]; grind
/-- what is left of P, where H is taken out -/
theorem part_of (hd : Dvd H P) (tP : Trim P) (nP : P ≠ []) (hH : Pl H) : Pl (plainL (quoL P H)) ∧ mulU (plainL (quoL P H)) H = plainL P := by
  have r0 := hd.rem tP hH.trim hH.ne
  have f0 := facL_pos (P := P) hH.trim hH.ne
  have eq : ∀ k, facL P H * cf P k = cv (quoL P H) H k := fun k => by rw [div_eq hH.trim hH.ne, r0, cf_nil, Int.add_zero]
  have nq : quoL P H ≠ [] := fun z => by
    have tp := trim_last tP nP
    have := eq (P.length - 1)
    rw [z] at this
    have z2 : cv [] H (P.length - 1) = 0 := cv_zero_left (fun i => cf_nil i) _
    rw [z2] at this
    exact (Int.mul_ne_zero (show facL P H ≠ 0 by omega) tp) this
  have pq := Pl.of (trim_quo P H) nq
  refine ⟨pq, ?_⟩
  obtain ⟨c, hc, ec⟩ := plain_mul (quoL P H)
  have c0 := hc nq (trim_quo P H)
  rw [← (pq.mul hH).plain]
  refine plain_prop (x := c) (y := facL P H) (pq.mul hH).trim tP c0 (by omega) fun k => ?_
  rw [eq, cf_mulU, ← cv_scl_left]
  exact cv_congr (fun i => by rw [cf_sclL, ← ec]) (fun i => rfl) k
/-! ## Euclid's row -/
def comL : Nat → List Int → List Int → List Int
  | 0, A, _ => A
  | f + 1, A, B => if B = [] then A else comL f B (plainL (remL A B))
/-- what the walk asks -/
def ComOk : Nat → List Int → List Int → Prop
  | 0, _, B => B = []
  | f + 1, A, B => B = [] ∨ (Trim B ∧ (∃ n m, Sz n A ∧ Sz m B ∧ A.length ≤ 100000 ∧ B.length ≤ 100000 ∧ 0 < n ∧ 0 < m ∧ m ≤ 9000 ∧ n + (2 * m + 1) * (A.length + 1) ≤ 900000) ∧ (remL A B ≠ [] → ShrX (remL A B)) ∧ ComOk f B (plainL (remL A B)))
/-- P and Q, and a bound of all rests of theirs -/
structure Bdd (P Q : List Int) : Prop where
  pP : Pl P
  pQ : Pl Q
  sP : Sz 4000 P
  sQ : Sz 4000 Q
  hl : P.length ≤ 100
  bd : ∀ A B, Cof P Q A B → B.length < A.length → A.length ≤ Q.length + 1 → gcdN B = 1 → Sz 4000 B
/-- a pair on the way -/
structure Way (P Q A B : List Int) : Prop where
  c : Cof P Q A B
  pA : Pl A
  pB : B = [] ∨ Pl B
  le : B.length ≤ A.length
  lQ : B.length ≤ Q.length
  lA : A.length ≤ 100
  sA : Sz 4000 A
  sB : Sz 4000 B
theorem plain_shr {n : Nat} {R : List Int} (h : Sz n (plainL R)) : Sz n (shrunkL R) := by
  unfold plainL at h
  split at h
  · exact Sz.of fun k _ => by
      have := h.cf k
      rw [cf_negL, Int.natAbs_neg] at this
      exact this
  · exact h
theorem Way.next (E : Bdd P Q) (h : Way P Q A B) (nB : B ≠ []) : Way P Q B (plainL (remL A B)) ∧ (plainL (remL A B)).length < B.length ∧ (remL A B ≠ [] → ShrX (remL A B)) := by
  have pB : Pl B := h.pB.resolve_left nB
  have tA := h.pA.trim
  obtain ⟨q1, q2, q3⟩ := quo_facts tA h.pA.ne pB.trim nB h.le
  have f0 := facL_pos (P := A) pB.trim nB
  have lr := rem_len (P := A) pB.trim nB
  have tr := trim_rem (Q := B) tA
  have lC := plainL_len (remL A B)
  obtain ⟨c, hc0, hc⟩ := plain_mul (remL A B)
  have pC : plainL (remL A B) = [] ∨ Pl (plainL (remL A B)) := by
    by_cases hr : remL A B = []
    · left; rw [hr]; exact plainL_nil
    · right; exact Pl.of tr hr
  obtain ⟨c', c'0, hc'⟩ : ∃ c' : Int, c' ≠ 0 ∧ ∀ k, c' * cf (plainL (remL A B)) k = cf (remL A B) k := by
    by_cases hr : remL A B = []
    · refine ⟨1, by decide, fun k => ?_⟩
      rw [hr, plainL_nil]; omega
    · exact ⟨c, hc0 hr tr, fun k => (hc k).symm⟩
  have cof := h.c.step (C := plainL (remL A B)) c'0 (show facL A B ≠ 0 by omega) (by rw [q3]; exact S.ext fun k => by rw [S.con_mul, of_at, of_at]; exact hc' k) h.le (by omega) q1 q2
  have := h.le
  have := h.lQ
  have := h.lA
  have sC : Sz 4000 (plainL (remL A B)) := by
    rcases pC with e | e
    · rw [e]; exact Sz.nil _
    · exact E.bd B _ cof (by omega) (by omega) e.g1
  refine ⟨⟨cof, pB, pC, by omega, by omega, by omega, h.sB, sC⟩, by omega, fun hr => ⟨?_, .inr (plain_shr sC)⟩⟩
  have := gcdL_trim_pos tr hr
  omega
theorem Way.run (E : Bdd P Q) : ∀ (f : Nat) {A B : List Int}, Way P Q A B → B.length ≤ f → ComOk f A B ∧ Way P Q (comL f A B) []
  | 0, A, B, h, hf => by
    have nB : B = [] := List.eq_nil_of_length_eq_zero (Nat.le_zero.mp hf)
    subst nB
    exact ⟨rfl, h⟩
  | f + 1, A, B, h, hf => by
    by_cases nB : B = []
    · subst nB
      refine ⟨.inl rfl, ?_⟩
      show Way P Q (if ([] : List Int) = [] then A else _) []
      rw [if_pos rfl]; exact h
    · obtain ⟨h1, h2, h3⟩ := h.next E nB
      obtain ⟨i1, i2⟩ := Way.run E f h1 (by omega)
      have := h.le
      have := h.lA
      refine ⟨.inr ⟨(h.pB.resolve_left nB).trim, div_room h.lA h.sA h.sB (by omega), h3, i1⟩, ?_⟩
      show Way P Q (if B = [] then A else comL f B (plainL (remL A B))) []
      rw [if_neg nB]; exact i2
theorem Way.first (E : Bdd P Q) (le : Q.length ≤ P.length) : Way P Q P Q := ⟨Cof.start (a := 1) (b := 1) (by decide) (by decide) (fun k => by omega) (fun k => by omega) rfl rfl, E.pP, .inr E.pQ, le, Nat.le_refl _, E.hl, E.sP, E.sQ⟩
/-! ## what it ends with -/
/-- the common part of two plain polynomials, and what is left of them -/
structure Ends (P Q H : List Int) : Prop where
  pH : Pl H
  sH : Sz 4000 H
  dP : Dvd H P
  dQ : Dvd H Q
  co : ∃ (a : Int) (U V : S) (n : Nat), a ≠ 0 ∧ Lt U n ∧ Lt V n ∧ con a * of H = U * of P + V * of Q
theorem Way.ends (h : Way P Q H []) : Ends P Q H := by
  obtain ⟨a, b, w, U0, V0, U1, V1, a0, b0, w0, e0, e1, ew, lU0, lV0, lU1, lV1, t1, lA⟩ := h.c
  have z0 : U1 * of P + V1 * of Q = 0 := by
    rw [← e1]
    exact S.ext fun k => by rw [S.con_mul, of_at, cf_nil, zero_at]; omega
  have eP : con w * of P = con a * V1 * of H := by
    have h1 : con a * V1 * of H = V1 * (con a * of H) := by grind
    have h2 : con w * of P = V1 * (U0 * of P + V0 * of Q) - V0 * (U1 * of P + V1 * of Q) := by rw [← ew]; grind
    rw [h1, h2, e0, z0]; grind
  have eQ : con w * of Q = -(con a * U1) * of H := by
    have h1 : -(con a * U1) * of H = -(U1 * (con a * of H)) := by grind
    have h2 : con w * of Q = U0 * (U1 * of P + V1 * of Q) - U1 * (U0 * of P + V0 * of Q) := by rw [← ew]; grind
    rw [h1, h2, e0, z0]; grind
  refine ⟨h.pA, h.sA, Dvd.ofS w0 (lV1.con_mul a) eP, Dvd.ofS w0 (n := Q.length + 1 - H.length) (fun j hj => by rw [neg_at, (lU1.con_mul a) j hj]; rfl) eQ, a, U0, V0, max (Q.length + 1) P.length, a0, lU0.mono (by omega), lV0.mono (by omega), e0⟩
/-- the one way round is the other -/
theorem Ends.swap (h : Ends P Q H) : Ends Q P H := by
  obtain ⟨a, U, V, n, a0, lU, lV, e⟩ := h.co
  exact ⟨h.pH, h.sH, h.dQ, h.dP, a, V, U, n, a0, lV, lU, by rw [e]; grind⟩
theorem Dvd.comb {a : Int} {U V : S} {n : Nat} (d1 : Dvd T P) (d2 : Dvd T Q) (a0 : a ≠ 0) (lU : Lt U n) (lV : Lt V n) (e : con a * of H = U * of P + V * of Q) : Dvd T H := by
  obtain ⟨x, X, x0, ex⟩ := d1
  obtain ⟨y, Y, y0, ey⟩ := d2
  have ex' : con x * of P = of X * of T := S.ext fun k => by rw [S.con_mul]; exact ex k
  have ey' : con y * of Q = of Y * of T := S.ext fun k => by rw [S.con_mul]; exact ey k
  have e3 : con (x * y * a) * of H = (con y * U * of X + con x * V * of Y) * of T := by
    have h1 : con (x * y * a) * of H = con x * con y * (con a * of H) := by rw [← con_mul_con, ← con_mul_con]; grind
    have h2 : con x * con y * (U * of P + V * of Q) = con y * U * (con x * of P) + con x * V * (con y * of Q) := by grind
    rw [h1, e, h2, ex', ey']; grind
  refine Dvd.ofS (Int.mul_ne_zero (Int.mul_ne_zero x0 y0) a0) (n := n + X.length + Y.length) (Lt.add ?_ ?_) e3
  · exact ((lU.con_mul y).mul ((of_lt X).mono (show X.length ≤ X.length + 1 by omega))).mono (by omega)
  · exact ((lV.con_mul x).mul ((of_lt Y).mono (show Y.length ≤ Y.length + 1 by omega))).mono (by omega)
theorem Dvd.lenle (h : Dvd Q P) (nP : P ≠ []) (tP : Trim P) (tQ : Trim Q) : Q.length ≤ P.length := by
  by_cases nQ : Q = []
  · rw [nQ]; exact Nat.zero_le _
  apply Classical.byContradiction
  intro hh
  have := h.rem tP tQ nQ
  unfold remL at this
  rw [if_pos (by omega)] at this
  exact nP this
/-- two plain ones that divide each other -/
theorem Dvd.anti (h : Dvd P Q) (h' : Dvd Q P) (pP : Pl P) (pQ : Pl Q) : P = Q := by
  have l1 := h.lenle pQ.ne pQ.trim pP.trim
  have l2 := h'.lenle pP.ne pP.trim pQ.trim
  obtain ⟨p1, p2⟩ := part_of h pQ.trim pQ.ne pP
  rw [pQ.plain] at p2
  have hl := congrArg List.length p2
  rw [DT.mulU_len' p1.ne pP.ne] at hl
  have lp := List.length_pos_iff.mpr pP.ne
  have l0 := List.length_pos_iff.mpr p1.ne
  obtain ⟨c, hc⟩ : ∃ c, plainL (quoL Q P) = [c] := List.length_eq_one_iff.mp (by omega)
  have g1 := p1.g1
  have ps := p1.pos
  rw [hc] at g1 ps
  have c1 : c = 1 := by
    have h1 : gcdN [c] = c.natAbs := by unfold gcdN; simp
    rw [h1] at g1
    have : 0 < c := ps
    omega
  rw [hc, c1] at p2
  rw [← p2]
  refine ML.ext ?_ fun k _ => ?_
  · rw [DT.mulU_len' (by simp) pP.ne]; simp
  · rw [cf_mulU, cv_comm, MN.cv_one_right]
theorem Ends.uniq {H' : List Int} (h : Ends P Q H) (h' : Ends P Q H') : H = H' := by
  obtain ⟨a, U, V, n, a0, lU, lV, e⟩ := h.co
  obtain ⟨a', U', V', n', a0', lU', lV', e'⟩ := h'.co
  exact Dvd.anti (Dvd.comb h.dP h.dQ a0' lU' lV' e') (Dvd.comb h'.dP h'.dQ a0 lU lV e) h.pH h'.pH
end CG

set_option linter.all false
set_option exponentiation.threshold 100000
/-! The common part as the law asks for it. -/
namespace CG
open ML MR MP MQ MD PS PS.S MG CO MS
variable {P Q A B H T F : List Int}
structure Sizes (P Q : List Int) (s t : Nat) : Prop where
  pP : Pl P
  pQ : Pl Q
  sP : Sz s P
  sQ : Sz s Q
  st : s ≤ t
  ht : 2 * ((P.length + Q.length) * 2 ^ s) ≤ 2 ^ t
  hw : 2 * (t * (P.length + Q.length)) + 20 ≤ 4000
  hl : P.length + Q.length ≤ 100
theorem Sizes.swap {s t : Nat} (h : Sizes P Q s t) : Sizes Q P s t := by
  have e : Q.length + P.length = P.length + Q.length := Nat.add_comm _ _
  exact ⟨h.pQ, h.pP, h.sQ, h.sP, h.st, by rw [e]; exact h.ht, by rw [e]; exact h.hw, by rw [e]; exact h.hl⟩
theorem of_one_mul (P : List Int) : of P = of P * of [1] := S.ext fun k => by
  show _ = cv P [1] k
  rw [MN.cv_one_right]; rfl
theorem Sizes.room {s t : Nat} (h : Sizes P Q s t) : s + t * (P.length + Q.length) + 9 ≤ 4000 := by
  have lP := List.length_pos_iff.mpr h.pP.ne
  have : t * 1 ≤ t * (P.length + Q.length) := Nat.mul_le_mul_left _ (by omega)
  have := h.hw
  have := h.st
  omega
theorem Sizes.bdd {s t : Nat} (h : Sizes P Q s t) : Bdd P Q := by
  have r := h.room
  have := h.hl
  refine ⟨h.pP, h.pQ, h.sP.mono (by omega), h.sQ.mono (by omega), by omega, fun A B c l1 l2 g1 => ?_⟩
  exact (c.bound' (P2 := P) (Q2 := Q) (H := [1]) h.pP.trim h.pP.ne h.pQ.ne (.inr (by decide)) (by simp) (of_one_mul P) (of_one_mul Q) h.sP h.sQ h.sP h.sQ l1 l2 g1 h.ht (by omega)).mono (by omega)
/-- what is left of both is small -/
theorem left_small {s t : Nat} {T1 T2 : List Int} (h : Sizes P Q s t) (w : Way P Q H []) (p1 : Pl T1) (p2 : Pl T2) (e1 : mulU T1 H = P) (e2 : mulU T2 H = Q) : Sz (t * (P.length + Q.length) + 2) T1 ∧ Sz (t * (P.length + Q.length) + 2) T2 := by
  have lH := List.length_pos_iff.mpr w.pA.ne
  have hAQ : H.length ≤ Q.length + 1 := by
    have := w.ends.dQ.lenle h.pQ.ne h.pQ.trim w.pA.trim
    omega
  obtain ⟨a, b, w0, U0, V0, U1, V1, ⟨a0, b0, wn, f0, f1, ew, lU0, lV0, lU1, lV1⟩, U, V, y, nu, nv, y0, wU, wV, lU, lV, lnn, bU, bV⟩ := w.c.small (P2 := P) (Q2 := Q) (H := [1]) h.pP.trim h.pP.ne h.pQ.ne (.inr (by decide)) (by simp) (of_one_mul P) (of_one_mul Q) h.sP h.sQ (by simpa using lH) hAQ h.ht
  have hb : cf H (H.length - 1) ≠ 0 := trim_last w.pA.trim w.pA.ne
  have z0 : U1 * of P + V1 * of Q = 0 := by
    rw [← f1]
    exact S.ext fun k => by rw [S.con_mul, of_at, cf_nil, zero_at]; omega
  have g1 : con w0 * of T1 = con a * V1 := by
    refine cancel (h := of H) (b := H.length - 1) ((of_lt T1).con_mul w0 |>.mono (show T1.length ≤ T1.length + P.length + 1 by omega)) ((lV1.con_mul a).mono (by omega)) ((of_lt H).mono (by omega)) hb ?_
    have k1 : con w0 * of T1 * of H = con w0 * of P := by rw [← e1, of_mulU]; grind
    have k2 : con w0 * of P = V1 * (U0 * of P + V0 * of Q) - V0 * (U1 * of P + V1 * of Q) := by rw [← ew]; grind
    rw [k1, k2, ← f0, z0]; grind
  have g2 : con w0 * of T2 = -(con a * U1) := by
    refine cancel (h := of H) (b := H.length - 1) ((of_lt T2).con_mul w0 |>.mono (show T2.length ≤ T2.length + Q.length + 1 by omega)) (q := -(con a * U1)) (fun j hj => by rw [neg_at, (lU1.con_mul a) j (by omega)]; rfl) ((of_lt H).mono (by omega)) hb ?_
    have k1 : con w0 * of T2 * of H = con w0 * of Q := by rw [← e2, of_mulU]; grind
    have k2 : con w0 * of Q = U0 * (U1 * of P + V1 * of Q) - U1 * (U0 * of P + V0 * of Q) := by rw [← ew]; grind
    rw [k1, k2, ← f0, z0]; grind
  have up : (2 : Nat) ^ (t * (P.length + Q.length) + 1) < 2 ^ (t * (P.length + Q.length) + 2) := Nat.pow_lt_pow_right (by decide) (by omega)
  constructor
  · refine Sz.of fun k _ => Nat.lt_of_le_of_lt (prim_le (B := 0) p1.g1 (Int.mul_ne_zero a0 wn) (Int.mul_ne_zero y0 wn) (p := V) (fun k => ?_) k) (Nat.lt_of_le_of_lt (bV k) up)
    have : con (a * w0) * V = con (y * w0) * of T1 := by
      have k1 : con (a * w0) * V = con a * (con w0 * V) := by rw [← con_mul_con]; grind
      have k2 : con (y * w0) * of T1 = con y * (con w0 * of T1) := by rw [← con_mul_con]; grind
      rw [k1, k2, wV, g1]; grind
    have := congrFun this k
    rw [S.con_mul, S.con_mul] at this
    exact this
  · refine Sz.of fun k _ => Nat.lt_of_le_of_lt (prim_le (B := 0) p2.g1 (Int.mul_ne_zero a0 wn) (show -(y * w0) ≠ 0 by have := Int.mul_ne_zero y0 wn; omega) (p := U) (fun k => ?_) k) (Nat.lt_of_le_of_lt (bU k) up)
    have : con (a * w0) * U = -(con (y * w0) * of T2) := by
      have k1 : con (a * w0) * U = con a * (con w0 * U) := by rw [← con_mul_con]; grind
      have k2 : con (y * w0) * of T2 = con y * (con w0 * of T2) := by rw [← con_mul_con]; grind
      rw [k1, k2, wU, g2]; grind
    have := congrFun this k
    rw [neg_at, S.con_mul, S.con_mul] at this
    rw [this, Int.neg_mul]; rfl
/-- what is left of both has a bound of its rests, too -/
theorem left_bdd {s t : Nat} {T1 T2 : List Int} (h : Sizes P Q s t) (pH : Pl H) (p1 : Pl T1) (p2 : Pl T2) (e1 : mulU T1 H = P) (e2 : mulU T2 H = Q) (s1 : Sz (t * (P.length + Q.length) + 2) T1) (s2 : Sz (t * (P.length + Q.length) + 2) T2) : Bdd T1 T2 := by
  have lH := List.length_pos_iff.mpr pH.ne
  have l1 := congrArg List.length e1
  have l2 := congrArg List.length e2
  rw [DT.mulU_len' p1.ne pH.ne] at l1
  rw [DT.mulU_len' p2.ne pH.ne] at l2
  have hl := h.hl
  have hw := h.hw
  have hT : T1.length + T2.length ≤ P.length + Q.length := by omega
  refine ⟨p1, p2, s1.mono (by omega), s2.mono (by omega), by omega, fun A B c x1 x2 g1 => ?_⟩
  have hm : t * (T1.length + T2.length) ≤ t * (P.length + Q.length) := Nat.mul_le_mul_left _ hT
  have ht' : 2 * ((T1.length + T2.length) * 2 ^ s) ≤ 2 ^ t := Nat.le_trans (Nat.mul_le_mul_left _ (Nat.mul_le_mul_right _ hT)) h.ht
  exact (c.bound' (P2 := P) (Q2 := Q) (H := H) p1.trim p1.ne p2.ne pH.trim pH.ne (by rw [← e1, of_mulU]) (by rw [← e2, of_mulU]) h.sP h.sQ s1 s2 x1 x2 g1 ht' (by omega)).mono (by omega)
/-! ## the program's common part -/
theorem rem_short (h : A.length < B.length) : remL A B = A := by unfold remL; rw [if_pos h]
theorem Pl.shr (h : Pl A) : ShrX A := by
  have h1 := h.g1
  unfold ShrX gcdL
  rw [h1]
  exact ⟨by decide, .inl (by decide)⟩
theorem com_full (E1 : Bdd P Q) (E2 : Bdd Q P) : ComOk 200 P Q ∧ ∃ H, comL 200 P Q = H ∧ (Way P Q H [] ∨ Way Q P H []) := by
  have h1 := E1.hl
  have h2 := E2.hl
  by_cases hl : Q.length ≤ P.length
  · obtain ⟨c, w⟩ := Way.run E1 200 (Way.first E1 hl) (by omega)
    exact ⟨c, _, rfl, .inl w⟩
  · obtain ⟨c, w⟩ := Way.run E2 199 (Way.first E2 (by omega)) (by omega)
    have er : plainL (remL P Q) = P := by rw [rem_short (by omega), E1.pP.plain]
    refine ⟨.inr ⟨E1.pQ.trim, div_room E1.hl E1.sP E1.sQ E2.hl, fun _ => by rw [rem_short (by omega)]; exact E1.pP.shr, by rw [er]; exact c⟩, comL 199 Q P, ?_, .inr w⟩
    show (if Q = [] then P else comL 199 Q (plainL (remL P Q))) = _
    rw [if_neg E1.pQ.ne, er]
theorem com_nil_left (h : Pl Q) (sQ : Sz 4000 Q) (lQ : Q.length ≤ 100) : ComOk 200 [] Q ∧ comL 200 [] Q = Q := by
  have er : remL [] Q = [] := rem_short (List.length_pos_iff.mpr h.ne)
  have e : plainL (remL [] Q) = [] := by rw [er]; exact plainL_nil
  refine ⟨.inr ⟨h.trim, div_room (by simp) (Sz.nil _) sQ lQ, fun hh => absurd er hh, by rw [e]; exact .inl rfl⟩, ?_⟩
  show (if Q = [] then [] else comL 199 Q (plainL (remL [] Q))) = _
  rw [if_neg h.ne, e]
  show (if ([] : List Int) = [] then Q else _) = _
  rw [if_pos rfl]
theorem com_nil_right (P : List Int) : ComOk 200 P [] ∧ comL 200 P [] = P := by
  refine ⟨.inl rfl, ?_⟩
  show (if ([] : List Int) = [] then P else _) = _
  rw [if_pos rfl]
theorem pl_one : Pl [1] := ⟨by simp, by decide, by decide⟩
theorem pl_len1 (h : Pl H) (hl : H.length ≤ 1) : H = [1] := by
  have l0 := List.length_pos_iff.mpr h.ne
  obtain ⟨c, rfl⟩ : ∃ c, H = [c] := List.length_eq_one_iff.mp (by omega)
  have g1 := h.g1
  have ps := h.pos
  have h1 : gcdN [c] = c.natAbs := by unfold gcdN; simp
  rw [h1] at g1
  have : 0 < c := ps
  rw [show c = 1 by omega]
/-- what the law asks of the common part F of P and Q, not both [] -/
structure Good (P Q F : List Int) : Prop where
  pF : Pl F
  sF : Sz 4000 F
  lF : F.length ≤ 100
  rP : remL P F = []
  rQ : remL Q F = []
  eP : mulU (plainL (quoL P F)) F = plainL P
  eQ : mulU (plainL (quoL Q F)) F = plainL Q
  tP : Trim (plainL (quoL P F))
  tQ : Trim (plainL (quoL Q F))
  sP : Sz 4000 (plainL (quoL P F))
  sQ : Sz 4000 (plainL (quoL Q F))
  lP : (plainL (quoL P F)).length ≤ 100
  lQ : (plainL (quoL Q F)).length ≤ 100
  c1 : ComOk 200 (plainL (quoL P F)) (plainL (quoL Q F)) ∧ comL 200 (plainL (quoL P F)) (plainL (quoL Q F)) = [1]
  pp1 : plainL (plainL (quoL P F)) = plainL (quoL P F)
  pp2 : plainL (plainL (quoL Q F)) = plainL (quoL Q F)
  cQP : ComOk 200 (plainL Q) (plainL P) ∧ comL 200 (plainL Q) (plainL P) = F
  dG : ∀ G, Dvd G P → Dvd G Q → Dvd G F
theorem Dvd.plain (h : Dvd H (plainL P)) (tP : Trim P) (nP : P ≠ []) : Dvd H P := by
  obtain ⟨w, X, w0, e⟩ := h
  obtain ⟨c, hc, ec⟩ := plain_mul P
  refine ⟨w, sclL c X, w0, fun k => ?_⟩
  rw [cv_scl_left, ← e, ec]
  have : w * (c * cf (plainL P) k) = c * (w * cf (plainL P) k) := by rw [Int.mul_left_comm]
  exact this
theorem Dvd.toPlain (h : Dvd H P) (tP : Trim P) (nP : P ≠ []) : Dvd H (plainL P) := by
  obtain ⟨w, X, w0, e⟩ := h
  obtain ⟨c, hc, ec⟩ := plain_mul P
  refine ⟨w * c, X, Int.mul_ne_zero w0 (hc nP tP), fun k => ?_⟩
  rw [← e, ec, Int.mul_assoc]
theorem Dvd.nil (H : List Int) : Dvd H [] := ⟨1, [], by decide, fun k => by rw [cf_nil, cv_zero_left (fun i => cf_nil i)]; rfl⟩
theorem good_both {s t : Nat} (tP : Trim P) (tQ : Trim Q) (nP : P ≠ []) (nQ : Q ≠ []) (h : Sizes (plainL P) (plainL Q) s t) : ComOk 200 (plainL P) (plainL Q) ∧ Good P Q (comL 200 (plainL P) (plainL Q)) := by
  obtain ⟨c, F, eF, hF⟩ := com_full h.bdd h.swap.bdd
  obtain ⟨c', F', eF', hF'⟩ := com_full h.swap.bdd h.bdd
  have en : Ends (plainL P) (plainL Q) F := hF.elim Way.ends fun w => w.ends.swap
  have en' : Ends (plainL P) (plainL Q) F' := hF'.elim (fun w => w.ends.swap) Way.ends
  have eFF : F' = F := en'.uniq en
  have dP := en.dP.plain tP nP
  have dQ := en.dQ.plain tQ nQ
  obtain ⟨p1, e1⟩ := part_of dP tP nP en.pH
  obtain ⟨p2, e2⟩ := part_of dQ tQ nQ en.pH
  have small : Sz (t * ((plainL P).length + (plainL Q).length) + 2) (plainL (quoL P F)) ∧ Sz (t * ((plainL P).length + (plainL Q).length) + 2) (plainL (quoL Q F)) := by
    rcases hF with w | w
    · exact left_small h w p1 p2 e1 e2
    · have := left_small h.swap w p2 p1 e2 e1
      rw [Nat.add_comm (plainL Q).length] at this
      exact ⟨this.2, this.1⟩
  have B1 := left_bdd h en.pH p1 p2 e1 e2 small.1 small.2
  have B2 := left_bdd h.swap en.pH p2 p1 e2 e1 (by rw [Nat.add_comm (plainL Q).length]; exact small.2) (by rw [Nat.add_comm (plainL Q).length]; exact small.1)
  obtain ⟨cc, H2, eH2, hH2⟩ := com_full B1 B2
  have en2 : Ends (plainL (quoL P F)) (plainL (quoL Q F)) H2 := hH2.elim Way.ends fun w => w.ends.swap
  have h1 : H2 = [1] := by
    obtain ⟨a, U, V, n, a0, lU, lV, e⟩ := en.co
    have lF := List.length_pos_iff.mpr en.pH.ne
    have hb : cf F (F.length - 1) ≠ 0 := trim_last en.pH.trim en.pH.ne
    have e3 : con a * of [1] = U * of (plainL (quoL P F)) + V * of (plainL (quoL Q F)) := by
      refine cancel (h := of F) (b := F.length - 1) (n := n + (plainL (quoL P F)).length + (plainL (quoL Q F)).length + 1) (((of_lt [1]).con_mul a).mono (by simp)) (Lt.add ((lU.mul ((of_lt _).mono (Nat.le_succ _))).mono (by omega)) ((lV.mul ((of_lt _).mono (Nat.le_succ _))).mono (by omega))) ((of_lt F).mono (by omega)) hb ?_
      have k1 : con a * of [1] * of F = con a * of F := by
        have := of_one_mul F
        have h2 : con a * of [1] * of F = con a * (of F * of [1]) := by grind
        rw [h2, ← this]
      rw [k1, e]
      have k2 := congrArg of e1
      have k3 := congrArg of e2
      rw [of_mulU] at k2 k3
      rw [← k2, ← k3]; grind
    have d1 : Dvd H2 [1] := Dvd.comb en2.dP en2.dQ a0 lU lV e3
    exact pl_len1 en2.pH (d1.lenle (by simp) pl_one.trim en2.pH.trim)
  have r := h.hw
  have bl := h.hl
  have lFP := en.dP.lenle h.pP.ne h.pP.trim en.pH.trim
  have q1 := congrArg List.length e1
  have q2 := congrArg List.length e2
  rw [DT.mulU_len' p1.ne en.pH.ne] at q1
  rw [DT.mulU_len' p2.ne en.pH.ne] at q2
  have lF := List.length_pos_iff.mpr en.pH.ne
  refine ⟨c, ?_⟩
  rw [eF]
  refine ⟨en.pH, en.sH, by omega, dP.rem tP en.pH.trim en.pH.ne, dQ.rem tQ en.pH.trim en.pH.ne, e1, e2, p1.trim, p2.trim, small.1.mono (by omega), small.2.mono (by omega), by omega, by omega, ⟨cc, by rw [eH2, h1]⟩, p1.plain, p2.plain, ⟨c', by rw [eF', eFF]⟩, fun G g1 g2 => ?_⟩
  obtain ⟨a, U, V, n, a0, lU, lV, e⟩ := en.co
  exact Dvd.comb (g1.toPlain tP nP) (g2.toPlain tQ nQ) a0 lU lV e
/-- one of the two is [] -/
theorem quo_self (tQ : Trim Q) (nQ : Q ≠ []) : plainL (quoL Q (plainL Q)) = [1] ∧ remL Q (plainL Q) = [] := by
  have pQ := Pl.of tQ nQ
  have d : Dvd (plainL Q) Q := by
    obtain ⟨c, hc, ec⟩ := plain_mul Q
    exact ⟨1, [c], by decide, fun k => by rw [cv_one, ec]; omega⟩
  obtain ⟨p1, e1⟩ := part_of d tQ nQ pQ
  refine ⟨pl_len1 p1 ?_, d.rem tQ pQ.trim pQ.ne⟩
  have := congrArg List.length e1
  rw [DT.mulU_len' p1.ne pQ.ne] at this
  have := List.length_pos_iff.mpr pQ.ne
  omega
theorem quo_nil (h : Pl F) : quoL [] F = [] := by
  unfold quoL
  rw [if_pos (show ([] : List Int).length < F.length from List.length_pos_iff.mpr h.ne)]
theorem mulU_nil (F : List Int) : mulU [] F = [] := by unfold mulU; rw [if_pos (.inl rfl)]
theorem mulU_one' (h : Pl F) : mulU [1] F = F := by
  refine ML.ext ?_ fun k _ => ?_
  · rw [DT.mulU_len' (by simp) h.ne]; simp
  · rw [cf_mulU, cv_comm, MN.cv_one_right]
theorem good_right (tQ : Trim Q) (nQ : Q ≠ []) (sQ : Sz 4000 (plainL Q)) (lQ : Q.length ≤ 100) : ComOk 200 (plainL []) (plainL Q) ∧ Good [] Q (comL 200 (plainL []) (plainL Q)) := by
  have pQ := Pl.of tQ nQ
  have lq := plainL_len Q
  obtain ⟨c1, c2⟩ := com_nil_left pQ sQ (by omega)
  obtain ⟨s1, s2⟩ := quo_self tQ nQ
  rw [plainL_nil]
  refine ⟨c1, ?_⟩
  rw [c2]
  obtain ⟨o1, o2⟩ := com_nil_left pl_one (fun z hz => by rw [List.mem_singleton.mp hz]; exact Nat.one_lt_two_pow (by decide)) (by simp)
  have q0 : plainL (quoL [] (plainL Q)) = [] := by rw [quo_nil pQ, plainL_nil]
  refine ⟨pQ, sQ, by omega, rem_short (List.length_pos_iff.mpr pQ.ne), s2, by rw [q0, mulU_nil, plainL_nil], by rw [s1, mulU_one' pQ], by rw [q0]; exact .inl rfl, by rw [s1]; exact pl_one.trim, by rw [q0]; exact Sz.nil _, by rw [s1]; exact fun z hz => by rw [List.mem_singleton.mp hz]; exact Nat.one_lt_two_pow (by decide), by rw [q0]; simp, by rw [s1]; simp, by rw [q0, s1]; exact ⟨o1, o2⟩, by rw [q0, plainL_nil], by rw [s1]; exact pl_one.plain, ?_, fun G _ g2 => g2.toPlain tQ nQ⟩
  rw [plainL_nil]
  exact com_nil_right (plainL Q)
theorem good_left (tP : Trim P) (nP : P ≠ []) (sP : Sz 4000 (plainL P)) (lP : P.length ≤ 100) : ComOk 200 (plainL P) (plainL []) ∧ Good P [] (comL 200 (plainL P) (plainL [])) := by
  have pP := Pl.of tP nP
  have lp := plainL_len P
  obtain ⟨c1, c2⟩ := com_nil_right (plainL P)
  obtain ⟨s1, s2⟩ := quo_self tP nP
  rw [plainL_nil]
  refine ⟨c1, ?_⟩
  rw [c2]
  obtain ⟨o1, o2⟩ := com_nil_right ([1] : List Int)
  have q0 : plainL (quoL [] (plainL P)) = [] := by rw [quo_nil pP, plainL_nil]
  refine ⟨pP, sP, by omega, s2, rem_short (List.length_pos_iff.mpr pP.ne), by rw [s1, mulU_one' pP], by rw [q0, mulU_nil, plainL_nil], by rw [s1]; exact pl_one.trim, by rw [q0]; exact .inl rfl, by rw [s1]; exact fun z hz => by rw [List.mem_singleton.mp hz]; exact Nat.one_lt_two_pow (by decide), by rw [q0]; exact Sz.nil _, by rw [s1]; simp, by rw [q0]; simp, by rw [q0, s1]; exact ⟨o1, o2⟩, by rw [s1]; exact pl_one.plain, by rw [q0, plainL_nil], ?_, fun G g1 _ => g1.toPlain tP nP⟩
  rw [plainL_nil]
  exact com_nil_left pP sP (by omega)
end CG

set_option linter.all false
set_option maxRecDepth 100000
/-! Polynomials without a common part; without squares. -/
namespace SQ
open PS PS.S ML
def IsP (p : S) : Prop := ∃ n, Lt p n
theorem IsP.of (P : List Int) : IsP (PS.of P) := ⟨P.length, of_lt P⟩
theorem IsP.con (c : Int) : IsP (S.con c) := ⟨1, lt_con c⟩
theorem IsP.add {p q : S} : IsP p → IsP q → IsP (p + q) := fun ⟨n, h⟩ ⟨m, h'⟩ => ⟨n + m, Lt.add (h.mono (by omega)) (h'.mono (by omega))⟩
theorem IsP.sub {p q : S} : IsP p → IsP q → IsP (p - q) := fun ⟨n, h⟩ ⟨m, h'⟩ => ⟨n + m, Lt.sub (h.mono (by omega)) (h'.mono (by omega))⟩
theorem IsP.mul {p q : S} : IsP p → IsP q → IsP (p * q) := fun ⟨n, h⟩ ⟨m, h'⟩ => ⟨n + m, h.mul (h'.mono (by omega))⟩
def Cop (a b : S) : Prop := ∃ (c : Int) (U V : S), c ≠ 0 ∧ IsP U ∧ IsP V ∧ S.con c = U * a + V * b
theorem con_mul_con (a b : Int) : S.con a * S.con b = S.con (a * b) := S.ext fun k => by
  rw [S.con_mul, S.con_zero_at, S.con_zero_at]
  split <;> simp
theorem Cop.symm {a b : S} (h : Cop a b) : Cop b a := by
  obtain ⟨c, U, V, c0, hU, hV, e⟩ := h
  exact ⟨c, V, U, c0, hV, hU, by rw [e]; grind⟩
theorem Cop.mul {a b b' : S} (ha : IsP a) (hb : IsP b) (hb' : IsP b') (h : Cop a b) (h' : Cop a b') : Cop a (b * b') := by
  obtain ⟨c, U, V, c0, hU, hV, e⟩ := h
  obtain ⟨c', U', V', c0', hU', hV', e'⟩ := h'
  refine ⟨c * c', U * (U' * a + V' * b') + V * b * U', V * V', Int.mul_ne_zero c0 c0', ?_, hV.mul hV', ?_⟩
  · exact (hU.mul ((hU'.mul ha).add (hV'.mul hb'))).add ((hV.mul hb).mul hU')
  · rw [← con_mul_con, e, e']; grind
theorem Cop.add {a b q : S} (hq : IsP q) (h : Cop a b) : Cop a (b + q * a) := by
  obtain ⟨c, U, V, c0, hU, hV, e⟩ := h
  exact ⟨c, U - V * q, V, c0, hU.sub (hV.mul hq), hV, by rw [e]; grind⟩
theorem Cop.con {a b : S} {k : Int} (hk : k ≠ 0) (h : Cop a b) : Cop a (S.con k * b) := by
  obtain ⟨c, U, V, c0, hU, hV, e⟩ := h
  exact ⟨c * k, S.con k * U, V, Int.mul_ne_zero c0 hk, (IsP.con k).mul hU, hV, by rw [← con_mul_con, e]; grind⟩
/-- a factor taken out -/
theorem Cop.less {a b b' : S} {k : Int} (e' : S.con k * b' = b) (h : Cop a b) : Cop a b' := by
  obtain ⟨c, U, V, c0, hU, hV, e⟩ := h
  exact ⟨c, U, V * S.con k, c0, hU, hV.mul (IsP.con k), by rw [e, ← e']; grind⟩
/-- the slope -/
def D (p : S) : S := fun k => ((k : Int) + 1) * p (k + 1)
theorem D_at (p : S) (k : Nat) : D p k = ((k : Int) + 1) * p (k + 1) := rfl
theorem IsP.D {p : S} : IsP p → IsP (D p) := fun ⟨n, h⟩ => ⟨n, fun j hj => by rw [D_at, h _ (by omega), Int.mul_zero]⟩
theorem D_mul (p q : S) : D (p * q) = D p * q + p * D q := S.ext fun k => by
  rw [D_at, S.add_at, S.mul_at, S.mul_at, S.mul_at, ← sm_mul]
  have h1 : sm (k + 1 + 1) (fun i => ((k : Int) + 1) * (p i * q (k + 1 - i))) = sm (k + 1 + 1) (fun i => (i : Int) * p i * q (k + 1 - i)) + sm (k + 1 + 1) (fun i => p i * (((k + 1 - i : Nat) : Int) * q (k + 1 - i))) := by
    rw [← sm_add]
    refine sm_congr fun i hi => ?_
    have : ((k + 1 - i : Nat) : Int) = (k : Int) + 1 - (i : Int) := by omega
    rw [this]; grind
  rw [h1]
  congr 1
  · rw [sm_shift]
    have z : ((0 : Nat) : Int) * p 0 * q (k + 1 - 0) = 0 := by show (0 : Int) * p 0 * q (k + 1) = 0; grind
    rw [z]
    have : sm (k + 1) (fun i => ((i + 1 : Nat) : Int) * p (i + 1) * q (k + 1 - (i + 1))) = sm (k + 1) fun i => D p i * q (k - i) := sm_congr fun i hi => by
      rw [D_at, show k + 1 - (i + 1) = k - i by omega]; rfl
    rw [this]; omega
  · rw [sm_succ]
    have z : p (k + 1) * (((k + 1 - (k + 1) : Nat) : Int) * q (k + 1 - (k + 1))) = 0 := by rw [Nat.sub_self]; show p (k + 1) * ((0 : Int) * q 0) = 0; grind
    rw [z, Int.add_zero]
    exact sm_congr fun i hi => by
      rw [D_at, show k + 1 - i = (k - i) + 1 by omega]; rfl
theorem D_con (c : Int) : D (S.con c) = 0 := S.ext fun k => by
  rw [D_at, S.con_zero_at, if_neg (by omega), Int.mul_zero, S.zero_at]
theorem D_slope (P : List Int) : D (of P) = of (slopeL P) := S.ext fun k => by
  rw [D_at, of_at, of_at, cf_slopeL]
/-- without squares -/
def Sqf (p : S) : Prop := Cop p (D p)
theorem Sqf.mul {f g : S} (hf : IsP f) (hg : IsP g) (h : Sqf f) (h' : Sqf g) (hc : Cop f g) : Sqf (f * g) := by
  have k1 : Cop f (D (f * g)) := by
    rw [D_mul]
    have := Cop.add (q := D g) hg.D (Cop.mul hf hf.D hg h hc)
    rw [show f * D g = D g * f by grind]
    exact this
  have k2 : Cop g (D (f * g)) := by
    rw [D_mul]
    have := Cop.add (q := D f) hf.D (Cop.mul hg hg.D hf h' hc.symm)
    rw [show D f * g + f * D g = D g * f + D f * g by grind]
    exact this
  have hD : IsP (D (f * g)) := (hf.mul hg).D
  exact (k1.symm.mul hD hf hg k2.symm).symm
theorem Sqf.con {f : S} {l : Int} (hl : l ≠ 0) (h : Sqf f) : Sqf (S.con l * f) := by
  have e : D (S.con l * f) = S.con l * D f := by rw [D_mul, D_con]; grind
  unfold Sqf
  rw [e]
  exact (Cop.con hl (Cop.con hl (show Cop f (D f) from h)).symm).symm
/-- what divides both divides a number -/
theorem Cop.dvd {A B T : List Int} (h : Cop (of A) (of B)) (d1 : CG.Dvd T A) (d2 : CG.Dvd T B) (tT : Trim T) : T.length ≤ 1 := by
  obtain ⟨c, U, V, c0, ⟨n, hU⟩, ⟨m, hV⟩, e⟩ := h
  have e1 : S.con c * of [1] = U * of A + V * of B := by
    rw [← e]
    have : of [1] = 1 := S.ext fun k => by
      rw [of_at]
      show cf [1] k = S.con 1 k
      rw [S.con_zero_at]
      cases k with
      | zero => rfl
      | succ k => rw [cf_succ, cf_nil, if_neg (by omega)]
    rw [this]; grind
  have d := CG.Dvd.comb d1 d2 c0 (hU.mono (show n ≤ n + m by omega)) (hV.mono (show m ≤ n + m by omega)) e1
  exact d.lenle (by simp) (.inr (by decide)) tT
/-! ### the factors of the laws -/
theorem of_lin (u b : Int) : of [0 - u, b] = S.con (0 - u) + S.con b * of [0, 1] := S.ext fun k => by
  rw [S.add_at, S.con_mul, of_at, of_at, S.con_zero_at]
  match k with
  | 0 => rw [cf_zero, cf_zero, if_pos rfl]; omega
  | 1 => rw [cf_succ, cf_zero, cf_succ, cf_zero, if_neg (by omega)]; omega
  | k + 2 => rw [cf_beyond (by simp), cf_beyond (by simp), if_neg (by omega)]; omega
theorem of_quad (a b c : Int) : of [a, b, c] = S.con a + S.con b * of [0, 1] + S.con c * (of [0, 1] * of [0, 1]) := S.ext fun k => by
  rw [S.add_at, S.add_at, S.con_mul, S.con_mul, of_mul, of_at, of_at, S.con_zero_at]
  have : ∀ k, cv [0, 1] [0, 1] k = cf [0, 0, 1] k := fun k => by
    rw [← cf_mulL]; rw [show mulL [0, 1] [0, 1] = [0, 0, 1] by decide]
  rw [this]
  match k with
  | 0 => rw [cf_zero, cf_zero, cf_zero, if_pos rfl]; omega
  | 1 => rw [cf_succ, cf_zero, cf_succ, cf_zero, cf_succ, cf_zero, if_neg (by omega)]; omega
  | 2 => rw [cf_succ, cf_succ, cf_zero, cf_succ, cf_succ, cf_nil, cf_succ, cf_succ, cf_zero, if_neg (by omega)]; omega
  | k + 3 => rw [cf_beyond (by simp), cf_beyond (by simp), cf_beyond (by simp), if_neg (by omega)]; omega
def X : S := of [0, 1]
theorem con_add (a b : Int) : S.con (a + b) = S.con a + S.con b := S.ext fun k => by
  rw [S.add_at, S.con_zero_at, S.con_zero_at, S.con_zero_at]; split <;> omega
theorem con_neg (a : Int) : S.con (-a) = - S.con a := S.ext fun k => by
  rw [S.neg_at, S.con_zero_at, S.con_zero_at]; split <;> omega
theorem con_sub (a b : Int) : S.con (a - b) = S.con a - S.con b := S.ext fun k => by
  rw [S.sub_at, S.con_zero_at, S.con_zero_at, S.con_zero_at]; split <;> omega
/-- the polynomial of a factor, not made plain -/
def rawF (u e b : Int) : List Int := if e = 0 then [0 - u, b] else [u * u - e, -2 * b * u, b * b]
theorem shp_raw {u e b : Int} (hb : 1 ≤ b) : ∃ a : Int, a ≠ 0 ∧ S.con a * of (MB.shp u e b) = of (rawF u e b) := by
  unfold MB.shp rawF
  by_cases h : e = 0
  · rw [if_pos h, if_pos h]
    obtain ⟨a, h1, h2⟩ := MQ.plain_mul [0 - u, b]
    exact ⟨a, h1 (by simp) (.inr (show b ≠ 0 by omega)), S.ext fun k => by rw [S.con_mul, of_at, of_at, h2]⟩
  · rw [if_neg h, if_neg h]
    obtain ⟨a, h1, h2⟩ := MQ.plain_mul [u * u - e, -2 * b * u, b * b]
    exact ⟨a, h1 (by simp) (.inr (show b * b ≠ 0 from Int.mul_ne_zero (by omega) (by omega))), S.ext fun k => by rw [S.con_mul, of_at, of_at, h2]⟩
/-- e is no square but 0 -/
def NoSq (e : Int) : Prop := e = 0 ∨ ∀ x y : Int, x * x = e * (y * y) → y = 0
theorem no_sq {m u e b : Int} (f : RB.Fac m u e b) : NoSq e := by
  rcases f.sq with h | ⟨k, k0, k1, k2⟩
  · exact .inl h
  · by_cases hp : 0 ≤ e
    · right
      intro x y h
      have ea : (e.natAbs : Int) = e := by omega
      rw [ea] at k1 k2
      exact MJ.irr' k0 k1 k2 h
    · right
      intro x y h
      have hx : 0 ≤ x * x := by
        by_cases h : 0 ≤ x
        · exact Int.mul_nonneg h h
        · have := Int.mul_pos_of_neg_of_neg (show x < 0 by omega) (show x < 0 by omega); omega
      apply Classical.byContradiction
      intro hy
      have hyy : 0 < y * y := by
        by_cases h : 0 < y
        · exact Int.mul_pos h h
        · exact Int.mul_pos_of_neg_of_neg (show y < 0 by omega) (show y < 0 by omega)
      have := Int.mul_neg_of_neg_of_pos (show e < 0 by omega) hyy
      omega
theorem raw_lin (u b : Int) : of (rawF u 0 b) = S.con b * X - S.con u := by
  unfold rawF X
  rw [if_pos rfl, of_lin, con_sub]
  have : S.con 0 = 0 := rfl
  rw [this]; grind
theorem raw_quad {u e b : Int} (h : e ≠ 0) : of (rawF u e b) = (S.con b * X - S.con u) * (S.con b * X - S.con u) - S.con e := by
  unfold rawF X
  rw [if_neg h, of_quad, con_sub, ← con_mul_con, ← con_mul_con, ← con_mul_con, ← con_mul_con]
  have : S.con (-2) = -2 := by rw [show (-2 : Int) = -(2) from rfl, con_neg]; rfl
  rw [this]; grind
theorem cop_ll {u b u' b' : Int} (hne : u * b' ≠ u' * b) : Cop (of (rawF u 0 b)) (of (rawF u' 0 b')) := by
  refine ⟨u' * b - u * b', S.con b', - S.con b, by omega, IsP.con _, ?_, ?_⟩
  · rw [← con_neg]; exact IsP.con _
  · rw [raw_lin, raw_lin, con_sub, ← con_mul_con, ← con_mul_con]; grind
theorem IsP.X : IsP X := IsP.of _
theorem cop_lq {u b u' e' b' : Int} (hb : b ≠ 0) (he : e' ≠ 0) (hs : NoSq e') : Cop (of (rawF u 0 b)) (of (rawF u' e' b')) := by
  refine ⟨(b' * u - b * u') * (b' * u - b * u') - b * b * e', - (S.con (b' * b') * (S.con b * SQ.X - S.con u) + S.con (2 * b' * (b' * u - b * u'))), S.con (b * b), ?_, ?_, IsP.con _, ?_⟩
  · intro z
    rcases hs with h | h
    · exact he h
    · exact hb (h (b' * u - b * u') b (by rw [Int.mul_comm e']; omega))
  · have : ∀ p : S, IsP p → IsP (-p) := fun p hp => by
      have := (IsP.con 0).sub hp
      have e0 : S.con 0 = 0 := rfl
      rw [e0, show (0 : S) - p = -p by grind] at this
      exact this
    refine this _ (((IsP.con _).mul (((IsP.con _).mul IsP.X).sub (IsP.con _))).add (IsP.con _))
  · rw [raw_lin, raw_quad he]
    simp only [con_sub, ← con_mul_con]
    have : S.con 2 = 2 := rfl
    rw [this]; grind
theorem cop_qq {u e b u' e' b' : Int} (hb : b ≠ 0) (hb' : b' ≠ 0) (he : e ≠ 0) (he' : e' ≠ 0) (hs : NoSq e) (ne : ¬ (b * b * (-2 * b' * u') = b' * b' * (-2 * b * u) ∧ b * b * (u' * u' - e') = b' * b' * (u * u - e))) : Cop (of (rawF u e b)) (of (rawF u' e' b')) := by
  have disc : ∀ x y : Int, b * b * (x * x) + -2 * b * u * (x * y) + (u * u - e) * (y * y) = 0 → y = 0 := fun x y hz => by
    rcases hs with h | h
    · exact absurd h he
    · refine h (b * x - u * y) y ?_
      have : (b * x - u * y) * (b * x - u * y) - e * (y * y) = b * b * (x * x) + -2 * b * u * (x * y) + (u * u - e) * (y * y) := by grind
      omega
  have res := MJ.res_ne disc (Int.mul_ne_zero hb hb) ne
  obtain ⟨D1, hD1⟩ : ∃ D, b * b * (-2 * b' * u') - b' * b' * (-2 * b * u) = D := ⟨_, rfl⟩
  obtain ⟨D2, hD2⟩ : ∃ D, b * b * (u' * u' - e') - b' * b' * (u * u - e) = D := ⟨_, rfl⟩
  obtain ⟨D3, hD3⟩ : ∃ D, -2 * b * u * (u' * u' - e') - -2 * b' * u' * (u * u - e) = D := ⟨_, rfl⟩
  have f1 : of (rawF u e b) = S.con (u * u - e) + S.con (-2 * b * u) * SQ.X + S.con (b * b) * (SQ.X * SQ.X) := by unfold rawF; rw [if_neg he, of_quad]; rfl
  have f2 : of (rawF u' e' b') = S.con (u' * u' - e') + S.con (-2 * b' * u') * SQ.X + S.con (b' * b') * (SQ.X * SQ.X) := by unfold rawF; rw [if_neg he', of_quad]; rfl
  rw [f1, f2]
  rw [hD1, hD2, hD3] at res
  generalize u * u - e = r0 at *
  generalize u' * u' - e' = r0' at *
  generalize -2 * b * u = r1 at *
  generalize -2 * b' * u' = r1' at *
  generalize b * b = p at *
  generalize b' * b' = p' at *
  refine ⟨-(D2 * D2 - D1 * D3), S.con (-p' * D1) * SQ.X + S.con (D2 * p' - D1 * r1'), S.con (p * D1) * SQ.X + S.con (D1 * r1 - D2 * p), by omega, ((IsP.con _).mul IsP.X).add (IsP.con _), ((IsP.con _).mul IsP.X).add (IsP.con _), ?_⟩
  subst hD1; subst hD2; subst hD3
  simp only [con_sub, con_neg, ← con_mul_con]
  grind
theorem sq_raw {u e b : Int} (hb : b ≠ 0) : Sqf (of (rawF u e b)) := by
  by_cases he : e = 0
  · subst he
    have : D (of (rawF u 0 b)) = S.con b := by
      rw [D_slope]
      unfold rawF
      rw [if_pos rfl]
      refine S.ext fun k => ?_
      rw [of_at, cf_slopeL, S.con_zero_at]
      match k with
      | 0 => rw [cf_succ, cf_zero, if_pos rfl]; show ((0 : Int) + 1) * b = b; omega
      | k + 1 => rw [cf_beyond (by simp), if_neg (by omega), Int.mul_zero]
    unfold Sqf
    rw [this]
    exact ⟨b, 0, 1, hb, ⟨0, fun j _ => S.zero_at j⟩, ⟨1, lt_con 1⟩, by grind⟩
  · have : D (of (rawF u e b)) = S.con (2 * b) * (S.con b * X - S.con u) := by
      rw [D_slope]
      unfold rawF X
      rw [if_neg he]
      have e1 : S.con (2 * b) * (S.con b * of [0, 1] - S.con u) = of [-2 * b * u, 2 * (b * b)] := by
        have h1 := of_lin (2 * b * u) (2 * (b * b))
        rw [show 0 - 2 * b * u = -2 * b * u by grind] at h1
        rw [h1]
        simp only [← con_mul_con, con_neg]
        have h2 : S.con 2 = 2 := rfl
        have h3 : S.con (-2) = -2 := by rw [show (-2 : Int) = -(2) from rfl, con_neg]; rfl
        rw [h2]; grind
      rw [e1]
      refine S.ext fun k => ?_
      rw [of_at, of_at, cf_slopeL]
      match k with
      | 0 => rw [cf_succ, cf_zero, cf_zero]; show ((0 : Int) + 1) * _ = _; omega
      | 1 => rw [cf_succ, cf_succ, cf_zero, cf_succ, cf_zero]; show ((1 : Int) + 1) * _ = _; omega
      | k + 2 => rw [cf_beyond (by simp), cf_beyond (by simp), Int.mul_zero]
    unfold Sqf
    rw [this, raw_quad he]
    refine ⟨2 * b * e, - S.con (2 * b), S.con b * X - S.con u, Int.mul_ne_zero (Int.mul_ne_zero (by decide) hb) he, ?_, ((IsP.con _).mul IsP.X).sub (IsP.con _), ?_⟩
    · rw [← con_neg]; exact IsP.con _
    · simp only [← con_mul_con]; grind
theorem sq_shp {m u e b : Int} (f : RB.Fac m u e b) : Sqf (of (MB.shp u e b)) := by
  obtain ⟨a, a0, e1⟩ := shp_raw (u := u) (e := e) f.b1
  have h := sq_raw (u := u) (e := e) (b := b) (by have := f.b1; omega)
  rw [← e1] at h
  unfold Sqf at h ⊢
  have e2 : D (S.con a * of (MB.shp u e b)) = S.con a * D (of (MB.shp u e b)) := by rw [D_mul, D_con]; grind
  rw [e2] at h
  exact ((h.less rfl).symm.less rfl).symm
theorem cop_shp {m m' u e b u' e' b' : Int} (f : RB.Fac m u e b) (f' : RB.Fac m' u' e' b') (hne : MB.shp u e b ≠ MB.shp u' e' b') : Cop (of (MB.shp u e b)) (of (MB.shp u' e' b')) := by
  obtain ⟨a, a0, e1⟩ := shp_raw (u := u) (e := e) f.b1
  obtain ⟨a', a0', e1'⟩ := shp_raw (u := u') (e := e') f'.b1
  have b0 := f.b1
  have b0' := f'.b1
  have h : Cop (of (rawF u e b)) (of (rawF u' e' b')) := by
    by_cases h1 : e = 0
    · subst h1
      by_cases h2 : e' = 0
      · subst h2
        exact cop_ll fun z => hne (RB.shp_same b0 b0' (.inl ⟨rfl, rfl, z⟩))
      · exact cop_lq (by omega) h2 (no_sq f')
    · by_cases h2 : e' = 0
      · subst h2
        exact (cop_lq (by omega) h1 (no_sq f)).symm
      · exact cop_qq (by omega) (by omega) h1 h2 (no_sq f) fun z => hne (RB.shp_same b0 b0' (.inr ⟨h1, h2, z.1, z.2⟩))
  rw [← e1, ← e1'] at h
  exact ((h.less rfl).symm.less rfl).symm
/-- a product of factors of which no two are alike -/
theorem sq_prod {m : Int} : ∀ (FS : List (List Int)) (M : List Int), (∀ F ∈ FS, RB.isF m F) → (FS.Pairwise fun F G => RB.shpF F ≠ RB.shpF G) → Sqf (of M) → (∀ F ∈ FS, Cop (of M) (of (RB.shpF F))) → Sqf (of (RB.prodS M FS))
  | [], M, _, _, h, _ => h
  | F :: FS, M, hF, hp, h, hc => by
    obtain ⟨p1, p2⟩ := List.pairwise_cons.mp hp
    obtain ⟨u, e, b, rfl, f⟩ := hF F (List.mem_cons_self ..)
    refine sq_prod FS (mulU M (MB.shp u e b)) (fun G hG => hF G (List.mem_cons_of_mem _ hG)) p2 ?_ fun G hG => ?_
    · rw [CG.of_mulU]
      exact Sqf.mul (IsP.of _) (IsP.of _) h (sq_shp f) (hc _ (List.mem_cons_self ..))
    · rw [CG.of_mulU]
      obtain ⟨u', e', b', rfl, f'⟩ := hF G (List.mem_cons_of_mem _ hG)
      exact ((hc _ (List.mem_cons_of_mem _ hG)).symm.mul (IsP.of _) (IsP.of _) (IsP.of _) (cop_shp f f' (p1 _ hG)).symm).symm
theorem cop_one (a : S) (ha : IsP a) : Cop (of [1]) a := ⟨1, of [1], 0, by decide, IsP.of _, ⟨0, fun j _ => S.zero_at j⟩, S.ext fun k => by
  rw [S.add_at, show (0 : S) * a = 0 by grind, S.zero_at, of_mul, S.con_zero_at]
  have : cv [1] [1] k = cf [1] k := by rw [MD.cv_one]; omega
  rw [this]
  cases k with
  | zero => rfl
  | succ k => rw [cf_succ, cf_nil, if_neg (by omega)]; rfl⟩
theorem sq_one : Sqf (of [1]) := cop_one _ (IsP.of [1]).D
end SQ

set_option linter.all false
set_option maxRecDepth 100000
/-! The slope, its length. -/
namespace SR
open ML MD MP MS MG CO PS
theorem slope_top {P : List Int} (hT : Trim P) (hn : slopeL P ≠ []) : cf (slopeL P) (P.length - 2) ≠ 0 := by
  have h1 : P ≠ [] := fun e => hn (by rw [e]; rfl)
  have hl : 1 < P.length := by
    apply Classical.byContradiction
    intro h
    apply hn
    have : P.length - 1 = 0 := by omega
    unfold slopeL
    rw [this]; rfl
  rw [cf_slopeL]
  have h2 := trim_last hT h1
  have e : P.length - 2 + 1 = P.length - 1 := by omega
  rw [e]
  exact Int.mul_ne_zero (by omega) h2
theorem slope_len (P : List Int) : (slopeL P).length = P.length - 1 := by unfold slopeL; rw [List.length_map, List.length_range]
theorem slope_trim {P : List Int} (h : Trim P) : Trim (slopeL P) := by
  by_cases h0 : slopeL P = []
  · exact .inl h0
  · refine .inr ?_
    rw [slope_len, show P.length - 1 - 1 = P.length - 2 by omega]
    exact slope_top h h0
theorem dvd_self (P : List Int) : CG.Dvd P P := ⟨1, [1], by decide, fun k => by rw [cv_one]⟩
end SR

set_option linter.all false
set_option maxRecDepth 100000
/-! Spans halved towards a spot. -/
namespace ST
/-- the first half of a half that isn't wider than w, at most k steps -/
def nar (s : Rat → Int) (w : Rat) : Nat → Rat → Rat → Rat × Rat
  | 0, x, y => (x, y)
  | k + 1, x, y => if y - x > w then (if s ((x + y) / 2) ≤ 0 then nar s w k x ((x + y) / 2) else nar s w k ((x + y) / 2) y) else (x, y)
theorem half_eq (x y : Rat) : (x + y) / 2 - x = (y - x) / 2 ∧ y - (x + y) / 2 = (y - x) / 2 := by constructor <;> grind
theorem nar_stop {s : Rat → Int} {w : Rat} {k : Nat} {x y : Rat} (h : ¬ y - x > w) : nar s w k x y = (x, y) := by
  cases k with
  | zero => rfl
  | succ k => exact if_neg h
theorem nar_lo {s : Rat → Int} {w : Rat} {k : Nat} {x y : Rat} (h : y - x > w) (hs : s ((x + y) / 2) ≤ 0) : nar s w (k + 1) x y = nar s w k x ((x + y) / 2) := by
  show (if _ then _ else _) = _
  rw [if_pos h, if_pos hs]
theorem nar_hi {s : Rat → Int} {w : Rat} {k : Nat} {x y : Rat} (h : y - x > w) (hs : ¬ s ((x + y) / 2) ≤ 0) : nar s w (k + 1) x y = nar s w k ((x + y) / 2) y := by
  show (if _ then _ else _) = _
  rw [if_pos h, if_neg hs]
/-- a fraction over D times 2 ^ j -/
def Grd (D : Int) (j : Nat) (x : Rat) : Prop := ∃ A : Int, x * (((D * 2 ^ j : Int)) : Rat) = (A : Rat)
theorem Grd.up {D : Int} {j : Nat} {x : Rat} (h : Grd D j x) : Grd D (j + 1) x := by
  obtain ⟨A, hA⟩ := h
  refine ⟨2 * A, ?_⟩
  rw [show D * 2 ^ (j + 1) = D * 2 ^ j * 2 by rw [Int.pow_succ]; grind, Rat.intCast_mul (D * 2 ^ j), Rat.intCast_mul 2 A, ← hA]
  have : ((2 : Int) : Rat) = 2 := rfl
  rw [this]; grind
theorem Grd.half {D : Int} {j : Nat} {x y : Rat} (h : Grd D j x) (h' : Grd D j y) : Grd D (j + 1) ((x + y) / 2) := by
  obtain ⟨A, hA⟩ := h
  obtain ⟨B, hB⟩ := h'
  refine ⟨A + B, ?_⟩
  rw [show D * 2 ^ (j + 1) = D * 2 ^ j * 2 by rw [Int.pow_succ]; grind, Rat.intCast_mul (D * 2 ^ j), Rat.intCast_add A B, ← hA, ← hB]
  have : ((2 : Int) : Rat) = 2 := rfl
  rw [this]; grind
theorem grd_of (x y : Rat) : Grd ((x.den : Int) * (y.den : Int)) 0 x ∧ Grd ((x.den : Int) * (y.den : Int)) 0 y := by
  have e1 := RB.q_den x
  have e2 := RB.q_den y
  have one : (2 : Int) ^ 0 = 1 := rfl
  constructor
  · refine ⟨x.num * (y.den : Int), ?_⟩
    rw [one, Int.mul_one, Rat.intCast_mul, Rat.intCast_mul, ← e1]; grind
  · refine ⟨y.num * (x.den : Int), ?_⟩
    rw [one, Int.mul_one, Rat.intCast_mul, Rat.intCast_mul, ← e2]; grind
theorem abs_q {n : Nat} {x : Rat} (h : RB.Qz n x) : In ((2 ^ n : Int) : Rat) x := by
  have e := RB.q_den x
  have hd := RB.cast_pos (RB.q_pos x)
  have h1 : (1 : Rat) ≤ ((x.den : Int) : Rat) := by
    have : (1 : Int) ≤ (x.den : Int) := by have := RB.q_pos x; omega
    have := Rat.intCast_le_intCast.mpr this
    exact this
  have hb : (x.num.natAbs : Int) < 2 ^ n := by exact_mod_cast h.1
  have a1 : (x.num : Rat) ≤ ((2 ^ n : Int) : Rat) := Rat.intCast_le_intCast.mpr (by omega)
  have a2 : ((-(2 ^ n) : Int) : Rat) ≤ (x.num : Rat) := Rat.intCast_le_intCast.mpr (by omega)
  rw [Rat.intCast_neg] at a2
  have p0 : (0 : Rat) < ((2 ^ n : Int) : Rat) := RB.cast_pos (Int.pow_pos (by decide))
  generalize ((2 ^ n : Int) : Rat) = N at *
  have a3 := Rat.mul_le_mul_of_nonneg_left h1 (show 0 ≤ N by grind)
  unfold In
  constructor
  · apply Classical.byContradiction
    intro hn
    have := Rat.mul_lt_mul_of_pos_right (show x < -N by grind) hd
    grind
  · apply Classical.byContradiction
    intro hn
    have := Rat.mul_lt_mul_of_pos_right (show N < x by grind) hd
    grind
/-- the size of a fraction on the grid -/
theorem Grd.sz {D : Int} {j n m : Nat} {x : Rat} (h : Grd D j x) (hD : 0 < D) (hd : D.natAbs < 2 ^ m) (hx : In ((2 ^ n : Int) : Rat) x) : RB.Qz (n + m + j) x := by
  obtain ⟨A, hA⟩ := h
  have p2 : (0 : Int) < 2 ^ j := Int.pow_pos (by decide)
  have Dp : 0 < D * 2 ^ j := Int.mul_pos hD p2
  have Dq := RB.cast_pos Dp
  have nd : (D * 2 ^ j).natAbs < 2 ^ (m + j) := by
    rw [Int.natAbs_mul, Nat.pow_add]
    have : ((2 : Int) ^ j).natAbs = 2 ^ j := by rw [Int.natAbs_pow]; rfl
    rw [this]
    exact Nat.mul_lt_mul_of_pos_right hd (Nat.two_pow_pos _)
  refine RB.Qz.of (t := A) (b := D * 2 ^ j) (by omega) hA ?_ (Nat.lt_of_lt_of_le nd (Nat.pow_le_pow_right (by decide) (by omega)))
  have k1 : (A : Rat) ≤ ((2 ^ n * (D * 2 ^ j) : Int) : Rat) := by
    rw [← hA, Rat.intCast_mul (2 ^ n) (D * 2 ^ j)]
    exact Rat.mul_le_mul_of_nonneg_right hx.2 (Rat.le_of_lt Dq)
  have k2 : ((-(2 ^ n * (D * 2 ^ j)) : Int) : Rat) ≤ (A : Rat) := by
    rw [← hA, Rat.intCast_neg, Rat.intCast_mul (2 ^ n) (D * 2 ^ j), show ∀ a b : Rat, -(a * b) = (-a) * b by intros; grind]
    exact Rat.mul_le_mul_of_nonneg_right hx.1 (Rat.le_of_lt Dq)
  have k1' := Rat.intCast_le_intCast.mp k1
  have k2' := Rat.intCast_le_intCast.mp k2
  have k3 : A.natAbs ≤ 2 ^ n * (D * 2 ^ j).natAbs := by
    have : ((2 ^ n * (D * 2 ^ j).natAbs : Nat) : Int) = 2 ^ n * (D * 2 ^ j) := by
      rw [Int.natCast_mul]
      have : (((D * 2 ^ j).natAbs : Nat) : Int) = D * 2 ^ j := by omega
      rw [this]; norm_cast
    omega
  refine Nat.lt_of_le_of_lt k3 ?_
  rw [show n + m + j = n + (m + j) by omega, Nat.pow_add]
  exact Nat.mul_lt_mul_of_pos_left nd (Nat.two_pow_pos _)
theorem pS_append (A B : List (Rat → Int)) (x : Rat) : pS (A ++ B) x = pS A x * pS B x := by
  induction A with
  | nil => show pS B x = 1 * _; rw [Int.one_mul]
  | cons a A ih => show (0 - a x) * pS (A ++ B) x = (0 - a x) * pS A x * _; rw [ih]; grind
/-- spots that do not lie in a span: their sides stay -/
theorem others {S : List (Rat → Int)} {l h : Rat} (hS : ∀ s ∈ S, Spot s) (hn : ∀ s ∈ S, ¬ (s l = 1 ∧ s h ≤ 0)) : ∃ c : Int, (c = 1 ∨ c = -1) ∧ ∀ z, l < z → z ≤ h → pS S z = c := by
  induction S with
  | nil => exact ⟨1, .inl rfl, fun z _ _ => rfl⟩
  | cons s S ih =>
    obtain ⟨c, hc, ih⟩ := ih (fun t h => hS t (List.mem_cons_of_mem _ h)) fun t ht => hn t (List.mem_cons_of_mem _ ht)
    have hs := hS s (List.mem_cons_self ..)
    have hnn := hn s (List.mem_cons_self ..)
    rcases hs.vals h with v | v | v
    · refine ⟨-c, by omega, fun z h1 h2 => ?_⟩
      show (0 - s z) * pS S z = -c
      rw [ih z h1 h2, hs.up h2 v]; omega
    all_goals
      have hl : s l ≤ 0 := by
        rcases hs.vals l with w | w | w
        · exact absurd ⟨w, by omega⟩ hnn
        · omega
        · omega
      refine ⟨c, hc, fun z h1 h2 => ?_⟩
      show (0 - s z) * pS S z = c
      rw [ih z h1 h2, hs.dn l z h1 hl]; omega
/-- just one spot in a span: the product goes along with it -/
theorem alone {S : List (Rat → Int)} {A B : List (Rat → Int)} {s : Rat → Int} {l h : Rat} (e : S = A ++ s :: B) (hS : ∀ s ∈ S, Spot s) (hA : ∀ t ∈ A, ¬ (t l = 1 ∧ t h ≤ 0)) (hB : ∀ t ∈ B, ¬ (t l = 1 ∧ t h ≤ 0)) : ∃ c : Int, (c = 1 ∨ c = -1) ∧ ∀ z, l < z → z ≤ h → pS S z = c * s z := by
  subst e
  obtain ⟨c1, h1, k1⟩ := others (fun t ht => hS t (List.mem_append_left _ ht)) hA
  obtain ⟨c2, h2, k2⟩ := others (fun t ht => hS t (List.mem_append_right _ (List.mem_cons_of_mem _ ht))) hB
  refine ⟨-(c1 * c2), by rcases h1 with rfl | rfl <;> rcases h2 with rfl | rfl <;> decide, fun z a b => ?_⟩
  rw [pS_append, k1 z a b]
  show c1 * ((0 - s z) * pS B z) = _
  rw [k2 z a b]; grind
end ST

set_option linter.all false
set_option maxRecDepth 100000
set_option maxHeartbeats 4000000
/-! The row of a polynomial without squares counts its spots. -/
namespace SR
open ML MD MP MS MG CO PS
/-- what is known of a polynomial whose row is made -/
structure REnv (P : List Int) (f s t : Nat) : Prop where
  tP : Trim P
  nP : P ≠ []
  lP : P.length ≤ 41
  s4 : s ≤ 4000
  lf : P.length ≤ f
  en : slopeL P ≠ [] → Env P (slopeL P) s t
theorem REnv.run {P : List Int} {f s t : Nat} (e : REnv P f s t) (h : slopeL P ≠ []) : Run P (slopeL P) (shrunkL P) (shrunkL (slopeL P)) := Run.first (e.en h) e.s4 (slope_trim e.tP) (by rw [slope_len]; omega)
theorem REnv.ok {P : List Int} {f s t : Nat} (e : REnv P f s t) : RowOk2 f (shrunkL P) (shrunkL (slopeL P)) := by
  by_cases h : slopeL P = []
  · rw [h, shrunkL_nil]
    cases f with
    | zero => rfl
    | succ f => exact .inl rfl
  · exact Run.row (e.en h) f (e.run h) (by rw [shrunkL_len, slope_len]; have := e.lf; omega)
theorem row_cons {P : List Int} {f : Nat} (h : P ≠ []) : rowL f P = shrunkL P :: rowG f (shrunkL P) (shrunkL (slopeL P)) := by unfold rowL; rw [if_neg h]
theorem rowG_nil (f : Nat) (A : List Int) : rowG f A [] = [] := by
  cases f with
  | zero => rfl
  | succ f => show (if ([] : List Int) = [] then [] else _) = _; rw [if_pos rfl]
theorem dvd_rem {A B T : List Int} (tA : Trim A) (nA : A ≠ []) (tB : Trim B) (nB : B ≠ []) (le : B.length ≤ A.length) (d1 : CG.Dvd T B) (d2 : CG.Dvd T (remL A B)) : CG.Dvd T A := by
  obtain ⟨q1, q2, q3⟩ := quo_facts tA nA tB nB le
  have f0 := facL_pos (P := A) tB nB
  refine CG.Dvd.comb (a := facL A B) (U := of (quoL A B)) (V := S.con 1) (n := A.length - B.length + 2) d1 d2 (by omega) (q1.mono (by omega)) ((lt_con 1).mono (by omega)) ?_
  have : S.con 1 = 1 := rfl
  rw [this]
  grind
theorem dvd_scale {A B T : List Int} {c : Int} (h : ∀ k, c * cf A k = cf B k) (d : CG.Dvd T A) : CG.Dvd T B := by
  obtain ⟨w, X, w0, e⟩ := d
  refine ⟨w, MR.sclL c X, w0, fun k => ?_⟩
  rw [← h, MR.cv_scl_left, ← e]; grind
theorem dvd_unscale {A B T : List Int} {c : Int} (c0 : c ≠ 0) (h : ∀ k, c * cf A k = cf B k) (d : CG.Dvd T B) : CG.Dvd T A := by
  obtain ⟨w, X, w0, e⟩ := d
  refine ⟨w * c, X, Int.mul_ne_zero w0 c0, fun k => ?_⟩
  rw [Int.mul_assoc, h, e]
/-- the next rest, with the sign -/
theorem next_link {A B : List Int} (tA : Trim A) (nA : A ≠ []) (tB : Trim B) (nB : B ≠ []) (le : B.length ≤ A.length) (nx : nextL A B ≠ []) : ∃ (a b : Int) (Q : List Int), 0 < a ∧ 0 < b ∧ ∀ k, a * cf A k = cv Q B k - b * cf (nextL A B) k := by
  obtain ⟨q1, q2, q3⟩ := quo_facts tA nA tB nB le
  have f0 := facL_pos (P := A) tB nB
  have nr : remL A B ≠ [] := fun z => nx (next_nil.mpr z)
  have tr : Trim ((remL A B).map fun x => 0 - x) := neg_trim (trim_rem (Q := B) tA)
  have g0 := gcdL_trim_pos tr (fun z => nr (List.map_eq_nil_iff.mp z))
  refine ⟨facL A B, gcdL ((remL A B).map fun x => 0 - x), quoL A B, f0, g0, fun k => ?_⟩
  have h1 := congrFun q3 k
  have h2 := mul_shrunkL ((remL A B).map fun x => 0 - x) k
  rw [neg_cf] at h2
  have h3 : facL A B * cf A k - cv (quoL A B) B k = cf (remL A B) k := by
    have h1' : (S.con (facL A B) * of A - of (quoL A B) * of B) k = of (remL A B) k := h1
    rw [S.sub_at, S.con_mul, of_mul, of_at, of_at] at h1'
    exact h1'
  unfold nextL
  omega
theorem lnk_ev {B : Rat} {P Q R : List Int} (hB : 0 < B) (h : ∃ (a b : Int) (q : List Int), 0 < a ∧ 0 < b ∧ ∀ k, a * cf P k = cv q Q k - b * cf R k) : ST.Lnk B (ST.ev P) (ST.ev Q) (ST.ev R) := by
  obtain ⟨a, b, q, a0, b0, e⟩ := h
  exact ⟨(a : Rat), (b : Rat), ST.ev q, RB.cast_pos a0, RB.cast_pos b0, ST.tame_ev hB q, fun x => ST.ev_link e x⟩
theorem const_of {B : List Int} (tB : Trim B) (nB : B ≠ []) (l1 : B.length ≤ 1) : ∃ c : Rat, c ≠ 0 ∧ ∀ x, ST.ev B x = c := by
  match B, tB, nB, l1 with
  | [c], tB, _, _ =>
    refine ⟨(c : Rat), RB.cast_ne ?_, fun x => ?_⟩
    · rcases tB with e | e
      · cases e
      · exact e
    · show (c : Rat) + x * 0 = _; grind
theorem chain_G {Bd : Rat} (hB : 0 < Bd) {P Q : List Int} {s t : Nat} (E : Env P Q s t) : ∀ (f : Nat) {A B : List Int}, Run P Q A B → B.length ≤ f → B ≠ [] → (∀ T, Trim T → CG.Dvd T A → CG.Dvd T B → T.length ≤ 1) → ST.Chain Bd ((A :: rowG f A B).map ST.ev)
  | 0, A, B, h, hf, nB, _ => absurd (List.eq_nil_of_length_eq_zero (Nat.le_zero.mp hf)) nB
  | f + 1, A, B, h, hf, nB, hd => by
    obtain ⟨pr, st⟩ := h.pair E nB
    have lr := rem_len (P := A) h.tB nB
    have hl : (nextL A B).length ≤ f := by rw [next_len]; omega
    have er : rowG (f + 1) A B = B :: rowG f B (nextL A B) := by show (if B = [] then [] else _) = _; rw [if_neg nB]
    rw [er]
    by_cases nN : nextL A B = []
    · rw [nN, rowG_nil]
      refine ST.Chain.two (ST.tame_ev hB A) (ST.Chain.one ?_)
      have hr : remL A B = [] := next_nil.mp nN
      have l1 : B.length ≤ 1 := hd B h.tB (dvd_rem h.tA h.nA h.tB nB h.le (dvd_self B) (by rw [hr]; exact CG.Dvd.nil B)) (dvd_self B)
      exact const_of h.tB nB l1
    · have ih := chain_G hB E f st hl nN fun T tT d1 d2 => by
        have tr := trim_rem (Q := B) h.tA
        have nr : remL A B ≠ [] := fun z => nN (next_nil.mpr z)
        obtain ⟨c, c0, hc⟩ := (next_facts h.tA nB).2.2.2
        exact hd T tT (dvd_rem h.tA h.nA h.tB nB h.le d1 (dvd_scale hc d2)) d1
      have hc : ∃ r, rowG f B (nextL A B) = nextL A B :: r := by
        cases f with
        | zero => exact absurd (List.eq_nil_of_length_eq_zero (Nat.le_zero.mp hl)) nN
        | succ f => exact ⟨_, by show (if nextL A B = [] then [] else _) = _; rw [if_neg nN]⟩
      obtain ⟨r, hr⟩ := hc
      rw [hr] at ih ⊢
      exact ST.Chain.more (ST.tame_ev hB A) (lnk_ev hB (next_link h.tA h.nA h.tB nB h.le nN)) ih
/-- the row of a polynomial without squares is a chain -/
theorem chain_row {Bd : Rat} (hB : 0 < Bd) {P : List Int} {f s t : Nat} (e : REnv P f s t) (sq : SQ.Sqf (of P)) (h : slopeL P ≠ []) : ∃ r, rowL f P = shrunkL P :: shrunkL (slopeL P) :: r ∧ ST.Chain Bd ((rowL f P).map ST.ev) := by
  have nS : shrunkL (slopeL P) ≠ [] := fun z => h (List.map_eq_nil_iff.mp z)
  have lS : (shrunkL (slopeL P)).length ≤ f := by rw [shrunkL_len, slope_len]; have := e.lf; omega
  rw [row_cons e.nP]
  have hc : ∃ r, rowG f (shrunkL P) (shrunkL (slopeL P)) = shrunkL (slopeL P) :: r := by
    cases f with
    | zero => exact absurd (List.eq_nil_of_length_eq_zero (Nat.le_zero.mp lS)) nS
    | succ f => exact ⟨_, by show (if shrunkL (slopeL P) = [] then [] else _) = _; rw [if_neg nS]⟩
  obtain ⟨r, hr⟩ := hc
  refine ⟨r, by rw [hr], chain_G hB (e.en h) f (e.run h) lS nS fun T tT d1 d2 => ?_⟩
  have k1 : CG.Dvd T P := dvd_scale (fun k => mul_shrunkL P k) d1
  have k2 : CG.Dvd T (slopeL P) := dvd_scale (fun k => mul_shrunkL (slopeL P) k) d2
  have sq' : SQ.Cop (of P) (of (slopeL P)) := by
    have := sq
    unfold SQ.Sqf at this
    rw [SQ.D_slope] at this
    exact this
  exact sq'.dvd k1 k2 tT
/-- the changes that the program counts -/
theorem chg_q (Rs : List (List Int)) (x : Rat) : (MH.chg Rs x.num (x.den : Int)).1 = ST.vr (Rs.map ST.ev) x := by
  unfold MH.chg ST.vr ST.var
  rw [List.map_map, List.foldl_map]
  have : ∀ (s : Int × Int), (Rs.foldl (fun s P => MH.stp s (RB.ordI (MH.topL P x.num (x.den : Int)) 0)) s) = Rs.foldl (fun s P => ST.stp s ((fun f : Rat → Rat => ST.sgR (f x)) (ST.ev P))) s := fun s => by
    induction Rs generalizing s with
    | nil => rfl
    | cons R Rs ih =>
      rw [List.foldl_cons, List.foldl_cons, ih, RB.sign_q]
      rfl
  exact congrArg Prod.fst (this (0, 0))
theorem ev_shr (P : List Int) (x : Rat) : ((gcdL P : Int) : Rat) * ST.ev (shrunkL P) x = ST.ev P x := by
  have := ST.ev_prop (A := shrunkL P) (B := P) (a := gcdL P) (b := 1) (fun k => by rw [mul_shrunkL, Int.one_mul]) x
  rw [this]
  have : ((1 : Int) : Rat) = 1 := rfl
  rw [this]; grind
theorem slope_shr_prop (P : List Int) (x : Rat) : ((gcdL P : Int) : Rat) * ST.dv (shrunkL P) x = ((gcdL (slopeL P) : Int) : Rat) * ST.ev (shrunkL (slopeL P)) x := by
  rw [ST.dv_ev, ev_shr]
  have := ST.ev_prop (A := slopeL (shrunkL P)) (B := slopeL P) (a := gcdL P) (b := 1) (fun k => by
    rw [cf_slopeL, cf_slopeL, ← mul_shrunkL P (k + 1)]; grind) x
  rw [this]
  have : ((1 : Int) : Rat) = 1 := rfl
  rw [this]; grind
/-- Sturm's count of known spots -/
theorem count_known {P : List Int} {f s t : Nat} {g : Int} {S : List (Rat → Int)} (e : REnv P f s t) (sq : SQ.Sqf (of P)) (hS : ∀ s ∈ S, ST.Spot s) (hp : S.Pairwise ST.Sep) (hg : g = 1 ∨ g = -1) (hsg : ∀ x, ST.sgR (ST.ev P x) = g * ST.pS S x) (h0 : slopeL P = [] → S = []) :
    ∀ a b : Rat, a ≤ b → (MH.chg (rowL f P) a.num (a.den : Int)).1 - (MH.chg (rowL f P) b.num (b.den : Int)).1 = (ST.cnt S a b : Int) := fun a b hab => by
  rw [chg_q, chg_q]
  by_cases h : slopeL P = []
  · have : rowL f P = [shrunkL P] := by rw [row_cons e.nP, h, shrunkL_nil, rowG_nil]
    rw [this, h0 h]
    have v0 : ∀ x, ST.vr ([shrunkL P].map ST.ev) x = 0 := fun x => by
      unfold ST.vr ST.var
      show ((ST.stp (0, 0) (ST.sgR (ST.ev (shrunkL P) x))).1) = 0
      unfold ST.stp
      split
      · split
        · next h1 h2 => exact absurd (show (0 : Int) = 0 - _ from h2) (by omega)
        · rfl
      · rfl
    rw [v0, v0]; rfl
  · obtain ⟨Bd, hBd, ha, hb⟩ : ∃ Bd : Rat, 0 < Bd ∧ ST.In Bd a ∧ ST.In Bd b := by
      have sqn : ∀ x : Rat, 0 ≤ x * x := fun x => by
        rcases Rat.le_total (a := 0) (b := x) with h | h
        · exact Rat.mul_nonneg h h
        · have := Rat.mul_nonneg (show 0 ≤ -x by grind) (show 0 ≤ -x by grind); grind
      have k1 := sqn a
      have k2 := sqn b
      have k3 := sqn (a - 1)
      have k4 := sqn (a + 1)
      have k5 := sqn (b - 1)
      have k6 := sqn (b + 1)
      exact ⟨a * a + b * b + 1, by grind, by unfold ST.In; constructor <;> grind, by unfold ST.In; constructor <;> grind⟩
    obtain ⟨r, er, ch⟩ := chain_row hBd e sq h
    rw [er] at ch ⊢
    have g1 := gcdL_trim_pos e.tP e.nP
    have g2 := gcdL_trim_pos (slope_trim e.tP) h
    have c1 := RB.cast_pos g1
    have c2 := RB.cast_pos g2
    obtain ⟨m, m0, hm⟩ := ST.rdiv c2 c1
    refine ST.sturm_B (m := m) hBd ch m0 (fun x => ?_) hS hp hg (fun x => ?_) a b ha hb hab
    · have := slope_shr_prop P x
      rw [← hm] at this
      have k : ((gcdL P : Int) : Rat) * (ST.dv (shrunkL P) x - m * ST.ev (shrunkL (slopeL P)) x) = 0 := by grind
      rcases Rat.mul_eq_zero.mp k with k | k
      · grind
      · grind
    · rw [← hsg, ← ev_shr P x, ST.sgR_mul, ST.sgR_pos c1, Int.one_mul]
end SR

set_option linter.all false
set_option maxRecDepth 100000
set_option exponentiation.threshold 100000
set_option maxHeartbeats 2000000
/-! A small polynomial without its squares is small. -/
namespace SF
open ML MR MP MQ MD PS PS.S MG CO MS
variable {P Q A B C F : List Int}
/-- the next pair, whatever the rest's sign -/
theorem flat_step (c : Cof P Q A B) (tA : Trim A) (nA : A ≠ []) (tB : Trim B) (nB : B ≠ []) (le : B.length ≤ A.length) (hC : ∀ k, cf C k = - cf (nextL A B) k) (lC : C.length < B.length) : Cof P Q B C := by
  obtain ⟨q1, q2, q3⟩ := quo_facts tA nA tB nB le
  have f0 := facL_pos (P := A) tB nB
  obtain ⟨d, d0, hd⟩ := (next_facts tA nB).2.2.2
  exact c.step (c := -d) (by omega) (show facL A B ≠ 0 by omega) (by
    rw [q3]
    exact S.ext fun k => by rw [S.con_mul, of_at, of_at, hC, ← hd]; grind) le lC q1 q2
/-- shrunk, with the other sign -/
theorem shr_neg {L : List Int} (tL : Trim L) (k : Nat) : cf (shrunkL (L.map fun x => 0 - x)) k = - cf (shrunkL L) k := by
  by_cases nL : L = []
  · rw [nL]; show cf (shrunkL []) k = - cf (shrunkL []) k; rw [shrunkL_nil, cf_nil]; rfl
  · have g0 := gcdL_trim_pos tL nL
    have e : (L.map fun x => 0 - x) = negL L := List.map_congr_left fun x _ => by omega
    have eg : gcdL (L.map fun x => 0 - x) = gcdL L := by unfold gcdL; rw [e, gcdN_negL]
    have h1 := mul_shrunkL (L.map fun x => 0 - x) k
    have h2 := mul_shrunkL L k
    rw [eg, neg_cf, ← h2] at h1
    refine Int.eq_of_mul_eq_mul_left (show gcdL L ≠ 0 by omega) ?_
    rw [h1]; grind
/-- what is known of the small polynomial -/
structure Small (P : List Int) : Prop where
  tP : Trim P
  nP : P ≠ []
  lP : P.length ≤ 6
  sP : Sz 6 P
theorem Small.slope (h : Small P) : Sz 9 (slopeL P) := Sz.of fun k hk => by
  rw [cf_slopeL, Int.natAbs_mul]
  have hk' : k < P.length - 1 := by rw [SR.slope_len] at hk; exact hk
  have := h.lP
  have h1 : ((k : Int) + 1).natAbs ≤ 2 ^ 3 := by show _ ≤ 8; omega
  have h2 := Nat.mul_lt_mul_of_le_of_lt h1 (h.sP.cf (k + 1)) (Nat.two_pow_pos _)
  rw [← Nat.pow_add] at h2
  exact h2
/-- a rest on the way is small -/
theorem Small.rest (h : Small P) (nS : slopeL P ≠ []) (c : Cof P (slopeL P) A B) (hBA : B.length < A.length) (hAQ : A.length ≤ (slopeL P).length + 1) (g1 : gcdN B = 1) : Sz 170 B := by
  have lP := h.lP
  have lS := SR.slope_len P
  refine (c.bound (s := 9) (t := 14) h.tP h.nP nS (h.sP.mono (by decide)) h.slope hBA hAQ g1 (by
    show 2 * ((P.length + (slopeL P).length) * 512) ≤ 16384
    omega)).mono (by omega)
theorem flat_small (h : Small P) (c : Cof P (slopeL P) A []) (tA : Trim A) (nA : A ≠ []) (hAQ : A.length ≤ (slopeL P).length + 1) (lF : F.length = P.length - A.length + 1) (hAP : A.length ≤ P.length) {f : Int} {L : List Int} (f0 : 0 < f) (hf : ∀ k, f * cf P k = cv F A k + cf L k) (hL : ∀ k, A.length ≤ k + 1 → cf L k = 0) : Trim F ∧ F ≠ [] ∧ gcdN F ≠ 0 ∧ Sz 156 (shrunkL F) := by
  have lP := h.lP
  have lS := SR.slope_len P
  have pP := List.length_pos_iff.mpr h.nP
  have pA := List.length_pos_iff.mpr nA
  have topA := trim_last tA nA
  have nF : F ≠ [] := fun z => by rw [z] at lF; simp at lF
  have topF : cf F (F.length - 1) ≠ 0 := fun z => by
    have h1 := hf (P.length - 1)
    rw [hL _ (by omega)] at h1
    have h2 := cv_top (D := F) (Q := A) (d := F.length - 1) (e := A.length - 1) (fun i hi => cf_beyond (by omega)) (fun i hi => cf_beyond (by omega))
    rw [show F.length - 1 + (A.length - 1) = P.length - 1 by omega, z, Int.zero_mul] at h2
    rw [h2] at h1
    have := Int.mul_ne_zero (show f ≠ 0 by omega) (trim_last h.tP h.nP)
    omega
  have tF : Trim F := .inr topF
  have gF := gcdL_trim_pos tF nF
  have gN : gcdN F ≠ 0 := fun z => by
    have : gcdL F = 0 := by unfold gcdL; rw [z]; rfl
    omega
  refine ⟨tF, nF, gN, ?_⟩
  have g1 : gcdN (shrunkL F) = 1 := gcdN_shrunkL gN
  by_cases nS : slopeL P = []
  · have l1 : F.length = 1 := by
      have : (slopeL P).length = 0 := by rw [nS]; rfl
      omega
    match hh : shrunkL F, g1, shrunkL_len F with
    | [x], g1, _ =>
      have : x.natAbs = 1 := by
        have g1' : Nat.gcd 0 x.natAbs = 1 := g1
        rwa [Nat.gcd_zero_left] at g1'
      intro y hy
      rw [List.mem_singleton.mp hy, this]
      exact Nat.one_lt_two_pow (by decide)
    | [], _, e => rw [l1] at e; simp at e
    | x :: y :: r, _, e => rw [l1] at e; simp at e
  obtain ⟨a, b, w, U0, V0, U1, V1, ⟨a0, b0, w0, e0, e1, ew, _, _, _, lV1⟩, U, V, y, nu, nv, y0, wU, wV, lU, lV, lnn, bU, bV⟩ := c.small (P2 := P) (Q2 := slopeL P) (H := [1]) (s := 9) (t := 14) h.tP h.nP nS (.inr (by decide)) (by simp) (CG.of_one_mul P) (CG.of_one_mul (slopeL P)) (h.sP.mono (by decide)) h.slope pA hAQ (by
    show 2 * ((P.length + (slopeL P).length) * 512) ≤ 16384
    omega)
  have e1' : U1 * of P + V1 * of (slopeL P) = 0 := by
    rw [← e1]
    exact S.ext fun k => by rw [S.con_mul, of_at, cf_nil, Int.mul_zero, zero_at]
  have k1 : con a * of A * V1 = con w * of P := by
    rw [e0, ← ew]
    have : (U0 * of P + V0 * of (slopeL P)) * V1 = (U0 * V1 - U1 * V0) * of P + V0 * (U1 * of P + V1 * of (slopeL P)) := by grind
    rw [this, e1']; grind
  have k2 : con f * of P = of F * of A + of L := S.ext fun k => by
    rw [S.con_mul, add_at, of_mul, of_at, of_at]
    exact hf k
  obtain ⟨X, hX⟩ : ∃ X, con (f * a) * V1 - con w * of F = X := ⟨_, rfl⟩
  have k3 : X * of A = con w * of L := by
    rw [← hX, ← con_mul_con]
    have h1 : (con f * con a * V1 - con w * of F) * of A = con f * (con a * of A * V1) - con w * (of F * of A) := by grind
    have h2 : of F * of A = con f * of P - of L := by rw [k2]; grind
    rw [h1, k1, h2]; grind
  have lL : Lt (of L) (A.length - 1) := fun k hk => by rw [of_at]; exact hL k (by omega)
  have lX : X = 0 := by
    have fin : ∃ N, Lt X N := ⟨_, hX ▸ Lt.sub (lV1.con_mul _) (((of_lt F).mono (by omega)).con_mul _)⟩
    obtain ⟨N, fin⟩ := fin
    refine Lt.zero (lt_div (c := 0) ((of_lt A).mono (by omega)) topA ?_ N (by rw [Nat.zero_add]; exact fin))
    rw [k3, Nat.zero_add]
    exact lL.con_mul w
  have k4 : ∀ k, (f * a) * V k = (y * gcdL F) * cf (shrunkL F) k := fun k => by
    have h1 := congrFun hX k
    rw [lX, sub_at, S.con_mul, S.con_mul, of_at, zero_at] at h1
    have h2 := congrFun wV k
    rw [S.con_mul, S.con_mul] at h2
    have h3 := mul_shrunkL F k
    have h4 : w * ((f * a) * V k) = w * ((y * gcdL F) * cf (shrunkL F) k) := by
      have h5 : w * ((f * a) * V k) = (f * a) * (w * V k) := by grind
      have h6 : w * ((y * gcdL F) * cf (shrunkL F) k) = y * (w * (gcdL F * cf (shrunkL F) k)) := by grind
      rw [h5, h6, h3, h2]
      have h7 : f * a * V1 k = w * cf F k := by omega
      have h8 : f * a * (y * V1 k) = y * (f * a * V1 k) := by grind
      rw [h8, h7]
    exact Int.eq_of_mul_eq_mul_left w0 h4
  refine Sz.of fun k _ => ?_
  have h1 := prim_le (B := 0) g1 (Int.mul_ne_zero (show f ≠ 0 by omega) a0) (Int.mul_ne_zero y0 (show gcdL F ≠ 0 by omega)) k4 k
  have h2 := bV k
  have h3 : (2 : Nat) ^ (14 * (P.length + (slopeL P).length) + 1) < 2 ^ 156 := Nat.pow_lt_pow_right (by decide) (by omega)
  omega
end SF

set_option linter.all false
set_option exponentiation.threshold 100000
/-! Siegel's lemma where each unknown and each row has a size of its own; the rests of a division by it. -/
namespace SW
open ML
/-- the bits ahead of a place -/
def off (w : Nat → Nat) : Nat → Nat
  | 0 => 0
  | n + 1 => off w n + w n
def dg (w : Nat → Nat) (i k : Nat) : Nat := i / 2 ^ off w k % 2 ^ w k
theorem dg_lt (w : Nat → Nat) (i k : Nat) : dg w i k < 2 ^ w k := Nat.mod_lt _ (Nat.two_pow_pos _)
theorem mod_step (w : Nat → Nat) (n i : Nat) : i % 2 ^ off w (n + 1) = i % 2 ^ off w n + 2 ^ off w n * dg w i n := by
  show i % 2 ^ (off w n + w n) = _
  rw [Nat.pow_add, Nat.mod_mul]; rfl
theorem mod_eq (w : Nat → Nat) (i j : Nat) : ∀ n, (∀ k, k < n → dg w i k = dg w j k) → i % 2 ^ off w n = j % 2 ^ off w n
  | 0, _ => by show i % 2 ^ 0 = j % 2 ^ 0; rw [Nat.pow_zero, Nat.mod_one, Nat.mod_one]
  | n + 1, h => by rw [mod_step, mod_step, mod_eq w i j n fun k hk => h k (by omega), h n (by omega)]
theorem dg_inj (w : Nat → Nat) (n i j : Nat) (hi : i < 2 ^ off w n) (hj : j < 2 ^ off w n) (h : ∀ k, k < n → dg w i k = dg w j k) : i = j := by
  have := mod_eq w i j n h
  rwa [Nat.mod_eq_of_lt hi, Nat.mod_eq_of_lt hj] at this
/-- a row of numbers as one -/
def enc (w : Nat → Nat) (y : Nat → Nat) : Nat → Nat
  | 0 => 0
  | n + 1 => enc w y n + y n * 2 ^ off w n
theorem enc_lt {w y : Nat → Nat} : ∀ n, (∀ k, k < n → y k < 2 ^ w k) → enc w y n < 2 ^ off w n
  | 0, _ => by show 0 < 2 ^ 0; decide
  | n + 1, h => by
    have h1 := enc_lt n fun k hk => h k (by omega)
    have h2 := h n (by omega)
    show enc w y n + y n * 2 ^ off w n < 2 ^ (off w n + w n)
    rw [Nat.pow_add, Nat.mul_comm (2 ^ off w n)]
    have : (y n + 1) * 2 ^ off w n ≤ 2 ^ w n * 2 ^ off w n := Nat.mul_le_mul_right _ h2
    rw [Nat.add_mul, Nat.one_mul] at this
    omega
theorem enc_inj {w y z : Nat → Nat} : ∀ n, (∀ k, k < n → y k < 2 ^ w k) → (∀ k, k < n → z k < 2 ^ w k) → enc w y n = enc w z n → ∀ k, k < n → y k = z k
  | 0, _, _, _, k, hk => absurd hk (Nat.not_lt_zero _)
  | n + 1, hy, hz, e, k, hk => by
    have l1 := enc_lt n fun k hk => hy k (by omega)
    have l2 := enc_lt n fun k hk => hz k (by omega)
    have e' : enc w y n + y n * 2 ^ off w n = enc w z n + z n * 2 ^ off w n := e
    have hp : 0 < 2 ^ off w n := by omega
    have d : ∀ a b : Nat, a < 2 ^ off w n → (a + b * 2 ^ off w n) / 2 ^ off w n = b := fun a b ha => by
      rw [Nat.add_mul_div_right _ _ hp, Nat.div_eq_of_lt ha, Nat.zero_add]
    have hn : y n = z n := by
      rw [← d _ (y n) l1, ← d _ (z n) l2, e']
    by_cases hk' : k = n
    · rw [hk']; exact hn
    · refine enc_inj n (fun k hk => hy k (by omega)) (fun k hk => hz k (by omega)) ?_ k (by omega)
      rw [hn] at e'
      omega
/-- the small answer, each unknown below a bound of its own -/
theorem siegel {E l : Nat} (c : Nat → Nat → Int) (e g : Nat → Nat) (hc : ∀ i j, i < E → j ≤ E → (c i j).natAbs * 2 ^ e j ≤ 2 ^ g i) (hl : 2 * (E + 1) < 2 ^ l) (hs : off (fun i => g i + l) E < off e (E + 1)) :
    ∃ x : Nat → Int, (∃ j, j ≤ E ∧ x j ≠ 0) ∧ (∀ j, j ≤ E → (x j).natAbs < 2 ^ e j) ∧ ∀ i, i < E → sm (E + 1) (fun j => c i j * x j) = 0 := by
  let im : Nat → Nat → Int := fun n i => sm (E + 1) fun j => c i j * (dg e n j : Int)
  let Y : Nat → Nat := fun i => (E + 1) * 2 ^ g i
  have imb : ∀ n i, i < E → (im n i).natAbs ≤ Y i := fun n i hi => by
    refine sm_abs (n := E + 1) (f := fun j => c i j * (dg e n j : Int)) (b := 2 ^ g i) fun j hj => ?_
    show (c i j * (dg e n j : Int)).natAbs ≤ _
    rw [Int.natAbs_mul, Int.natAbs_natCast]
    exact Nat.le_trans (Nat.mul_le_mul_left _ (Nat.le_of_lt (dg_lt e n j))) (hc i j hi (by omega))
  have Y2 : ∀ i, 2 * Y i < 2 ^ (g i + l) := fun i => by
    rw [Nat.pow_add, Nat.mul_comm (2 ^ g i)]
    show 2 * ((E + 1) * 2 ^ g i) < _
    rw [← Nat.mul_assoc]
    exact Nat.mul_lt_mul_of_pos_right hl (Nat.two_pow_pos _)
  let sh : Nat → Nat → Nat := fun n i => (im n i + Y i).toNat
  have shb : ∀ n i, i < E → sh n i < 2 ^ (g i + l) := fun n i hi => by
    have := imb n i hi
    have := Y2 i
    show (im n i + Y i).toNat < _
    omega
  obtain ⟨a, b, hab, hb, hf⟩ := SG.pigeon (2 ^ off (fun i => g i + l) E) (2 ^ off e (E + 1)) (fun n => enc (fun i => g i + l) (sh n) E) (fun n _ => enc_lt E fun k hk => shb n k hk) (Nat.pow_lt_pow_right (by decide) hs)
  have hs := enc_inj E (fun k hk => shb a k hk) (fun k hk => shb b k hk) hf
  refine ⟨fun j => (dg e a j : Int) - dg e b j, ?_, fun j hj => ?_, fun i hi => ?_⟩
  · apply Classical.byContradiction
    intro hh
    have : a = b := dg_inj e (E + 1) a b (by omega) hb fun k hk => by
      apply Classical.byContradiction
      intro hne
      exact hh ⟨k, by omega, by show (dg e a k : Int) - dg e b k ≠ 0; omega⟩
    omega
  · have h1 := dg_lt e a j
    have h2 := dg_lt e b j
    show ((dg e a j : Int) - dg e b j).natAbs < 2 ^ e j
    omega
  · have h1 := hs i hi
    have b1 := imb a i hi
    have b2 := imb b i hi
    have h2 : im a i = im b i := by
      have h1' : (im a i + Y i).toNat = (im b i + Y i).toNat := h1
      omega
    have h3 : sm (E + 1) (fun j => c i j * ((dg e a j : Int) - dg e b j)) = im a i - im b i := by
      show _ = sm (E + 1) _ - sm (E + 1) _
      rw [← sm_sub]
      exact sm_congr fun j hj => by rw [Int.mul_sub]
    rw [h3, h2]; omega
end SW
namespace CO
open ML MR MP MQ MD PS PS.S MG
variable {P Q A B C : List Int}
/-- the two rows that an answer tells -/
def rowU (nu : Nat) (x : Nat → Int) : S := fun j => if j < nu then x j else 0
def rowV (nu nv : Nat) (x : Nat → Int) : S := fun j => if j < nv then x (nu + j) else 0
/-- the rows of the rests' system -/
def sysC (P Q : List Int) (nu d0 i j : Nat) : Int := if j < nu then (if j ≤ d0 + i then cf P (d0 + i - j) else 0) else (if j - nu ≤ d0 + i then cf Q (d0 + i - (j - nu)) else 0)
/-- an answer that is not nought goes together with the last pair -/
theorem Cof.solve (h : Cof P Q A B) (hP : Trim P) (nP : P ≠ []) (nQ : Q ≠ []) (hBA : B.length < A.length) (hAQ : A.length ≤ Q.length + 1) {nu nv E : Nat} (hnu : nu = Q.length + 1 - A.length) (hnv : nv = P.length + 1 - A.length) (hE : nu + nv = E + 1) {x : Nat → Int} (hx : ∃ j, j ≤ E ∧ x j ≠ 0) (xe : ∀ i, i < E → sm (E + 1) (fun j => sysC P Q nu (A.length - 1) i j * x j) = 0) :
    ∃ w z : Int, w ≠ 0 ∧ z ≠ 0 ∧ ∀ k, w * (rowU nu x * of P + rowV nu nv x * of Q) k = z * cf B k := by
  obtain ⟨a, b, w, U0, V0, U1, V1, a0, b0, w0, e0, e1, ew, lU0, lV0, lU1, lV1, t1, lA⟩ := h
  obtain ⟨j0, hj0, xj0⟩ := hx
  have lP := List.length_pos_iff.mpr nP
  have lQ := List.length_pos_iff.mpr nQ
  have pT := trim_last hP nP
  obtain ⟨U, hU⟩ : ∃ U, U = rowU nu x := ⟨_, rfl⟩
  obtain ⟨V, hV⟩ : ∃ V, V = rowV nu nv x := ⟨_, rfl⟩
  have lU : Lt U nu := fun j hj => by rw [hU]; exact if_neg (by omega)
  have lV : Lt V nv := fun j hj => by rw [hV]; exact if_neg (by omega)
  have Uj : ∀ j, j < nu → U j = x j := fun j hj => by rw [hU]; exact if_pos hj
  have Vj : ∀ j, j < nv → V j = x (nu + j) := fun j hj => by rw [hV]; exact if_pos hj
  rw [← hU, ← hV]
  obtain ⟨R, hR⟩ : ∃ R, U * of P + V * of Q = R := ⟨_, rfl⟩
  have lR : Lt R (A.length - 1) := fun j hj => by
    rw [← hR]
    by_cases hj2 : j < A.length - 1 + E
    · rw [add_at, conv_ext lU, conv_ext lV]
      have := xe (j - (A.length - 1)) (by omega)
      rw [← hE, sm_split] at this
      refine Eq.trans ?_ this
      congr 1
      · refine sm_congr fun i hi => ?_
        unfold sysC
        rw [if_pos hi, Uj i hi, Int.mul_comm, show A.length - 1 + (j - (A.length - 1)) = j by omega]; rfl
      · refine sm_congr fun i hi => ?_
        unfold sysC
        rw [if_neg (show ¬ nu + i < nu by omega), Vj i hi, Nat.add_sub_cancel_left, Int.mul_comm, show A.length - 1 + (j - (A.length - 1)) = j by omega]; rfl
    · have h1 := lU.mul ((of_lt P).mono (show P.length ≤ (P.length - 1) + 1 by omega))
      have h2 := lV.mul ((of_lt Q).mono (show Q.length ≤ (Q.length - 1) + 1 by omega))
      rw [add_at, h1 j (by omega), h2 j (by omega)]; rfl
  -- the two pairs go together
  have al : U * V1 - U1 * V = 0 := by
    have h1 : R * V1 - con b * of B * V = (U * V1 - U1 * V) * of P := by
      rw [← hR, e1]; grind
    have l1 : Lt (R * V1) (P.length - 1) := (lR.mul (lV1.mono (show P.length + 1 - A.length ≤ (P.length - A.length) + 1 by omega))).mono (by omega)
    have l2 : Lt (con b * of B * V) (P.length - 1) := (((of_lt B).con_mul b).mul (lV.mono (show nv ≤ (P.length - A.length) + 1 by omega))).mono (by omega)
    have l3 : Lt ((U * V1 - U1 * V) * of P) (0 + (P.length - 1)) := by
      rw [← h1, Nat.zero_add]
      exact l1.sub l2
    have fin : Lt (U * V1 - U1 * V) (0 + (nu + (P.length + 1) + (Q.length + 1 - A.length + nv))) := by
      refine Lt.sub ((lU.mul (lV1.mono (show P.length + 1 - A.length ≤ P.length + 1 + 1 by omega))).mono (by omega)) ((lU1.mul (lV.mono (show nv ≤ nv + 1 by omega))).mono (by omega))
    exact Lt.zero (lt_div ((of_lt P).mono (by omega)) pT l3 _ fin)
  obtain ⟨be, hbe⟩ : ∃ be, U0 * V - U * V0 = be := ⟨_, rfl⟩
  have wU : con w * U = be * U1 := by
    have : con w * U = U0 * (U * V1 - U1 * V) + (U0 * V - U * V0) * U1 := by rw [← ew]; grind
    rw [this, al, hbe]; grind
  have wV : con w * V = be * V1 := by
    have : con w * V = V0 * (U * V1 - U1 * V) + (U0 * V - U * V0) * V1 := by rw [← ew]; grind
    rw [this, al, hbe]; grind
  have lbe : Lt be 1 := by
    have l1 : Lt (be * V1) (1 + (P.length - A.length)) := by
      rw [← wV]
      exact (lV.con_mul w).mono (by omega)
    have fin : Lt be (1 + ((Q.length + 1 - B.length) + nv + (nu + P.length))) := by
      rw [← hbe]
      exact Lt.sub ((lU0.mul (lV.mono (show nv ≤ nv + 1 by omega))).mono (by omega)) ((lU.mul (lV0.mono (show P.length - B.length ≤ P.length + 1 by omega))).mono (by omega))
    exact lt_div (lV1.mono (by omega)) t1 l1 _ fin
  have cbe := lt_one lbe
  generalize be 0 = y at cbe
  have w_inv : ∀ {p : S}, con w * p = 0 → p = 0 := fun {p} hp => S.ext fun k => by
    have := congrFun hp k
    rw [S.con_mul, zero_at] at this
    rw [zero_at]
    exact (Int.mul_eq_zero.mp this).resolve_left w0
  have y0 : y ≠ 0 := fun z => by
    have hb0 : be = 0 := by rw [cbe, z]; rfl
    have u0 : U = 0 := w_inv (by rw [wU, hb0]; grind)
    have v0 : V = 0 := w_inv (by rw [wV, hb0]; grind)
    by_cases hj : j0 < nu
    · have := congrFun u0 j0
      rw [zero_at] at this
      exact xj0 (Uj j0 hj ▸ this)
    · have := congrFun v0 (j0 - nu)
      rw [zero_at] at this
      have h2 := Vj (j0 - nu) (by omega)
      rw [show nu + (j0 - nu) = j0 by omega] at h2
      exact xj0 (h2 ▸ this)
  rw [cbe] at wU wV
  refine ⟨w, y * b, w0, Int.mul_ne_zero y0 b0, fun k => ?_⟩
  rw [hR]
  have : con w * R = con (y * b) * of B := by
    have h1 : con w * R = con w * U * of P + con w * V * of Q := by rw [← hR]; grind
    have h2 : con y * U1 * of P + con y * V1 * of Q = con y * (U1 * of P + V1 * of Q) := by grind
    rw [h1, wU, wV, h2, ← e1, ← con_mul_con]; grind
  have := congrFun this k
  rw [S.con_mul, S.con_mul] at this
  exact this
/-- coefficients that grow smaller by a step of two to a power -/
def Wz (s τ : Nat) (P : List Int) : Prop := ∀ k, (cf P k).natAbs * 2 ^ (τ * k) ≤ 2 ^ s
/-- the sizes of the unknowns -/
def wE (h h' τ nu j : Nat) : Nat := if j < nu then h - τ * j else h' - τ * (j - nu)
/-- the bound, with weights -/
theorem Cof.boundW {s s' τ h h' l E nu nv N : Nat} (c : Cof P Q A B) (hP : Trim P) (nP : P ≠ []) (nQ : Q ≠ []) (hBA : B.length < A.length) (hAQ : A.length ≤ Q.length + 1) (g1 : gcdN B = 1) (sP : Wz s τ P) (sQ : Wz s' τ Q) (hnu : nu = Q.length + 1 - A.length) (hnv : nv = P.length + 1 - A.length) (hE : nu + nv = E + 1) (hh : h + s = h' + s') (r1 : τ * nu ≤ h) (r2 : τ * nv ≤ h') (r3 : τ * (A.length - 1 + E) ≤ h + s) (hl : 2 * (E + 1) < 2 ^ l) (hs : SW.off (fun i => h + s - τ * (A.length - 1 + i) + l) E < SW.off (wE h h' τ nu) (E + 1)) (hN : h + s + l ≤ N) : Sz N B := by
  obtain ⟨x, hx, xb, xe⟩ := SW.siegel (E := E) (l := l) (fun i j => sysC P Q nu (A.length - 1) i j) (wE h h' τ nu) (fun i => h + s - τ * (A.length - 1 + i)) (fun i j hi hj => by
    have key : ∀ (R : List Int) (σ η d j : Nat), Wz σ τ R → τ * j ≤ η → τ * d ≤ η + σ → (if j ≤ d then cf R (d - j) else 0).natAbs * 2 ^ (η - τ * j) ≤ 2 ^ (η + σ - τ * d) := fun R σ η d j hR h1 h2 => by
      split
      · next hjd =>
        refine Nat.le_of_mul_le_mul_right (c := 2 ^ (τ * d)) ?_ (Nat.two_pow_pos _)
        rw [← Nat.pow_add, Nat.sub_add_cancel h2]
        have e : τ * d = τ * (d - j) + τ * j := by rw [← Nat.mul_add, Nat.sub_add_cancel hjd]
        rw [e, Nat.mul_assoc, ← Nat.pow_add, show η - τ * j + (τ * (d - j) + τ * j) = τ * (d - j) + η by omega, Nat.pow_add, ← Nat.mul_assoc, Nat.add_comm η σ, Nat.pow_add]
        exact Nat.mul_le_mul_right _ (hR _)
      · rw [Int.natAbs_zero, Nat.zero_mul]; exact Nat.zero_le _
    have m : τ * (A.length - 1 + i) ≤ h + s := Nat.le_trans (Nat.mul_le_mul_left _ (by omega)) r3
    unfold sysC wE
    split
    · next hj2 => exact key P s h _ j sP (Nat.le_trans (Nat.mul_le_mul_left _ (by omega)) r1) m
    · next hj2 =>
      have := key Q s' h' (A.length - 1 + i) (j - nu) sQ (Nat.le_trans (Nat.mul_le_mul_left _ (by omega)) r2) (by omega)
      rwa [← hh] at this) hl hs
  obtain ⟨w, z, w0, z0, rel⟩ := c.solve hP nP nQ hBA hAQ hnu hnv hE hx xe
  refine Sz.of fun k _ => ?_
  refine Nat.lt_of_le_of_lt (prim_le (B := 0) g1 w0 z0 rel k) ?_
  have lU : Lt (rowU nu x) nu := fun j hj => if_neg (by omega)
  have lV : Lt (rowV nu nv x) nv := fun j hj => if_neg (by omega)
  have pz : ∀ (R : List Int) (σ : Nat), Wz σ τ R → ∀ j, (of R j).natAbs ≤ 2 ^ σ := fun R σ hR j => Nat.le_trans (Nat.le_mul_of_pos_right _ (Nat.two_pow_pos (τ * j))) (hR j)
  have q1 := prod_sz (x := 2 ^ h) lU (fun j => by
    show (if j < nu then x j else 0).natAbs ≤ _
    split
    · next hj =>
      refine Nat.le_trans (Nat.le_of_lt (xb j (by omega))) (Nat.pow_le_pow_right (by decide) ?_)
      unfold wE; rw [if_pos hj]; omega
    · exact Nat.zero_le _) (pz P s sP) (p := of P) k
  have q2 := prod_sz (x := 2 ^ h') lV (fun j => by
    show (if j < nv then x (nu + j) else 0).natAbs ≤ _
    split
    · next hj =>
      refine Nat.le_trans (Nat.le_of_lt (xb (nu + j) (by omega))) (Nat.pow_le_pow_right (by decide) ?_)
      unfold wE; rw [if_neg (by omega)]; omega
    · exact Nat.zero_le _) (pz Q s' sQ) (p := of Q) k
  have q3 : ((rowU nu x * of P + rowV nu nv x * of Q) k).natAbs ≤ (nu + nv) * 2 ^ (h + s) := by
    rw [add_at, Nat.add_mul]
    rw [← Nat.pow_add] at q1 q2
    rw [← hh] at q2
    omega
  have q4 : (nu + nv) * 2 ^ (h + s) < 2 ^ l * 2 ^ (h + s) := Nat.mul_lt_mul_of_pos_right (by omega) (Nat.two_pow_pos _)
  rw [← Nat.pow_add] at q4
  have q5 : 2 ^ (l + (h + s)) ≤ 2 ^ N := Nat.pow_le_pow_right (by decide) (by omega)
  omega
end CO

set_option linter.all false
set_option maxRecDepth 100000
set_option exponentiation.threshold 100000
set_option maxHeartbeats 2000000
/-! Products of powers: what they share with their slopes. -/
namespace LY
open ML MR MP MQ MD PS PS.S MG CO MS CG SQ
/-! ### the sum of the coefficients without signs -/
def N1 : List Int → Nat
  | [] => 0
  | c :: r => c.natAbs + N1 r
theorem N1_zero {P : List Int} (h : ∀ k, cf P k = 0) : N1 P = 0 := by
  induction P with
  | nil => rfl
  | cons c r ih =>
    have h0 : c = 0 := h 0
    show c.natAbs + N1 r = 0
    rw [ih fun k => (by have := h (k + 1); rw [cf_succ] at this; exact this), h0]; rfl
theorem N1_ext {P Q : List Int} (h : ∀ k, cf P k = cf Q k) : N1 P = N1 Q := by
  induction P generalizing Q with
  | nil => exact (N1_zero fun k => by rw [← h, cf_nil]).symm
  | cons c r ih =>
    cases Q with
    | nil => exact N1_zero fun k => by rw [h, cf_nil]
    | cons d s =>
      have h0 : c = d := h 0
      show c.natAbs + N1 r = d.natAbs + N1 s
      rw [h0, ih (Q := s) fun k => (by have := h (k + 1); rw [cf_succ, cf_succ] at this; exact this)]
theorem N1_pd : ∀ P Q : List Int, N1 (ST.pd P Q) ≤ N1 P + N1 Q
  | [], Q => by show N1 Q ≤ 0 + N1 Q; omega
  | a :: p, [] => by show N1 (a :: p) ≤ N1 (a :: p) + 0; omega
  | a :: p, b :: q => by
    have := N1_pd p q
    show (a + b).natAbs + N1 (ST.pd p q) ≤ (a.natAbs + N1 p) + (b.natAbs + N1 q)
    omega
theorem N1_scl (c : Int) : ∀ P : List Int, N1 (sclL c P) = c.natAbs * N1 P
  | [] => rfl
  | a :: p => by
    have := N1_scl c p
    show (c * a).natAbs + N1 (sclL c p) = c.natAbs * (a.natAbs + N1 p)
    rw [this, Int.natAbs_mul, Nat.mul_add]
theorem N1_pml : ∀ P Q : List Int, N1 (ST.pml P Q) ≤ N1 P * N1 Q
  | [], Q => Nat.zero_le _
  | a :: p, Q => by
    have h1 := N1_pml p Q
    have h2 := N1_pd (sclL a Q) (0 :: ST.pml p Q)
    have h3 := N1_scl a Q
    have h4 : N1 (0 :: ST.pml p Q) = 0 + N1 (ST.pml p Q) := rfl
    show N1 (ST.pd (sclL a Q) (0 :: ST.pml p Q)) ≤ (a.natAbs + N1 p) * N1 Q
    rw [Nat.add_mul]; omega
theorem N1_mulU (P Q : List Int) : N1 (mulU P Q) ≤ N1 P * N1 Q := by
  rw [N1_ext (Q := ST.pml P Q) fun k => by rw [cf_mulU, ST.cf_pml]]
  exact N1_pml P Q
theorem cf_le_N1 : ∀ (P : List Int) (k : Nat), (cf P k).natAbs ≤ N1 P
  | [], k => by rw [cf_nil]; exact Nat.zero_le _
  | c :: r, 0 => by show c.natAbs ≤ c.natAbs + N1 r; omega
  | c :: r, k + 1 => by rw [cf_succ]; have := cf_le_N1 r k; show _ ≤ c.natAbs + N1 r; omega
theorem N1_sz {P : List Int} {n : Nat} (h : N1 P < 2 ^ n) : Sz n P := Sz.of fun k _ => Nat.lt_of_le_of_lt (cf_le_N1 P k) h
theorem N1_slope (P : List Int) : N1 (slopeL P) ≤ (P.length - 1) * N1 P := by
  have aux : ∀ (r : List Int) (j : Nat), N1 ((List.range r.length).map fun k => ((k + j : Nat) : Int) * cf r k) ≤ (r.length + j - 1) * N1 r := by
    intro r
    induction r with
    | nil => intro j; exact Nat.zero_le _
    | cons c r ih =>
      intro j
      rw [List.length_cons, List.range_succ_eq_map, List.map_cons, List.map_map]
      have e : (List.range r.length).map ((fun k => ((k + j : Nat) : Int) * cf (c :: r) k) ∘ Nat.succ) = (List.range r.length).map fun k => ((k + (j + 1) : Nat) : Int) * cf r k := List.map_congr_left fun k _ => by
        show ((k + 1 + j : Nat) : Int) * cf (c :: r) (k + 1) = _
        rw [cf_succ, show k + 1 + j = k + (j + 1) by omega]
      rw [e]
      have h := ih (j + 1)
      show (((0 + j : Nat) : Int) * c).natAbs + N1 _ ≤ (r.length + 1 + j - 1) * (c.natAbs + N1 r)
      rw [Int.natAbs_mul, Nat.mul_add, Nat.zero_add]
      have h1 : ((j : Nat) : Int).natAbs * c.natAbs ≤ (r.length + 1 + j - 1) * c.natAbs := Nat.mul_le_mul_right _ (by omega)
      have h2 : (r.length + (j + 1) - 1) = (r.length + 1 + j - 1) := by omega
      rw [h2] at h
      omega
  cases P with
  | nil => exact Nat.zero_le _
  | cons c r =>
    have e : slopeL (c :: r) = (List.range r.length).map fun k => ((k + 1 : Nat) : Int) * cf r k := by
      unfold slopeL
      rw [List.length_cons, Nat.add_sub_cancel]
      exact List.map_congr_left fun k _ => by rw [cf_succ]; rfl
    rw [e]
    have h := aux r 1
    rw [show r.length + 1 - 1 = (c :: r).length - 1 by rw [List.length_cons]] at h
    refine Nat.le_trans h (Nat.mul_le_mul_left _ ?_)
    show N1 r ≤ c.natAbs + N1 r
    omega
/-! ### products of powers -/
abbrev Us := List (List Int × Nat)
def powL (f : List Int) : Nat → List Int
  | 0 => [1]
  | n + 1 => mulU (powL f n) f
def prM : Us → List Int
  | [] => [1]
  | p :: r => mulU (powL p.1 p.2) (prM r)
def flM : Us → List Int
  | [] => [1]
  | p :: r => mulU p.1 (flM r)
def lwM (us : Us) : Us := us.map fun p => (p.1, p.2 - 1)
def dnM (us : Us) : Us := (lwM us).filter fun p => decide (p.2 ≠ 0)
def EL : Us → List Int
  | [] => []
  | p :: r => ST.pd (sclL (p.2 : Int) (ST.pml (slopeL p.1) (flM r))) (ST.pml p.1 (EL r))
structure POk (p : List Int × Nat) : Prop where
  pl : Pl p.1
  sq : Sqf (of p.1)
  m1 : 1 ≤ p.2
  l2 : 2 ≤ p.1.length
  n1 : N1 p.1 ≤ 16 ^ (p.1.length - 1)
structure UOk (us : Us) : Prop where
  f : ∀ p ∈ us, POk p
  c : us.Pairwise fun p q => Cop (of p.1) (of q.1)
theorem UOk.tail {p : List Int × Nat} {r : Us} (h : UOk (p :: r)) : UOk r := ⟨fun q hq => h.f q (List.mem_cons_of_mem _ hq), (List.pairwise_cons.mp h.c).2⟩
theorem UOk.hd {p : List Int × Nat} {r : Us} (h : UOk (p :: r)) : POk p := h.f p (List.mem_cons_self ..)
theorem pl_pow {f : List Int} (h : Pl f) : ∀ n, Pl (powL f n)
  | 0 => pl_one
  | n + 1 => (pl_pow h n).mul h
theorem pl_prM : ∀ us : Us, (∀ p ∈ us, Pl p.1) → Pl (prM us)
  | [], _ => pl_one
  | p :: r, h => (pl_pow (h p (List.mem_cons_self ..)) _).mul (pl_prM r fun q hq => h q (List.mem_cons_of_mem _ hq))
theorem pl_flM : ∀ us : Us, (∀ p ∈ us, Pl p.1) → Pl (flM us)
  | [], _ => pl_one
  | p :: r, h => (h p (List.mem_cons_self ..)).mul (pl_flM r fun q hq => h q (List.mem_cons_of_mem _ hq))
theorem UOk.pls {us : Us} (h : UOk us) : ∀ p ∈ us, Pl p.1 := fun p hp => (h.f p hp).pl
theorem of_one : of [1] = 1 := S.ext fun k => by
  rw [of_at]
  show cf [1] k = S.con 1 k
  rw [S.con_zero_at]
  cases k with
  | zero => rfl
  | succ k => rw [cf_succ, cf_nil, if_neg (by omega)]
theorem of_pd (P Q : List Int) : of (ST.pd P Q) = of P + of Q := S.ext fun k => by rw [of_at, S.add_at, ST.cf_pd]; rfl
theorem of_pml (P Q : List Int) : of (ST.pml P Q) = of P * of Q := S.ext fun k => by rw [of_at, of_mul, ST.cf_pml]
theorem of_scl (c : Int) (P : List Int) : of (sclL c P) = S.con c * of P := S.ext fun k => by rw [of_at, S.con_mul, cf_sclL]; rfl
theorem of_EL (p : List Int × Nat) (r : Us) : of (EL (p :: r)) = S.con (p.2 : Int) * (D (of p.1) * of (flM r)) + of p.1 * of (EL r) := by
  show of (ST.pd _ _) = _
  rw [of_pd, of_scl, of_pml, of_pml, D_slope]
theorem D_pow (f : List Int) : ∀ n : Nat, D (of (powL f (n + 1))) = S.con ((n : Int) + 1) * (D (of f) * of (powL f n))
  | 0 => by
    show D (of (mulU [1] f)) = S.con (0 + 1) * (D (of f) * of [1])
    rw [of_mulU, of_one, show (1 : S) * of f = of f by grind]
    have : S.con (0 + 1) = 1 := rfl
    rw [this]; grind
  | n + 1 => by
    show D (of (mulU (powL f (n + 1)) f)) = S.con (((n + 1 : Nat) : Int) + 1) * (D (of f) * of (mulU (powL f n) f))
    rw [of_mulU, of_mulU, D_mul, D_pow f n]
    have e1 : of (powL f (n + 1)) = of (powL f n) * of f := of_mulU _ _
    have e2 : S.con (((n + 1 : Nat) : Int) + 1) = S.con ((n : Int) + 1) + 1 := by
      rw [show (((n + 1 : Nat) : Int) + 1) = ((n : Int) + 1) + 1 by omega, con_add]; rfl
    rw [e1, e2]; grind
/-- the product, its slope -/
theorem parts : ∀ us : Us, (∀ p ∈ us, 1 ≤ p.2) → of (prM us) = of (flM us) * of (prM (lwM us)) ∧ D (of (prM us)) = of (EL us) * of (prM (lwM us))
  | [], _ => by
    constructor
    · show of [1] = of [1] * of [1]
      rw [of_one]; grind
    · show D (of [1]) = of [] * of [1]
      have : of [1] = S.con 1 := of_one
      rw [this, D_con]
      have : of ([] : List Int) = 0 := S.ext fun k => by rw [of_at, cf_nil, S.zero_at]
      rw [this]; grind
  | p :: r, h => by
    obtain ⟨h1, h2⟩ := parts r fun q hq => h q (List.mem_cons_of_mem _ hq)
    obtain ⟨f, m⟩ := p
    obtain ⟨n, rfl⟩ : ∃ n, m = n + 1 := ⟨m - 1, by have : 1 ≤ m := h _ (List.mem_cons_self ..); omega⟩
    have e1 : of (prM ((f, n + 1) :: r)) = of (powL f n) * of f * of (prM r) := by
      show of (mulU (mulU (powL f n) f) (prM r)) = _
      rw [of_mulU, of_mulU]
    have e2 : of (prM (lwM ((f, n + 1) :: r))) = of (powL f n) * of (prM (lwM r)) := by
      show of (mulU (powL f (n + 1 - 1)) (prM (lwM r))) = _
      rw [of_mulU]; rfl
    have e3 : of (flM ((f, n + 1) :: r)) = of f * of (flM r) := of_mulU _ _
    constructor
    · rw [e1, e2, e3, h1]; grind
    · have e4 : D (of (prM ((f, n + 1) :: r))) = D (of (powL f (n + 1))) * of (prM r) + of (powL f (n + 1)) * D (of (prM r)) := by
        show D (of (mulU (powL f (n + 1)) (prM r))) = _
        rw [of_mulU, D_mul]
      have e5 : of (powL f (n + 1)) = of (powL f n) * of f := of_mulU _ _
      rw [e4, D_pow, h2, h1, e5, e2, of_EL]
      show S.con ((n : Int) + 1) * _ * _ + _ = (S.con ((n + 1 : Nat) : Int) * _ + _) * _
      have e6 : ((n + 1 : Nat) : Int) = (n : Int) + 1 := by omega
      rw [e6]; grind
theorem cop_flM {f : List Int} (hf : IsP (of f)) : ∀ r : Us, (∀ q ∈ r, Cop (of f) (of q.1)) → Cop (of f) (of (flM r))
  | [], _ => (cop_one _ hf).symm
  | q :: r, h => by
    show Cop _ (of (mulU q.1 (flM r)))
    rw [of_mulU]
    exact Cop.mul hf (IsP.of _) (IsP.of _) (h q (List.mem_cons_self ..)) (cop_flM hf r fun x hx => h x (List.mem_cons_of_mem _ hx))
theorem cop_parts : ∀ us : Us, UOk us → Cop (of (flM us)) (of (EL us))
  | [], _ => cop_one _ (IsP.of _)
  | p :: r, h => by
    have ih := cop_parts r h.tail
    have hp := h.hd
    have hc := cop_flM (IsP.of p.1) r (List.pairwise_cons.mp h.c).1
    have m1 := hp.m1
    have k1 : Cop (of p.1) (of (EL (p :: r))) := by
      rw [of_EL]
      have := Cop.add (q := of (EL r)) (IsP.of _) (Cop.con (show (p.2 : Int) ≠ 0 by omega) (Cop.mul (IsP.of _) (IsP.of p.1).D (IsP.of _) hp.sq hc))
      rw [show of p.1 * of (EL r) = of (EL r) * of p.1 by grind]
      exact this
    have k2 : Cop (of (flM r)) (of (EL (p :: r))) := by
      rw [of_EL]
      have := Cop.add (q := S.con (p.2 : Int) * D (of p.1)) ((IsP.con _).mul (IsP.of p.1).D) (Cop.mul (IsP.of _) (IsP.of _) (IsP.of _) hc.symm ih)
      rw [show S.con (p.2 : Int) * (D (of p.1) * of (flM r)) + of p.1 * of (EL r) = of p.1 * of (EL r) + S.con (p.2 : Int) * D (of p.1) * of (flM r) by grind]
      exact this
    show Cop (of (mulU p.1 (flM r))) _
    rw [of_mulU]
    exact (Cop.mul (IsP.of _) (IsP.of _) (IsP.of _) k1.symm k2.symm).symm
/-! ### degrees, sizes -/
def dgU (us : Us) : Nat := (us.map fun p => p.1.length - 1).sum
def dgA (us : Us) : Nat := (us.map fun p => p.2 * (p.1.length - 1)).sum
theorem len_flM : ∀ us : Us, (∀ p ∈ us, Pl p.1) → (flM us).length = dgU us + 1
  | [], _ => rfl
  | p :: r, h => by
    have hp := h p (List.mem_cons_self ..)
    have hr : ∀ q ∈ r, Pl q.1 := fun q hq => h q (List.mem_cons_of_mem _ hq)
    show (mulU p.1 (flM r)).length = ((p.1.length - 1) + dgU r) + 1
    rw [DT.mulU_len' hp.ne (pl_flM r hr).ne, len_flM r hr]
    have := List.length_pos_iff.mpr hp.ne
    omega
theorem len_pow {f : List Int} (h : Pl f) : ∀ n, (powL f n).length = n * (f.length - 1) + 1
  | 0 => by show 1 = 0 * _ + 1; omega
  | n + 1 => by
    show (mulU (powL f n) f).length = _
    rw [DT.mulU_len' (pl_pow h n).ne h.ne, len_pow h n, Nat.add_mul]
    have := List.length_pos_iff.mpr h.ne
    omega
theorem len_prM : ∀ us : Us, (∀ p ∈ us, Pl p.1) → (prM us).length = dgA us + 1
  | [], _ => rfl
  | p :: r, h => by
    have hp := h p (List.mem_cons_self ..)
    have hr : ∀ q ∈ r, Pl q.1 := fun q hq => h q (List.mem_cons_of_mem _ hq)
    show (mulU (powL p.1 p.2) (prM r)).length = (p.2 * (p.1.length - 1) + dgA r) + 1
    rw [DT.mulU_len' (pl_pow hp _).ne (pl_prM r hr).ne, len_prM r hr, len_pow hp]
    omega
theorem N1_flM : ∀ us : Us, (∀ p ∈ us, POk p) → N1 (flM us) ≤ 16 ^ dgU us
  | [], _ => by decide
  | p :: r, h => by
    have h1 := N1_mulU p.1 (flM r)
    have h2 := (h p (List.mem_cons_self ..)).n1
    have h3 := N1_flM r fun q hq => h q (List.mem_cons_of_mem _ hq)
    show N1 (mulU p.1 (flM r)) ≤ 16 ^ ((p.1.length - 1) + dgU r)
    rw [Nat.pow_add]
    exact Nat.le_trans h1 (Nat.mul_le_mul h2 h3)
theorem N1_pow {f : List Int} (h : N1 f ≤ 16 ^ (f.length - 1)) : ∀ n, N1 (powL f n) ≤ 16 ^ (n * (f.length - 1))
  | 0 => by show N1 [1] ≤ 16 ^ (0 * _); rw [Nat.zero_mul]; decide
  | n + 1 => by
    have h1 := N1_mulU (powL f n) f
    show N1 (mulU (powL f n) f) ≤ _
    rw [Nat.add_mul, Nat.one_mul, Nat.pow_add]
    exact Nat.le_trans h1 (Nat.mul_le_mul (N1_pow h n) h)
theorem N1_prM : ∀ us : Us, (∀ p ∈ us, N1 p.1 ≤ 16 ^ (p.1.length - 1)) → N1 (prM us) ≤ 16 ^ dgA us
  | [], _ => by decide
  | p :: r, h => by
    have h1 := N1_mulU (powL p.1 p.2) (prM r)
    have h2 := N1_pow (h p (List.mem_cons_self ..)) p.2
    have h3 := N1_prM r fun q hq => h q (List.mem_cons_of_mem _ hq)
    show N1 (mulU (powL p.1 p.2) (prM r)) ≤ 16 ^ (p.2 * (p.1.length - 1) + dgA r)
    rw [Nat.pow_add]
    exact Nat.le_trans h1 (Nat.mul_le_mul h2 h3)
theorem N1_EL : ∀ us : Us, (∀ p ∈ us, POk p) → N1 (EL us) ≤ dgA us * 16 ^ dgU us
  | [], _ => by decide
  | p :: r, h => by
    have hp := h p (List.mem_cons_self ..)
    have hr : ∀ q ∈ r, POk q := fun q hq => h q (List.mem_cons_of_mem _ hq)
    have h1 := N1_pd (sclL (p.2 : Int) (ST.pml (slopeL p.1) (flM r))) (ST.pml p.1 (EL r))
    rw [N1_scl] at h1
    have h2 := N1_pml (slopeL p.1) (flM r)
    have h3 := N1_pml p.1 (EL r)
    have h4 := N1_slope p.1
    have h5 := N1_flM r hr
    have h6 := N1_EL r hr
    have h7 := hp.n1
    have e : (p.2 : Int).natAbs = p.2 := rfl
    rw [e] at h1
    show N1 (ST.pd _ _) ≤ (p.2 * (p.1.length - 1) + dgA r) * 16 ^ ((p.1.length - 1) + dgU r)
    rw [Nat.add_mul, Nat.pow_add]
    have k1 : N1 (slopeL p.1) * N1 (flM r) ≤ (p.1.length - 1) * 16 ^ (p.1.length - 1) * 16 ^ dgU r := Nat.mul_le_mul (Nat.le_trans h4 (Nat.mul_le_mul_left _ h7)) h5
    have k2 : p.2 * N1 (ST.pml (slopeL p.1) (flM r)) ≤ p.2 * ((p.1.length - 1) * 16 ^ (p.1.length - 1) * 16 ^ dgU r) := Nat.mul_le_mul_left _ (Nat.le_trans h2 k1)
    have k3 : N1 p.1 * N1 (EL r) ≤ 16 ^ (p.1.length - 1) * (dgA r * 16 ^ dgU r) := Nat.mul_le_mul h7 h6
    have k4 : p.2 * ((p.1.length - 1) * 16 ^ (p.1.length - 1) * 16 ^ dgU r) = p.2 * (p.1.length - 1) * (16 ^ (p.1.length - 1) * 16 ^ dgU r) := by simp only [Nat.mul_assoc]
    have k5 : 16 ^ (p.1.length - 1) * (dgA r * 16 ^ dgU r) = dgA r * (16 ^ (p.1.length - 1) * 16 ^ dgU r) := by rw [Nat.mul_left_comm]
    omega
end LY

set_option linter.all false
set_option maxRecDepth 100000
set_option exponentiation.threshold 100000
set_option maxHeartbeats 2000000
/-! The rests of a product of factors, whose roots may be great: small enough, told with weights. -/
namespace SW
open ML MR MP MQ MD PS PS.S MG CO MS
/-! ### the sum of the coefficients without signs, each with its weight -/
def Wn (D : Nat) : List Int → Nat
  | [] => 0
  | c :: r => c.natAbs + D * Wn D r
theorem Wn_mono (D : Nat) : ∀ {P Q : List Int}, (∀ k, (cf P k).natAbs ≤ (cf Q k).natAbs) → Wn D P ≤ Wn D Q
  | [], _, _ => Nat.zero_le _
  | c :: r, [], h => by
    have h0 : (cf (c :: r) 0).natAbs ≤ 0 := h 0
    have : Wn D r ≤ Wn D [] := Wn_mono D fun k => by have := h (k + 1); rwa [cf_succ, cf_nil, ← cf_nil k] at this
    have e : Wn D r = 0 := Nat.le_zero.mp this
    show c.natAbs + D * Wn D r ≤ 0
    rw [e]
    have h0' : c.natAbs ≤ 0 := h0
    omega
  | c :: r, d :: s, h => by
    have h0 : c.natAbs ≤ d.natAbs := h 0
    have : Wn D r ≤ Wn D s := Wn_mono D fun k => by have := h (k + 1); rwa [cf_succ, cf_succ] at this
    exact Nat.add_le_add h0 (Nat.mul_le_mul_left _ this)
theorem Wn_pd (D : Nat) : ∀ P Q : List Int, Wn D (ST.pd P Q) ≤ Wn D P + Wn D Q
  | [], Q => by show Wn D Q ≤ 0 + Wn D Q; omega
  | a :: p, [] => by show Wn D (a :: p) ≤ Wn D (a :: p) + 0; omega
  | a :: p, b :: q => by
    have := Nat.mul_le_mul_left D (Wn_pd D p q)
    rw [Nat.mul_add] at this
    show (a + b).natAbs + D * Wn D (ST.pd p q) ≤ (a.natAbs + D * Wn D p) + (b.natAbs + D * Wn D q)
    omega
theorem Wn_scl (D : Nat) (c : Int) : ∀ P : List Int, Wn D (sclL c P) = c.natAbs * Wn D P
  | [] => rfl
  | a :: p => by
    have := Wn_scl D c p
    show (c * a).natAbs + D * Wn D (sclL c p) = c.natAbs * (a.natAbs + D * Wn D p)
    rw [this, Int.natAbs_mul, Nat.mul_add, Nat.mul_left_comm]
theorem Wn_pml (D : Nat) : ∀ P Q : List Int, Wn D (ST.pml P Q) ≤ Wn D P * Wn D Q
  | [], Q => Nat.zero_le _
  | a :: p, Q => by
    have h1 := Nat.mul_le_mul_left D (Wn_pml D p Q)
    have h2 := Wn_pd D (sclL a Q) (0 :: ST.pml p Q)
    have h3 := Wn_scl D a Q
    have h4 : Wn D (0 :: ST.pml p Q) = 0 + D * Wn D (ST.pml p Q) := rfl
    show Wn D (ST.pd (sclL a Q) (0 :: ST.pml p Q)) ≤ (a.natAbs + D * Wn D p) * Wn D Q
    rw [Nat.add_mul, Nat.mul_assoc]; omega
theorem Wn_mulU (D : Nat) (P Q : List Int) : Wn D (mulU P Q) ≤ Wn D P * Wn D Q :=
  Nat.le_trans (Wn_mono D fun k => by rw [cf_mulU, ST.cf_pml]; exact Nat.le_refl _) (Wn_pml D P Q)
theorem cf_le_Wn (D : Nat) : ∀ (P : List Int) (k : Nat), (cf P k).natAbs * D ^ k ≤ Wn D P
  | [], k => by rw [cf_nil]; show 0 * _ ≤ _; rw [Nat.zero_mul]; exact Nat.zero_le _
  | c :: r, 0 => by show c.natAbs * 1 ≤ c.natAbs + D * Wn D r; omega
  | c :: r, k + 1 => by
    have := Nat.mul_le_mul_left D (cf_le_Wn D r k)
    rw [cf_succ, Nat.pow_succ]
    have e : (cf r k).natAbs * (D ^ k * D) = D * ((cf r k).natAbs * D ^ k) := by rw [Nat.mul_comm (D ^ k), Nat.mul_left_comm]
    rw [e]
    show _ ≤ c.natAbs + D * Wn D r
    omega
theorem Wn_wz {P : List Int} {s τ : Nat} (h : Wn (2 ^ τ) P ≤ 2 ^ s) : Wz s τ P := fun k => by
  rw [Nat.pow_mul]
  exact Nat.le_trans (cf_le_Wn _ P k) h
/-- the slope, a step lower -/
theorem Wz_slope {P : List Int} {s τ m : Nat} (h : Wz s τ P) (hl : P.length ≤ 2 ^ m) (hτ : τ ≤ s + m) : Wz (s + m - τ) τ (slopeL P) := fun k => by
  rw [cf_slopeL, Int.natAbs_mul]
  by_cases hk : P.length ≤ k + 1
  · rw [cf_beyond hk]; show _ * 0 * _ ≤ _; rw [Nat.mul_zero, Nat.zero_mul]; exact Nat.zero_le _
  · have h1 := h (k + 1)
    refine Nat.le_of_mul_le_mul_right (c := 2 ^ τ) ?_ (Nat.two_pow_pos _)
    rw [Nat.mul_add, Nat.mul_one] at h1
    have h2 : ((k : Int) + 1).natAbs ≤ 2 ^ m := by omega
    have h3 := Nat.mul_le_mul h2 h1
    rw [← Nat.pow_add] at h3
    rw [← Nat.pow_add, Nat.sub_add_cancel hτ, Nat.mul_assoc, ← Nat.pow_add, Nat.mul_assoc, Nat.add_comm s m]
    exact h3
theorem shr_le (P : List Int) (k : Nat) : (cf (shrunkL P) k).natAbs ≤ (cf P k).natAbs := by
  have h1 := mul_shrunkL P k
  by_cases h0 : gcdL P = 0
  · rw [cf_shrunkL, h0, Int.fdiv_zero]; exact Nat.zero_le _
  · rw [← h1, Int.natAbs_mul]
    exact Nat.le_mul_of_pos_left _ (by omega)
theorem plain_le (P : List Int) (k : Nat) : (cf (plainL P) k).natAbs ≤ (cf P k).natAbs := by
  unfold MP.plainL
  split
  · rw [cf_negL, Int.natAbs_neg]; exact shr_le P k
  · exact shr_le P k
/-- a number ahead changes no pair -/
theorem Cof_unscale {P Q P0 Q0 A B : List Int} {l : Int} (h : Cof P Q A B) (l0 : l ≠ 0) (hP : ∀ k, cf P k = l * cf P0 k) (hQ : ∀ k, cf Q k = l * cf Q0 k) (lP : P.length = P0.length) (lQ : Q.length = Q0.length) : Cof P0 Q0 A B := by
  obtain ⟨a, b, w, U0, V0, U1, V1, a0, b0, w0, e0, e1, ew, lU0, lV0, lU1, lV1, t1, lA⟩ := h
  have eP : of P = con l * of P0 := S.ext fun k => by rw [S.con_mul, of_at, of_at, hP]
  have eQ : of Q = con l * of Q0 := S.ext fun k => by rw [S.con_mul, of_at, of_at, hQ]
  rw [lP, lQ] at *
  refine ⟨a, b, l * l * w, con l * U0, con l * V0, con l * U1, con l * V1, a0, b0, Int.mul_ne_zero (Int.mul_ne_zero l0 l0) w0, ?_, ?_, ?_, lU0.con_mul l, lV0.con_mul l, lU1.con_mul l, lV1.con_mul l, ?_, lA⟩
  · rw [e0, eP, eQ]; grind
  · rw [e1, eP, eQ]; grind
  · rw [← con_mul_con, ← con_mul_con, ← ew]; grind
  · rw [S.con_mul]; exact Int.mul_ne_zero l0 t1
/-- the room that a degree needs -/
theorem room : ∀ n : Fin 13, ∀ a : Fin 13, 1 ≤ n.1 → 2 ≤ a.1 → a.1 ≤ n.1 → SW.off (fun i => 3600 + 29 * n.1 - 27 * (a.1 + i) + 6) (2 * (n.1 - a.1)) < SW.off (wE 3600 3623 27 (n.1 - a.1)) (2 * (n.1 - a.1) + 1) := by decide +kernel
/-- the rests of a polynomial with great roots -/
theorem rest_bd {P P0 A B : List Int} {l : Int} {n : Nat} (c : Cof P (slopeL P) A B) (l0 : l ≠ 0) (hP : ∀ k, cf P k = l * cf P0 k) (lP : P.length = P0.length) (ln : P0.length = n + 1) (n1 : 1 ≤ n) (n12 : n ≤ 12) (tP : Trim P0) (hW : Wn (2 ^ 27) P0 ≤ 2 ^ (29 * n)) (hBA : B.length < A.length) (hAQ : A.length ≤ (slopeL P).length + 1) (g1 : gcdN B = 1) : Sz 4000 B := by
  have c0 := Cof_unscale (Q0 := slopeL P0) c l0 hP (fun k => by rw [cf_slopeL, cf_slopeL, hP]; grind) lP (by rw [SR.slope_len, SR.slope_len, lP])
  have nP0 : P0 ≠ [] := fun z => by rw [z] at ln; simp at ln
  have lS : (slopeL P0).length = n := by rw [SR.slope_len, ln]; omega
  have lS' : (slopeL P).length = n := by rw [SR.slope_len, lP, ln]; omega
  rw [lS'] at hAQ
  have nS : slopeL P0 ≠ [] := fun z => by rw [z] at lS; simp at lS; omega
  have w1 : Wz (29 * n) 27 P0 := Wn_wz hW
  have w2 := Wz_slope (m := 4) w1 (by rw [ln]; show n + 1 ≤ 16; omega) (by omega)
  match B, g1 with
  | [], g1 => exact absurd g1 (by decide)
  | [x], g1 =>
    have : x.natAbs = 1 := by
      have g1' : Nat.gcd 0 x.natAbs = 1 := g1
      rwa [Nat.gcd_zero_left] at g1'
    intro y hy
    rw [List.mem_singleton.mp hy, this]
    exact Nat.one_lt_two_pow (by decide)
  | x :: y :: B, g1 =>
    have lB : (x :: y :: B).length = B.length + 2 := rfl
    obtain ⟨a, ha⟩ : ∃ a, A.length = a + 1 := ⟨A.length - 1, by omega⟩
    have rm := room ⟨n, by omega⟩ ⟨a, by omega⟩ n1 (by show 2 ≤ a; omega) (by show a ≤ n; omega)
    refine c0.boundW (s := 29 * n) (s' := 29 * n + 4 - 27) (τ := 27) (h := 3600) (h' := 3623) (l := 6) (E := 2 * (n - a)) (nu := n - a) (nv := n + 1 - a) tP nP0 nS hBA (by rw [lS]; exact hAQ) g1 w1 w2 (by rw [lS, ha]; omega) (by rw [ln, ha]; omega) (by omega) (by omega) (by omega) (by omega) (by rw [ha]; omega) (by show 2 * (2 * (n - a) + 1) < 64; omega) ?_ (by omega)
    rw [ha, Nat.add_sub_cancel]
    exact rm
/-! ### the factors -/
theorem shp_wn {m u e b : Int} (f : RB.Fac m u e b) (hm : m ≤ 100000000) : Wn (2 ^ 27) (MB.shp u e b) ≤ 2 ^ (29 * ((MB.shp u e b).length - 1)) := by
  have su := f.su
  have se := f.se
  have b1 := f.b1
  have b3 := f.b3
  have hb : b.natAbs ≤ 3 := by omega
  have hu : u.natAbs ≤ 100000000 := by omega
  unfold MB.shp
  split
  · rw [plainL_len]
    refine Nat.le_trans (Wn_mono _ (plain_le _)) ?_
    show (0 - u).natAbs + 2 ^ 27 * (b.natAbs + 2 ^ 27 * 0) ≤ 2 ^ (29 * 1)
    have : (2 : Nat) ^ 27 = 134217728 := by decide
    have : (2 : Nat) ^ (29 * 1) = 536870912 := by decide
    omega
  · rw [plainL_len]
    refine Nat.le_trans (Wn_mono _ (plain_le _)) ?_
    show (u * u - e).natAbs + 2 ^ 27 * ((-2 * b * u).natAbs + 2 ^ 27 * ((b * b).natAbs + 2 ^ 27 * 0)) ≤ 2 ^ (29 * 2)
    have k1 : (u * u).natAbs ≤ 100000000 * 100000000 := by rw [Int.natAbs_mul]; exact Nat.mul_le_mul hu hu
    have k2 : (-2 * b * u).natAbs ≤ 2 * 3 * 100000000 := by rw [Int.natAbs_mul, Int.natAbs_mul]; exact Nat.mul_le_mul (Nat.mul_le_mul (Nat.le_refl _) hb) hu
    have k3 : (b * b).natAbs ≤ 3 * 3 := by rw [Int.natAbs_mul]; exact Nat.mul_le_mul hb hb
    generalize u * u = w at *
    generalize -2 * b * u = v at *
    generalize b * b = y at *
    have : (2 : Nat) ^ 27 = 134217728 := by decide
    have : (2 : Nat) ^ (29 * 2) = 288230376151711744 := by decide
    omega
theorem prod_wn {m : Int} (hm : m ≤ 100000000) : ∀ (FS : List (List Int)) (M : List Int), (∀ F ∈ FS, RB.isF m F) → Wn (2 ^ 27) (RB.prodS M FS) ≤ Wn (2 ^ 27) M * 2 ^ (29 * RB.dgs FS)
  | [], M, _ => by show Wn _ M ≤ Wn _ M * 2 ^ (29 * 0); rw [Nat.mul_zero, Nat.pow_zero, Nat.mul_one]; exact Nat.le_refl _
  | F :: FS, M, hF => by
    obtain ⟨u, e, b, rfl, f⟩ := hF F (List.mem_cons_self ..)
    have ih := prod_wn hm FS (mulU M (MB.shp u e b)) fun G hG => hF G (List.mem_cons_of_mem _ hG)
    have e2 : RB.dgs ([u, e, b] :: FS) = ((MB.shp u e b).length - 1) + RB.dgs FS := rfl
    rw [e2, Nat.mul_add, Nat.pow_add, ← Nat.mul_assoc]
    refine Nat.le_trans ih (Nat.mul_le_mul_right _ (Nat.le_trans (Wn_mulU _ _ _) (Nat.mul_le_mul_left _ (shp_wn f hm))))
/-- the row of a product of factors, whatever number stands ahead -/
theorem prod_renv {m l : Int} {FS : List (List Int)} {P : List Int} (hm : m ≤ 100000000) (hF : ∀ F ∈ FS, RB.isF m F) (hd : RB.dgs FS ≤ 12) (l0 : l ≠ 0) (ls : l.natAbs < 2 ^ 70) (hP : ∀ k, cf P k = l * cf (RB.prodS [1] FS) k) (lP : P.length = (RB.prodS [1] FS).length) : SR.REnv P 100 1200 0 := by
  have ln : (RB.prodS [1] FS).length = RB.dgs FS + 1 := by rw [RB.prodS_len FS [1] hF (by simp), List.length_singleton]; omega
  have tc := RB.prodS_lc FS [1] hF (by simp) (by decide)
  have pr := RB.prodS_prd FS [1] 0 1 hF (by omega) ⟨rfl, fun x hx => by rw [List.mem_singleton.mp hx]; exact Nat.one_lt_two_pow (by decide)⟩
  have t0 : Trim (RB.prodS [1] FS) := .inr tc
  have nP : P ≠ [] := fun z => by rw [z, ln] at lP; simp at lP
  have sP : Sz 1100 P := Sz.of fun k _ => by
    rw [hP, Int.natAbs_mul]
    have h2 := pr.sz.cf k
    have h3 : (cf (RB.prodS [1] FS) k).natAbs ≤ 2 ^ (1 + 80 * (0 + RB.dgs FS)) := Nat.le_of_lt h2
    have h1 := Nat.mul_lt_mul_of_lt_of_le ls h3 (Nat.two_pow_pos _)
    rw [← Nat.pow_add] at h1
    exact Nat.lt_of_lt_of_le h1 (Nat.pow_le_pow_right (by decide) (by omega))
  refine ⟨.inr ?_, nP, by omega, by decide, by omega, fun hn => ⟨.inr ?_, nP, hn, sP.mono (by decide), Sz.of fun k hk => ?_, fun A B c h1 h2 g => rest_bd (n := RB.dgs FS) c l0 hP lP ln ?_ hd t0 ?_ h1 h2 g, by omega⟩⟩
  · rw [hP, lP]; exact Int.mul_ne_zero l0 tc
  · rw [hP, lP]; exact Int.mul_ne_zero l0 tc
  · rw [cf_slopeL, Int.natAbs_mul]
    have hk' : k < P.length - 1 := by rw [SR.slope_len] at hk; exact hk
    have h1 : ((k : Int) + 1).natAbs ≤ 2 ^ 4 := by show _ ≤ 16; omega
    have h2 := Nat.mul_lt_mul_of_le_of_lt h1 (sP.cf (k + 1)) (Nat.two_pow_pos _)
    rw [← Nat.pow_add] at h2
    exact Nat.lt_of_lt_of_le h2 (Nat.pow_le_pow_right (by decide) (by decide))
  · have : (slopeL P).length ≠ 0 := fun z => hn (List.length_eq_zero_iff.mp z)
    rw [SR.slope_len] at this
    omega
  · have := prod_wn hm FS [1] hF
    have e : Wn (2 ^ 27) [1] = 1 := by decide
    rwa [e, Nat.one_mul] at this
end SW

set_option linter.all false
set_option maxRecDepth 100000
/-! Spots of polynomials without a common part lie apart. -/
namespace SP
open ST ML
/-- spans round a spot, as short as one likes -/
theorem bracket {s : Rat → Int} (hs : Spot s) {l h : Rat} (hl : s l = 1) (hh : s h ≤ 0) {d : Rat} (d0 : 0 < d) : ∃ x y, l ≤ x ∧ x < y ∧ y ≤ h ∧ y - x ≤ d ∧ s x = 1 ∧ s y ≤ 0 := by
  have lh : l < h := by
    apply Classical.byContradiction
    intro hn
    have := hs.up (x := h) (y := l) (by grind) hl
    omega
  have key : ∀ (n : Nat) (l : Rat), s l = 1 → l < h → h - l ≤ (n : Rat) * d → ∃ x y, l ≤ x ∧ x < y ∧ y ≤ h ∧ y - x ≤ d ∧ s x = 1 ∧ s y ≤ 0 := by
    intro n
    induction n with
    | zero => intro l _ h1 h2; exfalso; have : ((0 : Nat) : Rat) = 0 := rfl; rw [this] at h2; grind
    | succ n ih =>
      intro l hl h1 h2
      by_cases hd : h - l ≤ d
      · exact ⟨l, h, by grind, h1, by grind, hd, hl, hh⟩
      · by_cases hm : s (l + d) ≤ 0
        · exact ⟨l, l + d, by grind, by grind, by grind, by grind, hl, hm⟩
        · have hm1 : s (l + d) = 1 := by have := hs.vals (l + d); unfold Sg at this; omega
          obtain ⟨x, y, a, b, c, e, f, g⟩ := ih (l + d) hm1 (by grind) (by
            have : ((n + 1 : Nat) : Rat) = (n : Rat) + 1 := by grind
            rw [this] at h2; grind)
          exact ⟨x, y, by grind, b, c, e, f, g⟩
  obtain ⟨n, hn⟩ : ∃ n : Nat, h - l ≤ (n : Rat) * d := by
    refine ⟨((h - l) / d).ceil.toNat, ?_⟩
    have h1 : (h - l) / d ≤ (((h - l) / d).ceil : Rat) := Rat.le_ceil
    have h2 : (((h - l) / d).ceil : Rat) ≤ ((((h - l) / d).ceil.toNat : Nat) : Rat) := by
      have : ((h - l) / d).ceil ≤ ((((h - l) / d).ceil.toNat : Nat) : Int) := by omega
      have := Rat.intCast_le_intCast.mpr this
      rw [Rat.intCast_natCast] at this
      exact this
    have h3 := Rat.mul_le_mul_of_nonneg_right (show (h - l) / d ≤ ((((h - l) / d).ceil.toNat : Nat) : Rat) by grind) (show 0 ≤ d by grind)
    rw [Rat.div_mul_cancel (show d ≠ 0 by grind)] at h3
    exact h3
  exact key n l hl lh hn
/-- f gets small where the spot is -/
def Near (s : Rat → Int) (f : Rat → Rat) : Prop := ∀ B e : Rat, 0 < B → 0 < e → ∃ d, 0 < d ∧ ∀ x y, In B x → In B y → x < y → y - x ≤ d → s x = 1 → s y ≤ 0 → In e (f y)
/-- two spots of functions without a common part -/
theorem sep_cop {s t : Rat → Int} {f g : Rat → Rat} (hs : Spot s) (ht : Spot t) (ns : Near s f) (nt : Near t g) {l h : Rat} (hl : s l = 1) (hh : s h ≤ 0) (c : Rat) (c0 : c ≠ 0) (U V : List Int) (e : ∀ x, c = ev U x * f x + ev V x * g x) : Sep s t := by
  by_cases hne : ∃ x, s x ≠ t x
  · obtain ⟨x, hx⟩ := hne
    exact sep_of_ne hs ht hx
  · exfalso
    have eq : ∀ x, s x = t x := fun x => Classical.byContradiction fun z => hne ⟨x, z⟩
    obtain ⟨B, hB, hBl, hBh⟩ : ∃ B : Rat, 0 < B ∧ In B l ∧ In B h := by
      have k3 := sq_nn (l - 1)
      have k4 := sq_nn (l + 1)
      have k5 := sq_nn (h - 1)
      have k6 := sq_nn (h + 1)
      have k1 := sq_nn l
      have k2 := sq_nn h
      exact ⟨l * l + h * h + 1, by grind, by unfold In; constructor <;> grind, by unfold In; constructor <;> grind⟩
    obtain ⟨M, m0, hM, _⟩ := tame_ev hB U
    obtain ⟨N, n0, hN, _⟩ := tame_ev hB V
    obtain ⟨r, r0, hr⟩ := far_const c0
    obtain ⟨z, z0, hz⟩ := rsmall (M := M + N) (by grind) r0
    obtain ⟨d1, d10, h1⟩ := ns B z hB z0
    obtain ⟨d2, d20, h2⟩ := nt B z hB z0
    obtain ⟨d, d0, dd1, dd2⟩ := rmin d1 d2 d10 d20
    obtain ⟨x, y, a1, a2, a3, a4, a5, a6⟩ := bracket hs hl hh d0
    have ix : In B x := by unfold In at *; grind
    have iy : In B y := by unfold In at *; grind
    have p1 := (hM y iy).mul (h1 x y ix iy a2 (by grind) a5 a6)
    have p2 := (hN y iy).mul (h2 x y ix iy a2 (by grind) (by rw [← eq]; exact a5) (by rw [← eq]; exact a6))
    have p3 := p1.add p2
    rw [← e y] at p3
    unfold In at p3
    unfold Far at hr
    grind
theorem near_lin {u b : Int} (hb : 0 < b) : Near (spQ u 0 b 1) (fun x => (b : Rat) * x - (u : Rat)) := fun B e hB e0 => by
  have bq := RB.cast_pos hb
  obtain ⟨d, d0, hd⟩ := rsmall bq e0
  refine ⟨d, d0, fun x y _ _ xy le hx hy => ?_⟩
  have f1 := (spQ_facts u 0 b 1 x (.inl rfl)).1.mp (by omega)
  have f2 : ¬ Ab 1 ((b : Rat) * y - (u : Rat)) ((0 : Int) : Rat) := fun z => by have := (spQ_facts u 0 b 1 y (.inl rfl)).1.mpr z; omega
  have z0 : ((0 : Int) : Rat) = 0 := rfl
  have kx := sq_nn ((b : Rat) * x - (u : Rat))
  have k : (b : Rat) * (y - x) ≤ (b : Rat) * d := Rat.mul_le_mul_of_nonneg_left le (by grind)
  unfold Ab at f1 f2
  rw [z0] at f1 f2
  have g1 : (b : Rat) * x - (u : Rat) < 0 := by
    rcases f1 with ⟨_, h | h⟩ | ⟨h, _⟩
    · exact h
    · grind
    · exact absurd h (by decide)
  have g2 : 0 ≤ (b : Rat) * y - (u : Rat) := by
    apply Classical.byContradiction
    intro hn
    exact f2 (.inl ⟨rfl, .inl (by grind)⟩)
  show In e ((b : Rat) * y - (u : Rat))
  unfold In; grind
theorem near_quad {u e b s : Int} (hs : s = 1 ∨ s = -1) (hb : 0 < b) (he : 0 ≤ e) : Near (spQ u e b s) (fun x => ((b : Rat) * x - (u : Rat)) * ((b : Rat) * x - (u : Rat)) - (e : Rat)) := fun B ε hB e0 => by
  have bq := RB.cast_pos hb
  have eq : (0 : Rat) ≤ (e : Rat) := Rat.intCast_le_intCast.mpr he
  have tl : Tame B (fun x => (b : Rat) * x - (u : Rat)) := by
    have := ((tame_const B (b : Rat)).mul (tame_id hB)).add (tame_const B (-(u : Rat)))
    have e : (fun x : Rat => (b : Rat) * x + -(u : Rat)) = fun x => (b : Rat) * x - (u : Rat) := by funext x; grind
    rw [e] at this
    exact this
  obtain ⟨M, m0, _, hM⟩ := tl.mul tl
  obtain ⟨d1, d10, hd1⟩ := rsmall m0 e0
  obtain ⟨d2, d20, hd2⟩ := rsmall bq e0
  obtain ⟨d3, d30, hd3⟩ := rsmall bq (show (0 : Rat) < 1 by decide)
  obtain ⟨d4, d40, w1, w2⟩ := rmin d1 d2 d10 d20
  obtain ⟨d, d0, w3, w4⟩ := rmin d4 d3 d40 d30
  refine ⟨d, d0, fun x y ix iy xy le hx hy => ?_⟩
  have f1 := (spQ_facts u e b s x hs).1.mp (by omega)
  have f2 : ¬ Ab s ((b : Rat) * y - (u : Rat)) (e : Rat) := fun z => by have := (spQ_facts u e b s y hs).1.mpr z; omega
  have hm : In (M * (y - x)) (((b : Rat) * y - (u : Rat)) * ((b : Rat) * y - (u : Rat)) - ((b : Rat) * x - (u : Rat)) * ((b : Rat) * x - (u : Rat))) := hM x y ix iy (by grind)
  have k1 : M * (y - x) < ε := small_le m0 hd1 _ (by grind)
  have k2 : (b : Rat) * (y - x) < ε := small_le bq hd2 _ (by grind)
  have k3 : (b : Rat) * (y - x) < 1 := small_le bq hd3 _ (by grind)
  have k4 : (b : Rat) * y - (u : Rat) = (b : Rat) * x - (u : Rat) + (b : Rat) * (y - x) := by grind
  have k5 := Rat.mul_pos bq (show 0 < y - x by grind)
  show In ε (((b : Rat) * y - (u : Rat)) * ((b : Rat) * y - (u : Rat)) - (e : Rat))
  generalize (b : Rat) * y - (u : Rat) = Y at *
  generalize (b : Rat) * x - (u : Rat) = X at *
  generalize (b : Rat) * (y - x) = w at *
  unfold Ab at f1 f2
  unfold In at hm ⊢
  have wy : ∀ z : Rat, 0 ≤ z → z ≤ w → z * z < ε := fun z z0 zw => by
    have h1 := Rat.mul_le_mul_of_nonneg_left (show z ≤ 1 by grind) z0
    grind
  rcases hs with rfl | rfl
  · have g2 : 0 ≤ Y ∧ (e : Rat) ≤ Y * Y := by
      constructor
      · apply Classical.byContradiction; intro hn; exact f2 (.inl ⟨rfl, .inl (by grind)⟩)
      · apply Classical.byContradiction; intro hn; exact f2 (.inl ⟨rfl, .inr (by grind)⟩)
    rcases f1 with ⟨_, h | h⟩ | ⟨h, _⟩
    · have := wy Y g2.1 (by grind)
      grind
    · grind
    · exact absurd h (by decide)
  · rcases f1 with ⟨h, _⟩ | ⟨_, h1, h2⟩
    · exact absurd h (by decide)
    · have q := sq_nn Y
      by_cases hY : 0 < Y
      · have a1 := wy Y (by grind) (by grind)
        have a2 := wy (-X) (by grind) (by grind)
        grind
      · have g : Y * Y ≤ (e : Rat) := by
          apply Classical.byContradiction; intro hn; exact f2 (.inr ⟨rfl, by grind, by grind⟩)
        grind
theorem ev_raw_lin (u b : Int) (x : Rat) : ev (SQ.rawF u 0 b) x = (b : Rat) * x - (u : Rat) := by
  unfold SQ.rawF
  rw [if_pos rfl]
  show ((0 - u : Int) : Rat) + x * ((b : Rat) + x * 0) = _
  rw [Rat.intCast_sub]
  have : ((0 : Int) : Rat) = 0 := rfl
  rw [this]; grind
theorem ev_raw_quad {u e b : Int} (h : e ≠ 0) (x : Rat) : ev (SQ.rawF u e b) x = ((b : Rat) * x - (u : Rat)) * ((b : Rat) * x - (u : Rat)) - (e : Rat) := by
  unfold SQ.rawF
  rw [if_neg h]
  show ((u * u - e : Int) : Rat) + x * (((-2 * b * u : Int) : Rat) + x * (((b * b : Int) : Rat) + x * 0)) = _
  rw [Rat.intCast_sub, Rat.intCast_mul, Rat.intCast_mul, Rat.intCast_mul, Rat.intCast_mul]
  have : ((-2 : Int) : Rat) = -2 := rfl
  rw [this]; grind
theorem near_raw {u e b s : Int} (hs : s = 1 ∨ s = -1) (hb : 0 < b) (he : 0 ≤ e) (h1 : e = 0 → s = 1) : Near (spQ u e b s) (ev (SQ.rawF u e b)) := by
  by_cases h : e = 0
  · have := h1 h
    subst h; subst this
    have e : ev (SQ.rawF u 0 b) = fun x => (b : Rat) * x - (u : Rat) := funext (ev_raw_lin u b)
    rw [e]; exact near_lin hb
  · have ee : ev (SQ.rawF u e b) = fun x => ((b : Rat) * x - (u : Rat)) * ((b : Rat) * x - (u : Rat)) - (e : Rat) := funext (ev_raw_quad h)
    rw [ee]; exact near_quad hs hb he
/-- each spot lies somewhere -/
theorem spot_ends {u e b s : Int} (hs : s = 1 ∨ s = -1) (hb : 0 < b) (he : 0 ≤ e) : ∃ l h, spQ u e b s l = 1 ∧ spQ u e b s h ≤ 0 := by
  have bq := RB.cast_pos hb
  have eq : (0 : Rat) ≤ (e : Rat) := Rat.intCast_le_intCast.mpr he
  have sp := spot (u := u) hs hb he
  obtain ⟨w, w0, ew⟩ := rdiv (show (0 : Rat) < (e : Rat) + 1 by grind) bq
  obtain ⟨v, ev⟩ : ∃ v : Rat, (b : Rat) * v = (u : Rat) := ⟨(u : Rat) * (b : Rat)⁻¹, by grind⟩
  have big : (e : Rat) < ((e : Rat) + 1) * ((e : Rat) + 1) := by
    have := sq_nn (e : Rat); grind
  refine ⟨v - w, v + w, ?_, ?_⟩
  · have := (spQ_facts u e b s (v - w) hs).1.mpr (by
      have e1 : (b : Rat) * (v - w) - (u : Rat) = -((e : Rat) + 1) := by grind
      rw [e1]
      unfold Ab
      rcases hs with rfl | rfl
      · exact .inl ⟨rfl, .inl (by grind)⟩
      · exact .inr ⟨rfl, by grind, by grind⟩)
    have v := sp.vals (v - w)
    unfold Sg at v; omega
  · have := (spQ_facts u e b s (v + w) hs).2.mpr (by
      have e1 : (b : Rat) * (v + w) - (u : Rat) = (e : Rat) + 1 := by grind
      rw [e1]
      unfold Bl
      rcases hs with rfl | rfl
      · exact .inl ⟨rfl, by grind, by grind⟩
      · exact .inr ⟨rfl, .inl (by grind)⟩)
    omega
theorem ev_of_cop {A B : List Int} (h : SQ.Cop (PS.of A) (PS.of B)) : ∃ (c : Rat) (U V : List Int), c ≠ 0 ∧ ∀ x, c = ev U x * ev A x + ev V x * ev B x := by
  obtain ⟨c, U, V, c0, ⟨n, hU⟩, ⟨m, hV⟩, e⟩ := h
  refine ⟨(c : Rat), CG.toL U n, CG.toL V m, RB.cast_ne c0, fun x => ?_⟩
  rw [← CG.of_toL hU, ← CG.of_toL hV] at e
  have e2 : ∀ k, cf [c] k = cf (pd (pml (CG.toL U n) A) (pml (CG.toL V m) B)) k := fun k => by
    rw [cf_pd, cf_pml, cf_pml]
    have := congrFun e k
    have h2 : PS.S.con c k = (PS.of (CG.toL U n) * PS.of A) k + (PS.of (CG.toL V m) * PS.of B) k := this
    rw [PS.of_mul, PS.of_mul] at h2
    rw [← h2, PS.S.con_zero_at]
    cases k with
    | zero => rfl
    | succ k => rw [cf_succ, cf_nil, if_neg (by omega)]
  have := ev_ext e2 x
  rw [ev_pd, ev_pml, ev_pml] at this
  rw [← this]
  show (c : Rat) = (c : Rat) + x * 0
  grind
/-- spots of two factors, or both of one, lie apart -/
theorem sep_difs {m : Int} {R R' : List Int} (hR : RB.isS m R) (hR' : RB.isS m R') (hd : RB.Difs R R') : Sep (RB.spR R) (RB.spR R') := by
  obtain ⟨u, e, b, s, rfl, f, e0, hs, es⟩ := hR
  obtain ⟨u', e', b', s', rfl, f', e0', hs', es'⟩ := hR'
  have b0 : 0 < b := by have := f.b1; omega
  have b0' : 0 < b' := by have := f'.b1; omega
  show Sep (spQ u e b s) (spQ u' e' b' s')
  rcases hd u e b s u' e' b' s' rfl rfl with hne | ⟨rfl, rfl, rfl, rfl, rfl, hp⟩
  · have hc := SQ.cop_shp f f' hne
    obtain ⟨a, a0, ea⟩ := SQ.shp_raw (u := u) (e := e) f.b1
    obtain ⟨a', a0', ea'⟩ := SQ.shp_raw (u := u') (e := e') f'.b1
    have hc' : SQ.Cop (PS.of (SQ.rawF u e b)) (PS.of (SQ.rawF u' e' b')) := by
      rw [← ea, ← ea']
      exact (SQ.Cop.con a0 (SQ.Cop.con a0' hc).symm).symm
    obtain ⟨c, U, V, c0, hc⟩ := ev_of_cop hc'
    obtain ⟨l, h, hl, hh⟩ := spot_ends (u := u) hs b0 e0
    exact sep_cop (spot hs b0 e0) (spot hs' b0' e0') (near_raw hs b0 e0 es) (near_raw hs' b0' e0' es') hl hh c c0 U V hc
  · have bq := RB.cast_pos b0
    have ep : (0 : Rat) < (e : Rat) := RB.cast_pos hp
    obtain ⟨v, ev⟩ : ∃ v : Rat, (b : Rat) * v = (u : Rat) := ⟨(u : Rat) * (b : Rat)⁻¹, by grind⟩
    have z : (b : Rat) * v - (u : Rat) = 0 := by grind
    refine sep_of_ne (x := v) (spot hs b0 e0) (spot hs' b0 e0) ?_
    have h1 := (spQ_facts u e b 1 v (.inl rfl)).1.mpr (by rw [z]; exact .inl ⟨rfl, .inr (by grind)⟩)
    have h2 := (spQ_facts u e b (-1) v (.inr rfl)).2.mpr (by rw [z]; exact .inr ⟨rfl, .inr (by grind)⟩)
    omega
end SP

set_option linter.all false
set_option maxRecDepth 100000
set_option exponentiation.threshold 100000
set_option maxHeartbeats 2000000
/-! What the law of whole counts asks of a polynomial and of its row. -/
namespace SX
open ML MR MP MQ MD PS PS.S MG CO MS
variable {P F R : List Int}
/-- each polynomial of a row is small -/
theorem row_each {s t : Nat} (e : SR.REnv P 100 s t) (sP : Sz 4000 P) (hR : R ∈ rowL 100 P) : Sz 4000 R ∧ R.length ≤ 100 := by
  have lP := e.lP
  obtain ⟨k, hk⟩ := List.mem_iff_getElem?.mp hR
  rw [SR.row_cons e.nP] at hk
  cases k with
  | zero =>
    cases hk
    exact ⟨MP.Sz.shrunkL sP, by rw [shrunkL_len]; omega⟩
  | succ k =>
    by_cases h : slopeL P = []
    · rw [h, shrunkL_nil, SR.rowG_nil] at hk
      cases hk
    · obtain ⟨R0, _, pr, _⟩ := row_get (e.en h) 100 (e.run h) (by rw [shrunkL_len, SR.slope_len]; omega) k R hk
      have := pr.lA
      have := pr.lB
      exact ⟨pr.sB, by omega⟩
/-- the first of a row may have a number ahead -/
theorem chg_head {s t : Nat} (e : SR.REnv P 100 s t) {u b : Int} (hb : 0 < b) : MH.chg (P :: (rowL 100 P).drop 1) u b = MH.chg (rowL 100 P) u b := by
  have g0 := gcdL_trim_pos e.tP e.nP
  have hs : RB.ordI (MH.topL P u b) 0 = RB.ordI (MH.topL (shrunkL P) u b) 0 := by
    rw [← MH.sign_made P hb, ← MH.sign_made (shrunkL P) hb, (RB.made_q (t := u) (show b ≠ 0 by omega)).1, (RB.made_q (t := u) (show b ≠ 0 by omega)).2, RB.sign_q, RB.sign_q, ← SR.ev_shr P, ST.sgR_mul, ST.sgR_pos (RB.cast_pos g0), Int.one_mul]
  rw [SR.row_cons e.nP]
  unfold MH.chg
  rw [List.drop_succ_cons, List.drop_zero, List.foldl_cons, List.foldl_cons, hs]
/-- a small polynomial, whatever number stands ahead -/
theorem flat_renv {l : Int} (tF : Trim F) (nF : F ≠ []) (lF : F.length ≤ 6) (sF : Sz 156 F) (l0 : l ≠ 0) (ls : l.natAbs < 2 ^ 70) (hP : ∀ k, cf P k = l * cf F k) (lP : P.length = F.length) : SR.REnv P 100 300 0 ∧ Sz 300 P := by
  have pF := List.length_pos_iff.mpr nF
  have nP : P ≠ [] := fun z => by rw [z] at lP; simp at lP; omega
  have tF' := trim_last tF nF
  have tP : Trim P := .inr (by rw [hP, lP]; exact Int.mul_ne_zero l0 tF')
  have sP : Sz 226 P := Sz.of fun k _ => by
    rw [hP, Int.natAbs_mul]
    have h3 := Nat.le_of_lt (sF.cf k)
    have h1 := Nat.mul_lt_mul_of_lt_of_le ls h3 (Nat.two_pow_pos _)
    rw [← Nat.pow_add] at h1
    exact h1
  have slz : ∀ {G : List Int} {n : Nat}, Sz n G → G.length ≤ 6 → Sz (3 + n) (slopeL G) := fun {G n} h hl => Sz.of fun k hk => by
    rw [cf_slopeL, Int.natAbs_mul]
    have hk' : k < G.length - 1 := by rw [SR.slope_len] at hk; exact hk
    have h1 : ((k : Int) + 1).natAbs ≤ 2 ^ 3 := by show _ ≤ 8; omega
    have h2 := Nat.mul_lt_mul_of_le_of_lt h1 (h.cf (k + 1)) (Nat.two_pow_pos _)
    rw [← Nat.pow_add] at h2
    exact h2
  refine ⟨⟨tP, nP, by omega, by decide, by omega, fun hn => ⟨tP, nP, hn, sP.mono (by decide), (slz sP (by omega)).mono (by decide), fun A B c h1 h2 g => ?_, by omega⟩⟩, sP.mono (by decide)⟩
  have lS : (slopeL P).length = (slopeL F).length := by rw [SR.slope_len, SR.slope_len, lP]
  have nS : slopeL F ≠ [] := fun z => hn (List.eq_nil_of_length_eq_zero (by rw [lS, z]; rfl))
  have c0 := SW.Cof_unscale (Q0 := slopeL F) c l0 hP (fun k => by rw [cf_slopeL, cf_slopeL, hP]; grind) lP lS
  have lS2 := SR.slope_len F
  refine (c0.bound (s := 159) (t := 164) tF nF nS (sF.mono (by decide)) (slz sF lF) h1 (by rw [← lS]; exact h2) g ?_).mono (by omega)
  have h4 : 2 * ((F.length + (slopeL F).length) * 2 ^ 159) ≤ 2 * (11 * 2 ^ 159) := Nat.mul_le_mul_left _ (Nat.mul_le_mul_right _ (by omega))
  exact Nat.le_trans h4 (by decide)
/-- the count of known roots -/
theorem known {m l : Int} {FS : List (List Int)} {t b u v : Int} (hm : m ≤ 100000000) (hF : ∀ F ∈ FS, RB.isF m F) (hpw : FS.Pairwise fun F G => RB.shpF F ≠ RB.shpF G) (hd : RB.dgs FS ≤ 12) (l0 : l ≠ 0) (ls : l.natAbs < 2 ^ 70) (hP : ∀ k, cf P k = l * cf (RB.prodS [1] FS) k) (lP : P.length = (RB.prodS [1] FS).length) (b0 : 0 < b) (v0 : 0 < v) (lt : t * v < u * b) :
    (MH.chg (rowL 100 P) t b).1 - (MH.chg (rowL 100 P) u v).1 = (((RB.rtsS FS).filter fun R => decide (0 < MJ.sideR R t b ∧ MJ.sideR R u v ≤ 0)).length : Int) := by
  have e := SW.prod_renv hm hF hd l0 ls hP lP
  have hIS := RB.rtsS_isS hF
  have ln : (RB.prodS [1] FS).length = RB.dgs FS + 1 := by rw [RB.prodS_len FS [1] hF (by simp), List.length_singleton]; omega
  have eo : of P = S.con l * of (RB.prodS [1] FS) := S.ext fun k => by rw [S.con_mul, of_at, of_at, hP]
  have sq : SQ.Sqf (of P) := by
    rw [eo]
    exact SQ.Sqf.con l0 (SQ.sq_prod FS [1] hF hpw SQ.sq_one fun F hF' => SQ.cop_one _ (SQ.IsP.of _))
  have lsg : ST.sgR (l : Rat) = 1 ∨ ST.sgR (l : Rat) = -1 := by
    rcases ST.sgR_cases (l : Rat) with ⟨_, e⟩ | ⟨z, _⟩ | ⟨_, e⟩
    · exact .inr e
    · exact absurd z (RB.cast_ne l0)
    · exact .inl e
  have hsg : ∀ z : Rat, ST.sgR (ST.ev P z) = ST.sgR (l : Rat) * ST.pS ((RB.rtsS FS).map RB.spR) z := fun z => by
    have h1 := ST.ev_prop (A := RB.prodS [1] FS) (B := P) (a := l) (b := 1) (fun k => by rw [hP, Int.one_mul]) z
    have h2 : ((1 : Int) : Rat) = 1 := rfl
    have h3 : ST.ev P z = (l : Rat) * ST.ev (RB.prodS [1] FS) z := by rw [h1, h2]; grind
    have e2 : ST.ev [1] z = 1 := by show ((1 : Int) : Rat) + z * 0 = 1; rw [h2]; grind
    rw [h3, ST.sgR_mul, RB.prod_sign FS [1] hF z, e2, show ST.sgR 1 = 1 from ST.sgR_pos (by decide), Int.one_mul]
  have key := SR.count_known e sq (S := (RB.rtsS FS).map RB.spR) (g := ST.sgR (l : Rat)) (fun s hs => by
    obtain ⟨R', hR', rfl⟩ := List.mem_map.mp hs
    exact (hIS R' hR').spot) (by
    rw [List.pairwise_map]
    exact (RB.rts_pair hF hpw).imp_of_mem fun {R R'} h1 h2 hd => SP.sep_difs (hIS R h1) (hIS R' h2) hd) lsg hsg (fun hn => by
    have h1 : RB.dgs FS = 0 := by
      have h1 : (slopeL P).length = 0 := by rw [hn]; rfl
      rw [SR.slope_len, lP, ln] at h1
      omega
    have h2 := RB.len_dgs FS hF
    have h3 : FS = [] := List.eq_nil_of_length_eq_zero (by omega)
    rw [h3]; rfl) (RB.mq t b) (RB.mq u v) (Rat.le_of_lt ((RB.cross_lt b0 v0 (RB.mq_mul (by omega)) (RB.mq_mul (by omega))).mp lt))
  have m1 := RB.made_q (t := t) (show b ≠ 0 by omega)
  have m2 := RB.made_q (t := u) (show v ≠ 0 by omega)
  rw [← m1.1, ← m1.2, ← m2.1, ← m2.2, MH.chg_made _ b0, MH.chg_made _ v0] at key
  rw [key]
  unfold ST.cnt
  rw [List.countP_map, List.countP_eq_length_filter]
  congr 2
  refine List.filter_congr fun R hR => ?_
  obtain ⟨u', e', b', s', rfl, f, e0, hs, _⟩ := hIS R hR
  have k1 : MJ.sideR [u', e', b', s'] t b = RB.spR [u', e', b', s'] (RB.mq t b) := SP.side_q hs b0 (RB.mq_mul (by omega))
  have k2 : MJ.sideR [u', e', b', s'] u v = RB.spR [u', e', b', s'] (RB.mq u v) := SP.side_q hs v0 (RB.mq_mul (by omega))
  show decide (RB.spR _ _ = 1 ∧ RB.spR _ _ ≤ 0) = _
  rw [k1, k2]
  have sp := (hIS [u', e', b', s'] hR).spot.vals (RB.mq t b)
  unfold ST.Sg at sp
  refine decide_eq_decide.mpr ⟨fun h => ⟨by omega, h.2⟩, fun h => ⟨by omega, h.2⟩⟩
end SX

set_option linter.all false
set_option maxRecDepth 100000
set_option maxHeartbeats 4000000
set_option exponentiation.threshold 100000
namespace RP
open PySem PySem.Spec PyProof.Rows L2 RB
open Evl (Ex rLenS rListS rMax2 tCut pss_cut)
local macro_rules | `(tactic| walk_at "ir") => `(tactic| first
  | assumption
  | exact IsR.ex (by assumption) (by walk_at "ir"))
local macro_rules | `(tactic| walk_at "hp") => `(tactic| first
  | assumption
  | exact hx_e (by assumption) (by walk_at "hp")
  | exact hx_b (by assumption) (by walk_at "ne") (by walk_at "hp"))
local macro_rules | `(tactic| walk_at "ne") => `(tactic| first
  | assumption
  | exact Ne.symm (by assumption)
  | exact ne_1 (by assumption) (by walk_at "hp")
  | exact ne_2 (by assumption) (by walk_at "hp"))
local macro_rules | `(tactic| walk_at "sq") => `(tactic| first
  | assumption
  | exact Fx.l (by assumption) (by assumption)
  | exact Evl.Ex.l (by assumption) (by assumption)
  | exact SqL.inj (by walk_at "hp"))
local macro_rules | `(tactic| walk_at "rd") => `(tactic| repeat (first
  | with_reducible refine r_seq ?_
  | with_reducible refine r_asg ?_
  | with_reducible refine r_gn ?_
  | ((with_reducible refine' r_var ?h ?_); (case h => exact rfl))
  | with_reducible refine r_c ?_
  | with_reducible refine r_op ?_
  | with_reducible refine r_un ?_
  | with_reducible refine r_add ?_
  | with_reducible refine r_sub ?_
  | ((with_reducible refine' r_pow ?h ?_); (case h => exact ⟨by decide, by decide, by decide⟩))
  | ((with_reducible refine' r_mod ?h ?_); (case h => first | decide | omega))
  | ((with_reducible refine' r_div ?h ?_); (case h => exact ⟨by decide, by decide⟩))
  | with_reducible refine r_lc ?_
  | ((with_reducible refine' r_cListA ?h ?_); (case h => walk_at "sq"))
  | with_reducible refine r_lt ?_
  | with_reducible refine r_le ?_
  | with_reducible refine r_gt ?_
  | with_reducible refine r_ge ?_
  | with_reducible refine r_eqI ?_
  | with_reducible refine r_neI ?_
  | with_reducible refine r_eqB ?_
  | with_reducible refine r_eqS ?_
  | with_reducible refine r_neg ?_
  | with_reducible refine r_ret ?_
  | with_reducible refine r_ifS ?_
  | with_reducible refine r_test ?_
  | with_reducible refine r_B ?_
  | with_reducible refine r_bl ?_
  | with_reducible refine r_int ?_
  | with_reducible refine r_cb ?_
  | with_reducible refine r_cons ?_
  | with_reducible refine r_nil ?_
  | with_reducible refine r_abs ?_
  | with_reducible refine r_max2 ?_
  | with_reducible refine r_min2 ?_
  | ((with_reducible refine' r_lenI ?h ?_); (case h => walk_at "sq"))
  | ((with_reducible refine' r_len ?h ?_); (case h => walk_at "sq"))
  | with_reducible refine r_tru ?_
  | with_reducible refine r_rev ?_
  | with_reducible refine r_iRng3 ?_
  | ((with_reducible refine' r_ixL ?h ?a ?_); (case h => walk_at "sq"); (case a => assumption))
  | ((with_reducible refine' r_ixT ?h ?a ?_); (case h => walk_at "sq"); (case a => assumption))
  | with_reducible refine r_intI ?_
  | with_reducible refine r_intB ?_
  | with_reducible refine r_call ?_
  | with_reducible refine r_lst ?_
  | with_reducible refine r_tup ?_
  | with_reducible refine r_drop ?_
  | with_reducible refine r_and ?_
  | with_reducible refine r_or ?_
  | with_reducible refine r_not ?_
  | with_reducible refine r_andV ?_
  | with_reducible refine r_orV ?_
  | with_reducible refine r_notV ?_
  | with_reducible refine r_if ?_
  | with_reducible refine r_bm ?_
  | with_reducible refine r_bm0 ?_
  | with_reducible refine r_sub_ ?_
  | with_reducible refine r_sl ?_
  | with_reducible refine r_part ?_
  | with_reducible refine r_nopart ?_
  | with_reducible refine r_par ?_
  | with_reducible refine r_par2 ?_
  | with_reducible refine r_for ?_
  | with_reducible refine r_iList ?_
  | ((with_reducible refine' r_iListA ?h ?_); (case h => walk_at "sq"))
  | with_reducible refine r_iTup ?_
  | ((with_reducible refine' r_iTupA ?h ?_); (case h => walk_at "sq"))
  | with_reducible refine r_iRng1 ?_
  | with_reducible refine r_iRng2 ?_
  | with_reducible refine r_iRev ?_
  | ((with_reducible refine' r_iRevA ?h ?_); (case h => walk_at "sq"))
  | with_reducible refine r_iEnum ?_
  | ((with_reducible refine' r_iEnumA ?h ?_); (case h => walk_at "sq"))
  | with_reducible refine r_iRevR ?_
  | with_reducible refine r_rg1 ?_
  | with_reducible refine r_make ?_
  | with_reducible refine r_fld ?_
  | with_reducible refine r_sfld ?_
  | with_reducible refine r_meth ?_
  | ((with_reducible refine' r_top ?c ?n ?h ?_); (case c => assumption); (case n => assumption); (case h => walk_at "ir"))
  | ((with_reducible refine' r_bottom ?c ?n ?h ?_); (case c => assumption); (case n => assumption); (case h => walk_at "ir"))
  | ((with_reducible refine' r_methR ?h ?h1 ?h2 ?_); (case h => walk_at "ir"); (case h1 => decide +kernel); (case h2 => decide +kernel))
  | with_reducible refine r_next ?_
  | ((with_reducible refine' r_ty ?h ?_); (case h => exact tyL (by walk_at "hp")))
  | with_reducible refine i_t ?_
  | with_reducible refine i_f ?_
  | with_reducible refine i_nt ?_
  | with_reducible refine i_nf ?_
  | walk_at "call"))
structure ExT (K : PySem.W.Frag) (Cof : String → Addr) : Prop where
  cl_Ratio : Cls K (Cof "Ratio")
  is_Ratio : InsC K (Cof "Ratio")
  n_Ratio_bottom : NoAttr K (Cof "Ratio") "bottom"
  n_Ratio_top : NoAttr K (Cof "Ratio") "top"

/-! #### shared -/
--USE MG
def sp_shared (K : PySem.W.Frag) (Cof : String → Addr) : Sp := fun vs H Q _ => ∃ (a : Addr) (ns : List Int), vs = [.ref a] ∧ SqL K H a (ns.map V.int) ∧ Q (.int (MG.gcdL ns)) H
def t_shared (K : PySem.W.Frag) (Cof : String → Addr) (E : XK) : TS :=
  tSeq (tAsg (tC (.int 0)) (gName 1))
  (tSeq (tFor (iList K (tVar 0)) (gName 2) (tWhile (tTest (tOp rNe (tVar 2) (tC (.int 0)))) (tSeq (tAsg (tOp rMod (tVar 1) (tVar 2)) (gName 3))
  (tSeq (tAsg (tVar 2) (gName 1))
  (tAsg (tVar 3) (gName 2))))))
  (tRet (tCB rAbs (tCons (tVar 1) (tNil)))))

section
variable {K : PySem.W.Frag} {Cof : String → Addr} {vs : List V} {H : Hp} {Q : VK} {E : XK}
theorem len_shared (h : sp_shared K Cof vs H Q E) : vs.length = 1 := by
  obtain ⟨a, ns, rfl, _⟩ := h; rfl
theorem rd_shared (h : sp_shared K Cof vs H Q E) : t_shared K Cof E { nx := fun _ H' => Q .non H', rt := Q } (start ["row", "found", "one", "rest"] vs) H := by
  obtain ⟨a, ns, rfl, hS, q⟩ := h
  unfold t_shared
  walk_at "rd"
  refine loop_ints (ns := ns) (fun i σ' H' => ∃ (f : Int) (u r : Option V), σ' = [some (.ref a), some (.int f), u, r] ∧ H' = H ∧ f.natAbs = MG.gcdN (ns.take i)) ⟨0, none, none, rfl, rfl, rfl⟩ (fun i σ' H' _ hp => ?_) (fun i x σ' H' hx hp => ?_) (fun σ' H' hp => ?_)
  · obtain ⟨f, u, r, rfl, rfl, _⟩ := hp; exact hS
  · obtain ⟨f, u, r, rfl, rfl, hf⟩ := hp
    refine r_while (fun m σ2 H2 => ∃ (f o : Int) (r : Option V), σ2 = [some (.ref a), some (.int f), some (.int o), r] ∧ H2 = H' ∧ m = o.natAbs ∧ Int.gcd f o = MG.gcdN (ns.take (i + 1))) x.natAbs ⟨f, x, r, rfl, rfl, rfl, ?_⟩ (fun m σ2 H2 hw => ?_)
    · rw [MG.gcdN_take hx, ← hf]; rfl
    · obtain ⟨f, o, r, rfl, rfl, rfl, hg⟩ := hw
      walk_at "rd"
      refine ite_nd (fun h => wh_in ?_) (fun h => ?_)
      · walk_at "rd"
        exact ⟨_, MG.fmod_lt h, o, f.fmod o, _, rfl, rfl, rfl, by rw [MG.gcd_fmod]; exact hg⟩
      · refine ⟨f, _, _, rfl, rfl, ?_⟩
        rw [← hg, h, Int.gcd_zero_right]
  · obtain ⟨f, u, r, rfl, rfl, hf⟩ := hp
    walk_at "rd"
    rw [List.take_length] at hf
    have e : (if f < 0 then -f else f) = MG.gcdL ns := by
      unfold MG.gcdL
      rw [← hf]
      split <;> omega
    rw [e]
    exact q
end
theorem c_shared {K : PySem.W.Frag} {Cof : String → Addr} {H : Hp} {Q : VK} {E : XK} {a : Addr} {ns : List Int} (h : SqL K H a (ns.map V.int)) (q : Q (.int (MG.gcdL ns)) H) : sp_shared K Cof [.ref a] H Q E := ⟨a, ns, rfl, h, q⟩
local macro_rules | `(tactic| walk_at "call") => `(tactic| ((with_reducible refine' c_shared ?h ?_); (case h => walk_at "sq")))

/-! #### told_order -/
--USE MF
def sp_told_order (K : PySem.W.Frag) (Cof : String → Addr) : Sp := fun vs H Q _ => ∃ l r : Int, vs = [.int l, .int r] ∧ Q (.int (ordI l r)) H
def t_told_order (K : PySem.W.Frag) (Cof : String → Addr) (E : XK) : TS :=
  tSeq (tIfS (tTest (tOp rLt (tVar 0) (tVar 1))) (tRet (tUn rNeg (tC (.int 1)))) (tNext))
  (tRet (tCB rInt1 (tCons (tOp rGt (tVar 0) (tVar 1)) (tNil))))

section
variable {K : PySem.W.Frag} {Cof : String → Addr} {vs : List V} {H : Hp} {Q : VK} {E : XK}
theorem len_told_order (h : sp_told_order K Cof vs H Q E) : vs.length = 2 := by
  obtain ⟨l, r, rfl, _⟩ := h; rfl
theorem rd_told_order (h : sp_told_order K Cof vs H Q E) : t_told_order K Cof E { nx := fun _ H' => Q .non H', rt := Q } (start ["left", "right"] vs) H := by
  obtain ⟨l, r, rfl, q⟩ := h
  unfold t_told_order
  unfold ordI at q
  walk_at "rd"
  refine ite_d (fun h => ?_) (fun h => ?_)
  · walk_at "rd"
    rw [if_pos h] at q
    exact q
  · walk_at "rd"
    rw [if_neg h] at q
    by_cases h2 : r < l
    · rw [if_pos h2] at q
      rw [decide_eq_true h2]; exact q
    · rw [if_neg h2] at q
      rw [decide_eq_false h2]; exact q
theorem c_told_order {l r : Int} (q : Q (.int (ordI l r)) H) : sp_told_order K Cof [.int l, .int r] H Q E := ⟨l, r, rfl, q⟩
end
local macro_rules | `(tactic| walk_at "call") => `(tactic| with_reducible refine c_told_order ?_)

/-! #### Ratio.__init__ -/
--USE RC
def sp_Ratio___init__ (K : PySem.W.Frag) (Cof : String → Addr) : Sp := fun vs H Q _ => ∃ (x dx : Addr) (t b : Int) (n : Nat), vs = [.ref x, .int t, .int b] ∧ H x = some (.ins (Cof "Ratio") dx []) ∧ b ≠ 0 ∧ (b.natAbs < 2 ^ n ∧ 0 < n ∧ n ≤ 9000) ∧ ∀ H', Exb x H H' → H' x = some (.ins (Cof "Ratio") dx (rF (rT t b) (rB t b))) → Q .non H'
def t_Ratio___init__ (K : PySem.W.Frag) (Cof : String → Addr) (E : XK) : TS :=
  tSeq (tIfS (tTest (tOp rEq (tVar 2) (tC (.int 0)))) (tNever) (tNext))
  (tSeq (tAsg (tCall (sp_shared K Cof) [] E0 (tCons (tLst (tCons (tVar 1) (tCons (tVar 2) (tNil)))) (tNil))) (gName 3))
  (tCut (tIfS (tTest (tOp rLt (tVar 2) (tC (.int 0)))) (tAsg (tUn rNeg (tVar 3)) (gName 3)) (tNext))
  (tSeq (sFld K (tVar 0) (tOp rDiv (tVar 1) (tVar 3)) "top")
  (sFld K (tVar 0) (tOp rDiv (tVar 2) (tVar 3)) "bottom"))))

section
variable {K : PySem.W.Frag} {Cof : String → Addr} {vs : List V} {H : Hp} {Q : VK} {E : XK}
theorem len_Ratio___init__ (h : sp_Ratio___init__ K Cof vs H Q E) : vs.length = 3 := by
  obtain ⟨x, dx, t, b, n, rfl, _⟩ := h; rfl
theorem rd_Ratio___init__ (X : ExT K Cof) (h : sp_Ratio___init__ K Cof vs H Q E) : t_Ratio___init__ K Cof E { nx := fun _ H' => Q .non H', rt := Q } (start ["self", "top", "bottom", "part"] vs) H := by
  obtain ⟨x, dx, t, b, n, rfl, hx, hb, ⟨bn, n0, n9⟩, q⟩ := h
  unfold t_Ratio___init__
  walk_at "rd"
  refine ite_d (fun h => absurd h hb) (fun _ => ?_)
  walk_at "rd"
  refine r_lstK fun p1 H1 hp1 e1 h1 => ?_
  walk_at "rd"
  refine c_shared (ns := [t, b]) (SqL.inj h1) ?_
  walk_at "rd"
  refine ⟨fun σ' H' => σ' = [some (.ref x), some (.int t), some (.int b), some (.int (rG t b))] ∧ H' = H1, ?_, fun σ' H' hM => ?_⟩
  · walk_at "rd"
    unfold rG
    refine ite_d (fun h => ?_) (fun h => ?_)
    · walk_at "rd"
      rw [if_pos h]
      exact ⟨rfl, rfl⟩
    · walk_at "rd"
      rw [if_neg h]
      exact ⟨rfl, rfl⟩
  obtain ⟨rfl, rfl⟩ := hM
  have hd : CDivA t (rG t b) := ⟨rG_ne hb, Nat.lt_of_lt_of_le (rG_log hb n0 bn) n9⟩
  walk_at "rd"
  refine r_div hd ?_
  walk_at "rd"
  refine ⟨x, Cof "Ratio", dx, [], rfl, e1 _ _ hx, X.cl_Ratio, X.n_Ratio_top, (by show 0 < 1000; decide), ?_⟩
  walk_at "rd"
  refine r_div hd ?_
  walk_at "rd"
  refine ⟨x, Cof "Ratio", dx, _, rfl, upd_same, X.cl_Ratio, X.n_Ratio_bottom, (by show 1 < 1000; decide), ?_⟩
  refine q _ (fun a n o h => ?_) ?_
  · rw [upd_ne n, upd_ne n]
    exact e1 _ _ h
  · rw [upd_same]
    rfl
end
theorem c_Ratio {K : PySem.W.Frag} {Cof : String → Addr} {H : Hp} {Q : VK} {E : XK} {t b : Int} (n : Nat) (hb : b ≠ 0) (bn : b.natAbs < 2 ^ n) (n0 : 0 < n) (n9 : n ≤ 9000) (q : RetR (Cof "Ratio") (rT t b) (rB t b) H Q) : MakeK (Cof "Ratio") (sp_Ratio___init__ K Cof) [] E Q [.int t, .int b] H := fun x dx hx hdx hne =>
  ⟨x, dx, t, b, n, rfl, upd_same, hb, ⟨bn, n0, n9⟩, fun H' e h => ⟨rfl, q x H' hx (fun a o ha => e a (ne_of_none ha hx) o (by
    rw [upd_ne (ne_of_none ha hx), upd_ne (ne_of_none ha hdx)]
    exact ha)) ⟨dx, h⟩⟩⟩
theorem c_Ratio1 {K : PySem.W.Frag} {Cof : String → Addr} {H : Hp} {Q : VK} {E : XK} {t : Int} (q : RetR (Cof "Ratio") (rT t 1) (rB t 1) H Q) : MakeK (Cof "Ratio") (sp_Ratio___init__ K Cof) [.int 1] E Q [.int t] H := fun x dx hx hdx hne =>
  ⟨x, dx, t, 1, 1, rfl, upd_same, by decide, ⟨by decide, by decide, by decide⟩, fun H' e h => ⟨rfl, q x H' hx (fun a o ha => e a (ne_of_none ha hx) o (by
    rw [upd_ne (ne_of_none ha hx), upd_ne (ne_of_none ha hdx)]
    exact ha)) ⟨dx, h⟩⟩⟩
/-- two fractions that a deed can take -/
structure RSz (n : Nat) (t b u v : Int) : Prop where
  st : t.natAbs < 2 ^ n
  sb : b.natAbs < 2 ^ n
  su : u.natAbs < 2 ^ n
  sv : v.natAbs < 2 ^ n
  n0 : 0 < n
  n9 : n ≤ 4400
  b0 : b ≠ 0
  v0 : v ≠ 0

/-! #### poly -/
--USE ML
def sp_poly (K : PySem.W.Frag) (Cof : String → Addr) : Sp := fun vs H Q _ => ∃ (a : Addr) (ns : List Int), vs = [.ref a] ∧ SqL K H a (ns.map V.int) ∧ ns.length ≤ 1000000 ∧ RetI (ML.trimL ns) H Q
def t_poly (K : PySem.W.Frag) (Cof : String → Addr) (E : XK) : TS :=
  tSeq (tAsg (tCB (rLenS K) (tCons (tVar 0) (tNil))) (gName 1))
  (tSeq (tWhile (tAnd (tTest (tOp rGt (tVar 1) (tC (.int 0)))) (tTest (tOp rEq (tOp (rIxL K) (tVar 0) (tOp rISub (tVar 1) (tC (.int 1)))) (tC (.int 0))))) (tAsg (tOp rISub (tVar 1) (tC (.int 1))) (gName 1)))
  (tRet (tSl (rSlL K) (tVar 0) (tNoPart) (tPart (tVar 1)))))

section
variable {K : PySem.W.Frag} {Cof : String → Addr} {vs : List V} {H : Hp} {Q : VK} {E : XK}
theorem len_poly (h : sp_poly K Cof vs H Q E) : vs.length = 1 := by
  obtain ⟨a, ns, rfl, _⟩ := h; rfl
theorem rd_poly (h : sp_poly K Cof vs H Q E) : t_poly K Cof E { nx := fun _ H' => Q .non H', rt := Q } (start ["row", "size"] vs) H := by
  obtain ⟨a, ns, rfl, hS, hl, q⟩ := h
  unfold t_poly
  walk_at "rd"
  try rw [List.length_map]
  refine r_while (fun m σ' H' => σ' = [some (.ref a), some (.int (m : Int))] ∧ H' = H ∧ m ≤ ns.length ∧ ∀ k, m ≤ k → ML.cf ns k = 0) ns.length ⟨rfl, rfl, Nat.le_refl _, fun k hk => ML.cf_beyond hk⟩ (fun m σ' H' hw => ?_)
  obtain ⟨rfl, rfl, hm, h0⟩ := hw
  walk_at "rd"
  refine ite_d (fun hp => ?_) (fun hp => ?_)
  · walk_at "rd"
    refine r_ixI hS (by omega) (by omega) ?_
    walk_at "rd"
    have e : ns.getD ((m : Int) - 1).toNat 0 = ML.cf ns (m - 1) := by
      unfold ML.cf; congr 1; omega
    rw [e]
    refine ite_d (fun hz => wh_in ?_) (fun hz => ?_)
    · walk_at "rd"
      have e1 : (m : Int) - 1 = ((m - 1 : Nat) : Int) := by omega
      exact ⟨m - 1, by omega, by rw [e1]; rfl, rfl, by omega, fun k hk => by
        by_cases hk' : k = m - 1
        · rw [hk', hz]
        · exact h0 k (by omega)⟩
    · walk_at "rd"
      refine r_slI hS fun p H' hp e h => q p H' hp e ?_
      rw [ML.trimL_take hm h0 (.inr hz), ← sliceI_to hm]
      exact h
  · walk_at "rd"
    refine r_slI hS fun p H' hp e h => q p H' hp e ?_
    rw [ML.trimL_take hm h0 (.inl (by omega)), ← sliceI_to hm]
    exact h
theorem c_poly {a : Addr} {ns : List Int} (h : SqL K H a (ns.map V.int)) (hl : ns.length ≤ 1000000) (q : ∀ p H', H p = none → Ex H H' → H' p = some (.lst ((ML.trimL ns).map V.int)) → Q (.ref p) H') : sp_poly K Cof [.ref a] H Q E := ⟨a, ns, rfl, h, hl, q⟩
end

/-! #### degree -/
def sp_degree (K : PySem.W.Frag) (Cof : String → Addr) : Sp := fun vs H Q _ => ∃ (a : Addr) (ns : List Int), vs = [.ref a] ∧ SqL K H a (ns.map V.int) ∧ Q (.int ((ns.length : Int) - 1)) H
def t_degree (K : PySem.W.Frag) (Cof : String → Addr) (E : XK) : TS :=
  tRet (tOp rISub (tCB (rLenS K) (tCons (tVar 0) (tNil))) (tC (.int 1)))

section
variable {K : PySem.W.Frag} {Cof : String → Addr} {vs : List V} {H : Hp} {Q : VK} {E : XK}
theorem len_degree (h : sp_degree K Cof vs H Q E) : vs.length = 1 := by
  obtain ⟨a, ns, rfl, _⟩ := h; rfl
theorem rd_degree (h : sp_degree K Cof vs H Q E) : t_degree K Cof E { nx := fun _ H' => Q .non H', rt := Q } (start ["P"] vs) H := by
  obtain ⟨a, ns, rfl, hS, q⟩ := h
  unfold t_degree
  walk_at "rd"
  try rw [List.length_map]
  exact q
theorem c_degree {a : Addr} {ns : List Int} (h : SqL K H a (ns.map V.int)) (q : Q (.int ((ns.length : Int) - 1)) H) : sp_degree K Cof [.ref a] H Q E := ⟨a, ns, rfl, h, q⟩
end
local macro_rules | `(tactic| walk_at "call") => `(tactic| ((with_reducible refine' c_degree ?h ?_); (case h => walk_at "sq")))

/-! #### slope -/
--USE ML
def sp_slope (K : PySem.W.Frag) (Cof : String → Addr) : Sp := fun vs H Q _ => ∃ (a : Addr) (P : List Int) (n : Nat), vs = [.ref a] ∧ SqL K H a (P.map V.int) ∧ P.length ≤ 100000 ∧ ML.Sz n P ∧ (0 < n ∧ n ≤ 100000) ∧ RetI (ML.slopeL P) H Q
def t_slope (K : PySem.W.Frag) (Cof : String → Addr) (E : XK) : TS :=
  tRet (tLc (iRng2 (tCons (tC (.int 1)) (tCons (tCB (rLenS K) (tCons (tVar 0) (tNil))) (tNil)))) (gName 1) (tYes) (tOp rMul (tVar 1) (tOp (rIxL K) (tVar 0) (tVar 1))) [1])

section
variable {K : PySem.W.Frag} {Cof : String → Addr} {vs : List V} {H : Hp} {Q : VK} {E : XK}
theorem len_slope (h : sp_slope K Cof vs H Q E) : vs.length = 1 := by
  obtain ⟨a, P, n, rfl, _⟩ := h; rfl
theorem rd_slope (h : sp_slope K Cof vs H Q E) : t_slope K Cof E { nx := fun _ H' => Q .non H', rt := Q } (start ["P", "k"] vs) H := by
  obtain ⟨a, P, n, rfl, hS, hl, sz, ⟨n0, n1⟩, q⟩ := h
  unfold t_slope
  have f0 := Fx.refl H
  walk_at "rd"
  refine r_cRng2A (by omega) ?_
  refine lc_rangeL (lo := 1) (fun (k : Nat) => ((k : Int) + 1) * ML.cf P (k + 1)) (by omega) (fun i hi H1 e1 Q' k' => ?_) (fun p H1 hp e1 h1 => q p H1 hp e1 ?_)
  · have e : (1 : Int) + (i : Int) = ((i + 1 : Nat) : Int) := by omega
    walk_at "rd"
    rw [e]
    refine r_ixI (e1.l hS) (by omega) (by omega) ?_
    rw [Int.toNat_natCast]
    refine r_mul (wide_mul (a := 18) (by omega) (sz.cf (i + 1)) (by decide) n0 (by omega)) ?_
    exact k' _ (Evl.Ex.refl _)
  · have e : ((P.length : Int) - 1).toNat = P.length - 1 := by omega
    rw [e] at h1
    exact h1
theorem c_slope {a : Addr} {P : List Int} (n : Nat) (h : SqL K H a (P.map V.int)) (hl : P.length ≤ 100000) (sz : ML.Sz n P) (hn : 0 < n ∧ n ≤ 100000) (q : ∀ p H', H p = none → Ex H H' → H' p = some (.lst ((ML.slopeL P).map V.int)) → Q (.ref p) H') : sp_slope K Cof [.ref a] H Q E := ⟨a, P, n, rfl, h, hl, sz, hn, q⟩
end

/-! #### shrunk -/
--USE CR
def sp_shrunk (K : PySem.W.Frag) (Cof : String → Addr) : Sp := fun vs H Q _ => ∃ (a : Addr) (P : List Int), vs = [.ref a] ∧ SqL K H a (P.map V.int) ∧ P.length ≤ 100000 ∧ (P ≠ [] → MS.ShrX P) ∧ RetI (MP.shrunkL P) H Q
def t_shrunk (K : PySem.W.Frag) (Cof : String → Addr) (E : XK) : TS :=
  tSeq (tAsg (tCall (sp_shared K Cof) [] E0 (tCons (tVar 0) (tNil))) (gName 1))
  (tRet (tLc (iList K (tVar 0)) (gName 2) (tYes) (tOp rDiv (tVar 2) (tVar 1)) [2]))

section
variable {K : PySem.W.Frag} {Cof : String → Addr} {vs : List V} {H : Hp} {Q : VK} {E : XK}
theorem len_shrunk (h : sp_shrunk K Cof vs H Q E) : vs.length = 1 := by
  obtain ⟨a, P, rfl, _⟩ := h; rfl
theorem rd_shrunk (h : sp_shrunk K Cof vs H Q E) : t_shrunk K Cof E { nx := fun _ H' => Q .non H', rt := Q } (start ["P", "part", "one"] vs) H := by
  obtain ⟨a, P, rfl, hS, hl, hg, q⟩ := h
  unfold t_shrunk
  walk_at "rd"
  refine lc_ints (fun x => x.fdiv (MG.gcdL P)) hS (by omega) (fun x hx H1 e1 Q' k' => ?_) (fun p H1 hp e1 h1 => q p H1 hp e1 h1)
  have hn : P ≠ [] := fun e => by rw [e] at hx; cases hx
  walk_at "rd"
  refine r_divX ((hg hn).div hx) ?_
  exact k' _ (Evl.Ex.refl _)
theorem c_shrunk {a : Addr} {P : List Int} (h : SqL K H a (P.map V.int)) (hl : P.length ≤ 100000) (hg : P ≠ [] → MS.ShrX P) (q : ∀ p H', H p = none → Ex H H' → H' p = some (.lst ((MP.shrunkL P).map V.int)) → Q (.ref p) H') : sp_shrunk K Cof [.ref a] H Q E := ⟨a, P, rfl, h, hl, hg, q⟩
end
/-- what shrunk asks of a polynomial of coefficients below 2 ^ n -/
theorem shr_ok {P : List Int} {n : Nat} (hn : 0 < n) (h9 : n ≤ 9000) (hs : ML.Sz n P) (h : ML.Trim P) (h0 : P ≠ []) : MS.ShrX P := by
  have h1 := MP.gcdL_trim_pos h h0
  have h2 := MP.gcdL_log hn hs h h0
  exact ⟨by omega, .inl (Nat.lt_of_lt_of_le (PySem.Flt.log2_lt_of hn h2) h9)⟩

/-! #### top_at -/
--USE MH
/-- sizes that a value at a fraction can take -/
def sp_top_at (K : PySem.W.Frag) (Cof : String → Addr) : Sp := fun vs H Q _ => ∃ (a r : Addr) (P : List Int) (t b : Int) (n m : Nat), vs = [.ref a, .ref r] ∧ SqL K H a (P.map V.int) ∧ IsR (Cof "Ratio") H r t b ∧ HSz n m P t b ∧ Q (.int (MH.topL P t b)) H
def t_top_at (K : PySem.W.Frag) (Cof : String → Addr) (E : XK) : TS :=
  tSeq (tAsg (tC (.int 0)) (gName 2))
  (tSeq (tAsg (tC (.int 1)) (gName 3))
  (tSeq (tFor (iRev K (tCons (tVar 0) (tNil))) (gName 4) (tSeq (tAsg (tOp rIAdd (tOp rMul (tVar 2) (tFld K (tVar 1) "top")) (tOp rMul (tVar 4) (tVar 3))) (gName 2))
  (tAsg (tOp rMul (tVar 3) (tFld K (tVar 1) "bottom")) (gName 3))))
  (tRet (tVar 2))))

section
variable {K : PySem.W.Frag} {Cof : String → Addr} {vs : List V} {H : Hp} {Q : VK} {E : XK}
theorem len_top_at (h : sp_top_at K Cof vs H Q E) : vs.length = 2 := by
  obtain ⟨a, r, P, t, b, n, m, rfl, _⟩ := h; rfl
theorem rd_top_at (X : ExT K Cof) (h : sp_top_at K Cof vs H Q E) : t_top_at K Cof E { nx := fun _ H' => Q .non H', rt := Q } (start ["P", "r", "total", "scale", "one"] vs) H := by
  obtain ⟨a, r, P, t, b, n, m, rfl, hA, hR, s, q⟩ := h
  have cl := X.cl_Ratio
  have nt := X.n_Ratio_top
  have nb := X.n_Ratio_bottom
  have n0 := s.n0
  have m0 := s.m0
  have le := s.le
  have e1 : (m + 1) * (P.length + 1) = m * P.length + P.length + m + 1 := by rw [Nat.mul_add, Nat.add_mul]; omega
  have e2 : (m + 1) * P.length = m * P.length + P.length := by rw [Nat.add_mul, Nat.one_mul]
  unfold t_top_at
  walk_at "rd"
  refine loop_rev (xs := P.map V.int) (fun i σ' H' => ∃ u, σ' = [some (.ref a), some (.ref r), some (.int (MH.hs t b (P.drop (P.length - i))).1), some (.int (MH.hs t b (P.drop (P.length - i))).2), u] ∧ H' = H) ⟨none, by rw [Nat.sub_zero, List.drop_length]; rfl, rfl⟩ (fun i σ' H' _ hp => ?_) (fun i x σ' H' hx hi hp => ?_) (fun σ' H' hp => ?_)
  · obtain ⟨u, rfl, rfl⟩ := hp
    exact hA
  · obtain ⟨u, rfl, rfl⟩ := hp
    rw [List.length_map] at hx hi
    rw [List.getElem?_map] at hx
    obtain ⟨c, hc, rfl⟩ := Option.map_eq_some_iff.mp hx
    have hd := MH.hs_drop (t := t) (b := b) hc
    have e3 : P.length - 1 - i + 1 = P.length - i := by omega
    have e4 : P.length - (i + 1) = P.length - 1 - i := by omega
    rw [e3] at hd
    obtain ⟨s1, s2⟩ := s.steps (P.length - i)
    have sc := s.sP c (List.mem_of_getElem? hc)
    rw [e4, hd]
    generalize (MH.hs t b (P.drop (P.length - i))).1 = tot at s1 ⊢
    generalize (MH.hs t b (P.drop (P.length - i))).2 = sca at s2 ⊢
    walk_at "rd"
    refine r_mul (wide_mul s1 s.st (by omega) m0 (by omega)) ?_
    walk_at "rd"
    refine r_mul (wide_mul sc s2 n0 (by omega) (by omega)) ?_
    walk_at "rd"
    refine r_mul (wide_mul s2 s.sb (by omega) m0 (by omega)) ?_
    walk_at "rd"
    exact ⟨_, rfl, rfl⟩
  · obtain ⟨u, rfl, rfl⟩ := hp
    rw [List.length_map, Nat.sub_self, List.drop_zero]
    walk_at "rd"
    exact q
theorem c_top_at {a r : Addr} {P : List Int} {t b : Int} (n m : Nat) (hA : SqL K H a (P.map V.int)) (hR : IsR (Cof "Ratio") H r t b) (s : HSz n m P t b) (q : Q (.int (MH.topL P t b)) H) : sp_top_at K Cof [.ref a, .ref r] H Q E := ⟨a, r, P, t, b, n, m, rfl, hA, hR, s, q⟩
end

/-! #### sign_at -/
def sp_sign_at (K : PySem.W.Frag) (Cof : String → Addr) : Sp := fun vs H Q _ => ∃ (a r : Addr) (P : List Int) (t b : Int) (n m : Nat), vs = [.ref a, .ref r] ∧ SqL K H a (P.map V.int) ∧ IsR (Cof "Ratio") H r t b ∧ HSz n m P t b ∧ Q (.int (ordI (MH.topL P t b) 0)) H
def t_sign_at (K : PySem.W.Frag) (Cof : String → Addr) (E : XK) : TS :=
  tRet (tCall (sp_told_order K Cof) [] E0 (tCons (tCall (sp_top_at K Cof) [] E0 (tCons (tVar 0) (tCons (tVar 1) (tNil)))) (tCons (tC (.int 0)) (tNil))))

section
variable {K : PySem.W.Frag} {Cof : String → Addr} {vs : List V} {H : Hp} {Q : VK} {E : XK}
theorem len_sign_at (h : sp_sign_at K Cof vs H Q E) : vs.length = 2 := by
  obtain ⟨a, r, P, t, b, n, m, rfl, _⟩ := h; rfl
theorem rd_sign_at (h : sp_sign_at K Cof vs H Q E) : t_sign_at K Cof E { nx := fun _ H' => Q .non H', rt := Q } (start ["P", "r"] vs) H := by
  obtain ⟨a, r, P, t, b, n, m, rfl, hA, hR, s, q⟩ := h
  unfold t_sign_at
  walk_at "rd"
  refine c_top_at n m hA hR s ?_
  walk_at "rd"
  exact q
theorem c_sign_at {a r : Addr} {P : List Int} {t b : Int} (n m : Nat) (hA : SqL K H a (P.map V.int)) (hR : IsR (Cof "Ratio") H r t b) (s : HSz n m P t b) (q : Q (.int (ordI (MH.topL P t b) 0)) H) : sp_sign_at K Cof [.ref a, .ref r] H Q E := ⟨a, r, P, t, b, n, m, rfl, hA, hR, s, q⟩
end

/-! #### divided -/
--USE MD
/-- what a division tells: a new tuple of the factor and two new lists -/
def RetDiv (f : Int) (qu re : List Int) (H : Hp) (Q : VK) : Prop := ∀ (t pq pr : Addr) (H' : Hp), H t = none → H pq = none → H pr = none → pq ≠ pr → Ex H H' → H' t = some (.tup [.int f, .ref pq, .ref pr]) → H' pq = some (.lst (qu.map V.int)) → H' pr = some (.lst (re.map V.int)) → Q (.ref t) H'
/-- sizes that a division can take -/
def DivSz (P R : List Int) (n m : Nat) : Prop := ML.Sz n P ∧ ML.Sz m R ∧ P.length ≤ 100000 ∧ R.length ≤ 100000 ∧ 0 < n ∧ 0 < m ∧ m ≤ 9000 ∧ n + (2 * m + 1) * (P.length + 1) ≤ 900000
def sp_divided (K : PySem.W.Frag) (Cof : String → Addr) : Sp := fun vs H Q E => ∃ (a b : Addr) (P R : List Int) (n m : Nat), vs = [.ref a, .ref b] ∧ SqL K H a (P.map V.int) ∧ SqL K H b (R.map V.int) ∧ R ≠ [] ∧ ML.Trim R ∧ DivSz P R n m ∧ RetDiv (MD.facL P R) (MD.quoL P R) (MD.remL P R) H Q
def t_divided (K : PySem.W.Frag) (Cof : String → Addr) (E : XK) : TS :=
  tSeq (tIfS (tTest (tOp (rEqD K) (tVar 1) (tLst (tNil)))) (tNever) (tNext))
  (tSeq (tAsg (tOp rISub (tCall (sp_degree K Cof) [] E0 (tCons (tVar 0) (tNil))) (tCall (sp_degree K Cof) [] E0 (tCons (tVar 1) (tNil)))) (gName 2))
  (tSeq (tIfS (tTest (tOp rLt (tVar 2) (tC (.int 0)))) (tRet (tTup (tCons (tC (.int 1)) (tCons (tLst (tNil)) (tCons (tCB (rListS K) (tCons (tVar 0) (tNil))) (tNil)))))) (tNext))
  (tSeq (tAsg (tC (.int 1)) (gName 3))
  (tSeq (tFor (iRng1 (tCons (tOp rIAdd (tVar 2) (tC (.int 1))) (tNil))) (gName 4) (tAsg (tOp rMul (tVar 3) (tCB rAbs (tCons (tOp (rIxL K) (tVar 1) (tUn rNeg (tC (.int 1)))) (tNil)))) (gName 3)))
  (tSeq (tAsg (tLc (iList K (tVar 0)) (gName 6) (tYes) (tOp rMul (tVar 6) (tVar 3)) [6]) (gName 5))
  (tSeq (tAsg (tLc (iRng1 (tCons (tOp rIAdd (tVar 2) (tC (.int 1))) (tNil))) (gName 4) (tYes) (tC (.int 0)) [4]) (gName 7))
  (tSeq (tFor (iRevR (tRg1 (tOp rIAdd (tVar 2) (tC (.int 1))))) (gName 4) (tSeq (tAsg (tOp rDiv (tOp (rIxL K) (tVar 5) (tOp rIAdd (tVar 4) (tCall (sp_degree K Cof) [] E0 (tCons (tVar 1) (tNil))))) (tOp (rIxL K) (tVar 1) (tUn rNeg (tC (.int 1))))) (gName 8))
  (tSeq (tAsg (tVar 8) (gSub (tVar 7) (tVar 4) rSetL))
  (tFor (iEnum K (tCons (tVar 1) (tNil))) (gTup K 2 (gCons (gName 9) (gCons (gName 6) (gNil)))) (tAsg (tOp rISub (tOp (rIxL K) (tVar 5) (tOp rIAdd (tVar 4) (tVar 9))) (tOp rMul (tVar 8) (tVar 6))) (gSub (tVar 5) (tOp rIAdd (tVar 4) (tVar 9)) rSetL))))))
  (tRet (tTup (tCons (tVar 3) (tCons (tCall (sp_poly K Cof) [] E0 (tCons (tVar 7) (tNil))) (tCons (tCall (sp_poly K Cof) [] E0 (tCons (tVar 5) (tNil))) (tNil)))))))))))))

section
variable {K : PySem.W.Frag} {Cof : String → Addr} {vs : List V} {H : Hp} {Q : VK} {E : XK}
theorem len_divided (h : sp_divided K Cof vs H Q E) : vs.length = 2 := by
  obtain ⟨a, b, P, R, n, m, rfl, _⟩ := h; rfl
theorem rd_divided (h : sp_divided K Cof vs H Q E) : t_divided K Cof E { nx := fun _ H' => Q .non H', rt := Q } (start ["P", "Q", "gap", "factor", "k", "rest", "one", "quotient", "many", "place"] vs) H := by
  obtain ⟨a, b, P, R, n, m, rfl, hA, hB, hne, hT, ⟨sA, sB, lA, lB, n0, m0, m9, hbud⟩, q⟩ := h
  unfold t_divided
  walk_at "rd"
  refine r_lstK fun p0 H0 hp0 e0 h0 => ?_
  have f0 := Fx.of e0
  walk_at "rd"
  refine r_eqInts (ns := R) (ms := []) (f0.l hB) (SqL.inj h0) ?_
  walk_at "rd"
  refine ite_d (fun h => absurd h hne) (fun _ => ?_)
  -- the degrees
  walk_at "rd"
  refine ite_d (fun hlt => ?_) (fun hge => ?_)
  · walk_at "rd"
    refine r_lstK fun p1 H1 hp1 e1 h1 => ?_
    have f1 := f0.ex e1
    walk_at "rd"
    refine r_list (f1.l hA) fun p2 H2 hp2 e2 h2 => ?_
    have f2 := f1.ex e2
    walk_at "rd"
    refine r_tupK fun p3 H3 hp3 e3 h3 => ?_
    have hl : P.length < R.length := by omega
    have ef : MD.facL P R = 1 := by unfold MD.facL; rw [if_pos hl]
    have eq' : MD.quoL P R = [] := by unfold MD.quoL; rw [if_pos hl]
    have er : MD.remL P R = P := by unfold MD.remL; rw [if_pos hl]
    exact q p3 p1 p2 H3 (f2.free hp3) (f0.free hp1) (f1.free hp2) (by walk_at "ne") (f2.ex e3).to (by rw [ef]; exact h3) (by rw [eq']; walk_at "hp") (by rw [er]; walk_at "hp")
  have hl : ¬ P.length < R.length := by omega
  have hR := MD.len_pos hne
  have hlc := MD.lc_ne hT hne
  obtain ⟨g, hg⟩ : ∃ g : Nat, g = P.length - R.length := ⟨_, rfl⟩
  have eg : (P.length : Int) - 1 - ((R.length : Int) - 1) = (g : Int) := by omega
  have eg1 : (g : Int) + 1 = ((g + 1 : Nat) : Int) := by omega
  have bl : (2 * m + 1) * (P.length + 1) = 2 * (m * (P.length + 1)) + (P.length + 1) := by rw [Nat.add_mul, Nat.mul_assoc]; omega
  have bm : m * (g + 1) ≤ m * (P.length + 1) := Nat.mul_le_mul_left m (by omega)
  -- the factor
  walk_at "rd"
  rw [eg, eg1]
  refine r_iRng1A (by omega) (by omega) ?_
  rw [Int.toNat_natCast]
  refine loop_range0 (fun k σ' H' => ∃ u, σ' = [some (.ref a), some (.ref b), some (.int (g : Int)), some (.int (((MD.lc R).natAbs : Int) ^ k)), u, none, none, none, none, none] ∧ H' = H0) ⟨none, by rw [Int.pow_zero]; rfl, rfl⟩ (fun k σ' H' hk hp' => ?_) (fun σ' H' hp' => ?_)
  · obtain ⟨u, rfl, rfl⟩ := hp'
    walk_at "rd"
    refine r_ixLast (f0.l hB) hne ?_
    walk_at "rd"
    have ea : (if R.getD (R.length - 1) 0 < 0 then -R.getD (R.length - 1) 0 else R.getD (R.length - 1) 0) = ((MD.lc R).natAbs : Int) := by
      show (if MD.lc R < 0 then -MD.lc R else MD.lc R) = _
      split <;> omega
    rw [ea]
    have hb := sB.cf (R.length - 1)
    have hk1 : m * k ≤ m * (g + 1) := Nat.mul_le_mul_left m (by omega)
    have hpow : (((MD.lc R).natAbs : Int) ^ k).natAbs < 2 ^ (m * k + 1) := by
      rw [← Int.natCast_pow, Int.natAbs_natCast]
      refine Nat.lt_of_le_of_lt (Nat.pow_le_pow_left (Nat.le_of_lt hb) _) ?_
      rw [← Nat.pow_mul]
      exact Nat.pow_lt_pow_right (by decide) (by omega)
    refine r_mul (wide_mul hpow (b := m) (by rw [Int.natAbs_natCast]; exact hb) (by omega) m0 (by omega)) ?_
    walk_at "rd"
    exact ⟨_, by rw [Int.pow_succ]; rfl, rfl⟩
  obtain ⟨u, rfl, rfl⟩ := hp'
  have ef : ((MD.lc R).natAbs : Int) ^ (g + 1) = MD.facL P R := by unfold MD.facL; rw [if_neg hl, hg]
  rw [ef]
  have hfs := MD.facL_lt (P := P) (Q := R) sB
  rw [← hg] at hfs
  -- the rest
  have hA0 := f0.l hA
  walk_at "rd"
  refine lc_ints (fun x => x * MD.facL P R) hA0 (by omega) (fun x hx H4 e4 Q' k' => ?_) fun p5 H5 hp5 e5 h5 => ?_
  · walk_at "rd"
    refine r_mul (wide_mul (sA x hx) hfs n0 (by omega) (by omega)) ?_
    exact k' _ (Evl.Ex.refl _)
  have f5 := f0.ex e5
  walk_at "rd"
  rw [eg1]
  refine r_cRng1A (by omega) (by omega) ?_
  rw [Int.toNat_natCast]
  refine lc_rangeI (fun _ => 0) (by omega) (fun i hi H4 e4 Q' k' => ?_) fun p6 H6 hp6 e6 h6 => ?_
  · walk_at "rd"
    exact k' _ (Evl.Ex.refl _)
  have f6 := f5.ex e6
  have e0 : (List.range (g + 1)).map (fun _ => (0 : Int)) = List.replicate (g + 1) 0 := by
    rw [List.map_const', List.length_range]
  rw [e0] at h6
  have h5' : H6 p5 = some (.lst ((P.map fun x => x * MD.facL P R).map V.int)) := by walk_at "hp"
  have n56 : p5 ≠ p6 := by walk_at "ne"
  have z5 : H p5 = none := f0.free hp5
  have z6 : H p6 = none := f5.free hp6
  have st := MD.dstart (P := P) hT hne hl
  rw [← hg] at st
  have s0 : ML.Sz (n + (m * (g + 1) + 1)) (P.map fun x => x * MD.facL P R) := fun x hx => by
    obtain ⟨y, hy, rfl⟩ := List.mem_map.mp hx
    exact wide_lt (sA y hy) hfs
  clear hp5 hp6 h5 e5 e6
  walk_at "rd"
  rw [eg1]
  refine r_revRA (by omega) (by omega) ?_
  rw [Int.toNat_natCast]
  refine loop_down (fun k σ' H' => ∃ (qs rs : List Int) (u1 u2 u3 u4 : Option V), σ' = [some (.ref a), some (.ref b), some (.int (g : Int)), some (.int (MD.facL P R)), u1, some (.ref p5), u2, some (.ref p6), u3, u4] ∧ Fx H H' ∧ H' p6 = some (.lst (qs.map V.int)) ∧ H' p5 = some (.lst (rs.map V.int)) ∧
      MD.Inv R (fun j => ML.cf P j * MD.facL P R) P.length (g + 1) k (qs, rs) ∧ MD.dloop R k (qs, rs) = MD.dloop R (g + 1) (List.replicate (g + 1) 0, P.map fun x => x * MD.facL P R) ∧ ML.Sz (n + (m * (g + 1) + 1) + (g + 1 - k) * (m + 1)) rs)
    ⟨_, _, _, _, _, _, rfl, f6, h6, h5', st, rfl, s0.mono (by omega)⟩ (fun k σ' H' hk hp' => ?_) (fun σ' H' hp' => ?_)
  · obtain ⟨qs, rs, u1, u2, u3, u4, rfl, f7, h7, h8, I, hd, sz⟩ := hp'
    have lr := I.lr
    have lq := I.lq
    dsimp only at lr lq
    walk_at "rd"
    have ek : (k : Int) + ((R.length : Int) - 1) = ((k + (R.length - 1) : Nat) : Int) := by omega
    rw [ek]
    refine r_ixI (SqL.inj h8) (by omega) (by omega) ?_
    rw [Int.toNat_natCast]
    walk_at "rd"
    refine r_ixLast (f7.l hB) hne ?_
    refine r_div ⟨hlc, Nat.lt_of_lt_of_le (PySem.Flt.log2_lt_of m0 (sB.cf _)) m9⟩ ?_
    have hmany := MD.many_lt hlc I.dv sz (k + (R.length - 1))
    have hstep := I.step hlc hR (by omega) (by omega)
    have hds : MD.dloop R (k + 1) (qs, rs) = MD.dloop R k (qs.set k ((ML.cf rs (k + (R.length - 1))).fdiv (MD.lc R)), MD.subShift rs R k ((ML.cf rs (k + (R.length - 1))).fdiv (MD.lc R))) := rfl
    rw [hds] at hd
    show _
    have em : (rs.getD (k + (R.length - 1)) 0).fdiv (R.getD (R.length - 1) 0) = (ML.cf rs (k + (R.length - 1))).fdiv (MD.lc R) := rfl
    rw [em]
    generalize (ML.cf rs (k + (R.length - 1))).fdiv (MD.lc R) = many at hmany hstep hd ⊢
    walk_at "rd"
    refine r_setL h7 (Evl.ixN_nat (by rw [List.length_map]; omega)) fun H9 b9 h9 => ?_
    have f9 := f7.mut b9 z6
    have h8' : H9 p5 = some (.lst (rs.map V.int)) := by walk_at "hp"
    have hbk : (g + 1 - (k + 1)) * (m + 1) + (m + 1) = (g + 1 - k) * (m + 1) := by
      have : g + 1 - k = (g + 1 - (k + 1)) + 1 := by omega
      rw [this, Nat.add_mul _ 1]; omega
    have hbb : (g + 1 - k) * (m + 1) ≤ (g + 1) * (m + 1) := Nat.mul_le_mul_right _ (by omega)
    have hbe : (g + 1) * (m + 1) = m * (g + 1) + (g + 1) := by rw [Nat.mul_add, Nat.mul_comm]; omega
    have snew := MD.Sz.sub (k := k) sz sB hmany
    walk_at "rd"
    refine loop_enum (xs := R.map V.int) (fun j σ2 H2 => ∃ (rs2 : List Int) (u2 u4 : Option V), σ2 = [some (.ref a), some (.ref b), some (.int (g : Int)), some (.int (MD.facL P R)), some (.int (k : Int)), some (.ref p5), u2, some (.ref p6), some (.int many), u4] ∧ Fx H H2 ∧ H2 p6 = some (.lst ((qs.set k many).map V.int)) ∧ H2 p5 = some (.lst (rs2.map V.int)) ∧ rs2.length = P.length ∧
        ∀ t, ML.cf rs2 t = if k ≤ t ∧ t - k < j then ML.cf rs t - many * ML.cf R (t - k) else ML.cf rs t)
      ⟨rs, _, _, rfl, f9, by rw [List.map_set]; exact h9, h8', lr, fun t => by rw [if_neg (by omega)]⟩ (fun i σ2 H2 _ hp2 => ?_) (fun j x σ2 H2 H2' hx hp2 e2 => ?_) (fun σ2 H2 hp2 => ?_)
    · obtain ⟨rs2, u2, u4, rfl, f10, _⟩ := hp2
      exact f10.l hB
    · obtain ⟨rs2, u2, u4, rfl, f10, h10, h11, l11, c11⟩ := hp2
      have f10' := f10.ex e2
      obtain ⟨hj, ej⟩ := List.getElem?_eq_some_iff.mp hx
      rw [List.length_map] at hj
      have ex : x = .int (ML.cf R j) := by
        rw [← ej, List.getElem_map, ML.cf_get hj]
      subst ex
      have ekj : (k : Int) + (j : Int) = ((k + j : Nat) : Int) := by omega
      walk_at "rd"
      rw [ekj]
      refine r_ixI (ns := rs2) (by walk_at "sq") (by omega) (by omega) ?_
      rw [Int.toNat_natCast]
      walk_at "rd"
      refine r_mul (wide_mul hmany (sB.cf j) (by omega) m0 (by omega)) ?_
      walk_at "rd"
      rw [ekj]
      refine r_setL (p := p5) (xs := rs2.map V.int) (by walk_at "hp") (Evl.ixN_nat (by rw [List.length_map]; omega)) fun H12 b12 h12 => ?_
      refine ⟨rs2.set (k + j) (ML.cf rs2 (k + j) - many * ML.cf R j), _, _, rfl, f10'.mut b12 z5, by walk_at "hp", by rw [List.map_set]; exact h12, by rw [List.length_set]; exact l11, fun t => ?_⟩
      rw [ML.cf_set (by omega), c11 (k + j), c11 t]
      by_cases ht : t = k + j
      · subst ht
        rw [if_pos (rfl : k + j = k + j), if_neg (by omega), if_pos (by omega), Nat.add_sub_cancel_left]
      · rw [if_neg ht]
        by_cases h3 : k ≤ t ∧ t - k < j
        · rw [if_pos h3, if_pos (by omega)]
        · rw [if_neg h3, if_neg (by omega)]
    · obtain ⟨rs2, u2, u4, rfl, f10, h10, h11, l11, c11⟩ := hp2
      have er : rs2 = MD.subShift rs R k many := ML.ext (by rw [MD.subShift_len, l11, lr]) fun t ht => by
        rw [c11, List.length_map]
        unfold MD.subShift
        rw [ML.cf_range (by omega)]
      subst er
      exact ⟨qs.set k many, _, _, _, _, _, rfl, f10, h10, h11, hstep, hd, snew.mono (by omega)⟩
  obtain ⟨qs, rs, u1, u2, u3, u4, rfl, f7, h7, h8, I, hd, sz⟩ := hp'
  have lr := I.lr
  have lq := I.lq
  dsimp only at lr lq
  have hd' : (qs, rs) = MD.dloop R (g + 1) (List.replicate (g + 1) 0, P.map fun x => x * MD.facL P R) := hd
  have e1 : ML.trimL qs = MD.quoL P R := by
    unfold MD.quoL
    rw [if_neg hl, ← hg, ← hd']
  have e2 : ML.trimL rs = MD.remL P R := by
    unfold MD.remL
    rw [if_neg hl, ← hg, ← hd']
  walk_at "rd"
  refine c_poly (SqL.inj h7) (by omega) fun p10 H10 hp10 e10 h10 => ?_
  have f10 := f7.ex e10
  walk_at "rd"
  refine c_poly (ns := rs) (by walk_at "sq") (by omega) fun p11 H11 hp11 e11 h11 => ?_
  have f11 := f10.ex e11
  walk_at "rd"
  refine r_tupK fun p12 H12 hp12 e12 h12 => ?_
  exact q p12 p10 p11 H12 (f11.free hp12) (f7.free hp10) (f10.free hp11) (by walk_at "ne") (f11.ex e12).to h12 (by rw [← e1]; walk_at "hp") (by rw [← e2]; walk_at "hp")
theorem c_divided {a b : Addr} {P R : List Int} (n m : Nat) (hA : SqL K H a (P.map V.int)) (hB : SqL K H b (R.map V.int)) (hne : R ≠ []) (hT : ML.Trim R) (hs : DivSz P R n m) (q : RetDiv (MD.facL P R) (MD.quoL P R) (MD.remL P R) H Q) : sp_divided K Cof [.ref a, .ref b] H Q E := ⟨a, b, P, R, n, m, rfl, hA, hB, hne, hT, hs, q⟩
end

/-! #### row_of -/
--USE CR RN
def sp_row_of (K : PySem.W.Frag) (Cof : String → Addr) : Sp := fun vs H Q _ => ∃ (a : Addr) (P : List Int) (n f : Nat), vs = [.ref a] ∧ SqL K H a (P.map V.int) ∧ P.length ≤ 100000 ∧ f ≤ 100000 ∧ ML.Sz n P ∧ (0 < n ∧ n ≤ 8900) ∧ ML.Trim P ∧ (P ≠ [] → MS.RowOk2 f (MP.shrunkL P) (MP.shrunkL (ML.slopeL P))) ∧ RetRow (MS.rowL f P) H Q
def t_row_of (K : PySem.W.Frag) (Cof : String → Addr) (E : XK) : TS :=
  tSeq (tIfS (tTest (tOp (rEqD K) (tVar 0) (tLst (tNil)))) (tRet (tLst (tNil))) (tNext))
  (tSeq (tAsg (tLst (tCons (tCall (sp_shrunk K Cof) [] E0 (tCons (tVar 0) (tNil))) (tNil))) (gName 1))
  (tSeq (tAsg (tCall (sp_shrunk K Cof) [] E0 (tCons (tCall (sp_slope K Cof) [] E0 (tCons (tVar 0) (tNil))) (tNil))) (gName 2))
  (tSeq (tWhile (tTest (tOp (rNeD K) (tVar 2) (tLst (tNil)))) (tSeq (tDrop (tBM K "list" rAppend (tVar 1) (tCons (tVar 2) (tNil))))
  (tSeq (tAsg (tOp (rIxT K) (tCall (sp_divided K Cof) [] E0 (tCons (tOp (rIxL K) (tVar 1) (tUn rNeg (tC (.int 2)))) (tCons (tOp (rIxL K) (tVar 1) (tUn rNeg (tC (.int 1)))) (tNil)))) (tC (.int 2))) (gName 3))
  (tAsg (tCall (sp_shrunk K Cof) [] E0 (tCons (tLc (iList K (tVar 3)) (gName 4) (tYes) (tOp rISub (tC (.int 0)) (tVar 4)) [4]) (tNil))) (gName 2)))))
  (tRet (tVar 1)))))

section
variable {K : PySem.W.Frag} {Cof : String → Addr} {vs : List V} {H : Hp} {Q : VK} {E : XK}
theorem len_row_of (h : sp_row_of K Cof vs H Q E) : vs.length = 1 := by
  obtain ⟨a, P, n, f, rfl, _⟩ := h; rfl
theorem slope_top {P : List Int} (hT : ML.Trim P) (hn : ML.slopeL P ≠ []) : ML.cf (ML.slopeL P) (P.length - 2) ≠ 0 := by
  have h1 : P ≠ [] := fun e => hn (by rw [e]; rfl)
  have hl : 1 < P.length := by
    apply Classical.byContradiction
    intro h
    apply hn
    have : P.length - 1 = 0 := by omega
    unfold ML.slopeL
    rw [this]; rfl
  rw [ML.cf_slopeL]
  have h2 := MP.trim_last hT h1
  have e : P.length - 2 + 1 = P.length - 1 := by omega
  rw [e]
  exact Int.mul_ne_zero (by omega) h2
theorem slope_sz {P : List Int} {n : Nat} (h : ML.Sz n P) (hl : P.length ≤ 100000) : ML.Sz (18 + n) (ML.slopeL P) := ML.Sz.of fun k hk => by
  rw [ML.cf_slopeL]
  have hk' : k < P.length - 1 := by unfold ML.slopeL at hk; simpa using hk
  exact wide_lt (show ((k : Int) + 1).natAbs < 2 ^ 18 by omega) (h.cf (k + 1))
theorem slope_shr {P : List Int} {n : Nat} (h : ML.Sz n P) (hl : P.length ≤ 100000) (hn : n ≤ 8900) (hT : ML.Trim P) (h0 : ML.slopeL P ≠ []) : MS.ShrX (ML.slopeL P) := by
  have ht := slope_top hT h0
  have h1 := MP.gcdL_ne ht
  have h2 := MP.gcdL_le ht
  have h3 := (slope_sz h hl).cf (P.length - 2)
  have h4 := PySem.Flt.log2_lt_of (show 0 < 18 + n by omega) (Nat.lt_of_le_of_lt h2 h3)
  exact ⟨h1, .inl (by omega)⟩
theorem rd_row_of (h : sp_row_of K Cof vs H Q E) : t_row_of K Cof E { nx := fun _ H' => Q .non H', rt := Q } (start ["P", "row", "later", "rest", "one"] vs) H := by
  obtain ⟨a, P, n, f, rfl, hS, hl, hf, sz, ⟨n0, n9⟩, hT, hok, q⟩ := h
  unfold t_row_of
  walk_at "rd"
  refine r_lstK fun p0 H0 hp0 e0 h0 => ?_
  have f0 := Fx.of e0
  walk_at "rd"
  refine r_eqInts (ns := P) (ms := []) (f0.l hS) (SqL.inj h0) ?_
  walk_at "rd"
  refine ite_d (fun hn => ?_) (fun hn => ?_)
  · walk_at "rd"
    refine r_lstK fun p1 H1 hp1 e1 h1 => ?_
    have f1 := f0.ex e1
    refine q p1 [] H1 (f0.free hp1) (fun _ h => by cases h) (fun h => by cases h) f1.to h1 ?_
    rw [hn]; exact trivial
  have ok := hok hn
  walk_at "rd"
  refine c_shrunk (f0.l hS) hl (fun hne => by
    have := shr_ok n0 (by omega) sz hT hne
    exact this) fun p1 H1 hp1 e1 h1 => ?_
  have f1 := f0.ex e1
  walk_at "rd"
  refine r_lstK fun p2 H2 hp2 e2 h2 => ?_
  have f2 := f1.ex e2
  walk_at "rd"
  refine c_slope n (f2.l hS) hl sz ⟨n0, by omega⟩ fun p3 H3 hp3 e3 h3 => ?_
  have f3 := f2.ex e3
  walk_at "rd"
  have lsl : (ML.slopeL P).length ≤ 100000 := by unfold ML.slopeL; simp; omega
  refine c_shrunk (SqL.inj h3) lsl (fun hne => slope_shr sz hl n9 hT hne) fun p4 H4 hp4 e4 h4 => ?_
  have f4 := f3.ex e4
  have h2' : H4 p2 = some (.lst [V.ref p1]) := by walk_at "hp"
  have h1' : H4 p1 = some (.lst ((MP.shrunkL P).map V.int)) := by walk_at "hp"
  have z2 : H p2 = none := f1.free hp2
  have z1 : H p1 = none := f0.free hp1
  have z4 : H p4 = none := f3.free hp4
  have n12 : p1 ≠ p2 := ne_1 hp2 h1
  have n42 : p4 ≠ p2 := ne_2 hp4 (e3 _ _ h2)
  have erow : MS.rowL f P = ([] ++ [MP.shrunkL P]) ++ MS.rowG f (MP.shrunkL P) (MP.shrunkL (ML.slopeL P)) := by unfold MS.rowL; rw [if_neg hn]; rfl
  clear h1 h2 h3 e1 e2 e3 e4 hp1 hp2 hp3 hp4 hok f1 f2 f3
  walk_at "rd"
  refine r_while (fun m σ' H' => ∃ (ps : List Addr) (Rs : List (List Int)) (pa pb : Addr) (A B : List Int) (u3 u4 : Option V), σ' = [some (.ref a), some (.ref p2), some (.ref pb), u3, u4] ∧ Fx H H' ∧ H' p2 = some (.lst ((ps ++ [pa]).map V.ref)) ∧ Rws H' ps Rs ∧ H' pa = some (.lst (A.map V.int)) ∧ H' pb = some (.lst (B.map V.int)) ∧
      (∀ p ∈ ps ++ [pa], H p = none ∧ p ≠ p2) ∧ H pb = none ∧ pb ≠ p2 ∧ ps.length + m ≤ f ∧ MS.RowOk2 m A B ∧ MS.rowL f P = (Rs ++ [A]) ++ MS.rowG m A B) f
    ⟨[], [], p1, p4, _, _, _, _, rfl, f4, h2', trivial, h1', h4, fun p hp => by
      rw [List.nil_append, List.mem_singleton] at hp
      rw [hp]; exact ⟨z1, n12⟩, z4, n42, by simp, ok, erow⟩ (fun m σ' H' hw => ?_)
  obtain ⟨ps, Rs, pa, pb, A, B, u3, u4, rfl, f5, h5, hR, hA, hB, hfr, zb, nb, hlen, ok5, er5⟩ := hw
  clear f4 h2' h1' h4 z1 z4 n12 n42 ok erow h0 e0 hp0 f0
  walk_at "rd"
  refine r_lstK fun p6 H6 hp6 e6 h6 => ?_
  have f6 := f5.ex e6
  walk_at "rd"
  refine r_neInts (ns := B) (ms := []) (by walk_at "sq") (SqL.inj h6) ?_
  walk_at "rd"
  refine ite_nd (fun hne => wh_in ?_) (fun he => ?_)
  · obtain ⟨m, rfl⟩ : ∃ m', m = m' + 1 := by
      cases m with
      | zero => exact absurd ok5 hne
      | succ m => exact ⟨m, rfl⟩
    have ok6 : ML.Trim B ∧ (∃ n m, ML.Sz n A ∧ ML.Sz m B ∧ A.length ≤ 100000 ∧ B.length ≤ 100000 ∧ 0 < n ∧ 0 < m ∧ m ≤ 9000 ∧ n + (2 * m + 1) * (A.length + 1) ≤ 900000) ∧ (MD.remL A B ≠ [] → MG.gcdL ((MD.remL A B).map fun x => 0 - x) ≠ 0 ∧ ML.Sz 4000 (MS.nextL A B)) ∧ MS.RowOk2 m B (MS.nextL A B) := by
      rcases ok5 with h | h
      · exact absurd h hne
      · exact h
    obtain ⟨tB, ⟨n', m', ds⟩, hg, ok7⟩ := ok6
    have e7 : MS.rowG (m + 1) A B = B :: MS.rowG m B (MS.nextL A B) := by
      show (if B = [] then [] else _) = _
      rw [if_neg hne]
    have h5' : H6 p2 = some (.lst ((ps ++ [pa]).map V.ref)) := by walk_at "hp"
    have hA6 : H6 pa = some (.lst (A.map V.int)) := by walk_at "hp"
    have hB6 : H6 pb = some (.lst (B.map V.int)) := by walk_at "hp"
    have hR6 := hR.ex e6
    have npa : pa ≠ p2 := (hfr pa (by simp)).2
    have nps : p2 ∉ ps := fun h => (hfr p2 (by simp [h])).2 rfl
    walk_at "rd"
    refine r_append h5' (by
      rw [List.length_map, List.length_append]
      exact small_lt (by simp; omega)) fun H7 b7 h7 => ?_
    have f7 := f6.mut b7 z2
    have h7' : H7 p2 = some (.lst (ps.map V.ref ++ [V.ref pa, V.ref pb])) := by rw [h7]; simp
    have hA7 : H7 pa = some (.lst (A.map V.int)) := by walk_at "hp"
    have hB7 : H7 pb = some (.lst (B.map V.int)) := by walk_at "hp"
    have hR7 := hR6.exb b7 nps
    clear h5 h5' hA hB hA6 hB6 hR hR6 h6 f5 f6 e6 hp6 b7
    walk_at "rd"
    refine r_ix2 (SqL.inj h7') ?_
    walk_at "rd"
    refine r_ix1 (SqL.inj h7') ?_
    walk_at "rd"
    refine c_divided (P := A) (R := B) n' m' (SqL.inj hA7) (SqL.inj hB7) hne tB ds ?_
    intro t pq pr H8 ht hpq hpr npq e8 hT8 hq8 hr8
    have f8 := f7.ex e8
    walk_at "rd"
    refine r_ixT (.inl (.inl hT8)) (atI_nat (j := 2) rfl) ?_
    walk_at "rd"
    have lrem := MD.rem_len (P := A) tB hne
    have lB : B.length ≤ 100000 := ds.2.2.2.1
    refine lc_ints (fun x => 0 - x) (SqL.inj hr8) (by omega) (fun c hc H9 e9 Q' k' => ?_) fun p9 H9 hp9 e9 h9 => ?_
    · walk_at "rd"
      exact k' _ (Evl.Ex.refl _)
    have f9 := f8.ex e9
    walk_at "rd"
    refine c_shrunk (SqL.inj h9) (by rw [List.length_map]; omega) (fun h => (hg fun e => h (by rw [e]; rfl)).imp id .inr) fun p10 H10 hp10 e10 h10 => ?_
    have f10 := f9.ex e10
    refine ⟨m, by omega, ps ++ [pa], Rs ++ [A], pb, p10, B, MS.nextL A B, _, _, rfl, f10, ?_, ?_, by walk_at "hp", h10, ?_, f9.free hp10, ?_, by simp; omega, ok7, by rw [er5, e7]; simp⟩
    · have : H10 p2 = some (.lst (ps.map V.ref ++ [V.ref pa, V.ref pb])) := by walk_at "hp"
      rw [this]; simp
    · exact Rws.append (((hR7.ex e8).ex e9).ex e10) (show Rws H10 [pa] [A] from ⟨by walk_at "hp", trivial⟩)
    · intro p hp
      rcases List.mem_append.mp hp with h | h
      · exact hfr p h
      · rw [List.mem_singleton] at h
        rw [h]; exact ⟨zb, nb⟩
    · have : H9 p2 = some (.lst (ps.map V.ref ++ [V.ref pa, V.ref pb])) := by walk_at "hp"
      exact ne_2 hp10 this
  · walk_at "rd"
    have e7 : MS.rowG m A B = [] := by
      cases m with
      | zero => rfl
      | succ m => show (if B = [] then [] else _) = _; rw [if_pos he]
    rw [e7, List.append_nil] at er5
    refine q p2 (ps ++ [pa]) H6 z2 (fun p hp => (hfr p hp).1) (fun h => (hfr p2 h).2 rfl) f6.to (by walk_at "hp") ?_
    rw [er5]
    exact Rws.append (hR.ex e6) (show Rws H6 [pa] [A] from ⟨by walk_at "hp", trivial⟩)
theorem c_row_of {a : Addr} {P : List Int} (n f : Nat) (h : SqL K H a (P.map V.int)) (hl : P.length ≤ 100000) (hf : f ≤ 100000) (sz : ML.Sz n P) (hn : 0 < n ∧ n ≤ 8900) (hT : ML.Trim P) (hok : P ≠ [] → MS.RowOk2 f (MP.shrunkL P) (MP.shrunkL (ML.slopeL P))) (q : RetRow (MS.rowL f P) H Q) : sp_row_of K Cof [.ref a] H Q E := ⟨a, P, n, f, rfl, h, hl, hf, sz, hn, hT, hok, q⟩
end

/-! #### changes -/
--USE RN
def sp_changes (K : PySem.W.Frag) (Cof : String → Addr) : Sp := fun vs H Q _ => ∃ (a r : Addr) (ps : List Addr) (Rs : List (List Int)) (t b : Int) (n m : Nat), vs = [.ref a, .ref r] ∧ SqL K H a (ps.map V.ref) ∧ Rws H ps Rs ∧ IsR (Cof "Ratio") H r t b ∧ (∀ P ∈ Rs, HSz n m P t b) ∧ Q (.int (MH.chg Rs t b).1) H
def t_changes (K : PySem.W.Frag) (Cof : String → Addr) (E : XK) : TS :=
  tSeq (tAsg (tC (.int 0)) (gName 2))
  (tSeq (tAsg (tC (.int 0)) (gName 3))
  (tSeq (tFor (iList K (tVar 0)) (gName 4) (tSeq (tAsg (tCall (sp_sign_at K Cof) [] E0 (tCons (tVar 4) (tCons (tVar 1) (tNil)))) (gName 5))
  (tIfS (tTest (tOp rNe (tVar 5) (tC (.int 0)))) (tCut (tIfS (tTest (tOp rEq (tVar 3) (tOp rISub (tC (.int 0)) (tVar 5)))) (tAsg (tOp rIAdd (tVar 2) (tC (.int 1))) (gName 2)) (tNext))
  (tAsg (tVar 5) (gName 3))) (tNext))))
  (tRet (tVar 2))))

section
variable {K : PySem.W.Frag} {Cof : String → Addr} {vs : List V} {H : Hp} {Q : VK} {E : XK}
theorem len_changes (h : sp_changes K Cof vs H Q E) : vs.length = 2 := by
  obtain ⟨a, r, ps, Rs, t, b, n, m, rfl, _⟩ := h; rfl
theorem rd_changes (h : sp_changes K Cof vs H Q E) : t_changes K Cof E { nx := fun _ H' => Q .non H', rt := Q } (start ["row", "r", "many", "last", "P", "sign"] vs) H := by
  obtain ⟨a, r, ps, Rs, t, b, n, m, rfl, hA, hW, hR, s, q⟩ := h
  unfold t_changes
  walk_at "rd"
  refine loop_list (xs := ps.map V.ref) (fun i σ' H' => ∃ u v, σ' = [some (.ref a), some (.ref r), some (.int (MH.chg (Rs.take i) t b).1), some (.int (MH.chg (Rs.take i) t b).2), u, v] ∧ H' = H) ⟨_, _, rfl, rfl⟩ (fun i σ' H' _ hp => ?_) (fun i x σ' H' hx hp => ?_) (fun σ' H' hp => ?_)
  · obtain ⟨u, v, rfl, rfl⟩ := hp
    exact hA
  · obtain ⟨u, v, rfl, rfl⟩ := hp
    rw [List.getElem?_map] at hx
    obtain ⟨p, hp, rfl⟩ := Option.map_eq_some_iff.mp hx
    obtain ⟨P, hP, hpP⟩ := hW.get hp
    rw [MH.chg_take hP]
    generalize MH.chg (Rs.take i) t b = st
    walk_at "rd"
    refine c_sign_at n m (SqL.inj hpP) hR (s P (List.mem_of_getElem? hP)) ?_
    generalize ordI (MH.topL P t b) 0 = sg
    walk_at "rd"
    unfold MH.stp
    refine ite_nd (fun h => ?_) (fun h => ?_)
    · walk_at "rd"
      refine ⟨fun σ2 H2 => σ2 = [some (.ref a), some (.ref r), some (.int (if st.2 = 0 - sg then st.1 + 1 else st.1)), some (.int st.2), some (.ref p), some (.int sg)] ∧ H' = H2, ?_, fun σ2 H2 hM => ?_⟩
      · walk_at "rd"
        refine ite_d (fun h2 => ?_) (fun h2 => ?_)
        · walk_at "rd"
          rw [if_pos h2]
          exact ⟨rfl, rfl⟩
        · walk_at "rd"
          rw [if_neg h2]
          exact ⟨rfl, rfl⟩
      obtain ⟨rfl, rfl⟩ := hM
      walk_at "rd"
      rw [if_pos h]
      exact ⟨_, _, rfl, rfl⟩
    · walk_at "rd"
      rw [if_neg (fun z => z h)]
      exact ⟨_, _, rfl, rfl⟩
  · obtain ⟨u, v, rfl, rfl⟩ := hp
    have el := hW.len
    rw [List.length_map, el, List.take_length]
    walk_at "rd"
    exact q
theorem c_changes {a r : Addr} {ps : List Addr} {Rs : List (List Int)} {t b : Int} (n m : Nat) (hA : SqL K H a (ps.map V.ref)) (hW : Rws H ps Rs) (hR : IsR (Cof "Ratio") H r t b) (s : ∀ P ∈ Rs, HSz n m P t b) (q : Q (.int (MH.chg Rs t b).1) H) : sp_changes K Cof [.ref a, .ref r] H Q E := ⟨a, r, ps, Rs, t, b, n, m, rfl, hA, hW, hR, s, q⟩
end

/-! #### count -/
def sp_count (K : PySem.W.Frag) (Cof : String → Addr) : Sp := fun vs H Q _ => ∃ (a r r2 : Addr) (ps : List Addr) (Rs : List (List Int)) (t b t2 b2 : Int) (n m : Nat), vs = [.ref a, .ref r, .ref r2] ∧ SqL K H a (ps.map V.ref) ∧ Rws H ps Rs ∧ IsR (Cof "Ratio") H r t b ∧ IsR (Cof "Ratio") H r2 t2 b2 ∧ (∀ P ∈ Rs, HSz n m P t b) ∧ (∀ P ∈ Rs, HSz n m P t2 b2) ∧ Q (.int ((MH.chg Rs t b).1 - (MH.chg Rs t2 b2).1)) H
def t_count (K : PySem.W.Frag) (Cof : String → Addr) (E : XK) : TS :=
  tRet (tOp rISub (tCall (sp_changes K Cof) [] E0 (tCons (tVar 0) (tCons (tVar 1) (tNil)))) (tCall (sp_changes K Cof) [] E0 (tCons (tVar 0) (tCons (tVar 2) (tNil)))))

section
variable {K : PySem.W.Frag} {Cof : String → Addr} {vs : List V} {H : Hp} {Q : VK} {E : XK}
theorem len_count (h : sp_count K Cof vs H Q E) : vs.length = 3 := by
  obtain ⟨a, r, r2, ps, Rs, t, b, t2, b2, n, m, rfl, _⟩ := h; rfl
theorem rd_count (h : sp_count K Cof vs H Q E) : t_count K Cof E { nx := fun _ H' => Q .non H', rt := Q } (start ["row", "low", "high"] vs) H := by
  obtain ⟨a, r, r2, ps, Rs, t, b, t2, b2, n, m, rfl, hA, hW, hR, hR2, s, s2, q⟩ := h
  unfold t_count
  walk_at "rd"
  refine c_changes n m hA hW hR s ?_
  walk_at "rd"
  refine c_changes n m hA hW hR2 s2 ?_
  walk_at "rd"
  exact q
theorem c_count {a r r2 : Addr} {ps : List Addr} {Rs : List (List Int)} {t b t2 b2 : Int} (n m : Nat) (hA : SqL K H a (ps.map V.ref)) (hW : Rws H ps Rs) (hR : IsR (Cof "Ratio") H r t b) (hR2 : IsR (Cof "Ratio") H r2 t2 b2) (s : ∀ P ∈ Rs, HSz n m P t b) (s2 : ∀ P ∈ Rs, HSz n m P t2 b2) (q : Q (.int ((MH.chg Rs t b).1 - (MH.chg Rs t2 b2).1)) H) : sp_count K Cof [.ref a, .ref r, .ref r2] H Q E := ⟨a, r, r2, ps, Rs, t, b, t2, b2, n, m, rfl, hA, hW, hR, hR2, s, s2, q⟩
end

/-! #### _law_cell_at -/
/-- the k-th cell, 0 beyond the last one -/
def cellOf (ns : List Int) (k : Int) : Int := ns.getD k.toNat 0
def sp__law_cell_at (K : PySem.W.Frag) (Cof : String → Addr) : Sp := fun vs H Q _ => ∃ (a : Addr) (ns : List Int) (k : Int), vs = [.ref a, .int k] ∧ SqL K H a (ns.map V.int) ∧ 0 ≤ k ∧ Q (.int (cellOf ns k)) H
def t__law_cell_at (K : PySem.W.Frag) (Cof : String → Addr) (E : XK) : TS :=
  tSeq (tIfS (tTest (tOp rLt (tVar 1) (tCB (rLenS K) (tCons (tVar 0) (tNil))))) (tRet (tOp (rIxL K) (tVar 0) (tVar 1))) (tNext))
  (tRet (tC (.int 0)))

section
variable {K : PySem.W.Frag} {Cof : String → Addr} {vs : List V} {H : Hp} {Q : VK} {E : XK}
theorem len__law_cell_at (h : sp__law_cell_at K Cof vs H Q E) : vs.length = 2 := by
  obtain ⟨a, ns, k, rfl, _⟩ := h; rfl
theorem rd__law_cell_at (h : sp__law_cell_at K Cof vs H Q E) : t__law_cell_at K Cof E { nx := fun _ H' => Q .non H', rt := Q } (start ["_law_script", "_law_k"] vs) H := by
  obtain ⟨a, ns, k, rfl, hS, h0, q⟩ := h
  obtain ⟨k, rfl⟩ : ∃ n : Nat, k = (n : Int) := ⟨k.toNat, by omega⟩
  unfold t__law_cell_at
  walk_at "rd"
  try rw [List.length_map]
  refine ite_d (fun h => ?_) (fun h => ?_)
  · walk_at "rd"
    have hk : k < ns.length := by omega
    exact r_ixI hS h0 h q
  · walk_at "rd"
    have e : cellOf ns k = 0 := by
      unfold cellOf
      rw [List.getD_eq_getElem?_getD, List.getElem?_eq_none (by omega)]; rfl
    rw [e] at q
    exact q
theorem c__law_cell_at {a : Addr} {ns : List Int} {k : Int} (h : SqL K H a (ns.map V.int)) (h0 : 0 ≤ k) (q : Q (.int (cellOf ns k)) H) : sp__law_cell_at K Cof [.ref a, .int k] H Q E := ⟨a, ns, k, rfl, h, h0, q⟩
end
local macro_rules | `(tactic| walk_at "call") => `(tactic| ((with_reducible refine' c__law_cell_at ?h ?h0 ?_); (case h => walk_at "sq"); (case h0 => first | decide | omega)))

/-! #### _law_whole -/
def sp__law_whole (K : PySem.W.Frag) (Cof : String → Addr) : Sp := fun vs H Q _ => ∃ i : Int, vs = [.int i] ∧ Q (.bl true) H
def t__law_whole (K : PySem.W.Frag) (Cof : String → Addr) (E : XK) : TS :=
  tRet (tAndV (tCB (rIsi K) (tCons (tVar 0) (tCons (tC (.ty "int")) (tNil)))) (tNotV (tCB (rIsi K) (tCons (tVar 0) (tCons (tC (.ty "bool")) (tNil))))))

section
variable {K : PySem.W.Frag} {Cof : String → Addr} {vs : List V} {H : Hp} {Q : VK} {E : XK}
theorem len__law_whole (h : sp__law_whole K Cof vs H Q E) : vs.length = 1 := by
  obtain ⟨i, rfl, _⟩ := h; rfl
theorem rd__law_whole (h : sp__law_whole K Cof vs H Q E) : t__law_whole K Cof E { nx := fun _ H' => Q .non H', rt := Q } (start ["_law_found"] vs) H := by
  obtain ⟨i, rfl, q⟩ := h
  unfold t__law_whole
  walk_at "rd"
  refine r_isi (.base (.int i)) (.ty _) (kit_ty (r := true) (by decide +kernel)) ?_
  walk_at "rd"
  refine r_isi (.base (.int i)) (.ty _) (kit_ty (r := false) (by decide +kernel)) ?_
  walk_at "rd"
  exact q
end
theorem c__law_whole {K : PySem.W.Frag} {Cof : String → Addr} {H : Hp} {Q : VK} {E : XK} {i : Int} (q : Q (.bl true) H) : sp__law_whole K Cof [.int i] H Q E := ⟨i, rfl, q⟩
local macro_rules | `(tactic| walk_at "call") => `(tactic| with_reducible refine c__law_whole ?_)

/-! #### _law_within -/
/-- a number from -s to s -/
def sgn (c s : Int) : Int := c.fmod (2 * s + 1) - s
theorem sgn_ge {c s : Int} (h : 0 ≤ s) : -s ≤ sgn c s := by
  have := Int.fmod_nonneg_of_pos c (show 0 < 2 * s + 1 by omega)
  unfold sgn; omega
theorem sgn_le {c s : Int} (h : 0 ≤ s) : sgn c s ≤ s := by
  have := Int.fmod_lt_of_pos c (show 0 < 2 * s + 1 by omega)
  unfold sgn; omega
theorem sgn_abs {c s : Int} {n : Nat} (h : 0 ≤ s) (hs : s.natAbs < 2 ^ n) : (sgn c s).natAbs < 2 ^ n := by
  have h1 := sgn_ge (c := c) h
  have h2 := sgn_le (c := c) h
  generalize 2 ^ n = m at hs ⊢
  omega
def sp__law_within (K : PySem.W.Frag) (Cof : String → Addr) : Sp := fun vs H Q _ => ∃ c s : Int, vs = [.int c, .int s] ∧ 0 ≤ s ∧ s.natAbs < 2 ^ 4000 ∧ Q (.int (sgn c s)) H
def t__law_within (K : PySem.W.Frag) (Cof : String → Addr) (E : XK) : TS :=
  tRet (tOp rISub (tOp rMod (tVar 0) (tOp rIAdd (tOp rMul (tC (.int 2)) (tVar 1)) (tC (.int 1)))) (tVar 1))

section
variable {K : PySem.W.Frag} {Cof : String → Addr} {vs : List V} {H : Hp} {Q : VK} {E : XK}
theorem len__law_within (h : sp__law_within K Cof vs H Q E) : vs.length = 2 := by
  obtain ⟨c, s, rfl, _⟩ := h; rfl
theorem rd__law_within (h : sp__law_within K Cof vs H Q E) : t__law_within K Cof E { nx := fun _ H' => Q .non H', rt := Q } (start ["_law_cell", "_law_most"] vs) H := by
  obtain ⟨c, s, rfl, h0, hs, q⟩ := h
  unfold t__law_within
  walk_at "rd"
  refine r_mul (wide_mul (a := 2) (by decide) hs (by decide) (by decide) (by decide)) ?_
  walk_at "rd"
  exact q
end
theorem c__law_within {K : PySem.W.Frag} {Cof : String → Addr} {H : Hp} {Q : VK} {E : XK} {c s : Int} (h0 : 0 ≤ s) (h1 : s.natAbs < 2 ^ 4000) (q : Q (.int (sgn c s)) H) : sp__law_within K Cof [.int c, .int s] H Q E := ⟨c, s, rfl, h0, h1, q⟩

/-! #### _law_trim -/
--USE ML
def sp__law_trim (K : PySem.W.Frag) (Cof : String → Addr) : Sp := fun vs H Q _ => ∃ (a : Addr) (ns : List Int), vs = [.ref a] ∧ SqL K H a (ns.map V.int) ∧ ns.length ≤ 1000000 ∧ RetI (ML.trimL ns) H Q
def t__law_trim (K : PySem.W.Frag) (Cof : String → Addr) (E : XK) : TS :=
  tSeq (tAsg (tCB (rLenS K) (tCons (tVar 0) (tNil))) (gName 1))
  (tSeq (tWhile (tAnd (tTest (tOp rGt (tVar 1) (tC (.int 0)))) (tTest (tOp rEq (tOp (rIxL K) (tVar 0) (tOp rISub (tVar 1) (tC (.int 1)))) (tC (.int 0))))) (tAsg (tOp rISub (tVar 1) (tC (.int 1))) (gName 1)))
  (tRet (tSl (rSlL K) (tVar 0) (tNoPart) (tPart (tVar 1)))))

section
variable {K : PySem.W.Frag} {Cof : String → Addr} {vs : List V} {H : Hp} {Q : VK} {E : XK}
theorem len__law_trim (h : sp__law_trim K Cof vs H Q E) : vs.length = 1 := by
  obtain ⟨a, ns, rfl, _⟩ := h; rfl
theorem rd__law_trim (h : sp__law_trim K Cof vs H Q E) : t__law_trim K Cof E { nx := fun _ H' => Q .non H', rt := Q } (start ["_law_row_here", "_law_size"] vs) H := by
  obtain ⟨a, ns, rfl, hS, hl, q⟩ := h
  unfold t__law_trim
  walk_at "rd"
  try rw [List.length_map]
  refine r_while (fun m σ' H' => σ' = [some (.ref a), some (.int (m : Int))] ∧ H' = H ∧ m ≤ ns.length ∧ ∀ k, m ≤ k → ML.cf ns k = 0) ns.length ⟨rfl, rfl, Nat.le_refl _, fun k hk => ML.cf_beyond hk⟩ (fun m σ' H' hw => ?_)
  obtain ⟨rfl, rfl, hm, h0⟩ := hw
  walk_at "rd"
  refine ite_d (fun hp => ?_) (fun hp => ?_)
  · walk_at "rd"
    refine r_ixI hS (by omega) (by omega) ?_
    walk_at "rd"
    have e : ns.getD ((m : Int) - 1).toNat 0 = ML.cf ns (m - 1) := by
      unfold ML.cf; congr 1; omega
    rw [e]
    refine ite_d (fun hz => wh_in ?_) (fun hz => ?_)
    · walk_at "rd"
      have e1 : (m : Int) - 1 = ((m - 1 : Nat) : Int) := by omega
      exact ⟨m - 1, by omega, by rw [e1]; rfl, rfl, by omega, fun k hk => by
        by_cases hk' : k = m - 1
        · rw [hk', hz]
        · exact h0 k (by omega)⟩
    · walk_at "rd"
      refine r_slI hS fun p H' hp e h => q p H' hp e ?_
      rw [ML.trimL_take hm h0 (.inr hz), ← sliceI_to hm]
      exact h
  · walk_at "rd"
    refine r_slI hS fun p H' hp e h => q p H' hp e ?_
    rw [ML.trimL_take hm h0 (.inl (by omega)), ← sliceI_to hm]
    exact h
theorem c__law_trim {a : Addr} {ns : List Int} (h : SqL K H a (ns.map V.int)) (hl : ns.length ≤ 1000000) (q : ∀ p H', H p = none → Ex H H' → H' p = some (.lst ((ML.trimL ns).map V.int)) → Q (.ref p) H') : sp__law_trim K Cof [.ref a] H Q E := ⟨a, ns, rfl, h, hl, q⟩
end

/-! #### _law_mul -/
--USE ML
def sp__law_mul (K : PySem.W.Frag) (Cof : String → Addr) : Sp := fun vs H Q _ => ∃ (a b : Addr) (P R : List Int) (n m : Nat), vs = [.ref a, .ref b] ∧ SqL K H a (P.map V.int) ∧ SqL K H b (R.map V.int) ∧ P.length ≤ 100000 ∧ R.length ≤ 100000 ∧ ML.Sz n P ∧ ML.Sz m R ∧ (0 < n ∧ 0 < m ∧ n + m ≤ 1000000) ∧ RetI (ML.mulU P R) H Q
def t__law_mul (K : PySem.W.Frag) (Cof : String → Addr) (E : XK) : TS :=
  tSeq (tIfS (tOr (tTest (tOp rEq (tCB (rLenS K) (tCons (tVar 0) (tNil))) (tC (.int 0)))) (tTest (tOp rEq (tCB (rLenS K) (tCons (tVar 1) (tNil))) (tC (.int 0))))) (tRet (tLst (tNil))) (tNext))
  (tSeq (tAsg (tLc (iRng1 (tCons (tOp rISub (tOp rIAdd (tCB (rLenS K) (tCons (tVar 0) (tNil))) (tCB (rLenS K) (tCons (tVar 1) (tNil)))) (tC (.int 1))) (tNil))) (gName 3) (tYes) (tC (.int 0)) [3]) (gName 2))
  (tSeq (tFor (iEnum K (tCons (tVar 0) (tNil))) (gTup K 2 (gCons (gName 4) (gCons (gName 5) (gNil)))) (tFor (iEnum K (tCons (tVar 1) (tNil))) (gTup K 2 (gCons (gName 6) (gCons (gName 7) (gNil)))) (tAsg (tOp rIAdd (tOp (rIxL K) (tVar 2) (tOp rIAdd (tVar 4) (tVar 6))) (tOp rMul (tVar 5) (tVar 7))) (gSub (tVar 2) (tOp rIAdd (tVar 4) (tVar 6)) rSetL))))
  (tRet (tVar 2))))

section
variable {K : PySem.W.Frag} {Cof : String → Addr} {vs : List V} {H : Hp} {Q : VK} {E : XK}
theorem len__law_mul (h : sp__law_mul K Cof vs H Q E) : vs.length = 2 := by
  obtain ⟨a, b, P, R, n, m, rfl, _⟩ := h; rfl
theorem rd__law_mul (h : sp__law_mul K Cof vs H Q E) : t__law_mul K Cof E { nx := fun _ H' => Q .non H', rt := Q } (start ["_law_kp", "_law_kq", "_law_made", "_law_k", "_law_i", "_law_one", "_law_j", "_law_other"] vs) H := by
  obtain ⟨a, b, P, R, n, m, rfl, hA, hB, lA, lB, sA, sB, ⟨n0, m0, nm⟩, q⟩ := h
  unfold t__law_mul
  have f0 := Fx.refl H
  have nil_ : ∀ {D : Ends} {σ : L2.St}, ML.mulU P R = [] → D.rt = Q → tRet (tLst tNil) D σ H := fun {D σ} e eD => by
    walk_at "rd"
    rw [eD]
    exact r_lstK fun p1 H1 hp1 e1 h1 => q p1 H1 hp1 e1 (by rw [e]; exact h1)
  walk_at "rd"
  refine ite_d (fun h0 => ?_) (fun h0 => ?_)
  · walk_at "rd"
    refine r_lstK fun p1 H1 hp1 e1 h1 => q p1 H1 hp1 e1 ?_
    have : P = [] := List.eq_nil_of_length_eq_zero (by omega)
    unfold ML.mulU
    rw [if_pos (.inl this)]; exact h1
  walk_at "rd"
  refine ite_d (fun h1 => ?_) (fun h1 => ?_)
  · walk_at "rd"
    refine r_lstK fun p1 H1 hp1 e1 hh1 => q p1 H1 hp1 e1 ?_
    have : R = [] := List.eq_nil_of_length_eq_zero (by omega)
    unfold ML.mulU
    rw [if_pos (.inr this)]; exact hh1
  clear nil_
  walk_at "rd"
  refine r_cRng1A (by omega) (by omega) ?_
  have el : ((P.length : Int) + (R.length : Int) - 1).toNat = P.length + R.length - 1 := by omega
  rw [el]
  refine lc_rangeI (fun _ => 0) (by omega) (fun i hi H4 e4 Q' k' => ?_) fun p H1 hp e1 h2 => ?_
  · walk_at "rd"
    exact k' _ (Evl.Ex.refl _)
  have f1 := f0.ex e1
  rw [List.map_const', List.length_range] at h2
  walk_at "rd"
  refine loop_enum (xs := P.map V.int) (fun k σ' H' => ∃ (rs : List Int) (u1 u2 u3 u4 u5 : Option V), σ' = [some (.ref a), some (.ref b), some (.ref p), u1, u2, u3, u4, u5] ∧ Fx H H' ∧ H' p = some (.lst (rs.map V.int)) ∧ rs.length = P.length + R.length - 1 ∧ ∀ j, ML.cf rs j = ML.pcv P R k j)
    ⟨_, _, _, _, _, _, rfl, f1, h2, by rw [List.length_replicate], fun j => by rw [ML.cf_rep0]; rfl⟩ (fun i σ' H' _ hp' => ?_) (fun k x σ' H' H2' hx hp' e2 => ?_) (fun σ' H' hp' => ?_)
  · obtain ⟨rs, u1, u2, u3, u4, u5, rfl, f2, _⟩ := hp'
    exact f2.l hA
  · obtain ⟨rs, u1, u2, u3, u4, u5, rfl, f2, h3, l3, c3⟩ := hp'
    have f2' := f2.ex e2
    obtain ⟨hk, ek⟩ := List.getElem?_eq_some_iff.mp hx
    rw [List.length_map] at hk
    have ex : x = .int (ML.cf P k) := by
      rw [← ek, List.getElem_map, ML.cf_get hk]
    subst ex
    have hB2 := f2'.l hB
    walk_at "rd"
    refine loop_enum (xs := R.map V.int) (fun i σ2 H2 => ∃ (rs : List Int) (u4 u5 : Option V), σ2 = [some (.ref a), some (.ref b), some (.ref p), u1, some (.int (k : Int)), some (.int (ML.cf P k)), u4, u5] ∧ Fx H H2 ∧ H2 p = some (.lst (rs.map V.int)) ∧ rs.length = P.length + R.length - 1 ∧ ∀ j, ML.cf rs j = ML.pcw P R k i j)
      ⟨rs, _, _, rfl, f2', by walk_at "hp", l3, fun j => by rw [ML.pcw_zero]; exact c3 j⟩ (fun i σ2 H2 _ hp2 => ?_) (fun i x σ2 H2 H2' hx hp2 e2 => ?_) (fun σ2 H2 hp2 => ?_)
    · obtain ⟨rs, u4, u5, rfl, f3, _⟩ := hp2
      exact f3.l hB
    · obtain ⟨rs, u4, u5, rfl, f3, h4, l4, c4⟩ := hp2
      have f3' := f3.ex e2
      obtain ⟨hi, ei⟩ := List.getElem?_eq_some_iff.mp hx
      rw [List.length_map] at hi
      have ex : x = .int (ML.cf R i) := by
        rw [← ei, List.getElem_map, ML.cf_get hi]
      subst ex
      have eki : (k : Int) + (i : Int) = ((k + i : Nat) : Int) := by omega
      walk_at "rd"
      rw [eki]
      refine r_ixI (ns := rs) (by walk_at "sq") (by omega) (by omega) ?_
      rw [Int.toNat_natCast]
      walk_at "rd"
      refine r_mul (wide_mul (sA.cf k) (sB.cf i) n0 m0 nm) ?_
      walk_at "rd"
      rw [eki]
      refine r_setL (p := p) (xs := rs.map V.int) (by walk_at "hp") (Evl.ixN_nat (by rw [List.length_map]; omega)) fun H4 b4 h5 => ?_
      refine ⟨rs.set (k + i) (ML.cf rs (k + i) + ML.cf P k * ML.cf R i), _, _, rfl, f3'.mut b4 hp, by rw [List.map_set]; exact h5, by rw [List.length_set]; exact l4, fun j => ?_⟩
      rw [ML.cf_set (by omega), ML.pcw_step, c4]
      by_cases hj : j = k + i
      · rw [if_pos hj, if_pos hj, hj]
      · rw [if_neg hj, if_neg hj, c4]
    · obtain ⟨rs, u4, u5, rfl, f3, h4, l4, c4⟩ := hp2
      exact ⟨rs, _, _, _, _, _, rfl, f3, h4, l4, fun j => by rw [c4, List.length_map, ML.pcw_full]⟩
  · obtain ⟨rs, u1, u2, u3, u4, u5, rfl, f2, h3, l3, c3⟩ := hp'
    walk_at "rd"
    refine q p H' hp f2.to ?_
    have e : rs = ML.mulU P R := by
      have hne : ¬ (P = [] ∨ R = []) := by
        rintro (h | h)
        · subst h; exact h0 rfl
        · subst h; exact h1 rfl
      refine ML.ext (by unfold ML.mulU; rw [if_neg hne]; simpa using l3) fun j _ => ?_
      rw [c3, List.length_map, ML.pcv_full, ML.cf_mulU]
    rw [← e]
    exact h3
theorem c__law_mul {a b : Addr} {P R : List Int} (n m : Nat) (hA : SqL K H a (P.map V.int)) (hB : SqL K H b (R.map V.int)) (lA : P.length ≤ 100000) (lB : R.length ≤ 100000) (sA : ML.Sz n P) (sB : ML.Sz m R) (h0 : 0 < n ∧ 0 < m ∧ n + m ≤ 1000000) (q : ∀ p H', H p = none → Ex H H' → H' p = some (.lst ((ML.mulU P R).map V.int)) → Q (.ref p) H') : sp__law_mul K Cof [.ref a, .ref b] H Q E := ⟨a, b, P, R, n, m, rfl, hA, hB, lA, lB, sA, sB, h0, q⟩
end

/-! #### _law_gcd -/
--USE MG
def sp__law_gcd (K : PySem.W.Frag) (Cof : String → Addr) : Sp := fun vs H Q _ => ∃ x y : Int, vs = [.int x, .int y] ∧ Q (.int (Int.gcd x y)) H
def t__law_gcd (K : PySem.W.Frag) (Cof : String → Addr) (E : XK) : TS :=
  tSeq (tAsg (tCB rAbs (tCons (tVar 0) (tNil))) (gName 0))
  (tSeq (tAsg (tCB rAbs (tCons (tVar 1) (tNil))) (gName 1))
  (tSeq (tWhile (tTest (tOp rGt (tVar 1) (tC (.int 0)))) (tSeq (tAsg (tOp rMod (tVar 0) (tVar 1)) (gName 2))
  (tSeq (tAsg (tVar 1) (gName 0))
  (tAsg (tVar 2) (gName 1)))))
  (tRet (tVar 0))))

section
variable {K : PySem.W.Frag} {Cof : String → Addr} {vs : List V} {H : Hp} {Q : VK} {E : XK}
theorem len__law_gcd (h : sp__law_gcd K Cof vs H Q E) : vs.length = 2 := by
  obtain ⟨x, y, rfl, _⟩ := h; rfl
theorem rd__law_gcd (h : sp__law_gcd K Cof vs H Q E) : t__law_gcd K Cof E { nx := fun _ H' => Q .non H', rt := Q } (start ["_law_a", "_law_b", "_law_rest_here"] vs) H := by
  obtain ⟨x, y, rfl, q⟩ := h
  unfold t__law_gcd
  walk_at "rd"
  have ex : (if x < 0 then -x else x) = (x.natAbs : Int) := by split <;> omega
  have ey : (if y < 0 then -y else y) = (y.natAbs : Int) := by split <;> omega
  rw [ex, ey]
  refine r_while (fun m σ2 H2 => ∃ (f o : Int) (r : Option V), σ2 = [some (.int f), some (.int o), r] ∧ H2 = H ∧ m = o.natAbs ∧ 0 ≤ f ∧ 0 ≤ o ∧ Int.gcd f o = Int.gcd x y) y.natAbs ⟨_, _, _, rfl, rfl, by omega, by omega, by omega, by unfold Int.gcd; rfl⟩ (fun m σ2 H2 hw => ?_)
  obtain ⟨f, o, r, rfl, rfl, rfl, hf, ho, hg⟩ := hw
  walk_at "rd"
  refine ite_d (fun h => wh_in ?_) (fun h => ?_)
  · walk_at "rd"
    exact ⟨_, MG.fmod_lt (by omega), o, f.fmod o, _, rfl, rfl, rfl, ho, Int.fmod_nonneg_of_pos _ h, by rw [MG.gcd_fmod]; exact hg⟩
  · walk_at "rd"
    have : o = 0 := by omega
    rw [this, Int.gcd_zero_right] at hg
    have e : f = (Int.gcd x y : Int) := by omega
    rw [e]
    exact q
theorem c__law_gcd {x y : Int} (q : Q (.int (Int.gcd x y)) H) : sp__law_gcd K Cof [.int x, .int y] H Q E := ⟨x, y, rfl, q⟩
end
local macro_rules | `(tactic| walk_at "call") => `(tactic| with_reducible refine c__law_gcd ?_)

/-! #### _law_shrunk -/
--USE CR
def sp__law_shrunk (K : PySem.W.Frag) (Cof : String → Addr) : Sp := fun vs H Q _ => ∃ (a : Addr) (P : List Int), vs = [.ref a] ∧ SqL K H a (P.map V.int) ∧ P.length ≤ 100000 ∧ ML.Trim P ∧ (P ≠ [] → MS.ShrX P) ∧ RetI (MP.shrunkL P) H Q
def t__law_shrunk (K : PySem.W.Frag) (Cof : String → Addr) (E : XK) : TS :=
  tSeq (tAsg (tC (.int 0)) (gName 1))
  (tSeq (tFor (iList K (tVar 0)) (gName 2) (tAsg (tCall (sp__law_gcd K Cof) [] E0 (tCons (tVar 1) (tCons (tVar 2) (tNil)))) (gName 1)))
  (tSeq (tIfS (tTest (tOp rEq (tVar 1) (tC (.int 0)))) (tRet (tLst (tNil))) (tNext))
  (tRet (tLc (iList K (tVar 0)) (gName 2) (tYes) (tOp rDiv (tVar 2) (tVar 1)) [2]))))

section
variable {K : PySem.W.Frag} {Cof : String → Addr} {vs : List V} {H : Hp} {Q : VK} {E : XK}
theorem len__law_shrunk (h : sp__law_shrunk K Cof vs H Q E) : vs.length = 1 := by
  obtain ⟨a, P, rfl, _⟩ := h; rfl
theorem rd__law_shrunk (h : sp__law_shrunk K Cof vs H Q E) : t__law_shrunk K Cof E { nx := fun _ H' => Q .non H', rt := Q } (start ["_law_kp", "_law_most", "_law_one"] vs) H := by
  obtain ⟨a, P, rfl, hS, hl, hT, hg, q⟩ := h
  unfold t__law_shrunk
  walk_at "rd"
  refine loop_ints (ns := P) (fun i σ' H' => ∃ u, σ' = [some (.ref a), some (.int (MG.gcdN (P.take i))), u] ∧ H' = H) ⟨_, rfl, rfl⟩ (fun i σ' H' _ hp => ?_) (fun i x σ' H' hx hp => ?_) (fun σ' H' hp => ?_)
  · obtain ⟨u, rfl, rfl⟩ := hp
    exact hS
  · obtain ⟨u, rfl, rfl⟩ := hp
    walk_at "rd"
    exact ⟨_, by rw [MG.gcdN_take hx]; rfl, rfl⟩
  obtain ⟨u, rfl, rfl⟩ := hp
  rw [List.take_length]
  walk_at "rd"
  refine ite_d (fun h0 => ?_) (fun h0 => ?_)
  · walk_at "rd"
    refine r_lstK fun p1 H1 hp1 e1 h1 => q p1 H1 hp1 e1 ?_
    have e : P = [] := by
      apply Classical.byContradiction
      intro hn
      exact (hg hn).1 h0
    rw [e]; exact h1
  · walk_at "rd"
    have hn : P ≠ [] := fun e => h0 (by rw [e]; rfl)
    refine lc_ints (fun x => x.fdiv (MG.gcdL P)) hS (by omega) (fun x hx H1 e1 Q' k' => ?_) (fun p H1 hp e1 h1 => q p H1 hp e1 h1)
    walk_at "rd"
    refine r_divX ((hg hn).div hx) ?_
    exact k' _ (Evl.Ex.refl _)
theorem c__law_shrunk {a : Addr} {P : List Int} (h : SqL K H a (P.map V.int)) (hl : P.length ≤ 100000) (hT : ML.Trim P) (hg : P ≠ [] → MS.ShrX P) (q : ∀ p H', H p = none → Ex H H' → H' p = some (.lst ((MP.shrunkL P).map V.int)) → Q (.ref p) H') : sp__law_shrunk K Cof [.ref a] H Q E := ⟨a, P, rfl, h, hl, hT, hg, q⟩
end

/-! #### _law_plain -/
--USE CR
def sp__law_plain (K : PySem.W.Frag) (Cof : String → Addr) : Sp := fun vs H Q _ => ∃ (a : Addr) (P : List Int), vs = [.ref a] ∧ SqL K H a (P.map V.int) ∧ P.length ≤ 100000 ∧ ML.Trim P ∧ (P ≠ [] → MG.gcdL P ≠ 0 ∧ (MG.gcdL P).natAbs.log2 < 9000) ∧ RetI (MP.plainL P) H Q
def t__law_plain (K : PySem.W.Frag) (Cof : String → Addr) (E : XK) : TS :=
  tSeq (tAsg (tCall (sp__law_shrunk K Cof) [] E0 (tCons (tVar 0) (tNil))) (gName 1))
  (tSeq (tIfS (tAnd (tTest (tOp rGt (tCB (rLenS K) (tCons (tVar 1) (tNil))) (tC (.int 0)))) (tTest (tOp rLt (tOp (rIxL K) (tVar 1) (tUn rNeg (tC (.int 1)))) (tC (.int 0))))) (tRet (tLc (iList K (tVar 1)) (gName 2) (tYes) (tOp rISub (tC (.int 0)) (tVar 2)) [2])) (tNext))
  (tRet (tVar 1)))

section
variable {K : PySem.W.Frag} {Cof : String → Addr} {vs : List V} {H : Hp} {Q : VK} {E : XK}
theorem len__law_plain (h : sp__law_plain K Cof vs H Q E) : vs.length = 1 := by
  obtain ⟨a, P, rfl, _⟩ := h; rfl
theorem rd__law_plain (h : sp__law_plain K Cof vs H Q E) : t__law_plain K Cof E { nx := fun _ H' => Q .non H', rt := Q } (start ["_law_kp", "_law_made", "_law_one"] vs) H := by
  obtain ⟨a, P, rfl, hS, hl, hT, hg, q⟩ := h
  unfold t__law_plain
  walk_at "rd"
  refine c__law_shrunk hS hl hT (fun hn => ⟨(hg hn).1, .inl (hg hn).2⟩) fun p1 H1 hp1 e1 h1 => ?_
  have l1 := MP.shrunkL_len P
  walk_at "rd"
  refine ite_d (fun hn => ?_) (fun hn => ?_)
  · have hn' : MP.shrunkL P ≠ [] := fun e => by rw [e] at hn; simp at hn
    walk_at "rd"
    refine r_ixLast (SqL.inj h1) hn' ?_
    walk_at "rd"
    refine ite_d (fun hneg => ?_) (fun hneg => ?_)
    · walk_at "rd"
      refine lc_ints (fun x => 0 - x) (SqL.inj h1) (by omega) (fun x hx H2 e2 Q' k' => ?_) (fun p2 H2 hp2 e2 h2 => ?_)
      · walk_at "rd"
        exact k' _ (Evl.Ex.refl _)
      · refine q p2 H2 (Evl.fresh_back e1 hp2) (e1.trans e2) ?_
        have e : MP.plainL P = (MP.shrunkL P).map (fun x => 0 - x) := by
          unfold MP.plainL
          rw [if_pos ⟨hn', hneg⟩]
          exact List.map_congr_left fun x _ => by omega
        rw [e]; exact h2
    · walk_at "rd"
      refine q p1 H1 hp1 e1 ?_
      have e : MP.plainL P = MP.shrunkL P := by
        unfold MP.plainL
        rw [if_neg]
        rintro ⟨_, h3⟩
        exact hneg h3
      rw [e]; exact h1
  · walk_at "rd"
    refine q p1 H1 hp1 e1 ?_
    have e : MP.shrunkL P = [] := by
      cases h : MP.shrunkL P with
      | nil => rfl
      | cons x r => rw [h] at hn; exact absurd (by simp) hn
    have e : MP.plainL P = MP.shrunkL P := by
      unfold MP.plainL
      rw [if_neg]
      rintro ⟨h2, _⟩
      exact h2 e
    rw [e]; exact h1
theorem c__law_plain {a : Addr} {P : List Int} (h : SqL K H a (P.map V.int)) (hl : P.length ≤ 100000) (hT : ML.Trim P) (hg : P ≠ [] → MG.gcdL P ≠ 0 ∧ (MG.gcdL P).natAbs.log2 < 9000) (q : ∀ p H', H p = none → Ex H H' → H' p = some (.lst ((MP.plainL P).map V.int)) → Q (.ref p) H') : sp__law_plain K Cof [.ref a] H Q E := ⟨a, P, rfl, h, hl, hT, hg, q⟩
end

/-! #### _law_factor_by -/
--USE FC0
def sp__law_factor_by (K : PySem.W.Frag) (Cof : String → Addr) : Sp := fun vs H Q _ => ∃ c m : Int, vs = [.int c, .int m] ∧ (0 < m ∧ m ≤ 1000000000) ∧ ∀ u e b, Fac m u e b → ∀ p H', H p = none → Ex H H' → H' p = some (.tup (([u, e, b] : List Int).map V.int)) → Q (.ref p) H'
def t__law_factor_by (K : PySem.W.Frag) (Cof : String → Addr) (E : XK) : TS :=
  tSeq (tAsg (tOp rISub (tOp rMod (tOp rDiv (tVar 0) (tC (.int 4))) (tOp rIAdd (tOp rMul (tC (.int 2)) (tVar 1)) (tC (.int 1)))) (tVar 1)) (gName 2))
  (tSeq (tAsg (tOp rIAdd (tC (.int 1)) (tOp rMod (tOp rMod (tOp rMul (tVar 0) (tC (.int 48271))) (tC (.int 10007))) (tC (.int 3)))) (gName 3))
  (tSeq (tAsg (tOp rIAdd (tC (.int 1)) (tOp rMod (tOp rMod (tOp rMul (tVar 0) (tC (.int 69621))) (tC (.int 10009))) (tC (.int 5)))) (gName 4))
  (tSeq (tAsg (tOp rIAdd (tOp rIAdd (tOp rMul (tVar 4) (tVar 4)) (tC (.int 1))) (tOp rMod (tOp rMod (tOp rMul (tVar 0) (tC (.int 16807))) (tC (.int 10037))) (tOp rMul (tC (.int 2)) (tVar 4)))) (gName 5))
  (tSeq (tIfS (tTest (tOp rEq (tOp rMod (tVar 0) (tC (.int 4))) (tC (.int 2)))) (tRet (tTup (tCons (tVar 2) (tCons (tVar 5) (tCons (tVar 3) (tNil)))))) (tNext))
  (tSeq (tIfS (tTest (tOp rEq (tOp rMod (tVar 0) (tC (.int 4))) (tC (.int 3)))) (tRet (tTup (tCons (tVar 2) (tCons (tOp rISub (tC (.int 0)) (tVar 5)) (tCons (tVar 3) (tNil)))))) (tNext))
  (tRet (tTup (tCons (tVar 2) (tCons (tC (.int 0)) (tCons (tVar 3) (tNil)))))))))))

section
variable {K : PySem.W.Frag} {Cof : String → Addr} {vs : List V} {H : Hp} {Q : VK} {E : XK}
theorem len__law_factor_by (h : sp__law_factor_by K Cof vs H Q E) : vs.length = 2 := by
  obtain ⟨c, m, rfl, _⟩ := h; rfl
theorem rd__law_factor_by (h : sp__law_factor_by K Cof vs H Q E) : t__law_factor_by K Cof E { nx := fun _ H' => Q .non H', rt := Q } (start ["_law_cell", "_law_most", "_law_u", "_law_b", "_law_n", "_law_e"] vs) H := by
  obtain ⟨c, m, rfl, ⟨m0, m9⟩, q⟩ := h
  unfold t__law_factor_by
  walk_at "rd"
  refine r_mul (wide_mul (a := 2) (b := 40) (by decide) (by omega) (by decide) (by decide) (by decide)) ?_
  walk_at "rd"
  have u0 := Int.fmod_nonneg_of_pos (c.fdiv 4) (show (0 : Int) < 2 * m + 1 by omega)
  have u1 := Int.fmod_lt_of_pos (c.fdiv 4) (show (0 : Int) < 2 * m + 1 by omega)
  obtain ⟨u, eu, hu⟩ : ∃ u : Int, (c.fdiv 4).fmod (2 * m + 1) - m = u ∧ (u.natAbs : Int) ≤ m := ⟨_, rfl, by omega⟩
  rw [eu]
  refine r_mulR (by decide) ?_
  walk_at "rd"
  have b0 := Int.fmod_nonneg_of_pos ((c * 48271).fmod 10007) (show (0 : Int) < 3 by decide)
  have b1 := Int.fmod_lt_of_pos ((c * 48271).fmod 10007) (show (0 : Int) < 3 by decide)
  obtain ⟨b, eb, hb1, hb3⟩ : ∃ b : Int, 1 + ((c * 48271).fmod 10007).fmod 3 = b ∧ 1 ≤ b ∧ b ≤ 3 := ⟨_, rfl, by omega, by omega⟩
  rw [eb]
  refine r_mulR (by decide) ?_
  walk_at "rd"
  have n0 := Int.fmod_nonneg_of_pos ((c * 69621).fmod 10009) (show (0 : Int) < 5 by decide)
  have n1 := Int.fmod_lt_of_pos ((c * 69621).fmod 10009) (show (0 : Int) < 5 by decide)
  obtain ⟨n, en, hn1, hn5⟩ : ∃ n : Int, 1 + ((c * 69621).fmod 10009).fmod 5 = n ∧ 1 ≤ n ∧ n ≤ 5 := ⟨_, rfl, by omega, by omega⟩
  rw [en]
  refine r_mul (wide_mul (a := 4) (b := 4) (by omega) (by omega) (by decide) (by decide) (by decide)) ?_
  walk_at "rd"
  refine r_mulR (by decide) ?_
  walk_at "rd"
  refine r_mul (wide_mul (a := 4) (b := 4) (by decide) (by omega) (by decide) (by decide) (by decide)) ?_
  walk_at "rd"
  have e0 := Int.fmod_nonneg_of_pos ((c * 16807).fmod 10037) (show (0 : Int) < 2 * n by omega)
  have e1 := Int.fmod_lt_of_pos ((c * 16807).fmod 10037) (show (0 : Int) < 2 * n by omega)
  have nn : n * n ≤ 25 := Int.mul_le_mul hn5 hn5 (by omega) (by omega)
  have nn0 : 0 < n * n := Int.mul_pos (by omega) (by omega)
  have sq1 : (n + 1) * (n + 1) = n * n + 2 * n + 1 := by grind
  obtain ⟨e, ee, he0, he1, hk⟩ : ∃ e : Int, n * n + 1 + ((c * 16807).fmod 10037).fmod (2 * n) = e ∧ 0 < e ∧ e ≤ 36 ∧ ∃ k : Int, 0 ≤ k ∧ k * k < e ∧ e < (k + 1) * (k + 1) := ⟨_, rfl, by omega, by omega, n, by omega, by omega, by omega⟩
  rw [ee]
  clear u0 u1 b0 b1 n0 n1 e0 e1 nn nn0 eu eb en ee sq1
  obtain ⟨k, k0, k1, k2⟩ := hk
  refine ite_d (fun _ => ?_) (fun _ => ?_)
  · walk_at "rd"
    exact r_tupK fun p H' hp e' h => q u e b ⟨hu, m9, by omega, .inr ⟨k, k0, by omega, by omega⟩, hb1, hb3⟩ p H' hp e' h
  walk_at "rd"
  refine ite_d (fun _ => ?_) (fun _ => ?_)
  · walk_at "rd"
    exact r_tupK fun p H' hp e' h => q u (0 - e) b ⟨hu, m9, by omega, .inr ⟨k, k0, by omega, by omega⟩, hb1, hb3⟩ p H' hp e' h
  walk_at "rd"
  exact r_tupK fun p H' hp e' h => q u 0 b ⟨hu, m9, by decide, .inl rfl, hb1, hb3⟩ p H' hp e' h
theorem c__law_factor_by {c m : Int} (hm : 0 < m ∧ m ≤ 1000000000) (q : ∀ u e b, Fac m u e b → ∀ p H', H p = none → Ex H H' → H' p = some (.tup (([u, e, b] : List Int).map V.int)) → Q (.ref p) H') : sp__law_factor_by K Cof [.int c, .int m] H Q E := ⟨c, m, rfl, hm, q⟩
end

/-! #### _law_shape -/
--USE FC0
def sp__law_shape (K : PySem.W.Frag) (Cof : String → Addr) : Sp := fun vs H Q _ => ∃ (p : Addr) (m u e b : Int), vs = [.ref p] ∧ H p = some (.tup (([u, e, b] : List Int).map V.int)) ∧ Fac m u e b ∧ RetI (MB.shp u e b) H Q
def t__law_shape (K : PySem.W.Frag) (Cof : String → Addr) (E : XK) : TS :=
  tSeq (tAsg (tOp (rIxT K) (tVar 0) (tC (.int 0))) (gName 1))
  (tSeq (tAsg (tOp (rIxT K) (tVar 0) (tC (.int 2))) (gName 2))
  (tSeq (tIfS (tTest (tOp rEq (tOp (rIxT K) (tVar 0) (tC (.int 1))) (tC (.int 0)))) (tRet (tCall (sp__law_plain K Cof) [] E0 (tCons (tLst (tCons (tOp rISub (tC (.int 0)) (tVar 1)) (tCons (tVar 2) (tNil)))) (tNil)))) (tNext))
  (tRet (tCall (sp__law_plain K Cof) [] E0 (tCons (tLst (tCons (tOp rISub (tOp rMul (tVar 1) (tVar 1)) (tOp (rIxT K) (tVar 0) (tC (.int 1)))) (tCons (tOp rMul (tOp rMul (tUn rNeg (tC (.int 2))) (tVar 2)) (tVar 1)) (tCons (tOp rMul (tVar 2) (tVar 2)) (tNil))))) (tNil))))))

section
variable {K : PySem.W.Frag} {Cof : String → Addr} {vs : List V} {H : Hp} {Q : VK} {E : XK}
theorem len__law_shape (h : sp__law_shape K Cof vs H Q E) : vs.length = 1 := by
  obtain ⟨p, m, u, e, b, rfl, _⟩ := h; rfl
theorem rd__law_shape (h : sp__law_shape K Cof vs H Q E) : t__law_shape K Cof E { nx := fun _ H' => Q .non H', rt := Q } (start ["_law_factor", "_law_u", "_law_b"] vs) H := by
  obtain ⟨p, m, u, e, b, rfl, hp, f, q⟩ := h
  have su := f.su'
  have se := f.se
  have b1 := f.b1
  have b3 := f.b3
  unfold t__law_shape
  walk_at "rd"
  refine r_ixT' (i := 0) hp rfl ?_
  walk_at "rd"
  refine r_ixT' (i := 2) hp rfl ?_
  walk_at "rd"
  refine r_ixT' (i := 1) hp rfl ?_
  walk_at "rd"
  unfold MB.shp at q
  refine ite_d (fun e0 => ?_) (fun e0 => ?_)
  · rw [if_pos e0] at q
    walk_at "rd"
    refine r_lstK fun p1 H1 hp1 e1 h1 => ?_
    walk_at "rd"
    have hT : ML.Trim [0 - u, b] := .inr (show b ≠ 0 by omega)
    exact c__law_plain (P := [0 - u, b]) (SqL.inj h1) (by simp) hT (plain_log hT (lin_sz su b1 b3)) fun p2 H2 hp2 e2 h2 => q p2 H2 (Evl.fresh_back e1 hp2) (e1.trans e2) h2
  · rw [if_neg e0] at q
    walk_at "rd"
    refine r_mul (wide_mul (a := 30) (b := 30) (by omega) (by omega) (by decide) (by decide) (by decide)) ?_
    walk_at "rd"
    refine r_ixT' (i := 1) hp rfl ?_
    walk_at "rd"
    refine r_mul (wide_mul (a := 4) (b := 4) (by decide) (by omega) (by decide) (by decide) (by decide)) ?_
    walk_at "rd"
    refine r_mul (wide_mul (a := 8) (b := 30) (by omega) (by omega) (by decide) (by decide) (by decide)) ?_
    walk_at "rd"
    refine r_mul (wide_mul (a := 4) (b := 4) (by omega) (by omega) (by decide) (by decide) (by decide)) ?_
    walk_at "rd"
    refine r_lstK fun p1 H1 hp1 e1 h1 => ?_
    walk_at "rd"
    have hT : ML.Trim [u * u - e, -2 * b * u, b * b] := .inr (show b * b ≠ 0 from Int.mul_ne_zero (by omega) (by omega))
    exact c__law_plain (P := [u * u - e, -2 * b * u, b * b]) (SqL.inj h1) (by simp) hT (plain_log hT (sq_sz su se b1 b3)) fun p2 H2 hp2 e2 h2 => q p2 H2 (Evl.fresh_back e1 hp2) (e1.trans e2) h2
theorem c__law_shape {p : Addr} {m u e b : Int} (hp : H p = some (.tup (([u, e, b] : List Int).map V.int))) (f : Fac m u e b) (q : ∀ p H', H p = none → Ex H H' → H' p = some (.lst ((MB.shp u e b).map V.int)) → Q (.ref p) H') : sp__law_shape K Cof [.ref p] H Q E := ⟨p, m, u, e, b, rfl, hp, f, q⟩
end

/-! #### _law_factors_by -/
--USE FC0
def sp__law_factors_by (K : PySem.W.Frag) (Cof : String → Addr) : Sp := fun vs H Q _ => ∃ (a : Addr) (ns : List Int) (m : Int) (room : Nat), vs = [.ref a, .int m, .int (room : Int)] ∧ SqL K H a (ns.map V.int) ∧ ns.length ≤ 1000 ∧ (0 < m ∧ m ≤ 1000000000) ∧ room ≤ 1000 ∧
  ∀ (D : Addr) (H' : Hp) (ps : List Addr) (FS : List (List Int)), H D = none → Ex H H' → H' D = some (.lst (ps.map V.ref)) → Tws H' ps FS → (∀ F ∈ FS, isF m F) → (FS.Pairwise fun F G => shpF F ≠ shpF G) → dgs FS ≤ room → Q (.ref D) H'
def t__law_factors_by (K : PySem.W.Frag) (Cof : String → Addr) (E : XK) : TS :=
  tSeq (tAsg (tLst (tNil)) (gName 3))
  (tSeq (tAsg (tLst (tNil)) (gName 4))
  (tSeq (tFor (iList K (tVar 0)) (gName 5) (tSeq (tAsg (tCall (sp__law_factor_by K Cof) [] E0 (tCons (tVar 5) (tCons (tVar 1) (tNil)))) (gName 6))
  (tSeq (tAsg (tCall (sp__law_shape K Cof) [] E0 (tCons (tVar 6) (tNil))) (gName 7))
  (tIfS (tAnd (tTest (tOp (rNotInD K) (tVar 7) (tVar 4))) (tTest (tOp rLe (tOp rISub (tCB (rLenS K) (tCons (tVar 7) (tNil))) (tC (.int 1))) (tVar 2)))) (tSeq (tDrop (tBM K "list" rAppend (tVar 3) (tCons (tVar 6) (tNil))))
  (tSeq (tDrop (tBM K "list" rAppend (tVar 4) (tCons (tVar 7) (tNil))))
  (tAsg (tOp rIAdd (tOp rISub (tVar 2) (tCB (rLenS K) (tCons (tVar 7) (tNil)))) (tC (.int 1))) (gName 2)))) (tNext)))))
  (tRet (tVar 3))))

section
variable {K : PySem.W.Frag} {Cof : String → Addr} {vs : List V} {H : Hp} {Q : VK} {E : XK}
theorem len__law_factors_by (h : sp__law_factors_by K Cof vs H Q E) : vs.length = 3 := by
  obtain ⟨a, ns, m, room, rfl, _⟩ := h; rfl
theorem rd__law_factors_by (h : sp__law_factors_by K Cof vs H Q E) : t__law_factors_by K Cof E { nx := fun _ H' => Q .non H', rt := Q } (start ["_law_drawn", "_law_most", "_law_room", "_law_made", "_law_shapes", "_law_cell", "_law_one", "_law_shape_here"] vs) H := by
  obtain ⟨a, ns, m, room, rfl, hA, hl, hm, hr, q⟩ := h
  unfold t__law_factors_by
  walk_at "rd"
  refine r_lstK fun D H1 hD e1 h1 => ?_
  walk_at "rd"
  refine r_lstK fun S H2 hS e2 h2 => ?_
  have h1' := e2 _ _ h1
  have hSH : H S = none := Evl.fresh_back e1 hS
  have nDS : D ≠ S := fun z => by rw [← z, h1] at hS; cases hS
  walk_at "rd"
  refine r_iListA (e2.l (e1.l hA)) ?_
  refine loop_ints (ns := ns) (fun i σ' H' => ∃ (ps ss : List Addr) (FS Ss : List (List Int)) (left : Int) (u5 u6 u7 : Option V), σ' = [some (.ref a), some (.int m), some (.int left), some (.ref D), some (.ref S), u5, u6, u7] ∧ Ex H H' ∧ H' D = some (.lst (ps.map V.ref)) ∧ Tws H' ps FS ∧ D ∉ ps ∧ S ∉ ps ∧ H' S = some (.lst (ss.map V.ref)) ∧ Rws H' ss Ss ∧ D ∉ ss ∧ S ∉ ss ∧ (∀ F ∈ FS, isF m F) ∧ (Ss = FS.map shpF ∧ FS.Pairwise fun F G => shpF F ≠ shpF G) ∧ (dgs FS : Int) + left = room ∧ 0 ≤ left ∧ ps.length ≤ i ∧ ss.length ≤ i)
    ⟨[], [], [], [], _, _, _, _, rfl, e1.trans e2, h1', trivial, (fun h => by cases h), (fun h => by cases h), h2, trivial, (fun h => by cases h), (fun h => by cases h), (fun _ h => by cases h), ⟨rfl, .nil⟩, by show ((0 : Nat) : Int) + room = room; omega, by omega, Nat.le_refl _, Nat.le_refl _⟩ (fun i σ' H' _ hp => ?_) (fun i c σ' H' hc hp => ?_) (fun σ' H' hp => ?_)
  · obtain ⟨ps, ss, FS, Ss, left, u5, u6, u7, rfl, x1, _⟩ := hp
    exact x1.l hA
  · obtain ⟨ps, ss, FS, Ss, left, u5, u6, u7, rfl, x1, x2, x3, x4, x5, x6, x7, x8, x9, x10, x10', x11, x12, x13, x14⟩ := hp
    have hi : i < ns.length := (List.getElem?_eq_some_iff.mp hc).1
    walk_at "rd"
    refine c__law_factor_by hm fun u e b f p3 H3 hp3 e3 h3 => ?_
    walk_at "rd"
    refine c__law_shape h3 f fun p4 H4 hp4 e4 h4 => ?_
    have h3' := e4 _ _ h3
    have e34 := e3.trans e4
    have y2 := e34 _ _ x2
    have y6 := e34 _ _ x6
    have n3D : p3 ≠ D := fun z => by rw [z, x2] at hp3; cases hp3
    have n3S : p3 ≠ S := fun z => by rw [z, x6] at hp3; cases hp3
    have hp4' := Evl.fresh_back e3 hp4
    have n4D : p4 ≠ D := fun z => by rw [z, x2] at hp4'; cases hp4'
    have n4S : p4 ≠ S := fun z => by rw [z, x6] at hp4'; cases hp4'
    have lsh := shp_len f
    walk_at "rd"
    refine r_notInRow (SqL.inj h4) (SqL.inj y6) (x7.ex e34) ?_
    obtain ⟨c2, hc2⟩ : ∃ c2, (!decide (MB.shp u e b ∈ Ss)) = c2 := ⟨_, rfl⟩
    rw [hc2]
    walk_at "rd"
    cases c2 with
    | false =>
      refine i_f ?_
      walk_at "rd"
      exact ⟨ps, ss, FS, Ss, left, _, _, _, rfl, x1.trans e34, y2, x3.ex e34, x4, x5, y6, x7.ex e34, x8, x9, x10, x10', x11, x12, by omega, by omega⟩
    | true =>
      refine i_t ?_
      walk_at "rd"
      refine ite_d (fun hle => ?_) (fun _ => ?_)
      · walk_at "rd"
        refine r_append y2 (by rw [List.length_map]; exact small_lt (by omega)) fun H5 b5 h5 => ?_
        walk_at "rd"
        refine r_append (b5 _ (Ne.symm nDS) _ y6) (by rw [List.length_map]; exact small_lt (by omega)) fun H6 b6 h6 => ?_
        have h5' := b6 _ nDS _ h5
        have h46 := b6 _ n4S _ (b5 _ n4D _ h4)
        have h36 := b6 _ n3S _ (b5 _ n3D _ h3')
        have e6 : Ex H H6 := Evl.Ex.mutb (Evl.Ex.mutb (x1.trans e34) b5 hD) b6 hSH
        walk_at "rd"
        try rw [List.length_map]
        refine ⟨ps ++ [p3], ss ++ [p4], FS ++ [[u, e, b]], Ss ++ [MB.shp u e b], _, _, _, _, rfl, e6, by rw [List.map_append]; exact h5', Tws.append (((x3.ex e34).exb b5 x4).exb b6 x5) ⟨h36, trivial⟩, ?_, ?_, by rw [List.map_append]; exact h6, Rws.append (((x7.ex e34).exb b5 x8).exb b6 x9) ⟨h46, trivial⟩, ?_, ?_, ?_, ?_, ?_, ?_, ?_, ?_⟩
        · intro h; rcases List.mem_append.mp h with h | h
          · exact x4 h
          · exact n3D (List.mem_singleton.mp h).symm
        · intro h; rcases List.mem_append.mp h with h | h
          · exact x5 h
          · exact n3S (List.mem_singleton.mp h).symm
        · intro h; rcases List.mem_append.mp h with h | h
          · exact x8 h
          · exact n4D (List.mem_singleton.mp h).symm
        · intro h; rcases List.mem_append.mp h with h | h
          · exact x9 h
          · exact n4S (List.mem_singleton.mp h).symm
        · intro F hF; rcases List.mem_append.mp hF with hF | hF
          · exact x10 F hF
          · rw [List.mem_singleton.mp hF]; exact ⟨u, e, b, rfl, f⟩
        · obtain ⟨y1, y2⟩ := x10'
          have hnm : MB.shp u e b ∉ Ss := by simpa using hc2
          refine ⟨by rw [y1, List.map_append]; rfl, List.pairwise_append.mpr ⟨y2, List.pairwise_singleton .., fun F hF G hG => ?_⟩⟩
          rw [List.mem_singleton.mp hG]
          intro z
          refine hnm ?_
          rw [y1]
          exact List.mem_map.mpr ⟨F, hF, z⟩
        · have : dgs (FS ++ [[u, e, b]]) = dgs FS + ((MB.shp u e b).length - 1) := by
            unfold dgs; rw [List.map_append, List.sum_append]; rfl
          rw [this]; omega
        · omega
        · rw [List.length_append, List.length_singleton]; omega
        · rw [List.length_append, List.length_singleton]; omega
      · walk_at "rd"
        exact ⟨ps, ss, FS, Ss, left, _, _, _, rfl, x1.trans e34, y2, x3.ex e34, x4, x5, y6, x7.ex e34, x8, x9, x10, x10', x11, x12, by omega, by omega⟩
  · obtain ⟨ps, ss, FS, Ss, left, u5, u6, u7, rfl, x1, x2, x3, x4, x5, x6, x7, x8, x9, x10, x10', x11, x12, _⟩ := hp
    walk_at "rd"
    exact q D H' ps FS hD x1 x2 x3 x10 x10'.2 (by omega)
theorem c__law_factors_by {a : Addr} {ns : List Int} {m : Int} {room : Nat} (hA : SqL K H a (ns.map V.int)) (hl : ns.length ≤ 1000) (hm : 0 < m ∧ m ≤ 1000000000) (hr : room ≤ 1000) (q : ∀ (D : Addr) (H' : Hp) (ps : List Addr) (FS : List (List Int)), H D = none → Ex H H' → H' D = some (.lst (ps.map V.ref)) → Tws H' ps FS → (∀ F ∈ FS, isF m F) → (FS.Pairwise fun F G => shpF F ≠ shpF G) → dgs FS ≤ room → Q (.ref D) H') : sp__law_factors_by K Cof [.ref a, .int m, .int (room : Int)] H Q E := ⟨a, ns, m, room, rfl, hA, hl, hm, hr, q⟩
end

/-! #### _law_product -/
--USE FC0
def sp__law_product (K : PySem.W.Frag) (Cof : String → Addr) : Sp := fun vs H Q _ => ∃ (a : Addr) (m : Int) (ps : List Addr) (FS : List (List Int)), vs = [.ref a] ∧ SqL K H a (ps.map V.ref) ∧ Tws H ps FS ∧ (∀ F ∈ FS, isF m F) ∧ dgs FS ≤ 15 ∧ RetI (prodS [1] FS) H Q
def t__law_product (K : PySem.W.Frag) (Cof : String → Addr) (E : XK) : TS :=
  tSeq (tAsg (tLst (tCons (tC (.int 1)) (tNil))) (gName 1))
  (tSeq (tFor (iList K (tVar 0)) (gName 2) (tAsg (tCall (sp__law_mul K Cof) [] E0 (tCons (tVar 1) (tCons (tCall (sp__law_shape K Cof) [] E0 (tCons (tVar 2) (tNil))) (tNil)))) (gName 1)))
  (tRet (tVar 1)))

section
variable {K : PySem.W.Frag} {Cof : String → Addr} {vs : List V} {H : Hp} {Q : VK} {E : XK}
theorem len__law_product (h : sp__law_product K Cof vs H Q E) : vs.length = 1 := by
  obtain ⟨a, m, ps, FS, rfl, _⟩ := h; rfl
theorem rd__law_product (h : sp__law_product K Cof vs H Q E) : t__law_product K Cof E { nx := fun _ H' => Q .non H', rt := Q } (start ["_law_factors", "_law_made", "_law_one"] vs) H := by
  obtain ⟨a, m, ps, FS, rfl, hA, hT, hF, hd, q⟩ := h
  unfold t__law_product
  walk_at "rd"
  refine r_lstK fun p1 H1 hp1 e1 h1 => ?_
  walk_at "rd"
  refine loop_list (xs := ps.map V.ref) (fun i σ' H' => ∃ (p : Addr) (u : Option V), σ' = [some (.ref a), some (.ref p), u] ∧ Ex H H' ∧ H p = none ∧ H' p = some (.lst ((prodS [1] (FS.take i)).map V.int)) ∧ Prd (prodS [1] (FS.take i)) (dgs (FS.take i)) 1) ⟨p1, _, rfl, e1, hp1, h1, rfl, fun x hx => by rw [List.mem_singleton.mp hx]; exact Nat.one_lt_two_pow (by omega)⟩ (fun i σ' H' _ hp => ?_) (fun i x σ' H' hx hp => ?_) (fun σ' H' hp => ?_)
  · obtain ⟨p, u, rfl, x1, _⟩ := hp
    exact x1.l hA
  · obtain ⟨p, u, rfl, x1, x2, x3, x4⟩ := hp
    rw [List.getElem?_map] at hx
    obtain ⟨pt, hpt, rfl⟩ := Option.map_eq_some_iff.mp hx
    obtain ⟨F, hFi, hFp⟩ := hT.get hpt
    obtain ⟨u', e, b, rfl, f⟩ := hF F (List.mem_of_getElem? hFi)
    have h9 := dgs_take hFi
    have h8 := dgs_le FS (i + 1)
    rw [prodS_take [1] hFi, h9]
    walk_at "rd"
    refine c__law_shape (x1 _ _ hFp) f fun p4 H4 hp4 e4 h4 => ?_
    have ln := x4.ln
    have ls := shp_len f
    walk_at "rd"
    refine c__law_mul (P := prodS [1] (FS.take i)) (R := MB.shp u' e b) (1 + 80 * dgs (FS.take i)) 62 (SqL.inj (e4 _ _ x3)) (SqL.inj h4) (by omega) (by omega) x4.sz (shp_sz f) ⟨by omega, by decide, by omega⟩ fun p5 H5 hp5 e5 h5 => ?_
    have e45 := e4.trans e5
    exact ⟨p5, _, rfl, x1.trans e45, Evl.fresh_back (x1.trans e4) hp5, h5, x4.step f (by omega)⟩
  · obtain ⟨p, u, rfl, x1, x2, x3, x4⟩ := hp
    rw [List.length_map, hT.len, List.take_length] at x3
    walk_at "rd"
    exact q p H' x2 x1 x3
theorem c__law_product {a : Addr} {m : Int} {ps : List Addr} {FS : List (List Int)} (hA : SqL K H a (ps.map V.ref)) (hT : Tws H ps FS) (hF : ∀ F ∈ FS, isF m F) (hd : dgs FS ≤ 15) (q : ∀ p H', H p = none → Ex H H' → H' p = some (.lst ((prodS [1] FS).map V.int)) → Q (.ref p) H') : sp__law_product K Cof [.ref a] H Q E := ⟨a, m, ps, FS, rfl, hA, hT, hF, hd, q⟩
end

/-! #### _law_sure -/
--USE FC
def sp__law_sure (K : PySem.W.Frag) (Cof : String → Addr) : Sp := fun vs H Q _ => ∃ (s d : Int) (n : Nat), vs = [.int s, .int d] ∧ d.natAbs < 2 ^ n ∧ 0 < n ∧ n ≤ 100000 ∧ Q (.int (MJ.sureV s d)) H
def t__law_sure (K : PySem.W.Frag) (Cof : String → Addr) (E : XK) : TS :=
  tSeq (tIfS (tOr (tTest (tOp rLt (tVar 1) (tC (.int 0)))) (tTest (tOp rGt (tVar 0) (tOp rMul (tVar 1) (tVar 1))))) (tRet (tC (.int 1))) (tNext))
  (tRet (tOp rISub (tC (.int 0)) (tCB rInt1 (tCons (tOp rLt (tVar 0) (tOp rMul (tVar 1) (tVar 1))) (tNil)))))

section
variable {K : PySem.W.Frag} {Cof : String → Addr} {vs : List V} {H : Hp} {Q : VK} {E : XK}
theorem len__law_sure (h : sp__law_sure K Cof vs H Q E) : vs.length = 2 := by
  obtain ⟨s, d, n, rfl, _⟩ := h; rfl
theorem rd__law_sure (h : sp__law_sure K Cof vs H Q E) : t__law_sure K Cof E { nx := fun _ H' => Q .non H', rt := Q } (start ["_law_square", "_law_due"] vs) H := by
  obtain ⟨s, d, n, rfl, hd, n0, n9, q⟩ := h
  unfold t__law_sure
  unfold MJ.sureV at q
  walk_at "rd"
  refine ite_d (fun h => ?_) (fun h => ?_)
  · walk_at "rd"
    rw [if_pos (.inl h)] at q
    exact q
  walk_at "rd"
  refine r_mul (wide_mul hd hd n0 n0 (by omega)) ?_
  walk_at "rd"
  refine ite_d (fun h2 => ?_) (fun h2 => ?_)
  · walk_at "rd"
    rw [if_pos (.inr h2)] at q
    exact q
  walk_at "rd"
  refine r_mul (wide_mul hd hd n0 n0 (by omega)) ?_
  walk_at "rd"
  rw [if_neg (fun z => z.elim h h2)] at q
  by_cases h3 : s < d * d
  · rw [if_pos h3] at q
    simpa [h3] using q
  · rw [if_neg h3] at q
    simpa [h3] using q
theorem c__law_sure {s d : Int} (n : Nat) (hd : d.natAbs < 2 ^ n) (n0 : 0 < n) (n9 : n ≤ 100000) (q : Q (.int (MJ.sureV s d)) H) : sp__law_sure K Cof [.int s, .int d] H Q E := ⟨s, d, n, rfl, hd, n0, n9, q⟩
end

/-! #### _law_side -/
--USE FC
def sp__law_side (K : PySem.W.Frag) (Cof : String → Addr) : Sp := fun vs H Q _ => ∃ (p : Addr) (u e b s t m : Int) (n : Nat), vs = [.ref p, .int t, .int m] ∧ H p = some (.tup (([u, e, b, s] : List Int).map V.int)) ∧ (u.natAbs < 2 ^ n ∧ e.natAbs < 2 ^ n ∧ b.natAbs < 2 ^ n ∧ t.natAbs < 2 ^ n ∧ m.natAbs < 2 ^ n ∧ 0 < n ∧ n ≤ 10000) ∧ Q (.int (MJ.sideV u e b s t m)) H
def t__law_side (K : PySem.W.Frag) (Cof : String → Addr) (E : XK) : TS :=
  tSeq (tAsg (tOp rISub (tOp rMul (tOp (rIxT K) (tVar 0) (tC (.int 2))) (tVar 1)) (tOp rMul (tOp (rIxT K) (tVar 0) (tC (.int 0))) (tVar 2))) (gName 3))
  (tSeq (tAsg (tOp rMul (tOp rMul (tOp (rIxT K) (tVar 0) (tC (.int 1))) (tVar 2)) (tVar 2)) (gName 4))
  (tSeq (tIfS (tTest (tOp rGt (tOp (rIxT K) (tVar 0) (tC (.int 3))) (tC (.int 0)))) (tRet (tCall (sp__law_sure K Cof) [] E0 (tCons (tVar 4) (tCons (tVar 3) (tNil))))) (tNext))
  (tRet (tOp rISub (tC (.int 0)) (tCall (sp__law_sure K Cof) [] E0 (tCons (tVar 4) (tCons (tOp rISub (tC (.int 0)) (tVar 3)) (tNil))))))))

section
variable {K : PySem.W.Frag} {Cof : String → Addr} {vs : List V} {H : Hp} {Q : VK} {E : XK}
theorem len__law_side (h : sp__law_side K Cof vs H Q E) : vs.length = 3 := by
  obtain ⟨p, u, e, b, s, t, m, n, rfl, _⟩ := h; rfl
theorem rd__law_side (h : sp__law_side K Cof vs H Q E) : t__law_side K Cof E { nx := fun _ H' => Q .non H', rt := Q } (start ["_law_spot", "_law_top", "_law_bottom", "_law_due", "_law_square"] vs) H := by
  obtain ⟨p, u, e, b, s, t, m, n, rfl, hp, ⟨su, se, sb, st, sm, n0, n9⟩, q⟩ := h
  unfold t__law_side
  unfold MJ.sideV MJ.sd at q
  walk_at "rd"
  refine r_ixT' (i := 2) hp rfl ?_
  walk_at "rd"
  refine r_mul (wide_mul sb st n0 n0 (by omega)) ?_
  walk_at "rd"
  refine r_ixT' (i := 0) hp rfl ?_
  walk_at "rd"
  refine r_mul (wide_mul su sm n0 n0 (by omega)) ?_
  walk_at "rd"
  refine r_ixT' (i := 1) hp rfl ?_
  walk_at "rd"
  refine r_mul (wide_mul se sm n0 n0 (by omega)) ?_
  have sem := wide_lt se sm
  walk_at "rd"
  refine r_mul (wide_mul sem sm (by omega) n0 (by omega)) ?_
  walk_at "rd"
  refine r_ixT' (i := 3) hp rfl ?_
  walk_at "rd"
  have sd : (b * t - u * m).natAbs < 2 ^ (n + n + 1) := by
    have h1 := wide_lt sb st
    have h2 := wide_lt su sm
    rw [Nat.pow_succ]
    generalize (2 : Nat) ^ (n + n) = B at h1 h2
    omega
  refine ite_d (fun h => ?_) (fun h => ?_)
  · rw [if_pos h] at q
    walk_at "rd"
    exact c__law_sure (n + n + 1) sd (by omega) (by omega) q
  · rw [if_neg h] at q
    walk_at "rd"
    refine c__law_sure (n + n + 1) (by omega) (by omega) (by omega) ?_
    walk_at "rd"
    exact q
theorem c__law_side {p : Addr} {u e b s t m : Int} (n : Nat) (hp : H p = some (.tup (([u, e, b, s] : List Int).map V.int))) (hs : u.natAbs < 2 ^ n ∧ e.natAbs < 2 ^ n ∧ b.natAbs < 2 ^ n ∧ t.natAbs < 2 ^ n ∧ m.natAbs < 2 ^ n ∧ 0 < n ∧ n ≤ 10000) (q : Q (.int (MJ.sideV u e b s t m)) H) : sp__law_side K Cof [.ref p, .int t, .int m] H Q E := ⟨p, u, e, b, s, t, m, n, rfl, hp, hs, q⟩
end

/-! #### _law_roots_of -/
--USE FC
def sp__law_roots_of (K : PySem.W.Frag) (Cof : String → Addr) : Sp := fun vs H Q _ => ∃ (a : Addr) (m : Int) (ps : List Addr) (FS : List (List Int)), vs = [.ref a] ∧ SqL K H a (ps.map V.ref) ∧ Tws H ps FS ∧ (∀ F ∈ FS, isF m F) ∧ FS.length ≤ 1000 ∧
  ∀ (D : Addr) (H' : Hp) (qs : List Addr), H D = none → Ex H H' → H' D = some (.lst (qs.map V.ref)) → Tws H' qs (rtsS FS) → Q (.ref D) H'
def t__law_roots_of (K : PySem.W.Frag) (Cof : String → Addr) (E : XK) : TS :=
  tSeq (tAsg (tLst (tNil)) (gName 1))
  (tSeq (tFor (iList K (tVar 0)) (gName 2) (tCut (tIfS (tTest (tOp rGe (tOp (rIxT K) (tVar 2) (tC (.int 1))) (tC (.int 0)))) (tDrop (tBM K "list" rAppend (tVar 1) (tCons (tTup (tCons (tOp (rIxT K) (tVar 2) (tC (.int 0))) (tCons (tOp (rIxT K) (tVar 2) (tC (.int 1))) (tCons (tOp (rIxT K) (tVar 2) (tC (.int 2))) (tCons (tC (.int 1)) (tNil)))))) (tNil)))) (tNext))
  (tIfS (tTest (tOp rGt (tOp (rIxT K) (tVar 2) (tC (.int 1))) (tC (.int 0)))) (tDrop (tBM K "list" rAppend (tVar 1) (tCons (tTup (tCons (tOp (rIxT K) (tVar 2) (tC (.int 0))) (tCons (tOp (rIxT K) (tVar 2) (tC (.int 1))) (tCons (tOp (rIxT K) (tVar 2) (tC (.int 2))) (tCons (tUn rNeg (tC (.int 1))) (tNil)))))) (tNil)))) (tNext))))
  (tRet (tVar 1)))

section
variable {K : PySem.W.Frag} {Cof : String → Addr} {vs : List V} {H : Hp} {Q : VK} {E : XK}
theorem len__law_roots_of (h : sp__law_roots_of K Cof vs H Q E) : vs.length = 1 := by
  obtain ⟨a, m, ps, FS, rfl, _⟩ := h; rfl
theorem rd__law_roots_of (h : sp__law_roots_of K Cof vs H Q E) : t__law_roots_of K Cof E { nx := fun _ H' => Q .non H', rt := Q } (start ["_law_factors", "_law_made", "_law_one"] vs) H := by
  obtain ⟨a, m, ps, FS, rfl, hA, hT, hF, hl, q⟩ := h
  unfold t__law_roots_of
  walk_at "rd"
  refine r_lstK fun D H1 hD e1 h1 => ?_
  walk_at "rd"
  refine loop_list (xs := ps.map V.ref) (fun i σ' H' => ∃ (qs : List Addr) (RS : List (List Int)) (u : Option V), σ' = [some (.ref a), some (.ref D), u] ∧ Ex H H' ∧ H' D = some (.lst (qs.map V.ref)) ∧ Tws H' qs RS ∧ D ∉ qs ∧ RS = rtsS (FS.take i) ∧ qs.length ≤ 2 * i) ⟨[], [], _, rfl, e1, h1, trivial, (fun h => by cases h), rfl, Nat.le_refl _⟩ (fun i σ' H' _ hp => ?_) (fun i x σ' H' hx hp => ?_) (fun σ' H' hp => ?_)
  · obtain ⟨qs, RS, u, rfl, x1, _⟩ := hp
    exact x1.l hA
  · obtain ⟨qs, RS, u5, rfl, x1, x2, x3, x4, x5, x6⟩ := hp
    rw [List.getElem?_map] at hx
    obtain ⟨pt, hpt, rfl⟩ := Option.map_eq_some_iff.mp hx
    obtain ⟨F, hFi, hFp⟩ := hT.get hpt
    have hFm := List.mem_of_getElem? hFi
    have hi : i < ps.length := (List.getElem?_eq_some_iff.mp hpt).1
    have hlen := hT.len
    obtain ⟨u, e, b, rfl, f⟩ := hF F hFm
    have hFp1 := x1 _ _ hFp
    walk_at "rd"
    refine ⟨fun σ2 H2 => ∃ (qs : List Addr) (RS : List (List Int)), σ2 = [some (.ref a), some (.ref D), some (.ref pt)] ∧ Ex H H2 ∧ H2 D = some (.lst (qs.map V.ref)) ∧ Tws H2 qs RS ∧ D ∉ qs ∧ RS = rtsS (FS.take i) ++ (if e ≥ 0 then [[u, e, b, 1]] else []) ∧ qs.length ≤ 2 * i + 1, ?_, fun σ2 H2 hM => ?_⟩
    · walk_at "rd"
      refine r_ixT' (i := 1) hFp1 rfl ?_
      walk_at "rd"
      refine ite_d (fun he => ?_) (fun _ => ?_)
      · walk_at "rd"
        refine r_ixT' (i := 0) hFp1 rfl ?_
        walk_at "rd"
        refine r_ixT' (i := 1) hFp1 rfl ?_
        walk_at "rd"
        refine r_ixT' (i := 2) hFp1 rfl ?_
        walk_at "rd"
        refine r_tupK fun p3 H3 hp3 e3 h3 => ?_
        have n3D : p3 ≠ D := fun z => by rw [z, x2] at hp3; cases hp3
        walk_at "rd"
        refine r_append (e3 _ _ x2) (by rw [List.length_map]; exact small_lt (by omega)) fun H5 b5 h5 => ?_
        walk_at "rd"
        refine ⟨qs ++ [p3], RS ++ [[u, e, b, 1]], rfl, Evl.Ex.mutb (x1.trans e3) b5 hD, by rw [List.map_append]; exact h5, Tws.append ((x3.ex e3).exb b5 x4) ⟨b5 _ n3D _ h3, trivial⟩, ?_, ?_, by rw [List.length_append, List.length_singleton]; omega⟩
        · intro h; rcases List.mem_append.mp h with h | h
          · exact x4 h
          · exact n3D (List.mem_singleton.mp h).symm
        · rw [x5, if_pos he]
      · walk_at "rd"
        exact ⟨qs, RS, rfl, x1, x2, x3, x4, by rw [x5, if_neg (by omega), List.append_nil], by omega⟩
    clear x1 x2 x3 x4 x5 x6 hFp1
    obtain ⟨qs, RS, rfl, x1, x2, x3, x4, x5, x6⟩ := hM
    have hFp1 := x1 _ _ hFp
    have tk : rtsS (FS.take (i + 1)) = rtsS (FS.take i) ++ MJ.rts u e b := by
      unfold rtsS
      rw [List.take_add_one, hFi, List.flatMap_append]
      show _ ++ (MJ.rts u e b ++ []) = _
      rw [List.append_nil]
    unfold MJ.rts at tk
    rw [← List.append_assoc, ← x5] at tk
    walk_at "rd"
    refine r_ixT' (i := 1) hFp1 rfl ?_
    walk_at "rd"
    refine ite_d (fun he => ?_) (fun _ => ?_)
    · walk_at "rd"
      refine r_ixT' (i := 0) hFp1 rfl ?_
      walk_at "rd"
      refine r_ixT' (i := 1) hFp1 rfl ?_
      walk_at "rd"
      refine r_ixT' (i := 2) hFp1 rfl ?_
      walk_at "rd"
      refine r_tupK fun p3 H3 hp3 e3 h3 => ?_
      have n3D : p3 ≠ D := fun z => by rw [z, x2] at hp3; cases hp3
      walk_at "rd"
      refine r_append (e3 _ _ x2) (by rw [List.length_map]; exact small_lt (by omega)) fun H5 b5 h5 => ?_
      walk_at "rd"
      refine ⟨qs ++ [p3], RS ++ [[u, e, b, -1]], _, rfl, Evl.Ex.mutb (x1.trans e3) b5 hD, by rw [List.map_append]; exact h5, Tws.append ((x3.ex e3).exb b5 x4) ⟨b5 _ n3D _ h3, trivial⟩, ?_, ?_, by rw [List.length_append, List.length_singleton]; omega⟩
      · intro h; rcases List.mem_append.mp h with h | h
        · exact x4 h
        · exact n3D (List.mem_singleton.mp h).symm
      · rw [tk, if_pos he]
    · walk_at "rd"
      exact ⟨qs, RS, _, rfl, x1, x2, x3, x4, by rw [tk, if_neg (by omega), List.append_nil], by omega⟩
  · obtain ⟨qs, RS, u, rfl, x1, x2, x3, x4, x5, x6⟩ := hp
    walk_at "rd"
    rw [List.length_map, hT.len, List.take_length] at x5
    subst x5
    exact q D H' qs hD x1 x2 x3
theorem c__law_roots_of {a : Addr} {m : Int} {ps : List Addr} {FS : List (List Int)} (hA : SqL K H a (ps.map V.ref)) (hT : Tws H ps FS) (hF : ∀ F ∈ FS, isF m F) (hl : FS.length ≤ 1000) (q : ∀ (D : Addr) (H' : Hp) (qs : List Addr), H D = none → Ex H H' → H' D = some (.lst (qs.map V.ref)) → Tws H' qs (rtsS FS) → Q (.ref D) H') : sp__law_roots_of K Cof [.ref a] H Q E := ⟨a, m, ps, FS, rfl, hA, hT, hF, hl, q⟩
end

/-! #### _law_rest -/
--USE CR MQ
theorem cv_mono (g : Nat) (top : Int) (B : List Int) (k : Nat) : ML.cv (List.replicate g 0 ++ [top]) B k = if g ≤ k then top * ML.cf B (k - g) else 0 := by
  have hc : ∀ i, ML.cf (List.replicate g 0 ++ [top]) i = if i = g then top else 0 := fun i => by
    by_cases h : i < g
    · rw [ML.cf_append_left (by rw [List.length_replicate]; exact h), ML.cf_rep0, if_neg (by omega)]
    · rw [ML.cf_append_right (by rw [List.length_replicate]; omega), List.length_replicate]
      by_cases h2 : i = g
      · rw [if_pos h2, h2, Nat.sub_self]; rfl
      · rw [if_neg h2]
        obtain ⟨j, hj⟩ : ∃ j, i - g = j + 1 := ⟨i - g - 1, by omega⟩
        rw [hj, ML.cf_succ, ML.cf_nil]
  unfold ML.cv
  by_cases h : g ≤ k
  · rw [if_pos h, ML.sm_single (j := g) (by omega) fun i _ hn => by rw [hc, if_neg hn, Int.zero_mul], hc, if_pos rfl]
  · rw [if_neg h]
    exact ML.sm_zero fun i hi => by rw [hc, if_neg (by omega), Int.zero_mul]
/-- where a rest stands -/
structure RestAt (A B L : List Int) : Prop where
  tL : ML.Trim L
  eq : ∃ (f : Int) (qq : List Int), 0 < f ∧ ∀ k, f * ML.cf A k = ML.cv qq B k + ML.cf L k
def sp__law_rest (K : PySem.W.Frag) (Cof : String → Addr) : Sp := fun vs H Q _ => ∃ (a b : Addr) (A B : List Int), vs = [.ref a, .ref b] ∧ SqL K H a (A.map V.int) ∧ SqL K H b (B.map V.int) ∧ ML.Trim A ∧ ML.Trim B ∧ B ≠ [] ∧ ML.Sz 4000 A ∧ ML.Sz 4000 B ∧ A.length ≤ 100 ∧ B.length ≤ 100 ∧
  ∀ (p : Addr) (H' : Hp) (L : List Int), H p = none → Ex H H' → H' p = some (.lst (L.map V.int)) → RestAt A B L → L.length < B.length → Q (.ref p) H'
def t__law_rest (K : PySem.W.Frag) (Cof : String → Addr) (E : XK) : TS :=
  tSeq (tAsg (tCB (rListS K) (tCons (tVar 0) (tNil))) (gName 2))
  (tSeq (tWhile (tTest (tOp rGe (tCB (rLenS K) (tCons (tVar 2) (tNil))) (tCB (rLenS K) (tCons (tVar 1) (tNil))))) (tSeq (tAsg (tOp rISub (tCB (rLenS K) (tCons (tVar 2) (tNil))) (tCB (rLenS K) (tCons (tVar 1) (tNil)))) (gName 3))
  (tSeq (tAsg (tOp (rIxL K) (tVar 2) (tUn rNeg (tC (.int 1)))) (gName 4))
  (tCut (tIfS (tTest (tOp rLt (tOp (rIxL K) (tVar 1) (tUn rNeg (tC (.int 1)))) (tC (.int 0)))) (tAsg (tOp rISub (tC (.int 0)) (tVar 4)) (gName 4)) (tNext))
  (tSeq (tAsg (tLc (iList K (tVar 2)) (gName 5) (tYes) (tOp rMul (tVar 5) (tCB rAbs (tCons (tOp (rIxL K) (tVar 1) (tUn rNeg (tC (.int 1)))) (tNil)))) [5]) (gName 2))
  (tSeq (tFor (iEnum K (tCons (tVar 1) (tNil))) (gTup K 2 (gCons (gName 6) (gCons (gName 5) (gNil)))) (tAsg (tOp rISub (tOp (rIxL K) (tVar 2) (tOp rIAdd (tVar 3) (tVar 6))) (tOp rMul (tVar 4) (tVar 5))) (gSub (tVar 2) (tOp rIAdd (tVar 3) (tVar 6)) rSetL)))
  (tAsg (tCall (sp__law_trim K Cof) [] E0 (tCons (tVar 2) (tNil))) (gName 2))))))))
  (tRet (tVar 2)))

section
variable {K : PySem.W.Frag} {Cof : String → Addr} {vs : List V} {H : Hp} {Q : VK} {E : XK}
theorem len__law_rest (h : sp__law_rest K Cof vs H Q E) : vs.length = 2 := by
  obtain ⟨a, b, A, B, rfl, _⟩ := h; rfl
theorem rd__law_rest (h : sp__law_rest K Cof vs H Q E) : t__law_rest K Cof E { nx := fun _ H' => Q .non H', rt := Q } (start ["_law_kp", "_law_kq", "_law_left", "_law_gap", "_law_top", "_law_one", "_law_k"] vs) H := by
  obtain ⟨a, b, A, B, rfl, hA, hB, tA, tB, nB, sA, sB, lA, lB, q⟩ := h
  have B0 := List.length_pos_iff.mpr nB
  have lcB : ML.cf B (B.length - 1) ≠ 0 := MP.trim_last tB nB
  unfold t__law_rest
  walk_at "rd"
  refine r_list hA fun p1 H1 hp1 e1 h1 => ?_
  walk_at "rd"
  refine r_while (fun m σ' H' => ∃ (p : Addr) (L : List Int) (u3 u4 u5 u6 : Option V), σ' = [some (.ref a), some (.ref b), some (.ref p), u3, u4, u5, u6] ∧ H p = none ∧ Ex H H' ∧ H' p = some (.lst (L.map V.int)) ∧ RestAt A B L ∧ L.length ≤ A.length ∧ ML.Sz (4000 + 4002 * (A.length - L.length)) L ∧ m = L.length) A.length ⟨p1, A, _, _, _, _, rfl, hp1, e1, h1, ⟨tA, 1, [], by decide, fun k => by
    have : ML.cv [] B k = 0 := ML.sm_zero fun i _ => by rw [ML.cf_nil, Int.zero_mul]
    rw [this]; omega⟩, Nat.le_refl _, by rw [Nat.sub_self]; exact sA, rfl⟩ (fun m σ' H' hw => ?_)
  obtain ⟨p, L, u3, u4, u5, u6, rfl, hp, e2, h2, ⟨tL, f, qq, f0, hf⟩, lL, sL, rfl⟩ := hw
  have hB2 := e2.l hB
  walk_at "rd"
  refine ite_d (fun hge => wh_in ?_) (fun hlt => ?_)
  · have hLB : B.length ≤ L.length := by omega
    have nL : L ≠ [] := fun z => by rw [z, List.length_nil] at hLB; omega
    have eg : (L.length : Int) - (B.length : Int) = ((L.length - B.length : Nat) : Int) := by omega
    have bigN : 4000 + 4002 * (A.length - L.length) ≤ 420000 := by omega
    walk_at "rd"
    rw [eg]
    refine r_ixLast (SqL.inj h2) nL ?_
    walk_at "rd"
    obtain ⟨g, hg⟩ : ∃ g, L.length - B.length = g := ⟨_, rfl⟩
    rw [hg]
    refine ⟨fun σ3 H3 => ∃ (top : Int), σ3 = [some (.ref a), some (.ref b), some (.ref p), some (.int (g : Int)), some (.int top), u5, u6] ∧ H' = H3 ∧ top.natAbs = (ML.cf L (L.length - 1)).natAbs ∧ top * ML.cf B (B.length - 1) = ((ML.cf B (B.length - 1)).natAbs : Int) * ML.cf L (L.length - 1), ?_, fun σ3 H3 hM => ?_⟩
    · walk_at "rd"
      refine r_ixLast hB2 nB ?_
      walk_at "rd"
      have eB : B.getD (B.length - 1) 0 = ML.cf B (B.length - 1) := rfl
      have eL : L.getD (L.length - 1) 0 = ML.cf L (L.length - 1) := rfl
      rw [eB, eL]
      refine ite_d (fun hneg => ?_) (fun hpos => ?_)
      · walk_at "rd"
        refine ⟨0 - ML.cf L (L.length - 1), rfl, rfl, by omega, ?_⟩
        rw [show ((ML.cf B (B.length - 1)).natAbs : Int) = - ML.cf B (B.length - 1) by omega, Int.sub_mul, Int.zero_mul, Int.neg_mul, Int.mul_comm]; omega
      · walk_at "rd"
        refine ⟨ML.cf L (L.length - 1), rfl, rfl, rfl, ?_⟩
        rw [show ((ML.cf B (B.length - 1)).natAbs : Int) = ML.cf B (B.length - 1) by omega, Int.mul_comm]
    obtain ⟨top, rfl, rfl, ht1, ht2⟩ := hM
    walk_at "rd"
    have lcs : (((ML.cf B (B.length - 1)).natAbs : Int)).natAbs < 2 ^ 4000 := by
      rw [Int.natAbs_natCast]; exact sB.cf _
    have tops : top.natAbs < 2 ^ (4000 + 4002 * (A.length - L.length)) := by rw [ht1]; exact sL.cf _
    refine lc_ints (fun x => x * ((ML.cf B (B.length - 1)).natAbs : Int)) (SqL.inj h2) (by omega) (fun x hx H4 e4 Q' k' => ?_) (fun p4 H4 hp4 e4 h4 => ?_)
    · walk_at "rd"
      refine r_ixLast (e4.l hB2) nB ?_
      walk_at "rd"
      have eB : (if B.getD (B.length - 1) 0 < 0 then -B.getD (B.length - 1) 0 else B.getD (B.length - 1) 0) = ((ML.cf B (B.length - 1)).natAbs : Int) := by
        show (if ML.cf B (B.length - 1) < 0 then -ML.cf B (B.length - 1) else ML.cf B (B.length - 1)) = _
        split <;> omega
      rw [eB]
      refine r_mul (wide_mul (sL x hx) lcs (by omega) (by decide) (by omega)) ?_
      exact k' _ (Evl.Ex.refl _)
    have hB4 := e4.l hB2
    have c4 : ∀ k, ML.cf (L.map fun x => x * ((ML.cf B (B.length - 1)).natAbs : Int)) k = ML.cf L k * ((ML.cf B (B.length - 1)).natAbs : Int) := fun k => ML.cf_map (f := fun x => x * ((ML.cf B (B.length - 1)).natAbs : Int)) (by omega) L k
    have l4 : (L.map fun x => x * ((ML.cf B (B.length - 1)).natAbs : Int)).length = L.length := List.length_map ..
    have s4 : ML.Sz (4000 + 4002 * (A.length - L.length) + 4000) (L.map fun x => x * ((ML.cf B (B.length - 1)).natAbs : Int)) := ML.Sz.of fun k _ => by
      rw [c4]; exact wide_lt (sL.cf k) lcs
    generalize hM4 : (L.map fun x => x * ((ML.cf B (B.length - 1)).natAbs : Int)) = M at h4 c4 l4 s4
    clear hM4
    walk_at "rd"
    refine loop_enum (xs := B.map V.int) (fun i σ5 H5 => ∃ (rs : List Int) (u5 u6 : Option V), σ5 = [some (.ref a), some (.ref b), some (.ref p4), some (.int (g : Int)), some (.int top), u5, u6] ∧ Ex H' H5 ∧ H5 p4 = some (.lst (rs.map V.int)) ∧ rs.length = L.length ∧ ∀ t, ML.cf rs t = if g ≤ t ∧ t - g < i then ML.cf M t - top * ML.cf B (t - g) else ML.cf M t)
      ⟨M, _, _, rfl, e4, h4, l4, fun t => by rw [if_neg (by omega)]⟩ (fun i σ5 H5 _ hp5 => ?_) (fun j x σ5 H5 H6 hx hp5 e6 => ?_) (fun σ5 H5 hp5 => ?_)
    · obtain ⟨rs, u5, u6, rfl, e5, _⟩ := hp5
      exact e5.l hB2
    · obtain ⟨rs, u5, u6, rfl, e5, h5, l5, c5⟩ := hp5
      have e56 := e5.trans e6
      have h6 := e6 _ _ h5
      obtain ⟨hj, ej⟩ := List.getElem?_eq_some_iff.mp hx
      rw [List.length_map] at hj
      have ex : x = .int (ML.cf B j) := by
        rw [← ej, List.getElem_map, ML.cf_get hj]
      subst ex
      have egj : (g : Int) + (j : Int) = ((g + j : Nat) : Int) := by omega
      walk_at "rd"
      rw [egj]
      refine r_ixI (ns := rs) (SqL.inj h6) (by omega) (by omega) ?_
      rw [Int.toNat_natCast]
      walk_at "rd"
      refine r_mul (wide_mul tops (sB.cf j) (by omega) (by decide) (by omega)) ?_
      walk_at "rd"
      rw [egj]
      refine r_setL (p := p4) (xs := rs.map V.int) h6 (Evl.ixN_nat (by rw [List.length_map]; omega)) fun H7 b7 h7 => ?_
      refine ⟨rs.set (g + j) (ML.cf rs (g + j) - top * ML.cf B j), _, _, rfl, Evl.Ex.mutb e56 b7 hp4, by rw [List.map_set]; exact h7, by rw [List.length_set]; exact l5, fun t => ?_⟩
      rw [ML.cf_set (by omega), c5 (g + j), c5 t]
      by_cases ht : t = g + j
      · subst ht
        rw [if_pos (rfl : g + j = g + j), if_neg (by omega), if_pos (by omega), Nat.add_sub_cancel_left]
      · rw [if_neg ht]
        by_cases h3 : g ≤ t ∧ t - g < j
        · rw [if_pos h3, if_pos (by omega)]
        · rw [if_neg h3, if_neg (by omega)]
    obtain ⟨rs, u5', u6', rfl, e5, h5, l5, c5⟩ := hp5
    rw [List.length_map] at c5
    have c6 : ∀ t, ML.cf rs t = ML.cf M t - (if g ≤ t then top * ML.cf B (t - g) else 0) := fun t => by
      rw [c5]
      by_cases h3 : g ≤ t
      · by_cases h4 : t - g < B.length
        · rw [if_pos ⟨h3, h4⟩, if_pos h3]
        · rw [if_neg (by omega), if_pos h3, ML.cf_beyond (P := B) (by omega)]; omega
      · rw [if_neg (by omega), if_neg h3]; omega
    walk_at "rd"
    refine c__law_trim (SqL.inj h5) (by omega) fun p8 H8 hp8 e8 h8 => ?_
    walk_at "rd"
    have last0 : ML.cf rs (L.length - 1) = 0 := by
      rw [c6, if_pos (by omega), c4, show L.length - 1 - g = B.length - 1 by omega, ht2, Int.mul_comm]; omega
    have lT : (ML.trimL rs).length < L.length := by
      have h1 := ML.trimL_len rs
      apply Classical.byContradiction
      intro hh
      have ne : ML.trimL rs ≠ [] := fun z => by rw [z] at hh; simp at hh; exact nL hh
      have h2 := MP.trim_last (ML.trim_trimL rs) ne
      rw [show (ML.trimL rs).length - 1 = L.length - 1 by omega, ML.cf_trimL, last0] at h2
      exact h2 rfl
    refine ⟨(ML.trimL rs).length, lT, p8, ML.trimL rs, _, _, _, _, rfl, Evl.fresh_back (e2.trans e5) hp8, (e2.trans e5).trans e8, h8, ⟨ML.trim_trimL rs, f * ((ML.cf B (B.length - 1)).natAbs : Int), ML.addL (MR.sclL ((ML.cf B (B.length - 1)).natAbs : Int) qq) (List.replicate g 0 ++ [top]), Int.mul_pos f0 (by omega), fun k => ?_⟩, by omega, ?_, rfl⟩
    · rw [MR.cv_add_left, MR.cv_scl_left, cv_mono, ML.cf_trimL, c6, c4]
      have := hf k
      have h9 : f * ((ML.cf B (B.length - 1)).natAbs : Int) * ML.cf A k = ((ML.cf B (B.length - 1)).natAbs : Int) * (f * ML.cf A k) := by
        rw [Int.mul_comm f, Int.mul_assoc]
      rw [h9, this, Int.mul_add, Int.mul_comm (ML.cf L k)]
      omega
    · refine (ML.Sz.trim (n := 4000 + 4002 * (A.length - L.length) + 4001) (ML.Sz.of fun t _ => ?_)).mono (by omega)
      rw [c6]
      have b1 := s4.cf t
      have b2 := wide_lt tops (sB.cf (t - g))
      rw [show 4000 + 4002 * (A.length - L.length) + 4001 = 4000 + 4002 * (A.length - L.length) + 4000 + 1 by omega, Nat.pow_succ]
      generalize (2 : Nat) ^ (4000 + 4002 * (A.length - L.length) + 4000) = z at b1 b2 ⊢
      split <;> omega
  · walk_at "rd"
    exact q p _ L hp e2 h2 ⟨tL, f, qq, f0, hf⟩ (by omega)
theorem c__law_rest {a b : Addr} {A B : List Int} (hA : SqL K H a (A.map V.int)) (hB : SqL K H b (B.map V.int)) (tA : ML.Trim A) (tB : ML.Trim B) (nB : B ≠ []) (sA : ML.Sz 4000 A) (sB : ML.Sz 4000 B) (lA : A.length ≤ 100) (lB : B.length ≤ 100) (q : ∀ (p : Addr) (H' : Hp) (L : List Int), H p = none → Ex H H' → H' p = some (.lst (L.map V.int)) → RestAt A B L → L.length < B.length → Q (.ref p) H') : sp__law_rest K Cof [.ref a, .ref b] H Q E := ⟨a, b, A, B, rfl, hA, hB, tA, tB, nB, sA, sB, lA, lB, q⟩
/-- the rest of the law and that of the program -/
theorem rest_next {A B L : List Int} (h : RestAt A B L) (tA : ML.Trim A) (tB : ML.Trim B) (nB : B ≠ []) (hl : L.length < B.length) : MP.shrunkL (L.map fun x => 0 - x) = MS.nextL A B ∧ (L = [] ↔ MD.remL A B = []) := by
  obtain ⟨tL, f, qq, f0, hf⟩ := h
  have fp := MD.facL_pos (P := A) tB nB
  have hu : ∀ k, MD.facL A B * ML.cf L k = f * ML.cf (MD.remL A B) k := fun k => (MR.rest_unique tB nB hl hf k).1
  refine ⟨?_, ?_⟩
  · unfold MS.nextL
    refine MS.shr_prop (MS.neg_trim (MD.trim_rem tA)) (MS.neg_trim tL) f0 fp fun k => ?_
    rw [MS.neg_cf, MS.neg_cf, Int.mul_neg, Int.mul_neg, hu]
  · rw [MR.cf_zero_nil tL, MR.cf_zero_nil (MD.trim_rem tA)]
    constructor
    · intro h k
      have := hu k
      rw [h, Int.mul_zero] at this
      exact (Int.mul_eq_zero.mp this.symm).resolve_left (by omega)
    · intro h k
      have := hu k
      rw [h, Int.mul_zero] at this
      exact (Int.mul_eq_zero.mp this).resolve_left (by omega)
end

/-! #### _law_slope -/
--USE ML RE
def sp__law_slope (K : PySem.W.Frag) (Cof : String → Addr) : Sp := fun vs H Q _ => ∃ (a : Addr) (P : List Int) (n : Nat), vs = [.ref a] ∧ SqL K H a (P.map V.int) ∧ P.length ≤ 100000 ∧ ML.Sz n P ∧ (0 < n ∧ n ≤ 100000) ∧ RetI (ML.slopeL P) H Q
def t__law_slope (K : PySem.W.Frag) (Cof : String → Addr) (E : XK) : TS :=
  tRet (tSl (rSlL K) (tLc (iEnum K (tCons (tVar 0) (tNil))) (gTup K 2 (gCons (gName 1) (gCons (gName 2) (gNil)))) (tYes) (tOp rMul (tVar 1) (tVar 2)) [1, 2]) (tPart (tC (.int 1))) (tNoPart))

section
variable {K : PySem.W.Frag} {Cof : String → Addr} {vs : List V} {H : Hp} {Q : VK} {E : XK}
theorem len__law_slope (h : sp__law_slope K Cof vs H Q E) : vs.length = 1 := by
  obtain ⟨a, P, n, rfl, _⟩ := h; rfl
theorem slope_drop (P : List Int) : ((List.range P.length).map fun (i : Nat) => (i : Int) * ML.cf P i).drop 1 = ML.slopeL P := by
  unfold ML.slopeL
  cases P with
  | nil => rfl
  | cons c r =>
    rw [List.length_cons, List.range_succ_eq_map, List.map_cons, List.map_map, List.drop_succ_cons, List.drop_zero, Nat.add_sub_cancel]
    exact List.map_congr_left fun k _ => by show ((k + 1 : Nat) : Int) * _ = _; rw [Int.natCast_add]; rfl
theorem rd__law_slope (h : sp__law_slope K Cof vs H Q E) : t__law_slope K Cof E { nx := fun _ H' => Q .non H', rt := Q } (start ["_law_kp", "_law_k", "_law_one"] vs) H := by
  obtain ⟨a, P, n, rfl, hS, hl, sz, ⟨n0, n1⟩, q⟩ := h
  unfold t__law_slope
  walk_at "rd"
  refine r_cEnumA hS ?_
  refine lc_enumI (j := 1) (k := 2) (fun i x => (i : Int) * x) (by decide) hS (by omega) (fun i x hx H1 e1 Q' k' => ?_) (fun p H1 hp e1 h1 => ?_)
  · walk_at "rd"
    have hi : i < P.length := (List.getElem?_eq_some_iff.mp hx).1
    refine r_mul (wide_mul (a := 18) (by omega) (sz x (List.mem_of_getElem? hx)) (by decide) n0 (by omega)) ?_
    exact k' _ (Evl.Ex.refl _)
  · walk_at "rd"
    refine r_slI (SqL.inj h1) fun p2 H2 hp2 e2 h2 => ?_
    rw [sliceI_fromI (by decide), show ((1 : Int)).toNat = 1 from rfl, slope_drop] at h2
    exact q p2 H2 (Evl.fresh_back e1 hp2) (e1.trans e2) h2
theorem c__law_slope {a : Addr} {P : List Int} (n : Nat) (h : SqL K H a (P.map V.int)) (hl : P.length ≤ 100000) (sz : ML.Sz n P) (hn : 0 < n ∧ n ≤ 100000) (q : ∀ p H', H p = none → Ex H H' → H' p = some (.lst ((ML.slopeL P).map V.int)) → Q (.ref p) H') : sp__law_slope K Cof [.ref a] H Q E := ⟨a, P, n, rfl, h, hl, sz, hn, q⟩
end

/-! #### _law_part -/
--USE CR MQ
/-- what a quotient tells: times B, and a rest that is shorter than B, it is A some times -/
def PartAt (A B F : List Int) : Prop := ∃ (f : Int) (L : List Int), 0 < f ∧ (∀ k, f * ML.cf A k = ML.cv F B k + ML.cf L k) ∧ ∀ k, B.length ≤ k + 1 → ML.cf L k = 0
def sp__law_part (K : PySem.W.Frag) (Cof : String → Addr) : Sp := fun vs H Q _ => ∃ (a b : Addr) (A B : List Int), vs = [.ref a, .ref b] ∧ SqL K H a (A.map V.int) ∧ SqL K H b (B.map V.int) ∧ ML.Trim B ∧ B ≠ [] ∧ B.length ≤ A.length ∧ A.length ≤ 6 ∧ ML.Sz 200 A ∧ ML.Sz 200 B ∧
  ∀ (p : Addr) (H' : Hp) (F : List Int), H p = none → Ex H H' → H' p = some (.lst (F.map V.int)) → F.length = A.length - B.length + 1 → ML.Sz 4000 F → PartAt A B F → Q (.ref p) H'
def t__law_part (K : PySem.W.Frag) (Cof : String → Addr) (E : XK) : TS :=
  tSeq (tAsg (tCB (rListS K) (tCons (tVar 0) (tNil))) (gName 2))
  (tSeq (tAsg (tLc (iRng1 (tCons (tOp rIAdd (tOp rISub (tCB (rLenS K) (tCons (tVar 0) (tNil))) (tCB (rLenS K) (tCons (tVar 1) (tNil)))) (tC (.int 1))) (tNil))) (gName 4) (tYes) (tC (.int 0)) [4]) (gName 3))
  (tSeq (tFor (iRevR (tRg1 (tCB (rLenS K) (tCons (tVar 3) (tNil))))) (gName 4) (tSeq (tAsg (tLc (iList K (tVar 2)) (gName 5) (tYes) (tOp rMul (tVar 5) (tCB rAbs (tCons (tOp (rIxL K) (tVar 1) (tUn rNeg (tC (.int 1)))) (tNil)))) [5]) (gName 2))
  (tSeq (tAsg (tLc (iList K (tVar 3)) (gName 5) (tYes) (tOp rMul (tVar 5) (tCB rAbs (tCons (tOp (rIxL K) (tVar 1) (tUn rNeg (tC (.int 1)))) (tNil)))) [5]) (gName 3))
  (tSeq (tAsg (tOp rDiv (tOp (rIxL K) (tVar 2) (tOp rISub (tOp rIAdd (tVar 4) (tCB (rLenS K) (tCons (tVar 1) (tNil)))) (tC (.int 1)))) (tOp (rIxL K) (tVar 1) (tUn rNeg (tC (.int 1))))) (gSub (tVar 3) (tVar 4) rSetL))
  (tFor (iEnum K (tCons (tVar 1) (tNil))) (gTup K 2 (gCons (gName 6) (gCons (gName 5) (gNil)))) (tAsg (tOp rISub (tOp (rIxL K) (tVar 2) (tOp rIAdd (tVar 4) (tVar 6))) (tOp rMul (tOp (rIxL K) (tVar 3) (tVar 4)) (tVar 5))) (gSub (tVar 2) (tOp rIAdd (tVar 4) (tVar 6)) rSetL)))))))
  (tRet (tVar 3))))

section
variable {K : PySem.W.Frag} {Cof : String → Addr} {vs : List V} {H : Hp} {Q : VK} {E : XK}
theorem len__law_part (h : sp__law_part K Cof vs H Q E) : vs.length = 2 := by
  obtain ⟨a, b, A, B, rfl, _⟩ := h; rfl
theorem rd__law_part (h : sp__law_part K Cof vs H Q E) : t__law_part K Cof E { nx := fun _ H' => Q .non H', rt := Q } (start ["_law_kp", "_law_kq", "_law_left", "_law_found", "_law_k", "_law_one", "_law_j"] vs) H := by
  obtain ⟨a, b, A, B, rfl, hA, hB, tB, nB, hle, lA6, sA, sB, q⟩ := h
  have B0 := List.length_pos_iff.mpr nB
  have lcB : ML.cf B (B.length - 1) ≠ 0 := MP.trim_last tB nB
  obtain ⟨g, hg⟩ : ∃ g, A.length - B.length = g := ⟨_, rfl⟩
  obtain ⟨c, hc⟩ : ∃ c : Int, ((ML.cf B (B.length - 1)).natAbs : Int) = c := ⟨_, rfl⟩
  have c0 : 0 < c := by omega
  have cs : c.natAbs < 2 ^ 200 := by
    have := sB.cf (B.length - 1)
    omega
  have eB : (if B.getD (B.length - 1) 0 < 0 then -B.getD (B.length - 1) 0 else B.getD (B.length - 1) 0) = c := by
    show (if ML.cf B (B.length - 1) < 0 then -ML.cf B (B.length - 1) else ML.cf B (B.length - 1)) = _
    split <;> omega
  have eg1 : (A.length : Int) - (B.length : Int) + 1 = ((g + 1 : Nat) : Int) := by omega
  unfold t__law_part
  walk_at "rd"
  refine r_list hA fun p1 H1 hp1 e1 h1 => ?_
  walk_at "rd"
  rw [eg1]
  refine r_cRng1A (by omega) (by omega) ?_
  rw [Int.toNat_natCast]
  refine lc_rangeI (fun _ => 0) (by omega) (fun i hi H4 e4 Q' k' => ?_) fun p2 H2 hp2 e2 h2 => ?_
  · walk_at "rd"
    exact k' _ (Evl.Ex.refl _)
  have e0 : (List.range (g + 1)).map (fun _ => (0 : Int)) = List.replicate (g + 1) 0 := by
    rw [List.map_const', List.length_range]
  rw [e0] at h2
  have e12 := e1.trans e2
  have h1' := e2 _ _ h1
  have hp2' := Evl.fresh_back e1 hp2
  walk_at "rd"
  rw [List.length_replicate]
  refine r_revRA (by omega) (by omega) ?_
  rw [Int.toNat_natCast]
  refine loop_down (fun k σ' H' => ∃ (pl pf : Addr) (rs qs : List Int) (f : Int) (u4 u5 u6 : Option V), σ' = [some (.ref a), some (.ref b), some (.ref pl), some (.ref pf), u4, u5, u6] ∧ Ex H H' ∧ H pf = none ∧ H' pl = some (.lst (rs.map V.int)) ∧ H' pf = some (.lst (qs.map V.int)) ∧ rs.length = A.length ∧ qs.length = g + 1 ∧ 0 < f ∧ (∀ j, f * ML.cf A j = ML.cv qs B j + ML.cf rs j) ∧ (∀ i, i < k → ML.cf qs i = 0) ∧ (∀ t, k + (B.length - 1) ≤ t → ML.cf rs t = 0) ∧ ML.Sz (200 + 401 * (g + 1 - k)) rs ∧ ML.Sz (200 + 401 * (g + 1 - k)) qs)
    ⟨p1, p2, A, _, 1, _, _, _, rfl, e12, hp2', h1', h2, rfl, List.length_replicate, by decide, fun j => ?_, fun i _ => ML.cf_rep0 _ _, fun t ht => ML.cf_beyond (by omega), sA.mono (by omega), fun x hx => ?_⟩ (fun k σ' H' hk hp' => ?_) (fun σ' H' hp' => ?_)
  · have : ML.cv (List.replicate (g + 1) 0) B j = 0 := ML.sm_zero fun i _ => by rw [ML.cf_rep0, Int.zero_mul]
    rw [this]; omega
  · rw [List.eq_of_mem_replicate hx]; exact Nat.two_pow_pos _
  · obtain ⟨pl, pf, rs, qs, f, u4, u5, u6, rfl, x1, x2, x3, x4, lr, lq, f0, hf, hz, ht, sr, sq⟩ := hp'
    have hB1 := x1.l hB
    obtain ⟨w, hw, hw2⟩ : ∃ w, 200 + 401 * (g + 1 - (k + 1)) = w ∧ w + 401 ≤ 200 + 401 * (g + 1 - k) := ⟨_, rfl, by omega⟩
    rw [hw] at sr sq
    have big : 200 ≤ w ∧ w ≤ 3000 := by omega
    walk_at "rd"
    refine lc_ints (fun x => x * c) (SqL.inj x3) (by omega) (fun x hx H4 e4 Q' k' => ?_) (fun p4 H4 hp4 e4 h4 => ?_)
    · walk_at "rd"
      refine r_ixLast (e4.l hB1) nB ?_
      walk_at "rd"
      rw [eB]
      refine r_mul (wide_mul (sr x hx) cs (by omega) (by decide) (by omega)) ?_
      exact k' _ (Evl.Ex.refl _)
    have hB4 := e4.l hB1
    walk_at "rd"
    refine lc_ints (fun x => x * c) (SqL.inj (e4 _ _ x4)) (by omega) (fun x hx H5 e5 Q' k' => ?_) (fun p5 H5 hp5 e5 h5 => ?_)
    · walk_at "rd"
      refine r_ixLast (e5.l hB4) nB ?_
      walk_at "rd"
      rw [eB]
      refine r_mul (wide_mul (sq x hx) cs (by omega) (by decide) (by omega)) ?_
      exact k' _ (Evl.Ex.refl _)
    have hB5 := e5.l hB4
    have h4' := e5 _ _ h4
    have e45 := e4.trans e5
    have y1 := x1.trans e45
    have z4 : H p4 = none := Evl.fresh_back x1 hp4
    have z5 : H p5 = none := Evl.fresh_back (x1.trans e4) hp5
    have n45 : p4 ≠ p5 := fun z => by rw [← z, h4] at hp5; cases hp5
    have cr : ∀ j, ML.cf (rs.map fun x => x * c) j = ML.cf rs j * c := fun j => ML.cf_map (f := fun x => x * c) (by omega) rs j
    have cq : ∀ j, ML.cf (qs.map fun x => x * c) j = ML.cf qs j * c := fun j => ML.cf_map (f := fun x => x * c) (by omega) qs j
    have lr' : (rs.map fun x => x * c).length = A.length := by rw [List.length_map, lr]
    have lq' : (qs.map fun x => x * c).length = g + 1 := by rw [List.length_map, lq]
    have sr' : ML.Sz (w + 200) (rs.map fun x => x * c) := ML.Sz.of fun j _ => by rw [cr]; exact wide_lt (sr.cf j) cs
    have sq' : ML.Sz (w + 200) (qs.map fun x => x * c) := ML.Sz.of fun j _ => by rw [cq]; exact wide_lt (sq.cf j) cs
    generalize (rs.map fun x => x * c) = M at h4 h4' cr lr' sr'
    generalize (qs.map fun x => x * c) = N at h5 cq lq' sq'
    walk_at "rd"
    have ek : (k : Int) + (B.length : Int) - 1 = ((k + (B.length - 1) : Nat) : Int) := by omega
    rw [ek]
    refine r_ixI (ns := M) (SqL.inj h4') (by omega) (by omega) ?_
    rw [Int.toNat_natCast]
    walk_at "rd"
    refine r_ixLast hB5 nB ?_
    refine r_div ⟨lcB, Nat.lt_trans (PySem.Flt.log2_lt_of (by decide) (sB.cf _)) (by decide)⟩ ?_
    have eM : (M.getD (k + (B.length - 1)) 0).fdiv (B.getD (B.length - 1) 0) = (ML.cf M (k + (B.length - 1))).fdiv (ML.cf B (B.length - 1)) := rfl
    rw [eM]
    have hd : (ML.cf M (k + (B.length - 1))).fdiv (ML.cf B (B.length - 1)) * ML.cf B (B.length - 1) = ML.cf M (k + (B.length - 1)) := Int.fdiv_mul_cancel (by
      rw [cr, ← hc]
      exact Int.dvd_trans (Int.dvd_natAbs.mpr (Int.dvd_refl _)) (Int.dvd_mul_left _ _))
    generalize (ML.cf M (k + (B.length - 1))).fdiv (ML.cf B (B.length - 1)) = d at hd ⊢
    have ds : d.natAbs < 2 ^ (w) := by
      have h1 := congrArg Int.natAbs hd
      rw [cr, Int.natAbs_mul, Int.natAbs_mul] at h1
      have h2 : c.natAbs = (ML.cf B (B.length - 1)).natAbs := by omega
      rw [h2] at h1
      rw [Nat.eq_of_mul_eq_mul_right (by omega) h1]
      exact sr.cf _
    walk_at "rd"
    refine r_setL (p := p5) (xs := N.map V.int) h5 (Evl.ixN_nat (by rw [List.length_map]; omega)) fun H6 b6 h6 => ?_
    have y6 : Ex H H6 := Evl.Ex.mutb y1 b6 z5
    have h46 : H6 p4 = some (.lst (M.map V.int)) := b6 _ n45 _ h4'
    rw [← List.map_set] at h6
    walk_at "rd"
    refine loop_enum (xs := B.map V.int) (fun i σ2 H2 => ∃ (ls : List Int) (u5 u6 : Option V), σ2 = [some (.ref a), some (.ref b), some (.ref p4), some (.ref p5), some (.int (k : Int)), u5, u6] ∧ Ex H H2 ∧ H2 p4 = some (.lst (ls.map V.int)) ∧ H2 p5 = some (.lst ((N.set k d).map V.int)) ∧ ls.length = A.length ∧ ∀ t, ML.cf ls t = if k ≤ t ∧ t - k < i then ML.cf M t - d * ML.cf B (t - k) else ML.cf M t)
      ⟨M, _, _, rfl, y6, h46, h6, lr', fun t => by rw [if_neg (by omega)]⟩ (fun i σ2 H2 _ hp2 => ?_) (fun j x σ2 H2 H2' hx hp2 e2 => ?_) (fun σ2 H2 hp2 => ?_)
    · obtain ⟨ls, u5, u6, rfl, w1, _⟩ := hp2
      exact w1.l hB
    · obtain ⟨ls, u5, u6, rfl, w1, w2, w3, w4, w5⟩ := hp2
      have w1' := w1.trans e2
      have w2' := e2 _ _ w2
      have w3' := e2 _ _ w3
      obtain ⟨hj, ej⟩ := List.getElem?_eq_some_iff.mp hx
      rw [List.length_map] at hj
      have ex : x = .int (ML.cf B j) := by
        rw [← ej, List.getElem_map, ML.cf_get hj]
      subst ex
      have ekj : (k : Int) + (j : Int) = ((k + j : Nat) : Int) := by omega
      have ln : (N.set k d).length = g + 1 := by rw [List.length_set, lq']
      walk_at "rd"
      rw [ekj]
      refine r_ixI (ns := ls) (SqL.inj w2') (by omega) (by omega) ?_
      rw [Int.toNat_natCast]
      walk_at "rd"
      refine r_ixI (ns := N.set k d) (SqL.inj w3') (by omega) (by omega) ?_
      rw [Int.toNat_natCast]
      have eN : (N.set k d).getD k 0 = d := by
        show ML.cf (N.set k d) k = d
        rw [ML.cf_set (by omega), if_pos rfl]
      rw [eN]
      walk_at "rd"
      refine r_mul (wide_mul ds (sB.cf j) (by omega) (by decide) (by omega)) ?_
      walk_at "rd"
      rw [ekj]
      refine r_setL (p := p4) (xs := ls.map V.int) w2' (Evl.ixN_nat (by rw [List.length_map]; omega)) fun H12 b12 h12 => ?_
      refine ⟨ls.set (k + j) (ML.cf ls (k + j) - d * ML.cf B j), _, _, rfl, Evl.Ex.mutb w1' b12 z4, by rw [List.map_set]; exact h12, b12 _ (Ne.symm n45) _ w3', by rw [List.length_set]; exact w4, fun t => ?_⟩
      rw [ML.cf_set (by omega), w5 (k + j), w5 t]
      by_cases ht : t = k + j
      · subst ht
        rw [if_pos (rfl : k + j = k + j), if_neg (by omega), if_pos (by omega), Nat.add_sub_cancel_left]
      · rw [if_neg ht]
        by_cases h3 : k ≤ t ∧ t - k < j
        · rw [if_pos h3, if_pos (by omega)]
        · rw [if_neg h3, if_neg (by omega)]
    · obtain ⟨ls, u5', u6', rfl, w1, w2, w3, w4, w5⟩ := hp2
      rw [List.length_map] at w5
      have w6 : ∀ t, ML.cf ls t = ML.cf M t - (if k ≤ t then d * ML.cf B (t - k) else 0) := fun t => by
        rw [w5]
        by_cases h3 : k ≤ t
        · by_cases h4 : t - k < B.length
          · rw [if_pos ⟨h3, h4⟩, if_pos h3]
          · rw [if_neg (by omega), if_pos h3, ML.cf_beyond (P := B) (by omega)]; omega
        · rw [if_neg (by omega), if_neg h3]; omega
      have kN : ML.cf N k = 0 := by rw [cq, hz k (by omega), Int.zero_mul]
      have cvN : ∀ j, ML.cv N B j = ML.cv qs B j * c := fun j => by
        unfold ML.cv
        rw [← ML.sm_mul_r]
        exact ML.sm_congr fun i _ => by rw [cq]; grind
      refine ⟨p4, p5, ls, N.set k d, f * c, _, _, _, rfl, w1, z5, w2, w3, w4, by rw [List.length_set, lq'], Int.mul_pos f0 c0, fun j => ?_, fun i hi => ?_, fun t h9 => ?_, ?_, ?_⟩
      · rw [MD.cv_set (by omega) kN, w6, cvN, cr]
        have := hf j
        have h9 : f * c * ML.cf A j = (f * ML.cf A j) * c := by grind
        rw [h9, this, Int.add_mul]
        omega
      · rw [ML.cf_set (by omega), if_neg (by omega), cq, hz i (by omega), Int.zero_mul]
      · rw [w6, if_pos (by omega)]
        by_cases h8 : t = k + (B.length - 1)
        · rw [h8, Nat.add_sub_cancel_left, hd]; omega
        · rw [cr, ht t (by omega), ML.cf_beyond (P := B) (by omega)]; omega
      · refine (ML.Sz.of (n := w + 401) fun t _ => ?_).mono (by omega)
        rw [w6]
        have k1 := sr'.cf t
        have k2 : (if k ≤ t then d * ML.cf B (t - k) else 0).natAbs < 2 ^ (w + 200) := by
          split
          · exact wide_lt ds (sB.cf _)
          · exact Nat.two_pow_pos _
        have k3 : (2 : Nat) ^ (w + 401) = 2 ^ (w + 200) * 2 ^ 201 := by rw [← Nat.pow_add]
        have k4 : 2 ^ (w + 200) * 2 ≤ 2 ^ (w + 200) * 2 ^ 201 := Nat.mul_le_mul_left _ (by decide)
        rw [k3]
        omega
      · refine (ML.Sz.of (n := w + 401) fun t _ => ?_).mono (by omega)
        rw [ML.cf_set (by omega)]
        split
        · exact Nat.lt_of_lt_of_le ds (Nat.pow_le_pow_right (by decide) (by omega))
        · exact Nat.lt_of_lt_of_le (sq'.cf t) (Nat.pow_le_pow_right (by decide) (by omega))
  · obtain ⟨pl, pf, rs, qs, f, u4, u5, u6, rfl, x1, x2, x3, x4, lr, lq, f0, hf, hz, ht, sr, sq⟩ := hp'
    walk_at "rd"
    exact q pf H' qs x2 x1 x4 (by omega) (sq.mono (by omega)) ⟨f, rs, f0, hf, fun k hk => ht k (by omega)⟩
theorem c__law_part {a b : Addr} {A B : List Int} (hA : SqL K H a (A.map V.int)) (hB : SqL K H b (B.map V.int)) (tB : ML.Trim B) (nB : B ≠ []) (hle : B.length ≤ A.length) (l6 : A.length ≤ 6) (sA : ML.Sz 200 A) (sB : ML.Sz 200 B)
    (q : ∀ (p : Addr) (H' : Hp) (F : List Int), H p = none → Ex H H' → H' p = some (.lst (F.map V.int)) → F.length = A.length - B.length + 1 → ML.Sz 4000 F → PartAt A B F → Q (.ref p) H') : sp__law_part K Cof [.ref a, .ref b] H Q E := ⟨a, b, A, B, rfl, hA, hB, tB, nB, hle, l6, sA, sB, q⟩
end

/-! #### _law_flat -/
--USE SF
def sp__law_flat (K : PySem.W.Frag) (Cof : String → Addr) : Sp := fun vs H Q _ => ∃ (a : Addr) (P : List Int), vs = [.ref a] ∧ SqL K H a (P.map V.int) ∧ SF.Small P ∧
  ∀ (p : Addr) (H' : Hp) (F : List Int), H p = none → Ex H H' → H' p = some (.lst (F.map V.int)) → ML.Trim F → F ≠ [] → F.length ≤ 6 → ML.Sz 156 F → Q (.ref p) H'
def t__law_flat (K : PySem.W.Frag) (Cof : String → Addr) (E : XK) : TS :=
  tSeq (tAsg (tVar 0) (gName 1))
  (tSeq (tAsg (tCall (sp__law_slope K Cof) [] E0 (tCons (tVar 0) (tNil))) (gName 2))
  (tSeq (tWhile (tTest (tOp rGt (tCB (rLenS K) (tCons (tVar 2) (tNil))) (tC (.int 0)))) (tPar 1 2 (tCons (tVar 2) (tCons (tCall (sp__law_shrunk K Cof) [] E0 (tCons (tCall (sp__law_rest K Cof) [] E0 (tCons (tVar 1) (tCons (tVar 2) (tNil)))) (tNil))) (tNil)))))
  (tRet (tCall (sp__law_shrunk K Cof) [] E0 (tCons (tCall (sp__law_part K Cof) [] E0 (tCons (tVar 0) (tCons (tVar 1) (tNil)))) (tNil))))))

section
variable {K : PySem.W.Frag} {Cof : String → Addr} {vs : List V} {H : Hp} {Q : VK} {E : XK}
theorem len__law_flat (h : sp__law_flat K Cof vs H Q E) : vs.length = 1 := by
  obtain ⟨a, P, rfl, _⟩ := h; rfl
theorem rd__law_flat (h : sp__law_flat K Cof vs H Q E) : t__law_flat K Cof E { nx := fun _ H' => Q .non H', rt := Q } (start ["_law_kp", "_law_one", "_law_other"] vs) H := by
  obtain ⟨a, P, rfl, hA, sm, q⟩ := h
  have lP := sm.lP
  have lS := SR.slope_len P
  have pP := List.length_pos_iff.mpr sm.nP
  unfold t__law_flat
  walk_at "rd"
  refine c__law_slope 6 hA (by omega) sm.sP ⟨by decide, by decide⟩ fun p1 H1 hp1 e1 h1 => ?_
  walk_at "rd"
  refine r_while (fun m σ' H' => ∃ (pa pb : Addr) (A B : List Int), σ' = [some (.ref a), some (.ref pa), some (.ref pb)] ∧ Ex H H' ∧ SqL K H' pa (A.map V.int) ∧ SqL K H' pb (B.map V.int) ∧ CO.Cof P (ML.slopeL P) A B ∧ ML.Trim A ∧ A ≠ [] ∧ ML.Trim B ∧ B.length < A.length ∧ A.length ≤ P.length ∧ B.length ≤ (ML.slopeL P).length ∧ ML.Sz 170 A ∧ ML.Sz 170 B ∧ B.length = m) (ML.slopeL P).length ⟨a, p1, P, ML.slopeL P, rfl, e1, e1.l hA, SqL.inj h1, CO.Cof.start (a := 1) (b := 1) (by decide) (by decide) (fun k => by omega) (fun k => by omega) rfl rfl, sm.tP, sm.nP, SR.slope_trim sm.tP, by omega, Nat.le_refl _, Nat.le_refl _, sm.sP.mono (by decide), sm.slope.mono (by decide), rfl⟩ (fun m σ' H' hw => ?_)
  obtain ⟨pa, pb, A, B, rfl, x1, hA1, hB1, c, tA, nA, tB, lBA, lA, lB, sA, sB, rfl⟩ := hw
  walk_at "rd"
  refine ite_d (fun hc => wh_in ?_) (fun hc => ?_)
  · have nB : B ≠ [] := fun z => by rw [z] at hc; simp at hc
    walk_at "rd"
    refine c__law_rest hA1 hB1 tA tB nB (sA.mono (by decide)) (sB.mono (by decide)) (by omega) (by omega) fun p2 H2 L hp2 e2 h2 ra lL => ?_
    obtain ⟨rn, rz⟩ := rest_next ra tA tB nB lL
    have hC : ∀ k, ML.cf (MP.shrunkL L) k = - ML.cf (MS.nextL A B) k := fun k => by
      rw [← rn, SF.shr_neg ra.tL]; omega
    have nS : ML.slopeL P ≠ [] := fun z => by rw [z] at lB; exact nB (List.eq_nil_of_length_eq_zero (Nat.le_zero.mp lB))
    have lC : (MP.shrunkL L).length < B.length := by rw [MP.shrunkL_len]; exact lL
    have c' := SF.flat_step c tA nA tB nB (by omega) hC lC
    have tC : ML.Trim (MP.shrunkL L) := MP.trim_shrunkL ra.tL
    have sC : ML.Sz 170 (MP.shrunkL L) := by
      by_cases z : L = []
      · rw [z, MP.shrunkL_nil]; exact ML.Sz.nil _
      · have g0 := MP.gcdL_trim_pos ra.tL z
        exact sm.rest nS c' lC (by omega) (MP.gcdN_shrunkL fun z => by unfold MG.gcdL at g0; omega)
    walk_at "rd"
    refine c__law_shrunk (SqL.inj h2) (by omega) ra.tL (fun z => ⟨by have := MP.gcdL_trim_pos ra.tL z; omega, .inr (sC.mono (by decide))⟩) fun p3 H3 hp3 e3 h3 => ?_
    have e23 := e2.trans e3
    walk_at "rd"
    exact ⟨_, lC, pb, p3, B, MP.shrunkL L, rfl, x1.trans e23, e23.l hB1, SqL.inj h3, c', tB, nB, tC, lC, by omega, by omega, sB, sC, rfl⟩
  · have zB : B = [] := List.eq_nil_of_length_eq_zero (by omega)
    subst zB
    walk_at "rd"
    refine c__law_part (x1.l hA) hA1 tA nA lA lP (sm.sP.mono (by decide)) (sA.mono (by decide)) fun p3 H3 F hp3 e3 h3 lF sF pt => ?_
    obtain ⟨f, L, f0, hf, hL⟩ := pt
    obtain ⟨tF, nF, gF, sz⟩ := SF.flat_small sm c tA nA (by omega) lF lA f0 hf hL
    walk_at "rd"
    refine c__law_shrunk (SqL.inj h3) (by omega) tF (fun _ => ⟨fun z => gF (by unfold MG.gcdL at z; omega), .inr (sz.mono (by decide))⟩) fun p4 H4 hp4 e4 h4 => ?_
    exact q p4 H4 _ (Evl.fresh_back (x1.trans e3) hp4) ((x1.trans e3).trans e4) h4 (MP.trim_shrunkL tF) (fun z => nF (List.map_eq_nil_iff.mp z)) (by rw [MP.shrunkL_len]; omega) sz
theorem c__law_flat {a : Addr} {P : List Int} (hA : SqL K H a (P.map V.int)) (sm : SF.Small P) (q : ∀ (p : Addr) (H' : Hp) (F : List Int), H p = none → Ex H H' → H' p = some (.lst (F.map V.int)) → ML.Trim F → F ≠ [] → F.length ≤ 6 → ML.Sz 156 F → Q (.ref p) H') : sp__law_flat K Cof [.ref a] H Q E := ⟨a, P, rfl, hA, sm, q⟩
end

/-! #### _law_row -/
--USE SF RN SR
def sp__law_row (K : PySem.W.Frag) (Cof : String → Addr) : Sp := fun vs H Q _ => ∃ (a : Addr) (P : List Int) (s t : Nat), vs = [.ref a] ∧ H a = some (.lst (P.map V.int)) ∧ SR.REnv P 100 s t ∧ ML.Sz 4000 P ∧
  ∀ (p : Addr) (H' : Hp) (ps : List Addr), H p = none → Ex H H' → H' p = some (.lst (ps.map V.ref)) → Rws H' ps (P :: (MS.rowL 100 P).drop 1) → Q (.ref p) H'
def t__law_row (K : PySem.W.Frag) (Cof : String → Addr) (E : XK) : TS :=
  tSeq (tAsg (tLst (tCons (tVar 0) (tNil))) (gName 1))
  (tSeq (tAsg (tCall (sp__law_slope K Cof) [] E0 (tCons (tVar 0) (tNil))) (gName 2))
  (tSeq (tWhile (tTest (tOp rGt (tCB (rLenS K) (tCons (tVar 2) (tNil))) (tC (.int 0)))) (tSeq (tDrop (tBM K "list" rAppend (tVar 1) (tCons (tCall (sp__law_shrunk K Cof) [] E0 (tCons (tVar 2) (tNil))) (tNil))))
  (tAsg (tLc (iList K (tCall (sp__law_rest K Cof) [] E0 (tCons (tOp (rIxL K) (tVar 1) (tUn rNeg (tC (.int 2)))) (tCons (tOp (rIxL K) (tVar 1) (tUn rNeg (tC (.int 1)))) (tNil))))) (gName 3) (tYes) (tOp rISub (tC (.int 0)) (tVar 3)) [3]) (gName 2))))
  (tRet (tVar 1))))

section
variable {K : PySem.W.Frag} {Cof : String → Addr} {vs : List V} {H : Hp} {Q : VK} {E : XK}
theorem len__law_row (h : sp__law_row K Cof vs H Q E) : vs.length = 1 := by
  obtain ⟨a, P, s, t, rfl, _⟩ := h; rfl
/-- a rest of some times A is one of A -/
theorem RestAt.less {A A' B L : List Int} {g : Int} (h : RestAt A' B L) (g0 : 0 < g) (hA : ∀ k, ML.cf A' k = g * ML.cf A k) : RestAt A B L := by
  obtain ⟨tL, f, qq, f0, hf⟩ := h
  exact ⟨tL, f * g, qq, Int.mul_pos f0 g0, fun k => by rw [Int.mul_assoc, ← hA]; exact hf k⟩
theorem rd__law_row (h : sp__law_row K Cof vs H Q E) : t__law_row K Cof E { nx := fun _ H' => Q .non H', rt := Q } (start ["_law_kp", "_law_row_here", "_law_other", "_law_one"] vs) H := by
  obtain ⟨a, P, s, t, rfl, hA, en, sP, q⟩ := h
  have lP := en.lP
  have s4 := en.s4
  have tP := en.tP
  have gP := MP.gcdL_trim_pos en.tP en.nP
  unfold t__law_row
  walk_at "rd"
  refine r_lstK fun D H1 hD e1 h1 => ?_
  have nDa : a ≠ D := fun z => by rw [z, hD] at hA; cases hA
  walk_at "rd"
  refine c__law_slope 4000 (SqL.inj (e1 _ _ hA)) (by omega) sP ⟨by decide, by decide⟩ fun p2 H2 hp2 e2 h2 => ?_
  have e12 := e1.trans e2
  have h1' := e2 _ _ h1
  walk_at "rd"
  refine r_while (fun z σ' H' => ∃ (ps : List Addr) (Rs : List (List Int)) (pa pb : Addr) (A' A O : List Int) (g : Int) (m : Nat) (u3 : Option V), σ' = [some (.ref a), some (.ref D), some (.ref pb), u3] ∧ Ex H H' ∧ H' D = some (.lst ((ps ++ [pa]).map V.ref)) ∧ Rws H' (ps ++ [pa]) (Rs ++ [A']) ∧ D ∉ ps ++ [pa] ∧ SqL K H' pb (O.map V.int) ∧ ML.Trim O ∧ 0 < g ∧ (∀ k, ML.cf A' k = g * ML.cf A k) ∧ A'.length = A.length ∧ ML.Trim A' ∧ ML.Sz 4000 A' ∧ O.length ≤ m ∧ ps.length + m ≤ 100 ∧ O.length = z ∧ (O ≠ [] → ML.slopeL P ≠ [] ∧ MS.Run P (ML.slopeL P) A (MP.shrunkL O)) ∧ P :: (MS.rowL 100 P).drop 1 = (Rs ++ [A']) ++ MS.rowG m A (MP.shrunkL O)) (ML.slopeL P).length
    ⟨[], [], a, p2, P, MP.shrunkL P, ML.slopeL P, MG.gcdL P, 100, _, rfl, e12, h1', ⟨e12 _ _ hA, trivial⟩, fun z => nDa (List.mem_singleton.mp z).symm, SqL.inj h2, SR.slope_trim tP, gP, fun k => (MP.mul_shrunkL P k).symm, (MP.shrunkL_len P).symm, tP, sP, by rw [SR.slope_len]; omega, by decide, rfl, fun h => ⟨h, en.run h⟩, by rw [SR.row_cons en.nP]; rfl⟩ (fun z σ' H' hw => ?_)
  obtain ⟨ps, Rs, pa, pb, A', A, O, g, m, u3, rfl, x1, x2, x3, x4, x5, tO, g0, hg, lA, tA', sA', hOm, hm, rfl, run, er⟩ := hw
  walk_at "rd"
  refine ite_d (fun hc => wh_in ?_) (fun hc => ?_)
  · have nO : O ≠ [] := fun z => by rw [z] at hc; simp at hc
    obtain ⟨nS, rn⟩ := run nO
    have nB : MP.shrunkL O ≠ [] := fun z => nO (List.map_eq_nil_iff.mp z)
    have gO := MP.gcdL_trim_pos tO nO
    have lO := MP.shrunkL_len O
    have lO' : O.length ≤ 100 := by omega
    have lA' := rn.lA
    have lBA := rn.le
    obtain ⟨pr, rn2⟩ := rn.pair (en.en nS) nB
    obtain ⟨m', rfl⟩ : ∃ m', m = m' + 1 := ⟨m - 1, by have := List.length_pos_iff.mpr nO; omega⟩
    walk_at "rd"
    refine c__law_shrunk x5 (by omega) tO (fun _ => ⟨by omega, .inr rn.sB⟩) fun p3 H3 hp3 e3 h3 => ?_
    have x2' := e3 _ _ x2
    have n3D : p3 ≠ D := fun z => by rw [z, x2] at hp3; cases hp3
    walk_at "rd"
    refine r_append x2' (by rw [List.length_map, List.length_append]; exact small_lt (by simp; omega)) fun H4 b4 h4 => ?_
    have h4' : H4 D = some (.lst (ps.map V.ref ++ [V.ref pa, V.ref p3])) := by rw [h4]; simp
    have x3' := (x3.ex e3).exb b4 x4
    have h34 := b4 _ n3D _ h3
    have y1 : Ex H H4 := Evl.Ex.mutb (x1.trans e3) b4 hD
    have hpa : H4 pa = some (.lst (A'.map V.int)) := by
      have hl := x3'.len
      obtain ⟨R, hR, hRp⟩ := x3'.get (i := ps.length) (p := pa) (by rw [List.getElem?_append_right (Nat.le_refl _), Nat.sub_self]; rfl)
      have l2 : ps.length = Rs.length := by rw [List.length_append, List.length_append] at hl; simp at hl; exact hl
      rw [l2, List.getElem?_append_right (Nat.le_refl _), Nat.sub_self] at hR
      cases hR
      exact hRp
    walk_at "rd"
    refine r_ix2 (SqL.inj h4') ?_
    walk_at "rd"
    refine r_ix1 (SqL.inj h4') ?_
    walk_at "rd"
    refine c__law_rest (SqL.inj hpa) (SqL.inj h34) tA' rn.tB nB sA' rn.sB (by omega) (by omega) fun p5 H5 L hp5 e5 h5 ra lL => ?_
    obtain ⟨k1, k2⟩ := rest_next (ra.less g0 hg) rn.tA rn.tB nB lL
    walk_at "rd"
    refine lc_ints (fun x => 0 - x) (SqL.inj h5) (by omega) (fun x hx H6 e6 Q' k' => ?_) (fun p6 H6 hp6 e6 h6 => ?_)
    · walk_at "rd"
      exact k' _ (Evl.Ex.refl _)
    have e56 := e5.trans e6
    refine ⟨(L.map fun x => 0 - x).length, ?_, ps ++ [pa], Rs ++ [A'], p3, p6, MP.shrunkL O, MP.shrunkL O, L.map fun x => 0 - x, 1, m', _, rfl, y1.trans e56, ?_, ?_, ?_, SqL.inj h6, MS.neg_trim ra.tL, by decide, fun k => by omega, rfl, rn.tB, rn.sB, ?_, ?_, rfl, fun hn => ⟨nS, by rw [k1]; exact rn2⟩, ?_⟩
    · rw [List.length_map]; omega
    · rw [e56 _ _ h4']; simp
    · exact Rws.append (x3'.ex e56) ⟨e56 _ _ h34, trivial⟩
    · intro z
      rcases List.mem_append.mp z with z | z
      · exact x4 z
      · exact n3D (List.mem_singleton.mp z).symm
    · rw [List.length_map]; omega
    · rw [List.length_append, List.length_singleton]; omega
    · rw [er, k1]
      have : MS.rowG (m' + 1) A (MP.shrunkL O) = MP.shrunkL O :: MS.rowG m' (MP.shrunkL O) (MS.nextL A (MP.shrunkL O)) := by
        show (if MP.shrunkL O = [] then [] else _) = _
        rw [if_neg nB]
      rw [this, List.append_assoc (Rs ++ [A'])]; rfl
  · have zO : O = [] := List.eq_nil_of_length_eq_zero (by omega)
    rw [zO, MP.shrunkL_nil, SR.rowG_nil, List.append_nil] at er
    walk_at "rd"
    exact q D H' _ hD x1 x2 (er ▸ x3)
theorem c__law_row {a : Addr} {P : List Int} {s t : Nat} (hA : H a = some (.lst (P.map V.int))) (en : SR.REnv P 100 s t) (sP : ML.Sz 4000 P) (q : ∀ (p : Addr) (H' : Hp) (ps : List Addr), H p = none → Ex H H' → H' p = some (.lst (ps.map V.ref)) → Rws H' ps (P :: (MS.rowL 100 P).drop 1) → Q (.ref p) H') : sp__law_row K Cof [.ref a] H Q E := ⟨a, P, s, t, rfl, hA, en, sP, q⟩
end

/-! #### _law_changes -/
--USE RN
def sp__law_changes (K : PySem.W.Frag) (Cof : String → Addr) : Sp := fun vs H Q _ => ∃ (a p2 : Addr) (ps : List Addr) (Rs : List (List Int)) (t b : Int) (n m : Nat), vs = [.ref a, .ref p2] ∧ H p2 = some (.tup (([t, b] : List Int).map V.int)) ∧ SqL K H a (ps.map V.ref) ∧ Rws H ps Rs ∧ (∀ P ∈ Rs, HSz n m P t b) ∧ Q (.int (MH.chg Rs t b).1) H
def t__law_changes (K : PySem.W.Frag) (Cof : String → Addr) (E : XK) : TS :=
  tSeq (tAsg (tC (.int 0)) (gName 2))
  (tSeq (tAsg (tC (.int 0)) (gName 3))
  (tSeq (tFor (iList K (tVar 0)) (gName 4) (tSeq (tAsg (tC (.int 0)) (gName 5))
  (tSeq (tAsg (tC (.int 1)) (gName 6))
  (tSeq (tFor (iRev K (tCons (tVar 4) (tNil))) (gName 7) (tSeq (tAsg (tOp rIAdd (tOp rMul (tVar 5) (tOp (rIxT K) (tVar 1) (tC (.int 0)))) (tOp rMul (tVar 7) (tVar 6))) (gName 5))
  (tAsg (tOp rMul (tVar 6) (tOp (rIxT K) (tVar 1) (tC (.int 1)))) (gName 6))))
  (tSeq (tAsg (tOp rIAdd (tVar 2) (tCB rInt1 (tCons (tOp rLt (tOp rMul (tVar 3) (tVar 5)) (tC (.int 0))) (tNil)))) (gName 2))
  (tIfS (tTest (tOp rNe (tVar 5) (tC (.int 0)))) (tAsg (tOp rISub (tCB rInt1 (tCons (tOp rGt (tVar 5) (tC (.int 0))) (tNil))) (tCB rInt1 (tCons (tOp rLt (tVar 5) (tC (.int 0))) (tNil)))) (gName 3)) (tNext)))))))
  (tRet (tVar 2))))

section
variable {K : PySem.W.Frag} {Cof : String → Addr} {vs : List V} {H : Hp} {Q : VK} {E : XK}
theorem len__law_changes (h : sp__law_changes K Cof vs H Q E) : vs.length = 2 := by
  obtain ⟨a, p2, ps, Rs, t, b, n, m, rfl, _⟩ := h; rfl
theorem opp_mul {l h : Int} (hl : l = -1 ∨ l = 0 ∨ l = 1) : l = 0 - ordI h 0 ∧ ordI h 0 ≠ 0 ↔ l * h < 0 := by
  rcases Int.lt_trichotomy h 0 with c | c | c
  · rw [ordI_lt c]; rcases hl with rfl | rfl | rfl <;> omega
  · rw [c, ordI_self]; omega
  · rw [ordI_gt c]; rcases hl with rfl | rfl | rfl <;> omega
theorem ord_ifs (h : Int) : ((if decide (h > 0) = true then 1 else 0) - (if decide (h < 0) = true then 1 else 0) : Int) = ordI h 0 := by
  rcases Int.lt_trichotomy h 0 with c | c | c
  · rw [ordI_lt c, decide_eq_false (by omega), decide_eq_true c]; rfl
  · rw [c, ordI_self]; rfl
  · rw [ordI_gt c, decide_eq_true (by omega), decide_eq_false (by omega)]; rfl
theorem ord_zero {h : Int} : ordI h 0 = 0 ↔ h = 0 := by
  rcases Int.lt_trichotomy h 0 with c | c | c
  · rw [ordI_lt c]; omega
  · rw [c, ordI_self]
  · rw [ordI_gt c]; omega
theorem ord_three (h : Int) : ordI h 0 = -1 ∨ ordI h 0 = 0 ∨ ordI h 0 = 1 := by
  rcases Int.lt_trichotomy h 0 with c | c | c
  · rw [ordI_lt c]; omega
  · rw [c, ordI_self]; omega
  · rw [ordI_gt c]; omega
theorem rd__law_changes (h : sp__law_changes K Cof vs H Q E) : t__law_changes K Cof E { nx := fun _ H' => Q .non H', rt := Q } (start ["_law_row_here", "_law_spot", "_law_many_here", "_law_last", "_law_kp", "_law_total", "_law_scale", "_law_one"] vs) H := by
  obtain ⟨a, p2, ps, Rs, t, b, n, m, rfl, hp2, hA, hW, s, q⟩ := h
  unfold t__law_changes
  walk_at "rd"
  refine loop_list (xs := ps.map V.ref) (fun i σ' H' => ∃ (l : Int) (u v w x : Option V), σ' = [some (.ref a), some (.ref p2), some (.int (MH.chg (Rs.take i) t b).1), some (.int l), u, v, w, x] ∧ H' = H ∧ (l = -1 ∨ l = 0 ∨ l = 1) ∧ l = (MH.chg (Rs.take i) t b).2) ⟨0, _, _, _, _, rfl, rfl, by omega, rfl⟩ (fun i σ' H' _ hp => ?_) (fun i x σ' H' hx hp => ?_) (fun σ' H' hp => ?_)
  · obtain ⟨l, u, v, w, x, rfl, rfl, _⟩ := hp
    exact hA
  · obtain ⟨l, u, v, w, z, rfl, rfl, h3, hlast⟩ := hp
    rw [List.getElem?_map] at hx
    obtain ⟨p, hp, rfl⟩ := Option.map_eq_some_iff.mp hx
    obtain ⟨P, hP, hpP⟩ := hW.get hp
    rw [MH.chg_take hP]
    generalize MH.chg (Rs.take i) t b = st at hlast ⊢
    have sP := s P (List.mem_of_getElem? hP)
    have n0 := sP.n0
    have m0 := sP.m0
    have le := sP.le
    have e1 : (m + 1) * (P.length + 1) = m * P.length + P.length + m + 1 := by rw [Nat.mul_add, Nat.add_mul]; omega
    have e2 : (m + 1) * P.length = m * P.length + P.length := by rw [Nat.add_mul, Nat.one_mul]
    walk_at "rd"
    refine loop_rev (xs := P.map V.int) (fun j σ2 H2 => ∃ u, σ2 = [some (.ref a), some (.ref p2), some (.int st.1), some (.int l), some (.ref p), some (.int (MH.hs t b (P.drop (P.length - j))).1), some (.int (MH.hs t b (P.drop (P.length - j))).2), u] ∧ H2 = H') ⟨_, by rw [Nat.sub_zero, List.drop_length]; rfl, rfl⟩ (fun j σ' H' _ hp => ?_) (fun j x σ' H' hx hj hp => ?_) (fun σ' H' hp => ?_)
    · obtain ⟨u, rfl, rfl⟩ := hp
      exact SqL.inj hpP
    · obtain ⟨u, rfl, rfl⟩ := hp
      rw [List.length_map] at hx hj
      rw [List.getElem?_map] at hx
      obtain ⟨c, hc, rfl⟩ := Option.map_eq_some_iff.mp hx
      have hd := MH.hs_drop (t := t) (b := b) hc
      have e3 : P.length - 1 - j + 1 = P.length - j := by omega
      have e4 : P.length - (j + 1) = P.length - 1 - j := by omega
      rw [e3] at hd
      obtain ⟨s1, s2⟩ := sP.steps (P.length - j)
      have sc := sP.sP c (List.mem_of_getElem? hc)
      rw [e4, hd]
      generalize (MH.hs t b (P.drop (P.length - j))).1 = tot at s1 ⊢
      generalize (MH.hs t b (P.drop (P.length - j))).2 = sca at s2 ⊢
      walk_at "rd"
      refine r_ixT' (i := 0) hp2 rfl ?_
      walk_at "rd"
      refine r_mul (wide_mul s1 sP.st (by omega) m0 (by omega)) ?_
      walk_at "rd"
      refine r_mul (wide_mul sc s2 n0 (by omega) (by omega)) ?_
      walk_at "rd"
      refine r_ixT' (i := 1) hp2 rfl ?_
      walk_at "rd"
      refine r_mul (wide_mul s2 sP.sb (by omega) m0 (by omega)) ?_
      walk_at "rd"
      exact ⟨_, rfl, rfl⟩
    · obtain ⟨u, rfl, rfl⟩ := hp
      rw [List.length_map, Nat.sub_self, List.drop_zero]
      obtain ⟨s1, _⟩ := sP.steps 0
      rw [List.drop_zero] at s1
      have et : (MH.hs t b P).1 = MH.topL P t b := rfl
      rw [et] at s1 ⊢
      generalize MH.topL P t b = here at s1 ⊢
      generalize (MH.hs t b P).2 = sca
      have om := opp_mul (h := here) h3
      walk_at "rd"
      refine r_mul (wide_mul (a := 2) (by omega) s1 (by decide) (by omega) (by omega)) ?_
      walk_at "rd"
      unfold MH.stp
      rw [← hlast]
      have ec : st.1 + (if decide (l * here < 0) = true then 1 else 0) = if ordI here 0 ≠ 0 then (if l = 0 - ordI here 0 then st.1 + 1 else st.1) else st.1 := by
        by_cases c : l * here < 0
        · obtain ⟨k1, k2⟩ := om.mpr c
          rw [decide_eq_true c, if_pos rfl, if_pos k2, if_pos k1]
        · rw [decide_eq_false c, if_neg (by decide)]
          by_cases k2 : ordI here 0 ≠ 0
          · rw [if_pos k2, if_neg fun k1 => c (om.mp ⟨k1, k2⟩)]; omega
          · rw [if_neg k2]; omega
      rw [ec]
      refine ite_nd (fun hn => ?_) (fun hn => ?_)
      · walk_at "rd"
        rw [ord_ifs]
        have ho : ordI here 0 ≠ 0 := fun z => hn (ord_zero.mp z)
        rw [if_pos ho, if_pos ho]
        exact ⟨_, _, _, _, _, rfl, rfl, ord_three here, rfl⟩
      · walk_at "rd"
        have ho : ¬ ordI here 0 ≠ 0 := fun z => z (ord_zero.mpr hn)
        rw [if_neg ho, if_neg ho]
        exact ⟨l, _, _, _, _, rfl, rfl, h3, hlast⟩
  · obtain ⟨l, u, v, w, x, rfl, rfl, _⟩ := hp
    have el := hW.len
    rw [List.length_map, el, List.take_length]
    walk_at "rd"
    exact q
theorem c__law_changes {K : PySem.W.Frag} {Cof : String → Addr} {H : Hp} {Q : VK} {E : XK} {a p2 : Addr} {ps : List Addr} {Rs : List (List Int)} {t b : Int} (n m : Nat) (h2 : H p2 = some (.tup (([t, b] : List Int).map V.int))) (hA : SqL K H a (ps.map V.ref)) (hW : Rws H ps Rs) (s : ∀ P ∈ Rs, HSz n m P t b) (q : Q (.int (MH.chg Rs t b).1) H) : sp__law_changes K Cof [.ref a, .ref p2] H Q E := ⟨a, p2, ps, Rs, t, b, n, m, rfl, h2, hA, hW, s, q⟩
end

/-! #### _law_any -/
--USE SF
def sp__law_any (K : PySem.W.Frag) (Cof : String → Addr) : Sp := fun vs H Q _ => ∃ c : Int, vs = [.int c] ∧
  ∀ (p : Addr) (H' : Hp) (F : List Int), H p = none → Ex H H' → H' p = some (.lst (F.map V.int)) → ML.Trim F → F.length ≤ 6 → ML.Sz 156 F → Q (.ref p) H'
def t__law_any (K : PySem.W.Frag) (Cof : String → Addr) (E : XK) : TS :=
  tSeq (tAsg (tLst (tNil)) (gName 1))
  (tSeq (tAsg (tOp rDiv (tVar 0) (tC (.int 6))) (gName 2))
  (tSeq (tFor (iRng1 (tCons (tOp rIAdd (tC (.int 1)) (tOp rMod (tVar 0) (tC (.int 6)))) (tNil))) (gName 3) (tSeq (tDrop (tBM K "list" rAppend (tVar 1) (tCons (tOp rISub (tOp rMod (tVar 2) (tC (.int 101))) (tC (.int 50))) (tNil))))
  (tAsg (tOp rDiv (tVar 2) (tC (.int 101))) (gName 2))))
  (tSeq (tAsg (tCall (sp__law_trim K Cof) [] E0 (tCons (tVar 1) (tNil))) (gName 1))
  (tSeq (tIfS (tTest (tOp rEq (tCB (rLenS K) (tCons (tVar 1) (tNil))) (tC (.int 0)))) (tRet (tLst (tNil))) (tNext))
  (tRet (tCall (sp__law_flat K Cof) [] E0 (tCons (tVar 1) (tNil))))))))

section
variable {K : PySem.W.Frag} {Cof : String → Addr} {vs : List V} {H : Hp} {Q : VK} {E : XK}
theorem len__law_any (h : sp__law_any K Cof vs H Q E) : vs.length = 1 := by
  obtain ⟨c, rfl, _⟩ := h; rfl
theorem rd__law_any (h : sp__law_any K Cof vs H Q E) : t__law_any K Cof E { nx := fun _ H' => Q .non H', rt := Q } (start ["_law_cell", "_law_row_here", "_law_left", "_law_k"] vs) H := by
  obtain ⟨c, rfl, q⟩ := h
  unfold t__law_any
  walk_at "rd"
  refine r_lstK fun D H1 hD e1 h1 => ?_
  walk_at "rd"
  have c0 := Int.fmod_nonneg_of_pos c (show (0 : Int) < 6 by decide)
  have c1 := Int.fmod_lt_of_pos c (show (0 : Int) < 6 by decide)
  obtain ⟨n, hn⟩ : ∃ n : Nat, 1 + c.fmod 6 = (n : Int) := ⟨(1 + c.fmod 6).toNat, by omega⟩
  rw [hn]
  refine r_iRng1A (by omega) (by omega) ?_
  rw [Int.toNat_natCast]
  refine loop_range0 (fun k σ' H' => ∃ (l : Int) (xs : List Int) (u : Option V), σ' = [some (.int c), some (.ref D), some (.int l), u] ∧ Ex H H' ∧ H' D = some (.lst (xs.map V.int)) ∧ xs.length = k ∧ ML.Sz 6 xs) ⟨_, [], _, rfl, e1, h1, rfl, fun x hx => by cases hx⟩ (fun k σ' H' hk hp' => ?_) (fun σ' H' hp' => ?_)
  · obtain ⟨l, xs, u, rfl, x1, x2, x3, x4⟩ := hp'
    walk_at "rd"
    have l0 := Int.fmod_nonneg_of_pos l (show (0 : Int) < 101 by decide)
    have l1 := Int.fmod_lt_of_pos l (show (0 : Int) < 101 by decide)
    refine r_append x2 (by rw [List.length_map]; exact small_lt (by omega)) fun H5 b5 h5 => ?_
    walk_at "rd"
    refine ⟨_, xs ++ [l.fmod 101 - 50], _, rfl, Evl.Ex.mutb x1 b5 hD, by rw [List.map_append]; exact h5, by rw [List.length_append, List.length_singleton, x3], fun x hx => ?_⟩
    rcases List.mem_append.mp hx with hx | hx
    · exact x4 x hx
    · rw [List.mem_singleton.mp hx]; show _ < 64; omega
  · obtain ⟨l, xs, u, rfl, x1, x2, x3, x4⟩ := hp'
    walk_at "rd"
    refine c__law_trim (SqL.inj x2) (by omega) fun p3 H3 hp3 e3 h3 => ?_
    have lt := ML.trimL_len xs
    have tt := ML.trim_trimL xs
    have st : ML.Sz 6 (ML.trimL xs) := ML.Sz.trim x4
    have e13 := x1.trans e3
    walk_at "rd"
    refine ite_d (fun hc => ?_) (fun hc => ?_)
    · walk_at "rd"
      exact r_lstK fun p4 H4 hp4 e4 h4 => q p4 H4 [] (Evl.fresh_back e13 hp4) (e13.trans e4) h4 (.inl rfl) (by decide) (fun x hx => by cases hx)
    · walk_at "rd"
      exact c__law_flat (SqL.inj h3) ⟨tt, fun z => hc (by rw [z]; rfl), by omega, st⟩ fun p4 H4 F hp4 e4 h4 tF nF lF sF => q p4 H4 F (Evl.fresh_back e13 hp4) (e13.trans e4) h4 tF lF sF
theorem c__law_any {c : Int} (q : ∀ (p : Addr) (H' : Hp) (F : List Int), H p = none → Ex H H' → H' p = some (.lst (F.map V.int)) → ML.Trim F → F.length ≤ 6 → ML.Sz 156 F → Q (.ref p) H') : sp__law_any K Cof [.int c] H Q E := ⟨c, rfl, q⟩
end

/-! #### _law_many -/
--USE FC RN
/-- whether a root is above the lower end and not above the upper one -/
def amR (R : List Int) (l q h p : Int) : Bool := decide (0 < MJ.sideR R l q ∧ MJ.sideR R h p ≤ 0)
/-- the sizes with which it is looked at -/
structure MSz (n : Nat) (RS : List (List Int)) (l q h p : Int) : Prop where
  sR : ∀ R ∈ RS, ∃ m, isS m R
  sl : l.natAbs < 2 ^ n
  sq : q.natAbs < 2 ^ n
  sh : h.natAbs < 2 ^ n
  sp : p.natAbs < 2 ^ n
  n0 : 30 ≤ n
  n9 : n ≤ 10000
  len : RS.length ≤ 1000
theorem MSz.one {n : Nat} {RS : List (List Int)} {l h q p : Int} (s : MSz n RS l q h p) {u e b σ : Int} (hm : [u, e, b, σ] ∈ RS) : u.natAbs < 2 ^ n ∧ e.natAbs < 2 ^ n ∧ b.natAbs < 2 ^ n := by
  obtain ⟨m, u', e', b', s', hh, f, _⟩ := s.sR _ hm
  simp only [List.cons.injEq, and_true] at hh
  obtain ⟨rfl, rfl, rfl, rfl⟩ := hh
  have := f.su'
  have := f.se
  have := f.b1
  have := f.b3
  have : (2 : Nat) ^ 30 ≤ 2 ^ n := Nat.pow_le_pow_right (by decide) s.n0
  omega
def sp__law_many (K : PySem.W.Frag) (Cof : String → Addr) : Sp := fun vs H Q _ => ∃ (a p1 p2 : Addr) (l q h p : Int) (ps : List Addr) (RS : List (List Int)), vs = [.ref a, .ref p1, .ref p2] ∧ H p1 = some (.tup (([l, q] : List Int).map V.int)) ∧ H p2 = some (.tup (([h, p] : List Int).map V.int)) ∧ SqL K H a (ps.map V.ref) ∧
  ((∃ n, Tws H ps RS ∧ MSz n RS l q h p ∧ Q (.int ((RS.filter fun R => amR R l q h p).length : Int)) H) ∨
   (∃ n m, Rws H ps RS ∧ RS ≠ [] ∧ (∀ P ∈ RS, HSz n m P l q ∧ HSz n m P h p) ∧ Q (.int ((MH.chg RS l q).1 - (MH.chg RS h p).1)) H))
def t__law_many (K : PySem.W.Frag) (Cof : String → Addr) (E : XK) : TS :=
  tSeq (tIfS (tAnd (tTest (tOp rGt (tCB (rLenS K) (tCons (tVar 0) (tNil))) (tC (.int 0)))) (tB (tCB (rIsi K) (tCons (tOp (rIxL K) (tVar 0) (tC (.int 0))) (tCons (tC (.ty "list")) (tNil)))))) (tRet (tOp rISub (tCall (sp__law_changes K Cof) [] E0 (tCons (tVar 0) (tCons (tVar 1) (tNil)))) (tCall (sp__law_changes K Cof) [] E0 (tCons (tVar 0) (tCons (tVar 2) (tNil)))))) (tNext))
  (tSeq (tAsg (tC (.int 0)) (gName 3))
  (tSeq (tFor (iList K (tVar 0)) (gName 4) (tSeq (tAsg (tCall (sp__law_side K Cof) [] E0 (tCons (tVar 4) (tCons (tOp (rIxT K) (tVar 1) (tC (.int 0))) (tCons (tOp (rIxT K) (tVar 1) (tC (.int 1))) (tNil))))) (gName 5))
  (tIfS (tAnd (tTest (tOp rGt (tVar 5) (tC (.int 0)))) (tTest (tOp rLe (tCall (sp__law_side K Cof) [] E0 (tCons (tVar 4) (tCons (tOp (rIxT K) (tVar 2) (tC (.int 0))) (tCons (tOp (rIxT K) (tVar 2) (tC (.int 1))) (tNil))))) (tC (.int 0))))) (tAsg (tOp rIAdd (tVar 3) (tC (.int 1))) (gName 3)) (tNext))))
  (tRet (tVar 3))))

section
variable {K : PySem.W.Frag} {Cof : String → Addr} {vs : List V} {H : Hp} {Q : VK} {E : XK}
theorem len__law_many (h : sp__law_many K Cof vs H Q E) : vs.length = 3 := by
  obtain ⟨a, p1, p2, l, q, h, p, ps, RS, rfl, _⟩ := h; rfl
theorem rd__law_many (h : sp__law_many K Cof vs H Q E) : t__law_many K Cof E { nx := fun _ H' => Q .non H', rt := Q } (start ["_law_spots", "_law_low", "_law_high", "_law_many_here", "_law_spot", "_law_first"] vs) H := by
  obtain ⟨a, p1, p2, l, q, h, p, ps, RS, rfl, h1, h2, hA, ⟨n, hT, sz, k⟩ | ⟨n, m, hW, nR, sz, k⟩⟩ := h
  · have n0 := sz.n0
    have n9 := sz.n9
    have sl := sz.sl
    have sh := sz.sh
    have sq := sz.sq
    have sp := sz.sp
    have hlen := sz.len
    have tl := hT.len
    unfold t__law_many
    with_reducible refine r_seq ?_
    with_reducible refine r_ifS ?_
    refine and_go (fun H' => H = H') (fun H' z => ?_) (fun go => ?_)
    · subst z
      refine i_f ?_
      walk_at "rd"
      refine loop_list (xs := ps.map V.ref) (fun i σ' H' => ∃ (u v : Option V), σ' = [some (.ref a), some (.ref p1), some (.ref p2), some (.int (((RS.take i).filter fun R => amR R l q h p).length : Int)), u, v] ∧ H = H') ⟨_, _, rfl, rfl⟩ (fun i σ' H' _ hp => ?_) (fun i x σ' H' hx hp => ?_) (fun σ' H' hp => ?_)
      · obtain ⟨u, v, rfl, rfl⟩ := hp
        exact hA
      · obtain ⟨u5, v5, rfl, rfl⟩ := hp
        rw [List.getElem?_map] at hx
        obtain ⟨pt, hpt, rfl⟩ := Option.map_eq_some_iff.mp hx
        obtain ⟨R, hRi, hRp⟩ := hT.get hpt
        have hRm := List.mem_of_getElem? hRi
        obtain ⟨m, u, e, b, s, rfl, f, e0, hs, _⟩ := sz.sR R hRm
        obtain ⟨z1, z2, z3⟩ := sz.one hRm
        have am : amR [u, e, b, s] l q h p = decide (0 < MJ.sideV u e b s l q ∧ MJ.sideV u e b s h p ≤ 0) := rfl
        have tk : ∀ c, amR [u, e, b, s] l q h p = c → (((RS.take (i + 1)).filter (fun R => amR R l q h p)).length : Int) = (((RS.take i).filter (fun R => amR R l q h p)).length : Int) + (if c = true then 1 else 0) := fun c hc => by
          rw [List.take_add_one, hRi, List.filter_append]
          show (((List.filter _ _) ++ (List.filter _ [[u, e, b, s]])).length : Int) = _
          rw [List.filter_cons, hc, List.length_append]
          cases c <;> rfl
        walk_at "rd"
        refine r_ixT' (i := 0) h1 rfl ?_
        walk_at "rd"
        refine r_ixT' (i := 1) h1 rfl ?_
        walk_at "rd"
        refine c__law_side n hRp ⟨z1, z2, z3, sl, sq, by omega, n9⟩ ?_
        walk_at "rd"
        refine ite_d (fun hg => ?_) (fun hg => ?_)
        · walk_at "rd"
          refine r_ixT' (i := 0) h2 rfl ?_
          walk_at "rd"
          refine r_ixT' (i := 1) h2 rfl ?_
          walk_at "rd"
          refine c__law_side n hRp ⟨z1, z2, z3, sh, sp, by omega, n9⟩ ?_
          walk_at "rd"
          refine ite_d (fun hl => ?_) (fun hl => ?_)
          · walk_at "rd"
            rw [tk true (by rw [am]; exact decide_eq_true ⟨hg, hl⟩)]
            exact ⟨_, _, rfl, rfl⟩
          · walk_at "rd"
            rw [tk false (by rw [am]; exact decide_eq_false fun z => hl z.2), if_neg (by decide), Int.add_zero]
            exact ⟨_, _, rfl, rfl⟩
        · walk_at "rd"
          rw [tk false (by rw [am]; exact decide_eq_false fun z => hg z.1), if_neg (by decide), Int.add_zero]
          exact ⟨_, _, rfl, rfl⟩
      · obtain ⟨u, v, rfl, rfl⟩ := hp
        rw [List.length_map, tl, List.take_length]
        walk_at "rd"
        exact k
    · walk_at "rd"
      refine ite_d (fun hc => ?_) (fun hc => go _ rfl)
      rw [List.length_map] at hc
      obtain ⟨pt, hpt⟩ : ∃ pt, ps[0]? = some pt := ⟨ps[0]'(by omega), List.getElem?_eq_getElem _⟩
      obtain ⟨R, hRi, hRp⟩ := hT.get hpt
      walk_at "rd"
      refine r_ixL (v := .ref pt) hA (atI_nat (j := 0) (by rw [List.getElem?_map, hpt]; rfl)) ?_
      walk_at "rd"
      refine r_isi (.base (.tup hRp)) (.ty _) (kit_ty (r := false) (by decide +kernel)) ?_
      exact ⟨_, rfl, go _ rfl⟩
  · have wl := hW.len
    unfold t__law_many
    with_reducible refine r_seq ?_
    with_reducible refine r_ifS ?_
    refine and_go (fun _ => False) (fun _ z => z.elim) (fun _ => ?_)
    have := List.length_pos_iff.mpr nR
    walk_at "rd"
    refine ite_d (fun hc => ?_) (fun hc => absurd (show (ps.map V.ref).length > 0 by rw [List.length_map]; omega) (by omega))
    obtain ⟨pt, hpt⟩ : ∃ pt, ps[0]? = some pt := ⟨ps[0]'(by omega), List.getElem?_eq_getElem _⟩
    obtain ⟨R, hRi, hRp⟩ := hW.get hpt
    walk_at "rd"
    refine r_ixL (v := .ref pt) hA (atI_nat (j := 0) (by rw [List.getElem?_map, hpt]; rfl)) ?_
    walk_at "rd"
    refine r_isi (.base (.lst hRp)) (.ty _) (kit_ty (r := true) (by decide +kernel)) ?_
    walk_at "rd"
    refine c__law_changes n m h1 hA hW (fun P hP => (sz P hP).1) ?_
    walk_at "rd"
    refine c__law_changes n m h2 hA hW (fun P hP => (sz P hP).2) ?_
    walk_at "rd"
    exact k
theorem c__law_manyS {a p1 p2 : Addr} {l q h p : Int} {ps : List Addr} {RS : List (List Int)} (n : Nat) (h1 : H p1 = some (.tup (([l, q] : List Int).map V.int))) (h2 : H p2 = some (.tup (([h, p] : List Int).map V.int))) (hA : SqL K H a (ps.map V.ref)) (hT : Tws H ps RS) (sz : MSz n RS l q h p) (k : Q (.int ((RS.filter fun R => amR R l q h p).length : Int)) H) : sp__law_many K Cof [.ref a, .ref p1, .ref p2] H Q E := ⟨a, p1, p2, l, q, h, p, ps, RS, rfl, h1, h2, hA, .inl ⟨n, hT, sz, k⟩⟩
theorem c__law_manyR {a p1 p2 : Addr} {l q h p : Int} {ps : List Addr} {RS : List (List Int)} (n m : Nat) (h1 : H p1 = some (.tup (([l, q] : List Int).map V.int))) (h2 : H p2 = some (.tup (([h, p] : List Int).map V.int))) (hA : SqL K H a (ps.map V.ref)) (hW : Rws H ps RS) (nR : RS ≠ []) (sz : ∀ P ∈ RS, HSz n m P l q ∧ HSz n m P h p) (k : Q (.int ((MH.chg RS l q).1 - (MH.chg RS h p).1)) H) : sp__law_many K Cof [.ref a, .ref p1, .ref p2] H Q E := ⟨a, p1, p2, l, q, h, p, ps, RS, rfl, h1, h2, hA, .inr ⟨n, m, hW, nR, sz, k⟩⟩
end

/-! #### _law_end -/
--USE FC
def sp__law_end (K : PySem.W.Frag) (Cof : String → Addr) : Sp := fun vs H Q _ => ∃ (a : Addr) (c m : Int) (ps : List Addr) (FS : List (List Int)), vs = [.int c, .ref a, .int m] ∧ SqL K H a (ps.map V.ref) ∧ Tws H ps FS ∧ (∀ F ∈ FS, isF m F) ∧ (0 < m ∧ m ≤ 1000000000) ∧ FS.length ≤ 1000 ∧
  ∀ (D : Addr) (H' : Hp) (t b : Int), H D = none → Ex H H' → H' D = some (.tup (([t, b] : List Int).map V.int)) → (t.natAbs : Int) ≤ m → 1 ≤ b → b ≤ 9 → Q (.ref D) H'
def t__law_end (K : PySem.W.Frag) (Cof : String → Addr) (E : XK) : TS :=
  tSeq (tAsg (tLc (iList K (tVar 1)) (gName 4) (tTest (tOp rEq (tOp (rIxT K) (tVar 4) (tC (.int 1))) (tC (.int 0)))) (tVar 4) [4]) (gName 3))
  (tSeq (tIfS (tAnd (tTest (tOp rEq (tOp rMod (tVar 0) (tC (.int 2))) (tC (.int 1)))) (tTest (tOp rGt (tCB (rLenS K) (tCons (tVar 3) (tNil))) (tC (.int 0))))) (tSeq (tAsg (tOp (rIxL K) (tVar 3) (tOp rMod (tOp rDiv (tVar 0) (tC (.int 2))) (tCB (rLenS K) (tCons (tVar 3) (tNil))))) (gName 4))
  (tRet (tTup (tCons (tOp (rIxT K) (tVar 4) (tC (.int 0))) (tCons (tOp (rIxT K) (tVar 4) (tC (.int 2))) (tNil)))))) (tNext))
  (tRet (tTup (tCons (tCall (sp__law_within K Cof) [] E0 (tCons (tOp rDiv (tVar 0) (tC (.int 2))) (tCons (tVar 2) (tNil)))) (tCons (tOp rIAdd (tC (.int 1)) (tOp rMod (tOp rMod (tOp rMul (tVar 0) (tC (.int 48271))) (tC (.int 10007))) (tC (.int 9)))) (tNil))))))

section
variable {K : PySem.W.Frag} {Cof : String → Addr} {vs : List V} {H : Hp} {Q : VK} {E : XK}
theorem len__law_end (h : sp__law_end K Cof vs H Q E) : vs.length = 3 := by
  obtain ⟨a, c, m, ps, FS, rfl, _⟩ := h; rfl
theorem rd__law_end (h : sp__law_end K Cof vs H Q E) : t__law_end K Cof E { nx := fun _ H' => Q .non H', rt := Q } (start ["_law_cell", "_law_factors", "_law_most", "_law_known", "_law_one"] vs) H := by
  obtain ⟨a, c, m, ps, FS, rfl, hA, hT, hF, ⟨m0, m9⟩, hl, q⟩ := h
  have hlen := hT.len
  unfold t__law_end
  walk_at "rd"
  refine lc_filt (fun F => decide (F.getD 1 1 = 0)) (by show 4 < 5; decide) hA hT (by omega) (fun p R H1 hR hp e1 Q' k => ?_) fun D H1 qs hD e1 h1 hW _ => ?_
  · obtain ⟨u, e, b, rfl, f⟩ := hF R hR
    walk_at "rd"
    refine r_ixT' (i := 1) hp rfl ?_
    walk_at "rd"
    exact k
  with_reducible refine r_gn ?_
  with_reducible refine r_seq ?_
  with_reducible refine r_ifS ?_
  refine and_go (fun H' => H1 = H') (fun H' z => ?_) (fun go => ?_)
  · subst z
    refine i_f ?_
    walk_at "rd"
    refine c__law_within (by omega) (by
      have : (2 : Nat) ^ 31 < 2 ^ 4000 := Nat.pow_lt_pow_right (by decide) (by decide)
      have : (2 : Nat) ^ 31 = 2147483648 := by decide
      omega) ?_
    walk_at "rd"
    refine r_mulR (by decide) ?_
    walk_at "rd"
    have y0 := Int.fmod_nonneg_of_pos ((c * 48271).fmod 10007) (show (0 : Int) < 9 by decide)
    have y1 := Int.fmod_lt_of_pos ((c * 48271).fmod 10007) (show (0 : Int) < 9 by decide)
    have z0 := sgn_ge (c := c.fdiv 2) (show (0 : Int) ≤ m by omega)
    have z1 := sgn_le (c := c.fdiv 2) (show (0 : Int) ≤ m by omega)
    exact r_tupK fun p H' hp e' h => q p H' _ _ (Evl.fresh_back e1 hp) (e1.trans e') h (by omega) (by omega) (by omega)
  · walk_at "rd"
    refine ite_d (fun hc => ?_) (fun hc => go _ rfl)
    walk_at "rd"
    refine ite_d (fun hc2 => ?_) (fun hc2 => go _ rfl)
    have l1 := hW.len
    rw [List.length_map] at hc2
    walk_at "rd"
    rw [List.length_map]
    walk_at "rd"
    have y0 := Int.fmod_nonneg_of_pos (c.fdiv 2) (show (0 : Int) < (qs.length : Int) by omega)
    have y1 := Int.fmod_lt_of_pos (c.fdiv 2) (show (0 : Int) < (qs.length : Int) by omega)
    generalize (c.fdiv 2).fmod (qs.length : Int) = j at *
    obtain ⟨i, rfl⟩ : ∃ i : Nat, j = (i : Int) := ⟨j.toNat, by omega⟩
    have hi : i < qs.length := by omega
    obtain ⟨R, hRi, hRp⟩ := hW.get (List.getElem?_eq_getElem hi)
    obtain ⟨hR1, hR2⟩ := List.mem_filter.mp (List.mem_of_getElem? hRi)
    obtain ⟨u, e, b, rfl, f⟩ := hF R hR1
    refine r_ixL (v := .ref qs[i]) (SqL.inj h1) (atI_nat (j := i) (by rw [List.getElem?_map, List.getElem?_eq_getElem hi]; rfl)) ?_
    walk_at "rd"
    refine r_ixT' (i := 0) hRp rfl ?_
    walk_at "rd"
    refine r_ixT' (i := 2) hRp rfl ?_
    walk_at "rd"
    have f1 := f.su
    have f2 := f.b1
    have f3 := f.b3
    exact r_tupK fun p H' hp e' h => q p H' u b (Evl.fresh_back e1 hp) (e1.trans e') h f1 f2 (by omega)
theorem c__law_end {a : Addr} {c m : Int} {ps : List Addr} {FS : List (List Int)} (hA : SqL K H a (ps.map V.ref)) (hT : Tws H ps FS) (hF : ∀ F ∈ FS, isF m F) (hm : 0 < m ∧ m ≤ 1000000000) (hl : FS.length ≤ 1000) (q : ∀ (D : Addr) (H' : Hp) (t b : Int), H D = none → Ex H H' → H' D = some (.tup (([t, b] : List Int).map V.int)) → (t.natAbs : Int) ≤ m → 1 ≤ b → b ≤ 9 → Q (.ref D) H') : sp__law_end K Cof [.int c, .ref a, .int m] H Q E := ⟨a, c, m, ps, FS, rfl, hA, hT, hF, hm, hl, q⟩
end

/-! #### law -/
--USE SX RQ RN
def sp_law (K : PySem.W.Frag) (Cof : String → Addr) : Sp := fun vs H Q _ => ∃ (a : Addr) (ns : List Int), vs = [.ref a] ∧ SqL K H a (ns.map V.int) ∧ ns.length ≤ 63 ∧ ∀ H', Q (.bl true) H'
def t_law (K : PySem.W.Frag) (Cof : String → Addr) (E : XK) : TS :=
  tSeq (tAsg (tOp (rIxL K) (tLst (tCons (tC (.int 11)) (tCons (tC (.int 11)) (tCons (tC (.int 11)) (tCons (tOp rPow (tC (.int 10)) (tC (.int 8))) (tNil)))))) (tOp rMod (tCall (sp__law_cell_at K Cof) [] E0 (tCons (tVar 0) (tCons (tC (.int 0)) (tNil)))) (tC (.int 4)))) (gName 1))
  (tSeq (tAsg (tCall (sp__law_factors_by K Cof) [] E0 (tCons (tSl (rSlL K) (tVar 0) (tPart (tC (.int 5))) (tNoPart)) (tCons (tVar 1) (tCons (tOp (rIxL K) (tLst (tCons (tC (.int 6)) (tCons (tC (.int 6)) (tCons (tC (.int 6)) (tCons (tC (.int 12)) (tNil)))))) (tOp rMod (tOp rDiv (tCall (sp__law_cell_at K Cof) [] E0 (tCons (tVar 0) (tCons (tC (.int 0)) (tNil)))) (tC (.int 8))) (tC (.int 4)))) (tNil))))) (gName 2))
  (tSeq (tAsg (tOp rMul (tOp rIAdd (tC (.int 1)) (tOp rMod (tOp rDiv (tCall (sp__law_cell_at K Cof) [] E0 (tCons (tVar 0) (tCons (tC (.int 1)) (tNil)))) (tC (.int 2))) (tOp rPow (tC (.int 10)) (tC (.int 20))))) (tOp rISub (tC (.int 1)) (tOp rMul (tC (.int 2)) (tOp rMod (tCall (sp__law_cell_at K Cof) [] E0 (tCons (tVar 0) (tCons (tC (.int 1)) (tNil)))) (tC (.int 2)))))) (gName 3))
  (tSeq (tAsg (tCall (sp__law_mul K Cof) [] E0 (tCons (tLst (tCons (tVar 3) (tNil))) (tCons (tCall (sp__law_product K Cof) [] E0 (tCons (tVar 2) (tNil))) (tNil)))) (gName 4))
  (tSeq (tAsg (tCall (sp__law_end K Cof) [] E0 (tCons (tCall (sp__law_cell_at K Cof) [] E0 (tCons (tVar 0) (tCons (tC (.int 2)) (tNil)))) (tCons (tVar 2) (tCons (tVar 1) (tNil))))) (gName 5))
  (tSeq (tAsg (tCall (sp__law_end K Cof) [] E0 (tCons (tCall (sp__law_cell_at K Cof) [] E0 (tCons (tVar 0) (tCons (tC (.int 3)) (tNil)))) (tCons (tVar 2) (tCons (tVar 1) (tNil))))) (gName 6))
  (tCut (tIfS (tTest (tOp rEq (tOp rMul (tOp (rIxT K) (tVar 5) (tC (.int 0))) (tOp (rIxT K) (tVar 6) (tC (.int 1)))) (tOp rMul (tOp (rIxT K) (tVar 6) (tC (.int 0))) (tOp (rIxT K) (tVar 5) (tC (.int 1)))))) (tAsg (tTup (tCons (tOp rIAdd (tOp (rIxT K) (tVar 5) (tC (.int 0))) (tOp (rIxT K) (tVar 5) (tC (.int 1)))) (tCons (tOp (rIxT K) (tVar 5) (tC (.int 1))) (tNil)))) (gName 6)) (tNext))
  (tCut (tIfS (tTest (tOp rGt (tOp rMul (tOp (rIxT K) (tVar 5) (tC (.int 0))) (tOp (rIxT K) (tVar 6) (tC (.int 1)))) (tOp rMul (tOp (rIxT K) (tVar 6) (tC (.int 0))) (tOp (rIxT K) (tVar 5) (tC (.int 1)))))) (tSeq (tAsg (tVar 5) (gName 7))
  (tSeq (tAsg (tVar 6) (gName 5))
  (tAsg (tVar 7) (gName 6)))) (tNext))
  (tSeq (tAsg (tCall (sp__law_many K Cof) [] E0 (tCons (tCall (sp__law_roots_of K Cof) [] E0 (tCons (tVar 2) (tNil))) (tCons (tVar 5) (tCons (tVar 6) (tNil))))) (gName 8))
  (tCut (tIfS (tTest (tOp rEq (tOp rMod (tOp rDiv (tCall (sp__law_cell_at K Cof) [] E0 (tCons (tVar 0) (tCons (tC (.int 0)) (tNil)))) (tC (.int 4))) (tC (.int 2))) (tC (.int 1)))) (tSeq (tAsg (tLc (iList K (tCall (sp__law_any K Cof) [] E0 (tCons (tCall (sp__law_cell_at K Cof) [] E0 (tCons (tVar 0) (tCons (tC (.int 4)) (tNil)))) (tNil)))) (gName 9) (tYes) (tOp rMul (tVar 9) (tVar 3)) [9]) (gName 4))
  (tCut (tIfS (tTest (tOp (rEqD K) (tVar 4) (tLst (tNil)))) (tAsg (tLst (tCons (tVar 3) (tNil))) (gName 4)) (tNext))
  (tAsg (tCall (sp__law_many K Cof) [] E0 (tCons (tCall (sp__law_row K Cof) [] E0 (tCons (tVar 4) (tNil))) (tCons (tVar 5) (tCons (tVar 6) (tNil))))) (gName 8)))) (tNext))
  (tSeq (tAsg (tCB (rListS K) (tCons (tVar 4) (tNil))) (gName 10))
  (tSeq (tAsg (tCall (sp_row_of K Cof) [] E0 (tCons (tVar 10) (tNil))) (gName 11))
  (tSeq (tAsg (tCall (sp_count K Cof) [] E0 (tCons (tVar 11) (tCons (tMake (Cof "Ratio") (sp_Ratio___init__ K Cof) [] E0 (tCons (tOp (rIxT K) (tVar 5) (tC (.int 0))) (tCons (tOp (rIxT K) (tVar 5) (tC (.int 1))) (tNil)))) (tCons (tMake (Cof "Ratio") (sp_Ratio___init__ K Cof) [] E0 (tCons (tOp (rIxT K) (tVar 6) (tC (.int 0))) (tCons (tOp (rIxT K) (tVar 6) (tC (.int 1))) (tNil)))) (tNil))))) (gName 12))
  (tSeq (tAsg (tCall (sp_count K Cof) [] E0 (tCons (tVar 11) (tCons (tMake (Cof "Ratio") (sp_Ratio___init__ K Cof) [] E0 (tCons (tOp (rIxT K) (tVar 6) (tC (.int 0))) (tCons (tOp (rIxT K) (tVar 6) (tC (.int 1))) (tNil)))) (tCons (tMake (Cof "Ratio") (sp_Ratio___init__ K Cof) [] E0 (tCons (tOp (rIxT K) (tVar 5) (tC (.int 0))) (tCons (tOp (rIxT K) (tVar 5) (tC (.int 1))) (tNil)))) (tNil))))) (gName 13))
  (tSeq (tIfS (tOr (tNot (tB (tCall (sp__law_whole K Cof) [] E0 (tCons (tVar 12) (tNil))))) (tOr (tNot (tB (tCall (sp__law_whole K Cof) [] E0 (tCons (tVar 13) (tNil))))) (tTest (tOp (rNeD K) (tVar 10) (tVar 4))))) (tRet (tC (.bl false))) (tNext))
  (tRet (tAndV (tOp rEq (tVar 12) (tVar 8)) (tOp rEq (tVar 13) (tOp rISub (tC (.int 0)) (tVar 8)))))))))))))))))))

section
variable {K : PySem.W.Frag} {Cof : String → Addr} {vs : List V} {H : Hp} {Q : VK} {E : XK}
theorem len_law (h : sp_law K Cof vs H Q E) : vs.length = 1 := by
  obtain ⟨a, ns, rfl, _⟩ := h; rfl
theorem pick4 (i : Nat) (h : i < 4) : 0 < ([11, 11, 11, 100000000] : List Int).getD i 0 ∧ ([11, 11, 11, 100000000] : List Int).getD i 0 ≤ 100000000 := by
  rcases i with _ | _ | _ | _ | i
  · decide
  · decide
  · decide
  · decide
  · omega
theorem pick6 (i : Nat) (h : i < 4) : ∃ r : Nat, ([6, 6, 6, 12] : List Int).getD i 0 = (r : Int) ∧ r ≤ 12 := by
  rcases i with _ | _ | _ | _ | i
  · exact ⟨6, rfl, by decide⟩
  · exact ⟨6, rfl, by decide⟩
  · exact ⟨6, rfl, by decide⟩
  · exact ⟨12, rfl, by decide⟩
  · omega
theorem prod40 {x y : Int} (hx : x.natAbs < 2 ^ 40) (hy : y.natAbs < 2 ^ 40) : CMulW x y := wide_mul (a := 40) (b := 40) hx hy (by decide) (by decide) (by decide)
theorem rd_law (h : sp_law K Cof vs H Q E) : t_law K Cof E { nx := fun _ H' => Q .non H', rt := Q } (start ["_law_script", "_law_most", "_law_factors", "_law_lead", "_law_kp", "_law_low", "_law_high", "_law_kept", "_law_due", "_law_one", "_law_handed", "_law_row_here", "_law_found", "_law_back"] vs) H := by
  obtain ⟨a, ns, rfl, hS, hl, q⟩ := h
  have e8 : (10 : Int) ^ (8 : Int).toNat = 100000000 := by decide
  have e20 : (10 : Int) ^ (20 : Int).toNat = 100000000000000000000 := by decide
  unfold t_law
  walk_at "rd"
  rw [e8]
  refine r_lstK fun p1 H1 hp1 e1 h1 => ?_
  have hS1 := e1.l hS
  walk_at "rd"
  have i0 := Int.fmod_nonneg_of_pos (cellOf ns 0) (show (0 : Int) < 4 by decide)
  have i1 := Int.fmod_lt_of_pos (cellOf ns 0) (show (0 : Int) < 4 by decide)
  refine r_ixI (ns := [11, 11, 11, 100000000]) (SqL.inj h1) i0 i1 ?_
  obtain ⟨m0, m9⟩ := pick4 ((cellOf ns 0).fmod 4).toNat (by omega)
  generalize ([11, 11, 11, 100000000] : List Int).getD ((cellOf ns 0).fmod 4).toNat 0 = most at m0 m9 ⊢
  clear i0 i1 h1
  walk_at "rd"
  refine r_slI hS1 fun p2 H2 hp2 e2 h2 => ?_
  have l2 := sliceI_len ns (some 5) none
  have e12 := e1.trans e2
  walk_at "rd"
  refine r_lstK fun p3 H3 hp3 e3 h3 => ?_
  have e13 := e12.trans e3
  have hS3 := e13.l hS
  walk_at "rd"
  have j0 := Int.fmod_nonneg_of_pos ((cellOf ns 0).fdiv 8) (show (0 : Int) < 4 by decide)
  have j1 := Int.fmod_lt_of_pos ((cellOf ns 0).fdiv 8) (show (0 : Int) < 4 by decide)
  refine r_ixI (ns := [6, 6, 6, 12]) (SqL.inj h3) j0 j1 ?_
  obtain ⟨room, er, r12⟩ := pick6 (((cellOf ns 0).fdiv 8).fmod 4).toNat (by omega)
  rw [er]
  clear j0 j1 h3 er
  walk_at "rd"
  refine c__law_factors_by (SqL.inj (e3 _ _ h2)) (by omega) ⟨m0, by omega⟩ (by omega) fun pf H4 ps FS hpf e4 h4 hT hF hpw hd => ?_
  have e14 := e13.trans e4
  have hS4 := e14.l hS
  have hlen := hT.len
  have hdl := len_dgs FS hF
  clear h2 e1 e2 e3 e12 e13 hp1 hp2 hp3 hpf hS1 hS3
  walk_at "rd"
  have x0 := Int.fmod_nonneg_of_pos ((cellOf ns 1).fdiv 2) (show (0 : Int) < (10 : Int) ^ (20 : Int).toNat by decide)
  have x1 := Int.fmod_lt_of_pos ((cellOf ns 1).fdiv 2) (show (0 : Int) < (10 : Int) ^ (20 : Int).toNat by decide)
  have y0 := Int.fmod_nonneg_of_pos (cellOf ns 1) (show (0 : Int) < 2 by decide)
  have y1 := Int.fmod_lt_of_pos (cellOf ns 1) (show (0 : Int) < 2 by decide)
  rw [e20] at x0 x1 ⊢
  refine r_mul (wide_mul (a := 2) (b := 2) (by decide) (by omega) (by decide) (by decide) (by decide)) ?_
  walk_at "rd"
  generalize ((cellOf ns 1).fdiv 2).fmod 100000000000000000000 = x at x0 x1 ⊢
  generalize (cellOf ns 1).fmod 2 = y at y0 y1 ⊢
  refine r_mul (wide_mul (a := 67) (b := 3) (by omega) (by omega) (by decide) (by decide) (by decide)) ?_
  obtain ⟨l, el, hl0, hls⟩ : ∃ l : Int, (1 + x) * (1 - 2 * y) = l ∧ l ≠ 0 ∧ l.natAbs < 2 ^ 70 := ⟨_, rfl, Int.mul_ne_zero (by omega) (by omega), wide_lt (a := 67) (b := 3) (by omega) (by omega)⟩
  rw [el]
  clear x0 x1 y0 y1 el
  walk_at "rd"
  refine r_lstK fun p5 H5 hp5 e5 h5 => ?_
  have h5 : H5 p5 = some (.lst (([l] : List Int).map V.int)) := h5
  walk_at "rd"
  refine c__law_product (SqL.inj (e5 _ _ h4)) (hT.ex e5) hF (by omega) fun p6 H6 hp6 e6 h6 => ?_
  have one1 : Prd [1] 0 1 := ⟨rfl, fun x hx => by rw [List.mem_singleton.mp hx]; decide⟩
  have pr := prodS_prd FS [1] 0 1 hF (by omega) one1
  rw [Nat.zero_add] at pr
  have ln := pr.ln
  have nP : prodS [1] FS ≠ [] := fun z => by rw [z] at ln; simp at ln
  walk_at "rd"
  refine c__law_mul (P := [l]) (R := prodS [1] FS) 70 (1 + 80 * dgs FS) (SqL.inj (e6 _ _ h5)) (SqL.inj h6) (by simp) (by omega) (fun z hz => by rw [List.mem_singleton.mp hz]; exact hls) pr.sz ⟨by decide, by omega, by omega⟩ fun pk H7 hpk e7 h7 => ?_
  have lP := mulU_length (P := [l]) (Q := prodS [1] FS) (by simp) nP
  rw [show ([l] : List Int).length = 1 from rfl, show 1 + (prodS [1] FS).length - 1 = (prodS [1] FS).length by omega] at lP
  have sM : ML.Sz 1100 (ML.mulU [l] (prodS [1] FS)) := (ML.Sz.mulU (P := [l]) (n := 70) (fun z hz => by rw [List.mem_singleton.mp hz]; exact hls) pr.sz).mono (by show 70 + (1 + 80 * dgs FS) + 1 + 1 ≤ 1100; omega)
  have hP : ∀ k, ML.cf (ML.mulU [l] (prodS [1] FS)) k = l * ML.cf (prodS [1] FS) k := fun k => by rw [ML.cf_mulU, MD.cv_one]
  generalize ML.mulU [l] (prodS [1] FS) = P at *
  have en := SW.prod_renv m9 hF (by omega) hl0 hls hP lP
  have e57 := (e5.trans e6).trans e7
  have hS7 := e57.l hS4
  have h47 := e57 _ _ h4
  have hT7 := hT.ex e57
  clear h4 h5 h6 e5 e6 hp5 hp6 hpk one1 pr
  walk_at "rd"
  refine c__law_end (SqL.inj h47) hT7 hF ⟨m0, by omega⟩ (by omega) fun pa H8 t b hpa e8 h8 st b1 b9 => ?_
  have hS8 := e8.l hS7
  have h48 := e8 _ _ h47
  have hT8 := hT7.ex e8
  have h78 := e8 _ _ h7
  walk_at "rd"
  refine c__law_end (SqL.inj h48) hT8 hF ⟨m0, by omega⟩ (by omega) fun pb H9 u v hpb e9 h9 su v1 v9 => ?_
  have hS9 := e9.l hS8
  have h49 := e9 _ _ h48
  have hT9 := hT8.ex e9
  have h79 := e9 _ _ h78
  have h89 := e9 _ _ h8
  clear h47 h48 h78 hS7 hS8 hT7 hT8 h7 hpb hpa
  walk_at "rd"
  refine ⟨fun σ' H' => ∃ (pc : Addr) (u v : Int), σ' = [some (.ref a), some (.int most), some (.ref pf), some (.int l), some (.ref pk), some (.ref pa), some (.ref pc), none, none, none, none, none, none, none] ∧ Ex H9 H' ∧ H' pc = some (.tup (([u, v] : List Int).map V.int)) ∧ u.natAbs ≤ 200000000 ∧ 1 ≤ v ∧ v ≤ 9 ∧ t * v ≠ u * b, ?_, fun σ' H' hM => ?_⟩
  · skip
    walk_at "rd"
    refine r_ixT' (i := 0) h89 rfl ?_
    walk_at "rd"
    refine r_ixT' (i := 1) h9 rfl ?_
    walk_at "rd"
    refine r_mul (prod40 (by omega) (by omega)) ?_
    walk_at "rd"
    refine r_ixT' (i := 0) h9 rfl ?_
    walk_at "rd"
    refine r_ixT' (i := 1) h89 rfl ?_
    walk_at "rd"
    refine r_mul (prod40 (by omega) (by omega)) ?_
    walk_at "rd"
    refine ite_d (fun hc => ?_) (fun hc => ?_)
    · walk_at "rd"
      refine r_ixT' (i := 0) h89 rfl ?_
      walk_at "rd"
      refine r_ixT' (i := 1) h89 rfl ?_
      walk_at "rd"
      refine r_ixT' (i := 1) h89 rfl ?_
      walk_at "rd"
      refine r_tupK fun pc H' hpc e' h' => ⟨pc, t + b, b, rfl, e', h', by omega, b1, b9, fun z => ?_⟩
      rw [Int.add_mul] at z
      have := Int.mul_pos (show 0 < b by omega) (show 0 < b by omega)
      omega
    · walk_at "rd"
      exact ⟨pb, u, v, rfl, Evl.Ex.refl _, h9, by omega, v1, v9, hc⟩
  clear su v1 v9 h9
  obtain ⟨pc, u, v, rfl, f9, h9, su, v1, v9, hne⟩ := hM
  replace hS9 := f9.l hS9
  replace h49 := f9 _ _ h49
  replace hT9 := hT9.ex f9
  replace h79 := f9 _ _ h79
  replace h89 := f9 _ _ h89
  walk_at "rd"
  refine ⟨fun σ' H'' => ∃ (pa pc : Addr) (t b u v : Int) (u7 : Option V), σ' = [some (.ref a), some (.int most), some (.ref pf), some (.int l), some (.ref pk), some (.ref pa), some (.ref pc), u7, none, none, none, none, none, none] ∧ H' = H'' ∧ H' pa = some (.tup (([t, b] : List Int).map V.int)) ∧ H' pc = some (.tup (([u, v] : List Int).map V.int)) ∧ t.natAbs ≤ 200000000 ∧ u.natAbs ≤ 200000000 ∧ 1 ≤ b ∧ b ≤ 9 ∧ 1 ≤ v ∧ v ≤ 9 ∧ t * v < u * b, ?_, fun σ' H'' hM => ?_⟩
  · skip
    walk_at "rd"
    refine r_ixT' (i := 0) h89 rfl ?_
    walk_at "rd"
    refine r_ixT' (i := 1) h9 rfl ?_
    walk_at "rd"
    refine r_mul (prod40 (by omega) (by omega)) ?_
    walk_at "rd"
    refine r_ixT' (i := 0) h9 rfl ?_
    walk_at "rd"
    refine r_ixT' (i := 1) h89 rfl ?_
    walk_at "rd"
    refine r_mul (prod40 (by omega) (by omega)) ?_
    walk_at "rd"
    refine ite_d (fun hc => ?_) (fun hc => ?_)
    · walk_at "rd"
      exact ⟨pc, pa, u, v, t, b, _, rfl, rfl, h9, h89, su, by omega, v1, v9, b1, b9, hc⟩
    · walk_at "rd"
      exact ⟨pa, pc, t, b, u, v, _, rfl, rfl, h89, h9, by omega, su, b1, b9, v1, v9, by omega⟩
  clear su v1 v9 h9 h89 b1 b9 st hne h8
  obtain ⟨pa, pc, t, b, u, v, u7, rfl, rfl, hta, htc, st, su, b1, b9, v1, v9, hlt⟩ := hM
  have tS : t.natAbs < 2 ^ 30 ∧ b.natAbs < 2 ^ 30 ∧ u.natAbs < 2 ^ 30 ∧ v.natAbs < 2 ^ 30 := by omega
  have hsz : ∀ {R : List Int}, ML.Sz 4000 R ∧ R.length ≤ 100 → HSz 4000 30 R t b ∧ HSz 4000 30 R u v := fun {R} h => ⟨⟨h.1, tS.1, tS.2.1, by decide, by decide, by omega⟩, ⟨h.1, tS.2.2.1, tS.2.2.2, by decide, by decide, by omega⟩⟩
  have hIS := rtsS_isS hF
  walk_at "rd"
  refine c__law_roots_of (SqL.inj h49) hT9 hF (by omega) fun p10 H10 qs hp10 e10 h10 hT10 => ?_
  walk_at "rd"
  have rl : (rtsS FS).length ≤ 1000 := by
    have : ∀ GS : List (List Int), (rtsS GS).length ≤ 2 * GS.length := fun GS => by
      induction GS with
      | nil => exact Nat.zero_le _
      | cons F r ih =>
        have e : rtsS (F :: r) = MJ.rtsF F ++ rtsS r := List.flatMap_cons
        rw [e, List.length_append, List.length_cons]
        have : (MJ.rtsF F).length ≤ 2 := by
          unfold MJ.rtsF
          split
          · unfold MJ.rts; split <;> (try split) <;> simp
          · simp
        omega
    have := this FS
    omega
  refine c__law_manyS 40 (e10 _ _ hta) (e10 _ _ htc) (SqL.inj h10) hT10 ⟨fun R hR => ⟨most, hIS R hR⟩, by omega, by omega, by omega, by omega, by decide, by decide, rl⟩ ?_
  have kn := SX.known m9 hF hpw (show dgs FS ≤ 12 by omega) hl0 hls hP lP (show 0 < b by omega) (show 0 < v by omega) hlt
  have ek : (((rtsS FS).filter fun R => amR R t b u v).length : Int) = (MH.chg (MS.rowL 100 P) t b).1 - (MH.chg (MS.rowL 100 P) u v).1 := kn.symm
  rw [ek]
  clear ek kn rl
  have hS10 := e10.l hS9
  have hta10 := e10 _ _ hta
  have htc10 := e10 _ _ htc
  have h710 := e10 _ _ h79
  walk_at "rd"
  refine ⟨fun σ' H' => ∃ (pk : Addr) (P : List Int) (s r : Nat) (u9 : Option V), σ' = [some (.ref a), some (.int most), some (.ref pf), some (.int l), some (.ref pk), some (.ref pa), some (.ref pc), u7, some (.int ((MH.chg (MS.rowL 100 P) t b).1 - (MH.chg (MS.rowL 100 P) u v).1)), u9, none, none, none, none] ∧ Ex H10 H' ∧ H' pk = some (.lst (P.map V.int)) ∧ SR.REnv P 100 s r ∧ ML.Sz 1100 P, ?_, fun σ' H' hM => ?_⟩
  · skip
    walk_at "rd"
    refine ite_d (fun hc => ?_) (fun hc => ?_)
    · walk_at "rd"
      refine c__law_any fun p11 H11 F hp11 e11 h11 tF lF sF => ?_
      walk_at "rd"
      refine lc_ints (fun x => x * l) (SqL.inj h11) (by omega) (fun x hx H12 e12 Q' k' => ?_) fun p12 H12 hp12 e12 h12 => ?_
      · walk_at "rd"
        refine r_mul (wide_mul (sF x hx) hls (by decide) (by decide) (by decide)) ?_
        exact k' _ (Evl.Ex.refl _)
      have e112 := e11.trans e12
      have cP : ∀ k, ML.cf (F.map fun x => x * l) k = l * ML.cf F k := fun k => by rw [ML.cf_map (f := fun x => x * l) (by omega), Int.mul_comm]
      walk_at "rd"
      refine ⟨fun σ' H' => ∃ (pk : Addr) (P2 : List Int) (u9 : Option V), σ' = [some (.ref a), some (.int most), some (.ref pf), some (.int l), some (.ref pk), some (.ref pa), some (.ref pc), u7, some (.int ((MH.chg (MS.rowL 100 P) t b).1 - (MH.chg (MS.rowL 100 P) u v).1)), u9, none, none, none, none] ∧ Ex H10 H' ∧ H' pk = some (.lst (P2.map V.int)) ∧ SR.REnv P2 100 300 0 ∧ ML.Sz 300 P2, ?_, fun σ' H' hM => ?_⟩
      · skip
        walk_at "rd"
        refine r_lstK fun p13 H13 hp13 e13 h13 => ?_
        walk_at "rd"
        refine r_eqInts (ns := F.map fun x => x * l) (ms := []) (SqL.inj (e13 _ _ h12)) (SqL.inj h13) ?_
        walk_at "rd"
        refine ite_d (fun hn => ?_) (fun hn => ?_)
        · walk_at "rd"
          refine r_lstK fun p14 H14 hp14 e14 h14 => ?_
          obtain ⟨en1, sz1⟩ := SX.flat_renv (F := [1]) (P := [l]) (l := l) (.inr (by decide)) (by simp) (by decide) (fun x hx => by rw [List.mem_singleton.mp hx]; decide) hl0 hls (fun k => by
            cases k with
            | zero => show l = l * 1; omega
            | succ k => rw [ML.cf_succ, ML.cf_succ, ML.cf_nil]; omega) rfl
          exact ⟨p14, [l], _, rfl, (e112.trans e13).trans e14, h14, en1, sz1⟩
        · walk_at "rd"
          obtain ⟨en1, sz1⟩ := SX.flat_renv tF (fun z => hn (by rw [z]; rfl)) lF sF hl0 hls cP (List.length_map ..)
          exact ⟨p12, _, _, rfl, e112.trans e13, e13 _ _ h12, en1, sz1⟩
      obtain ⟨pk', P2, u9, rfl, f1, hk, en2, s2⟩ := hM
      have s2' : ML.Sz 4000 P2 := s2.mono (by decide)
      walk_at "rd"
      refine c__law_row hk en2 s2' fun p15 H15 ps15 hp15 e15 h15 hW15 => ?_
      walk_at "rd"
      refine c__law_manyR 4000 30 (e15 _ _ (f1 _ _ hta10)) (e15 _ _ (f1 _ _ htc10)) (SqL.inj h15) hW15 (by simp) (fun R hR => ?_) ?_
      · rcases List.mem_cons.mp hR with rfl | hR
        · exact hsz ⟨s2', by have := en2.lP; omega⟩
        · exact hsz (SX.row_each en2 s2' (List.mem_of_mem_drop hR))
      rw [SX.chg_head en2 (by omega), SX.chg_head en2 (by omega)]
      walk_at "rd"
      exact ⟨pk', P2, _, _, _, rfl, f1.trans e15, e15 _ _ hk, en2, s2.mono (by decide)⟩
    · walk_at "rd"
      exact ⟨pk, P, _, _, _, rfl, Evl.Ex.refl _, h710, en, sM⟩
  clear en sM hP lP h710 h79
  obtain ⟨pk, P, s, r, u9, rfl, f1, hk, en, sP⟩ := hM
  have sP' : ML.Sz 4000 P := sP.mono (by decide)
  walk_at "rd"
  refine r_list (xs := P.map V.int) (SqL.inj hk) fun p16 H16 hp16 e16 h16 => ?_
  walk_at "rd"
  refine c_row_of 1100 100 (SqL.inj h16) (by have := en.lP; omega) (by decide) sP ⟨by decide, by decide⟩ en.tP (fun _ => en.ok) fun p17 rs H17 hp17 _ _ e17 h17 hW17 => ?_
  have e167 := e16.trans e17
  have f17 := f1.trans e167
  have hta17 := f17 _ _ hta10
  have htc17 := f17 _ _ htc10
  have zs : ∀ R ∈ MS.rowL 100 P, HSz 4000 30 R (rT t b) (rB t b) := fun R hR => by
    obtain ⟨k1, k2⟩ := SX.row_each en sP' hR
    exact ⟨k1, Nat.lt_of_le_of_lt (rT_abs (by omega)) tS.1, Nat.lt_of_le_of_lt (rB_abs (by omega)) tS.2.1, by decide, by decide, by omega⟩
  have zs2 : ∀ R ∈ MS.rowL 100 P, HSz 4000 30 R (rT u v) (rB u v) := fun R hR => by
    obtain ⟨k1, k2⟩ := SX.row_each en sP' hR
    exact ⟨k1, Nat.lt_of_le_of_lt (rT_abs (by omega)) tS.2.2.1, Nat.lt_of_le_of_lt (rB_abs (by omega)) tS.2.2.2, by decide, by decide, by omega⟩
  walk_at "rd"
  refine r_ixT' (i := 0) hta17 rfl ?_
  walk_at "rd"
  refine r_ixT' (i := 1) hta17 rfl ?_
  walk_at "rd"
  refine c_Ratio 30 (by omega) tS.2.1 (by decide) (by decide) fun r1 J1 hr1 g1 i1 => ?_
  walk_at "rd"
  refine r_ixT' (i := 0) (g1 _ _ htc17) rfl ?_
  walk_at "rd"
  refine r_ixT' (i := 1) (g1 _ _ htc17) rfl ?_
  walk_at "rd"
  refine c_Ratio 30 (by omega) tS.2.2.2 (by decide) (by decide) fun r2 J2 hr2 g2 i2 => ?_
  have g12 := g1.trans g2
  walk_at "rd"
  refine c_count 4000 30 (SqL.inj (g12 _ _ h17)) (hW17.ex g12) (IsR.ex g2 i1) i2 zs zs2 ?_
  rw [MH.chg_made _ (show 0 < b by omega), MH.chg_made _ (show 0 < v by omega)]
  walk_at "rd"
  refine r_ixT' (i := 0) (g12 _ _ htc17) rfl ?_
  walk_at "rd"
  refine r_ixT' (i := 1) (g12 _ _ htc17) rfl ?_
  walk_at "rd"
  refine c_Ratio 30 (by omega) tS.2.2.2 (by decide) (by decide) fun r3 J3 hr3 g3 i3 => ?_
  have g13 := g12.trans g3
  walk_at "rd"
  refine r_ixT' (i := 0) (g13 _ _ hta17) rfl ?_
  walk_at "rd"
  refine r_ixT' (i := 1) (g13 _ _ hta17) rfl ?_
  walk_at "rd"
  refine c_Ratio 30 (by omega) tS.2.1 (by decide) (by decide) fun r4 J4 hr4 g4 i4 => ?_
  have g14 := g13.trans g4
  walk_at "rd"
  refine c_count 4000 30 (SqL.inj (g14 _ _ h17)) (hW17.ex g14) (IsR.ex g4 i3) i4 zs2 zs ?_
  rw [MH.chg_made _ (show 0 < b by omega), MH.chg_made _ (show 0 < v by omega)]
  generalize (MH.chg (MS.rowL 100 P) t b).1 = c1
  generalize (MH.chg (MS.rowL 100 P) u v).1 = c2
  have h16' := g14 _ _ (e17 _ _ h16)
  have hk' := g14 _ _ (e167 _ _ hk)
  walk_at "rd"
  refine r_neInts (ns := P) (ms := P) (SqL.inj h16') (SqL.inj hk') ?_
  rw [decide_eq_true rfl]
  walk_at "rd"
  rw [if_pos (decide_eq_true rfl)]
  walk_at "rd"
  rw [show decide (c2 - c1 = 0 - (c1 - c2)) = true from decide_eq_true (by omega)]
  exact q _
theorem c_law {a : Addr} {ns : List Int} (h : SqL K H a (ns.map V.int)) (hl : ns.length ≤ 63) (q : ∀ H', Q (.bl true) H') : sp_law K Cof [.ref a] H Q E := ⟨a, ns, rfl, h, hl, q⟩
end

def topS (i : Nat) : Stmt := PySem.Challenge.pw_rootspan_k24_whole_counts.main.body.getD i (.Pass ⟨0, 0, 0, 0⟩)
abbrev s_shared : Stmt := topS 6
theorem sc_shared : FnScope ["row", "found", "one", "rest"] ["row"] (defScope s_shared) := ⟨rfl, rfl, rfl, by decide +kernel, rfl, by decide +kernel, by decide +kernel⟩
abbrev s_told_order : Stmt := topS 7
theorem sc_told_order : FnScope ["left", "right"] ["left", "right"] (defScope s_told_order) := ⟨rfl, rfl, rfl, by decide +kernel, rfl, by decide +kernel, by decide +kernel⟩
abbrev s_Ratio___init__ : Stmt := inClass (topS 8) 0
theorem sc_Ratio___init__ : FnScope ["self", "top", "bottom", "part"] ["self", "top", "bottom"] (defScope s_Ratio___init__) := ⟨rfl, rfl, rfl, by decide +kernel, rfl, by decide +kernel, by decide +kernel⟩
abbrev s_poly : Stmt := topS 10
theorem sc_poly : FnScope ["row", "size"] ["row"] (defScope s_poly) := ⟨rfl, rfl, rfl, by decide +kernel, rfl, by decide +kernel, by decide +kernel⟩
abbrev s_degree : Stmt := topS 11
theorem sc_degree : FnScope ["P"] ["P"] (defScope s_degree) := ⟨rfl, rfl, rfl, by decide +kernel, rfl, by decide +kernel, by decide +kernel⟩
abbrev s_slope : Stmt := topS 12
theorem sc_slope : FnScope ["P", "k"] ["P"] (defScope s_slope) := ⟨rfl, rfl, rfl, by decide +kernel, rfl, by decide +kernel, by decide +kernel⟩
abbrev s_shrunk : Stmt := topS 13
theorem sc_shrunk : FnScope ["P", "part", "one"] ["P"] (defScope s_shrunk) := ⟨rfl, rfl, rfl, by decide +kernel, rfl, by decide +kernel, by decide +kernel⟩
abbrev s_top_at : Stmt := topS 14
theorem sc_top_at : FnScope ["P", "r", "total", "scale", "one"] ["P", "r"] (defScope s_top_at) := ⟨rfl, rfl, rfl, by decide +kernel, rfl, by decide +kernel, by decide +kernel⟩
abbrev s_sign_at : Stmt := topS 15
theorem sc_sign_at : FnScope ["P", "r"] ["P", "r"] (defScope s_sign_at) := ⟨rfl, rfl, rfl, by decide +kernel, rfl, by decide +kernel, by decide +kernel⟩
abbrev s_divided : Stmt := topS 17
theorem sc_divided : FnScope ["P", "Q", "gap", "factor", "k", "rest", "one", "quotient", "many", "place"] ["P", "Q"] (defScope s_divided) := ⟨rfl, rfl, rfl, by decide +kernel, rfl, by decide +kernel, by decide +kernel⟩
abbrev s_row_of : Stmt := topS 19
theorem sc_row_of : FnScope ["P", "row", "later", "rest", "one"] ["P"] (defScope s_row_of) := ⟨rfl, rfl, rfl, by decide +kernel, rfl, by decide +kernel, by decide +kernel⟩
abbrev s_changes : Stmt := topS 20
theorem sc_changes : FnScope ["row", "r", "many", "last", "P", "sign"] ["row", "r"] (defScope s_changes) := ⟨rfl, rfl, rfl, by decide +kernel, rfl, by decide +kernel, by decide +kernel⟩
abbrev s_count : Stmt := topS 21
theorem sc_count : FnScope ["row", "low", "high"] ["row", "low", "high"] (defScope s_count) := ⟨rfl, rfl, rfl, by decide +kernel, rfl, by decide +kernel, by decide +kernel⟩
abbrev s__law_cell_at : Stmt := topS 23
theorem sc__law_cell_at : FnScope ["_law_script", "_law_k"] ["_law_script", "_law_k"] (defScope s__law_cell_at) := ⟨rfl, rfl, rfl, by decide +kernel, rfl, by decide +kernel, by decide +kernel⟩
abbrev s__law_whole : Stmt := topS 24
theorem sc__law_whole : FnScope ["_law_found"] ["_law_found"] (defScope s__law_whole) := ⟨rfl, rfl, rfl, by decide +kernel, rfl, by decide +kernel, by decide +kernel⟩
abbrev s__law_within : Stmt := topS 25
theorem sc__law_within : FnScope ["_law_cell", "_law_most"] ["_law_cell", "_law_most"] (defScope s__law_within) := ⟨rfl, rfl, rfl, by decide +kernel, rfl, by decide +kernel, by decide +kernel⟩
abbrev s__law_trim : Stmt := topS 26
theorem sc__law_trim : FnScope ["_law_row_here", "_law_size"] ["_law_row_here"] (defScope s__law_trim) := ⟨rfl, rfl, rfl, by decide +kernel, rfl, by decide +kernel, by decide +kernel⟩
abbrev s__law_mul : Stmt := topS 27
theorem sc__law_mul : FnScope ["_law_kp", "_law_kq", "_law_made", "_law_k", "_law_i", "_law_one", "_law_j", "_law_other"] ["_law_kp", "_law_kq"] (defScope s__law_mul) := ⟨rfl, rfl, rfl, by decide +kernel, rfl, by decide +kernel, by decide +kernel⟩
abbrev s__law_gcd : Stmt := topS 28
theorem sc__law_gcd : FnScope ["_law_a", "_law_b", "_law_rest_here"] ["_law_a", "_law_b"] (defScope s__law_gcd) := ⟨rfl, rfl, rfl, by decide +kernel, rfl, by decide +kernel, by decide +kernel⟩
abbrev s__law_shrunk : Stmt := topS 29
theorem sc__law_shrunk : FnScope ["_law_kp", "_law_most", "_law_one"] ["_law_kp"] (defScope s__law_shrunk) := ⟨rfl, rfl, rfl, by decide +kernel, rfl, by decide +kernel, by decide +kernel⟩
abbrev s__law_plain : Stmt := topS 30
theorem sc__law_plain : FnScope ["_law_kp", "_law_made", "_law_one"] ["_law_kp"] (defScope s__law_plain) := ⟨rfl, rfl, rfl, by decide +kernel, rfl, by decide +kernel, by decide +kernel⟩
abbrev s__law_factor_by : Stmt := topS 31
theorem sc__law_factor_by : FnScope ["_law_cell", "_law_most", "_law_u", "_law_b", "_law_n", "_law_e"] ["_law_cell", "_law_most"] (defScope s__law_factor_by) := ⟨rfl, rfl, rfl, by decide +kernel, rfl, by decide +kernel, by decide +kernel⟩
abbrev s__law_shape : Stmt := topS 32
theorem sc__law_shape : FnScope ["_law_factor", "_law_u", "_law_b"] ["_law_factor"] (defScope s__law_shape) := ⟨rfl, rfl, rfl, by decide +kernel, rfl, by decide +kernel, by decide +kernel⟩
abbrev s__law_factors_by : Stmt := topS 33
theorem sc__law_factors_by : FnScope ["_law_drawn", "_law_most", "_law_room", "_law_made", "_law_shapes", "_law_cell", "_law_one", "_law_shape_here"] ["_law_drawn", "_law_most", "_law_room"] (defScope s__law_factors_by) := ⟨rfl, rfl, rfl, by decide +kernel, rfl, by decide +kernel, by decide +kernel⟩
abbrev s__law_product : Stmt := topS 34
theorem sc__law_product : FnScope ["_law_factors", "_law_made", "_law_one"] ["_law_factors"] (defScope s__law_product) := ⟨rfl, rfl, rfl, by decide +kernel, rfl, by decide +kernel, by decide +kernel⟩
abbrev s__law_sure : Stmt := topS 35
theorem sc__law_sure : FnScope ["_law_square", "_law_due"] ["_law_square", "_law_due"] (defScope s__law_sure) := ⟨rfl, rfl, rfl, by decide +kernel, rfl, by decide +kernel, by decide +kernel⟩
abbrev s__law_side : Stmt := topS 36
theorem sc__law_side : FnScope ["_law_spot", "_law_top", "_law_bottom", "_law_due", "_law_square"] ["_law_spot", "_law_top", "_law_bottom"] (defScope s__law_side) := ⟨rfl, rfl, rfl, by decide +kernel, rfl, by decide +kernel, by decide +kernel⟩
abbrev s__law_roots_of : Stmt := topS 37
theorem sc__law_roots_of : FnScope ["_law_factors", "_law_made", "_law_one"] ["_law_factors"] (defScope s__law_roots_of) := ⟨rfl, rfl, rfl, by decide +kernel, rfl, by decide +kernel, by decide +kernel⟩
abbrev s__law_rest : Stmt := topS 38
theorem sc__law_rest : FnScope ["_law_kp", "_law_kq", "_law_left", "_law_gap", "_law_top", "_law_one", "_law_k"] ["_law_kp", "_law_kq"] (defScope s__law_rest) := ⟨rfl, rfl, rfl, by decide +kernel, rfl, by decide +kernel, by decide +kernel⟩
abbrev s__law_slope : Stmt := topS 39
theorem sc__law_slope : FnScope ["_law_kp", "_law_k", "_law_one"] ["_law_kp"] (defScope s__law_slope) := ⟨rfl, rfl, rfl, by decide +kernel, rfl, by decide +kernel, by decide +kernel⟩
abbrev s__law_part : Stmt := topS 40
theorem sc__law_part : FnScope ["_law_kp", "_law_kq", "_law_left", "_law_found", "_law_k", "_law_one", "_law_j"] ["_law_kp", "_law_kq"] (defScope s__law_part) := ⟨rfl, rfl, rfl, by decide +kernel, rfl, by decide +kernel, by decide +kernel⟩
abbrev s__law_flat : Stmt := topS 41
theorem sc__law_flat : FnScope ["_law_kp", "_law_one", "_law_other"] ["_law_kp"] (defScope s__law_flat) := ⟨rfl, rfl, rfl, by decide +kernel, rfl, by decide +kernel, by decide +kernel⟩
abbrev s__law_row : Stmt := topS 42
theorem sc__law_row : FnScope ["_law_kp", "_law_row_here", "_law_other", "_law_one"] ["_law_kp"] (defScope s__law_row) := ⟨rfl, rfl, rfl, by decide +kernel, rfl, by decide +kernel, by decide +kernel⟩
abbrev s__law_changes : Stmt := topS 43
theorem sc__law_changes : FnScope ["_law_row_here", "_law_spot", "_law_many_here", "_law_last", "_law_kp", "_law_total", "_law_scale", "_law_one"] ["_law_row_here", "_law_spot"] (defScope s__law_changes) := ⟨rfl, rfl, rfl, by decide +kernel, rfl, by decide +kernel, by decide +kernel⟩
abbrev s__law_any : Stmt := topS 44
theorem sc__law_any : FnScope ["_law_cell", "_law_row_here", "_law_left", "_law_k"] ["_law_cell"] (defScope s__law_any) := ⟨rfl, rfl, rfl, by decide +kernel, rfl, by decide +kernel, by decide +kernel⟩
abbrev s__law_many : Stmt := topS 45
theorem sc__law_many : FnScope ["_law_spots", "_law_low", "_law_high", "_law_many_here", "_law_spot", "_law_first"] ["_law_spots", "_law_low", "_law_high"] (defScope s__law_many) := ⟨rfl, rfl, rfl, by decide +kernel, rfl, by decide +kernel, by decide +kernel⟩
abbrev s__law_end : Stmt := topS 46
theorem sc__law_end : FnScope ["_law_cell", "_law_factors", "_law_most", "_law_known", "_law_one"] ["_law_cell", "_law_factors", "_law_most"] (defScope s__law_end) := ⟨rfl, rfl, rfl, by decide +kernel, rfl, by decide +kernel, by decide +kernel⟩
abbrev s_law : Stmt := topS 47
theorem sc_law : FnScope ["_law_script", "_law_most", "_law_factors", "_law_lead", "_law_kp", "_law_low", "_law_high", "_law_kept", "_law_due", "_law_one", "_law_handed", "_law_row_here", "_law_found", "_law_back"] ["_law_script"] (defScope s_law) := ⟨rfl, rfl, rfl, by decide +kernel, rfl, by decide +kernel, by decide +kernel⟩
structure Txt (K : PySem.W.Frag) (mg : Str → Option Value) (Cof : String → Addr) (ad : Nat → Addr) (fd : Nat → FuncData) : Prop where
  z_abs : mg "abs" = none
  z_bool : mg "bool" = none
  z_enumerate : mg "enumerate" = none
  z_int : mg "int" = none
  z_isinstance : mg "isinstance" = none
  z_len : mg "len" = none
  z_list : mg "list" = none
  z_range : mg "range" = none
  z_reversed : mg "reversed" = none
  g_shared : mg "shared" = some (.ref (ad 0))
  F_shared : Fun K "shared" "shared" s_shared (ad 0) (fd 0)
  g_told_order : mg "told_order" = some (.ref (ad 1))
  F_told_order : Fun K "told_order" "told_order" s_told_order (ad 1) (fd 1)
  F_Ratio___init__ : FunD K "__init__" "Ratio.__init__" (defArgs s_Ratio___init__) (defBody s_Ratio___init__) (defScope s_Ratio___init__) [.int 1] [] (ad 2) (fd 2)
  mk_Ratio : Mk K (Cof "Ratio") (ad 2)
  g_poly : mg "poly" = some (.ref (ad 3))
  F_poly : Fun K "poly" "poly" s_poly (ad 3) (fd 3)
  g_degree : mg "degree" = some (.ref (ad 4))
  F_degree : Fun K "degree" "degree" s_degree (ad 4) (fd 4)
  g_slope : mg "slope" = some (.ref (ad 5))
  F_slope : Fun K "slope" "slope" s_slope (ad 5) (fd 5)
  g_shrunk : mg "shrunk" = some (.ref (ad 6))
  F_shrunk : Fun K "shrunk" "shrunk" s_shrunk (ad 6) (fd 6)
  g_top_at : mg "top_at" = some (.ref (ad 7))
  F_top_at : Fun K "top_at" "top_at" s_top_at (ad 7) (fd 7)
  g_sign_at : mg "sign_at" = some (.ref (ad 8))
  F_sign_at : Fun K "sign_at" "sign_at" s_sign_at (ad 8) (fd 8)
  g_divided : mg "divided" = some (.ref (ad 9))
  F_divided : Fun K "divided" "divided" s_divided (ad 9) (fd 9)
  g_row_of : mg "row_of" = some (.ref (ad 10))
  F_row_of : Fun K "row_of" "row_of" s_row_of (ad 10) (fd 10)
  g_changes : mg "changes" = some (.ref (ad 11))
  F_changes : Fun K "changes" "changes" s_changes (ad 11) (fd 11)
  g_count : mg "count" = some (.ref (ad 12))
  F_count : Fun K "count" "count" s_count (ad 12) (fd 12)
  g__law_cell_at : mg "_law_cell_at" = some (.ref (ad 13))
  F__law_cell_at : Fun K "_law_cell_at" "_law_cell_at" s__law_cell_at (ad 13) (fd 13)
  g__law_whole : mg "_law_whole" = some (.ref (ad 14))
  F__law_whole : Fun K "_law_whole" "_law_whole" s__law_whole (ad 14) (fd 14)
  g__law_within : mg "_law_within" = some (.ref (ad 15))
  F__law_within : Fun K "_law_within" "_law_within" s__law_within (ad 15) (fd 15)
  g__law_trim : mg "_law_trim" = some (.ref (ad 16))
  F__law_trim : Fun K "_law_trim" "_law_trim" s__law_trim (ad 16) (fd 16)
  g__law_mul : mg "_law_mul" = some (.ref (ad 17))
  F__law_mul : Fun K "_law_mul" "_law_mul" s__law_mul (ad 17) (fd 17)
  g__law_gcd : mg "_law_gcd" = some (.ref (ad 18))
  F__law_gcd : Fun K "_law_gcd" "_law_gcd" s__law_gcd (ad 18) (fd 18)
  g__law_shrunk : mg "_law_shrunk" = some (.ref (ad 19))
  F__law_shrunk : Fun K "_law_shrunk" "_law_shrunk" s__law_shrunk (ad 19) (fd 19)
  g__law_plain : mg "_law_plain" = some (.ref (ad 20))
  F__law_plain : Fun K "_law_plain" "_law_plain" s__law_plain (ad 20) (fd 20)
  g__law_factor_by : mg "_law_factor_by" = some (.ref (ad 21))
  F__law_factor_by : Fun K "_law_factor_by" "_law_factor_by" s__law_factor_by (ad 21) (fd 21)
  g__law_shape : mg "_law_shape" = some (.ref (ad 22))
  F__law_shape : Fun K "_law_shape" "_law_shape" s__law_shape (ad 22) (fd 22)
  g__law_factors_by : mg "_law_factors_by" = some (.ref (ad 23))
  F__law_factors_by : Fun K "_law_factors_by" "_law_factors_by" s__law_factors_by (ad 23) (fd 23)
  g__law_product : mg "_law_product" = some (.ref (ad 24))
  F__law_product : Fun K "_law_product" "_law_product" s__law_product (ad 24) (fd 24)
  g__law_sure : mg "_law_sure" = some (.ref (ad 25))
  F__law_sure : Fun K "_law_sure" "_law_sure" s__law_sure (ad 25) (fd 25)
  g__law_side : mg "_law_side" = some (.ref (ad 26))
  F__law_side : Fun K "_law_side" "_law_side" s__law_side (ad 26) (fd 26)
  g__law_roots_of : mg "_law_roots_of" = some (.ref (ad 27))
  F__law_roots_of : Fun K "_law_roots_of" "_law_roots_of" s__law_roots_of (ad 27) (fd 27)
  g__law_rest : mg "_law_rest" = some (.ref (ad 28))
  F__law_rest : Fun K "_law_rest" "_law_rest" s__law_rest (ad 28) (fd 28)
  g__law_slope : mg "_law_slope" = some (.ref (ad 29))
  F__law_slope : Fun K "_law_slope" "_law_slope" s__law_slope (ad 29) (fd 29)
  g__law_part : mg "_law_part" = some (.ref (ad 30))
  F__law_part : Fun K "_law_part" "_law_part" s__law_part (ad 30) (fd 30)
  g__law_flat : mg "_law_flat" = some (.ref (ad 31))
  F__law_flat : Fun K "_law_flat" "_law_flat" s__law_flat (ad 31) (fd 31)
  g__law_row : mg "_law_row" = some (.ref (ad 32))
  F__law_row : Fun K "_law_row" "_law_row" s__law_row (ad 32) (fd 32)
  g__law_changes : mg "_law_changes" = some (.ref (ad 33))
  F__law_changes : Fun K "_law_changes" "_law_changes" s__law_changes (ad 33) (fd 33)
  g__law_any : mg "_law_any" = some (.ref (ad 34))
  F__law_any : Fun K "_law_any" "_law_any" s__law_any (ad 34) (fd 34)
  g__law_many : mg "_law_many" = some (.ref (ad 35))
  F__law_many : Fun K "_law_many" "_law_many" s__law_many (ad 35) (fd 35)
  g__law_end : mg "_law_end" = some (.ref (ad 36))
  F__law_end : Fun K "_law_end" "_law_end" s__law_end (ad 36) (fd 36)
  g_law : mg "law" = some (.ref (ad 37))
  F_law : Fun K "law" "law" s_law (ad 37) (fd 37)
  q_Ratio : mg "Ratio" = some (.ref (Cof "Ratio"))
  cls_Ratio : Cls K (Cof "Ratio")
  ex : ExT K Cof
section
variable {P : Program} {w : World} {K : PySem.W.Frag} {mg : Str → Option Value} {base : Heap} {Cof : String → Addr} {ad : Nat → Addr} {fd : Nat → FuncData}
theorem B_shared (T : Txt K mg Cof ad fd) : Binds K (fd 0) ["row"] [] := T.F_shared.binds (ps := ["row"]) fun _ _ _ _ _ _ us hl => match us, hl with | [_], _ => rfl
theorem B_told_order (T : Txt K mg Cof ad fd) : Binds K (fd 1) ["left", "right"] [] := T.F_told_order.binds (ps := ["left", "right"]) fun _ _ _ _ _ _ us hl => match us, hl with | [_, _], _ => rfl
theorem B_Ratio___init__ (T : Txt K mg Cof ad fd) : Binds K (fd 2) ["self", "top", "bottom"] [] := binds_full (T.F_Ratio___init__.binds1 (ps := ["self", "top", "bottom"]) 3 1 (by simp) rfl fun _ _ _ _ _ _ _ us its h1 h2 => match us, its, h1, h2 with | [_, _, _], [_], _, _ => ⟨_, rfl, rfl⟩)
theorem D_Ratio___init__ (T : Txt K mg Cof ad fd) : ∃ ds, Vals [.int 1] ds ∧ Binds K (fd 2) ["self", "top", "bottom"] ds := T.F_Ratio___init__.binds1 (ps := ["self", "top", "bottom"]) 2 0 (by simp) rfl fun _ _ _ _ _ _ _ us its h1 h2 => match us, its, h1, h2 with | [_, _], [_], _, _ => ⟨_, rfl, rfl⟩
theorem B_poly (T : Txt K mg Cof ad fd) : Binds K (fd 3) ["row"] [] := T.F_poly.binds (ps := ["row"]) fun _ _ _ _ _ _ us hl => match us, hl with | [_], _ => rfl
theorem B_degree (T : Txt K mg Cof ad fd) : Binds K (fd 4) ["P"] [] := T.F_degree.binds (ps := ["P"]) fun _ _ _ _ _ _ us hl => match us, hl with | [_], _ => rfl
theorem B_slope (T : Txt K mg Cof ad fd) : Binds K (fd 5) ["P"] [] := T.F_slope.binds (ps := ["P"]) fun _ _ _ _ _ _ us hl => match us, hl with | [_], _ => rfl
theorem B_shrunk (T : Txt K mg Cof ad fd) : Binds K (fd 6) ["P"] [] := T.F_shrunk.binds (ps := ["P"]) fun _ _ _ _ _ _ us hl => match us, hl with | [_], _ => rfl
theorem B_top_at (T : Txt K mg Cof ad fd) : Binds K (fd 7) ["P", "r"] [] := T.F_top_at.binds (ps := ["P", "r"]) fun _ _ _ _ _ _ us hl => match us, hl with | [_, _], _ => rfl
theorem B_sign_at (T : Txt K mg Cof ad fd) : Binds K (fd 8) ["P", "r"] [] := T.F_sign_at.binds (ps := ["P", "r"]) fun _ _ _ _ _ _ us hl => match us, hl with | [_, _], _ => rfl
theorem B_divided (T : Txt K mg Cof ad fd) : Binds K (fd 9) ["P", "Q"] [] := T.F_divided.binds (ps := ["P", "Q"]) fun _ _ _ _ _ _ us hl => match us, hl with | [_, _], _ => rfl
theorem B_row_of (T : Txt K mg Cof ad fd) : Binds K (fd 10) ["P"] [] := T.F_row_of.binds (ps := ["P"]) fun _ _ _ _ _ _ us hl => match us, hl with | [_], _ => rfl
theorem B_changes (T : Txt K mg Cof ad fd) : Binds K (fd 11) ["row", "r"] [] := T.F_changes.binds (ps := ["row", "r"]) fun _ _ _ _ _ _ us hl => match us, hl with | [_, _], _ => rfl
theorem B_count (T : Txt K mg Cof ad fd) : Binds K (fd 12) ["row", "low", "high"] [] := T.F_count.binds (ps := ["row", "low", "high"]) fun _ _ _ _ _ _ us hl => match us, hl with | [_, _, _], _ => rfl
theorem B__law_cell_at (T : Txt K mg Cof ad fd) : Binds K (fd 13) ["_law_script", "_law_k"] [] := T.F__law_cell_at.binds (ps := ["_law_script", "_law_k"]) fun _ _ _ _ _ _ us hl => match us, hl with | [_, _], _ => rfl
theorem B__law_whole (T : Txt K mg Cof ad fd) : Binds K (fd 14) ["_law_found"] [] := T.F__law_whole.binds (ps := ["_law_found"]) fun _ _ _ _ _ _ us hl => match us, hl with | [_], _ => rfl
theorem B__law_within (T : Txt K mg Cof ad fd) : Binds K (fd 15) ["_law_cell", "_law_most"] [] := T.F__law_within.binds (ps := ["_law_cell", "_law_most"]) fun _ _ _ _ _ _ us hl => match us, hl with | [_, _], _ => rfl
theorem B__law_trim (T : Txt K mg Cof ad fd) : Binds K (fd 16) ["_law_row_here"] [] := T.F__law_trim.binds (ps := ["_law_row_here"]) fun _ _ _ _ _ _ us hl => match us, hl with | [_], _ => rfl
theorem B__law_mul (T : Txt K mg Cof ad fd) : Binds K (fd 17) ["_law_kp", "_law_kq"] [] := T.F__law_mul.binds (ps := ["_law_kp", "_law_kq"]) fun _ _ _ _ _ _ us hl => match us, hl with | [_, _], _ => rfl
theorem B__law_gcd (T : Txt K mg Cof ad fd) : Binds K (fd 18) ["_law_a", "_law_b"] [] := T.F__law_gcd.binds (ps := ["_law_a", "_law_b"]) fun _ _ _ _ _ _ us hl => match us, hl with | [_, _], _ => rfl
theorem B__law_shrunk (T : Txt K mg Cof ad fd) : Binds K (fd 19) ["_law_kp"] [] := T.F__law_shrunk.binds (ps := ["_law_kp"]) fun _ _ _ _ _ _ us hl => match us, hl with | [_], _ => rfl
theorem B__law_plain (T : Txt K mg Cof ad fd) : Binds K (fd 20) ["_law_kp"] [] := T.F__law_plain.binds (ps := ["_law_kp"]) fun _ _ _ _ _ _ us hl => match us, hl with | [_], _ => rfl
theorem B__law_factor_by (T : Txt K mg Cof ad fd) : Binds K (fd 21) ["_law_cell", "_law_most"] [] := T.F__law_factor_by.binds (ps := ["_law_cell", "_law_most"]) fun _ _ _ _ _ _ us hl => match us, hl with | [_, _], _ => rfl
theorem B__law_shape (T : Txt K mg Cof ad fd) : Binds K (fd 22) ["_law_factor"] [] := T.F__law_shape.binds (ps := ["_law_factor"]) fun _ _ _ _ _ _ us hl => match us, hl with | [_], _ => rfl
theorem B__law_factors_by (T : Txt K mg Cof ad fd) : Binds K (fd 23) ["_law_drawn", "_law_most", "_law_room"] [] := T.F__law_factors_by.binds (ps := ["_law_drawn", "_law_most", "_law_room"]) fun _ _ _ _ _ _ us hl => match us, hl with | [_, _, _], _ => rfl
theorem B__law_product (T : Txt K mg Cof ad fd) : Binds K (fd 24) ["_law_factors"] [] := T.F__law_product.binds (ps := ["_law_factors"]) fun _ _ _ _ _ _ us hl => match us, hl with | [_], _ => rfl
theorem B__law_sure (T : Txt K mg Cof ad fd) : Binds K (fd 25) ["_law_square", "_law_due"] [] := T.F__law_sure.binds (ps := ["_law_square", "_law_due"]) fun _ _ _ _ _ _ us hl => match us, hl with | [_, _], _ => rfl
theorem B__law_side (T : Txt K mg Cof ad fd) : Binds K (fd 26) ["_law_spot", "_law_top", "_law_bottom"] [] := T.F__law_side.binds (ps := ["_law_spot", "_law_top", "_law_bottom"]) fun _ _ _ _ _ _ us hl => match us, hl with | [_, _, _], _ => rfl
theorem B__law_roots_of (T : Txt K mg Cof ad fd) : Binds K (fd 27) ["_law_factors"] [] := T.F__law_roots_of.binds (ps := ["_law_factors"]) fun _ _ _ _ _ _ us hl => match us, hl with | [_], _ => rfl
theorem B__law_rest (T : Txt K mg Cof ad fd) : Binds K (fd 28) ["_law_kp", "_law_kq"] [] := T.F__law_rest.binds (ps := ["_law_kp", "_law_kq"]) fun _ _ _ _ _ _ us hl => match us, hl with | [_, _], _ => rfl
theorem B__law_slope (T : Txt K mg Cof ad fd) : Binds K (fd 29) ["_law_kp"] [] := T.F__law_slope.binds (ps := ["_law_kp"]) fun _ _ _ _ _ _ us hl => match us, hl with | [_], _ => rfl
theorem B__law_part (T : Txt K mg Cof ad fd) : Binds K (fd 30) ["_law_kp", "_law_kq"] [] := T.F__law_part.binds (ps := ["_law_kp", "_law_kq"]) fun _ _ _ _ _ _ us hl => match us, hl with | [_, _], _ => rfl
theorem B__law_flat (T : Txt K mg Cof ad fd) : Binds K (fd 31) ["_law_kp"] [] := T.F__law_flat.binds (ps := ["_law_kp"]) fun _ _ _ _ _ _ us hl => match us, hl with | [_], _ => rfl
theorem B__law_row (T : Txt K mg Cof ad fd) : Binds K (fd 32) ["_law_kp"] [] := T.F__law_row.binds (ps := ["_law_kp"]) fun _ _ _ _ _ _ us hl => match us, hl with | [_], _ => rfl
theorem B__law_changes (T : Txt K mg Cof ad fd) : Binds K (fd 33) ["_law_row_here", "_law_spot"] [] := T.F__law_changes.binds (ps := ["_law_row_here", "_law_spot"]) fun _ _ _ _ _ _ us hl => match us, hl with | [_, _], _ => rfl
theorem B__law_any (T : Txt K mg Cof ad fd) : Binds K (fd 34) ["_law_cell"] [] := T.F__law_any.binds (ps := ["_law_cell"]) fun _ _ _ _ _ _ us hl => match us, hl with | [_], _ => rfl
theorem B__law_many (T : Txt K mg Cof ad fd) : Binds K (fd 35) ["_law_spots", "_law_low", "_law_high"] [] := T.F__law_many.binds (ps := ["_law_spots", "_law_low", "_law_high"]) fun _ _ _ _ _ _ us hl => match us, hl with | [_, _, _], _ => rfl
theorem B__law_end (T : Txt K mg Cof ad fd) : Binds K (fd 36) ["_law_cell", "_law_factors", "_law_most"] [] := T.F__law_end.binds (ps := ["_law_cell", "_law_factors", "_law_most"]) fun _ _ _ _ _ _ us hl => match us, hl with | [_, _, _], _ => rfl
theorem B_law (T : Txt K mg Cof ad fd) : Binds K (fd 37) ["_law_script"] [] := T.F_law.binds (ps := ["_law_script"]) fun _ _ _ _ _ _ us hl => match us, hl with | [_], _ => rfl
theorem ok_shared (T : Txt K mg Cof ad fd) : FnOk P w K mg base CX0 1 (ad 0) (fd 0) ["row"] (sp_shared K Cof) := by
  have nd := sc_shared.nd
  refine T.F_shared.ok sc_shared (fun vs H Q E h => len_shared h) (fun cdv A outer s H vs Q E hr h => ⟨t_shared K Cof E, ?_, rd_shared h⟩)
  exact pss_cons (ps_set (i := 1) nd rfl (by first | exact Or.inl rfl | exact Or.inr rfl) (pe_int))
       (pss_cons (ps_for PassesOwn.never rfl (pi_list (pv 0)) (pg_name (i := 2) nd rfl (by first | exact Or.inl rfl | exact Or.inr rfl)) (pss_one (ps_while PassesOwn.never (pt_cmpR op_ne (pv 2) (pe_int) (nomark _)) (pss_cons (ps_set (i := 3) nd rfl (by first | exact Or.inl rfl | exact Or.inr rfl) (pe_op op_modN (pv 1) (pv 2)))
       (pss_cons (ps_set (i := 1) nd rfl (by first | exact Or.inl rfl | exact Or.inr rfl) (pv 2))
       (pss_one (ps_set (i := 2) nd rfl (by first | exact Or.inl rfl | exact Or.inr rfl) (pv 3))))))))
       (pss_one (ps_ret (pe_callB call_abs (by rfl) T.z_abs (by decide +kernel) (pa_cons (pv 1) (pa_nil))))))
theorem ok_told_order (T : Txt K mg Cof ad fd) : FnOk P w K mg base CX0 1 (ad 1) (fd 1) ["left", "right"] (sp_told_order K Cof) := by
  have nd := sc_told_order.nd
  refine T.F_told_order.ok sc_told_order (fun vs H Q E h => len_told_order h) (fun cdv A outer s H vs Q E hr h => ⟨t_told_order K Cof E, ?_, rd_told_order h⟩)
  exact pss_cons (ps_if (pt_cmpR op_lt (pv 0) (pv 1) (nomark _)) (pss_one (ps_ret (pe_un un_neg (pe_int)))) (pss_nil))
       (pss_one (ps_ret (pe_callTy call_int1 (by rfl) T.z_int (by decide +kernel) (pa_cons (pe_cmpR op_gt (pv 0) (pv 1) (nomark _)) (pa_nil)))))
theorem ok_Ratio___init__ (T : Txt K mg Cof ad fd) : FnOk P w K mg base CX0 2 (ad 2) (fd 2) ["self", "top", "bottom"] (sp_Ratio___init__ K Cof) := by
  have G_shared := ok_shared (P := P) (w := w) (base := base) T
  have B_shared := B_shared T
  have nd := sc_Ratio___init__.nd
  refine okN T.F_Ratio___init__ sc_Ratio___init__ (fun vs H Q E h => len_Ratio___init__ h) (fun cdv A outer s H vs Q E hr h => ⟨t_Ratio___init__ K Cof E, ?_, rd_Ratio___init__ T.ex h⟩)
  exact pss_cons (ps_if (pt_cmpR op_eq (pv 2) (pe_int) (nomark _)) (pss_one (ps_never)) (pss_nil))
       (pss_cons (ps_set (i := 3) nd rfl (by first | exact Or.inl rfl | exact Or.inr rfl) (pe_call G_shared (hr.mono (by decide)) (by rfl) T.g_shared T.F_shared.kp B_shared .nil pass0 (pa_cons (pe_lst (pa_cons (pv 1) (pa_cons (pv 2) (pa_nil)))) (pa_nil))))
       (pss_cut (ps_if (pt_cmpR op_lt (pv 2) (pe_int) (nomark _)) (pss_one (ps_set (i := 3) nd rfl (by first | exact Or.inl rfl | exact Or.inr rfl) (pe_un un_neg (pv 3)))) (pss_nil))
       (pss_cons (ps_fld (pv 0) (pe_op op_fdivA (pv 1) (pv 3)) rfl)
       (pss_one (ps_fld (pv 0) (pe_op op_fdivA (pv 2) (pv 3)) rfl)))))
theorem ok_poly (T : Txt K mg Cof ad fd) : FnOk P w K mg base CX0 1 (ad 3) (fd 3) ["row"] (sp_poly K Cof) := by
  have nd := sc_poly.nd
  refine T.F_poly.ok sc_poly (fun vs H Q E h => len_poly h) (fun cdv A outer s H vs Q E hr h => ⟨t_poly K Cof E, ?_, rd_poly h⟩)
  exact pss_cons (ps_set (i := 1) nd rfl (by first | exact Or.inl rfl | exact Or.inr rfl) (pe_callB call_len_seq (by rfl) T.z_len (by decide +kernel) (pa_cons (pv 0) (pa_nil))))
       (pss_cons (ps_while PassesOwn.never (PW.pt (pw_and (pt_cmpR op_gt (pv 1) (pe_int) (nomark _)) (pw_and1 (pt_cmpR op_eq (pe_ix ix_list (pv 0) (pe_op op_sub (pv 1) (pe_int)) (fun _ _ => rfl)) (pe_int) (nomark _))))) (pss_one (ps_set (i := 1) nd rfl (by first | exact Or.inl rfl | exact Or.inr rfl) (pe_op op_sub (pv 1) (pe_int)))))
       (pss_one (ps_ret (pe_slice sl_list (pv 0) (po_none) (po_some (pv 1))))))
theorem ok_degree (T : Txt K mg Cof ad fd) : FnOk P w K mg base CX0 1 (ad 4) (fd 4) ["P"] (sp_degree K Cof) := by
  have nd := sc_degree.nd
  refine T.F_degree.ok sc_degree (fun vs H Q E h => len_degree h) (fun cdv A outer s H vs Q E hr h => ⟨t_degree K Cof E, ?_, rd_degree h⟩)
  exact pss_one (ps_ret (pe_op op_sub (pe_callB call_len_seq (by rfl) T.z_len (by decide +kernel) (pa_cons (pv 0) (pa_nil))) (pe_int)))
theorem ok_slope (T : Txt K mg Cof ad fd) : FnOk P w K mg base CX0 1 (ad 5) (fd 5) ["P"] (sp_slope K Cof) := by
  have nd := sc_slope.nd
  refine T.F_slope.ok sc_slope (fun vs H Q E h => len_slope h) (fun cdv A outer s H vs Q E hr h => ⟨t_slope K Cof E, ?_, rd_slope h⟩)
  exact pss_one (ps_ret (pe_lc (own := [("k", 1)]) (by rfl) nd (pi_range2 (by rfl) T.z_range (pa_cons (pe_int) (pa_cons (pe_callB call_len_seq (by rfl) T.z_len (by decide +kernel) (pa_cons (pv 0) (pa_nil))) (pa_nil)))) (blkOk_by (own := [("k", 1)]) (N := ["P", "k"]) (sc := defScope s_slope) (by decide +kernel)) (fun _ _ _ _ _ => pg_name (i := 1) nd rfl (by first | exact Or.inl rfl | exact Or.inr rfl)) (fun _ _ _ _ _ => pts_nil) (fun _ _ _ _ _ => pe_op op_mulX (pv 1) (pe_ix ix_list (pv 0) (pv 1) (fun _ _ => rfl)))))
theorem ok_shrunk (T : Txt K mg Cof ad fd) : FnOk P w K mg base CX0 2 (ad 6) (fd 6) ["P"] (sp_shrunk K Cof) := by
  have G_shared := ok_shared (P := P) (w := w) (base := base) T
  have B_shared := B_shared T
  have nd := sc_shrunk.nd
  refine T.F_shrunk.ok sc_shrunk (fun vs H Q E h => len_shrunk h) (fun cdv A outer s H vs Q E hr h => ⟨t_shrunk K Cof E, ?_, rd_shrunk h⟩)
  exact pss_cons (ps_set (i := 1) nd rfl (by first | exact Or.inl rfl | exact Or.inr rfl) (pe_call G_shared (hr.mono (by decide)) (by rfl) T.g_shared T.F_shared.kp B_shared .nil pass0 (pa_cons (pv 0) (pa_nil))))
       (pss_one (ps_ret (pe_lc (own := [("one", 2)]) (by rfl) nd (pi_list (pv 0)) (blkOk_by (own := [("one", 2)]) (N := ["P", "part", "one"]) (sc := defScope s_shrunk) (by decide +kernel)) (fun _ _ _ _ _ => pg_name (i := 2) nd rfl (by first | exact Or.inl rfl | exact Or.inr rfl)) (fun _ _ _ _ _ => pts_nil) (fun _ _ _ _ _ => pe_op op_fdivA (pv 2) (pv 1)))))
theorem ok_top_at (T : Txt K mg Cof ad fd) : FnOk P w K mg base CX0 1 (ad 7) (fd 7) ["P", "r"] (sp_top_at K Cof) := by
  have nd := sc_top_at.nd
  refine T.F_top_at.ok sc_top_at (fun vs H Q E h => len_top_at h) (fun cdv A outer s H vs Q E hr h => ⟨t_top_at K Cof E, ?_, rd_top_at T.ex h⟩)
  exact pss_cons (ps_set (i := 2) nd rfl (by first | exact Or.inl rfl | exact Or.inr rfl) (pe_int))
       (pss_cons (ps_set (i := 3) nd rfl (by first | exact Or.inl rfl | exact Or.inr rfl) (pe_int))
       (pss_cons (ps_for PassesOwn.never rfl (pi_reversed (by rfl) T.z_reversed (pa_cons (pv 0) (pa_nil))) (pg_name (i := 4) nd rfl (by first | exact Or.inl rfl | exact Or.inr rfl)) (pss_cons (ps_set (i := 2) nd rfl (by first | exact Or.inl rfl | exact Or.inr rfl) (pe_op op_add (pe_op op_mulX (pv 2) (pe_fld (pv 1) rfl)) (pe_op op_mulX (pv 4) (pv 3))))
       (pss_one (ps_set (i := 3) nd rfl (by first | exact Or.inl rfl | exact Or.inr rfl) (pe_op op_mulX (pv 3) (pe_fld (pv 1) rfl))))))
       (pss_one (ps_ret (pv 2)))))
theorem ok_sign_at (T : Txt K mg Cof ad fd) : FnOk P w K mg base CX0 2 (ad 8) (fd 8) ["P", "r"] (sp_sign_at K Cof) := by
  have G_told_order := ok_told_order (P := P) (w := w) (base := base) T
  have B_told_order := B_told_order T
  have G_top_at := ok_top_at (P := P) (w := w) (base := base) T
  have B_top_at := B_top_at T
  have nd := sc_sign_at.nd
  refine T.F_sign_at.ok sc_sign_at (fun vs H Q E h => len_sign_at h) (fun cdv A outer s H vs Q E hr h => ⟨t_sign_at K Cof E, ?_, rd_sign_at h⟩)
  exact pss_one (ps_ret (pe_call G_told_order (hr.mono (by decide)) (by rfl) T.g_told_order T.F_told_order.kp B_told_order .nil pass0 (pa_cons (pe_call G_top_at (hr.mono (by decide)) (by rfl) T.g_top_at T.F_top_at.kp B_top_at .nil pass0 (pa_cons (pv 0) (pa_cons (pv 1) (pa_nil)))) (pa_cons (pe_int) (pa_nil)))))
theorem ok_divided (T : Txt K mg Cof ad fd) : FnOk P w K mg base CX0 2 (ad 9) (fd 9) ["P", "Q"] (sp_divided K Cof) := by
  have G_degree := ok_degree (P := P) (w := w) (base := base) T
  have B_degree := B_degree T
  have G_poly := ok_poly (P := P) (w := w) (base := base) T
  have B_poly := B_poly T
  have nd := sc_divided.nd
  refine T.F_divided.ok sc_divided (fun vs H Q E h => len_divided h) (fun cdv A outer s H vs Q E hr h => ⟨t_divided K Cof E, ?_, rd_divided h⟩)
  exact pss_cons (ps_if (pt_cmpR (op_eqD hr.units) (pv 1) (pe_lst (pa_nil)) (nomark _)) (pss_one (ps_never)) (pss_nil))
       (pss_cons (ps_set (i := 2) nd rfl (by first | exact Or.inl rfl | exact Or.inr rfl) (pe_op op_sub (pe_call G_degree (hr.mono (by decide)) (by rfl) T.g_degree T.F_degree.kp B_degree .nil pass0 (pa_cons (pv 0) (pa_nil))) (pe_call G_degree (hr.mono (by decide)) (by rfl) T.g_degree T.F_degree.kp B_degree .nil pass0 (pa_cons (pv 1) (pa_nil)))))
       (pss_cons (ps_if (pt_cmpR op_lt (pv 2) (pe_int) (nomark _)) (pss_one (ps_ret (pe_tup (pa_cons (pe_int) (pa_cons (pe_lst (pa_nil)) (pa_cons (pe_callTy call_list_of (by rfl) T.z_list (by decide +kernel) (pa_cons (pv 0) (pa_nil))) (pa_nil))))))) (pss_nil))
       (pss_cons (ps_set (i := 3) nd rfl (by first | exact Or.inl rfl | exact Or.inr rfl) (pe_int))
       (pss_cons (ps_for PassesOwn.never rfl (pi_range1 (by rfl) T.z_range (pa_cons (pe_op op_add (pv 2) (pe_int)) (pa_nil))) (pg_name (i := 4) nd rfl (by first | exact Or.inl rfl | exact Or.inr rfl)) (pss_one (ps_set (i := 3) nd rfl (by first | exact Or.inl rfl | exact Or.inr rfl) (pe_op op_mulX (pv 3) (pe_callB call_abs (by rfl) T.z_abs (by decide +kernel) (pa_cons (pe_ix ix_list (pv 1) (pe_un un_neg (pe_int)) (fun _ _ => rfl)) (pa_nil)))))))
       (pss_cons (ps_setLc (i := 5) (own := [("one", 6)]) (by rfl) nd rfl rfl (sw_true rfl rfl rfl (by decide +kernel)) (pi_list (pv 0)) (blkOk_by (own := [("one", 6)]) (N := ["P", "Q", "gap", "factor", "k", "rest", "one", "quotient", "many", "place"]) (sc := defScope s_divided) (by decide +kernel)) (fun _ _ _ _ _ => pg_name (i := 6) nd rfl (by first | exact Or.inl rfl | exact Or.inr rfl)) (fun _ _ _ _ _ => pts_nil) (fun _ _ _ _ _ => pe_op op_mulX (pv 6) (pv 3)))
       (pss_cons (ps_setLc (i := 7) (own := [("k", 4)]) (by rfl) nd rfl rfl (sw_true rfl rfl rfl (by decide +kernel)) (pi_range1 (by rfl) T.z_range (pa_cons (pe_op op_add (pv 2) (pe_int)) (pa_nil))) (blkOk_by (own := [("k", 4)]) (N := ["P", "Q", "gap", "factor", "k", "rest", "one", "quotient", "many", "place"]) (sc := defScope s_divided) (by decide +kernel)) (fun _ _ _ _ _ => pg_name (i := 4) nd rfl (by first | exact Or.inl rfl | exact Or.inr rfl)) (fun _ _ _ _ _ => pts_nil) (fun _ _ _ _ _ => pe_int))
       (pss_cons (ps_for PassesOwn.never rfl (pi_revR (by rfl) T.z_reversed (prg_1 (by rfl) T.z_range (pe_op op_add (pv 2) (pe_int)))) (pg_name (i := 4) nd rfl (by first | exact Or.inl rfl | exact Or.inr rfl)) (pss_cons (ps_set (i := 8) nd rfl (by first | exact Or.inl rfl | exact Or.inr rfl) (pe_op op_fdivA (pe_ix ix_list (pv 5) (pe_op op_add (pv 4) (pe_call G_degree (hr.mono (by decide)) (by rfl) T.g_degree T.F_degree.kp B_degree .nil pass0 (pa_cons (pv 1) (pa_nil)))) (fun _ _ => rfl)) (pe_ix ix_list (pv 1) (pe_un un_neg (pe_int)) (fun _ _ => rfl))))
       (pss_cons (ps_asg (pv 8) (pg_sub (pv 7) (pv 4) set_list))
       (pss_one (ps_for PassesOwn.never rfl (pi_enum (by rfl) T.z_enumerate (pa_cons (pv 1) (pa_nil))) (pg_tup rfl (pgs_cons (pg_name (i := 9) nd rfl (by first | exact Or.inl rfl | exact Or.inr rfl)) (pgs_cons (pg_name (i := 6) nd rfl (by first | exact Or.inl rfl | exact Or.inr rfl)) (pgs_nil)))) (pss_one (ps_asg (pe_op op_sub (pe_ix ix_list (pv 5) (pe_op op_add (pv 4) (pv 9)) (fun _ _ => rfl)) (pe_op op_mulX (pv 8) (pv 6))) (pg_sub (pv 5) (pe_op op_add (pv 4) (pv 9)) set_list))))))))
       (pss_one (ps_ret (pe_tup (pa_cons (pv 3) (pa_cons (pe_call G_poly (hr.mono (by decide)) (by rfl) T.g_poly T.F_poly.kp B_poly .nil pass0 (pa_cons (pv 7) (pa_nil))) (pa_cons (pe_call G_poly (hr.mono (by decide)) (by rfl) T.g_poly T.F_poly.kp B_poly .nil pass0 (pa_cons (pv 5) (pa_nil))) (pa_nil))))))))))))))
theorem ok_row_of (T : Txt K mg Cof ad fd) : FnOk P w K mg base CX0 3 (ad 10) (fd 10) ["P"] (sp_row_of K Cof) := by
  have G_divided := ok_divided (P := P) (w := w) (base := base) T
  have B_divided := B_divided T
  have G_shrunk := ok_shrunk (P := P) (w := w) (base := base) T
  have B_shrunk := B_shrunk T
  have G_slope := ok_slope (P := P) (w := w) (base := base) T
  have B_slope := B_slope T
  have nd := sc_row_of.nd
  refine T.F_row_of.ok sc_row_of (fun vs H Q E h => len_row_of h) (fun cdv A outer s H vs Q E hr h => ⟨t_row_of K Cof E, ?_, rd_row_of h⟩)
  exact pss_cons (ps_if (pt_cmpR (op_eqD hr.units) (pv 0) (pe_lst (pa_nil)) (nomark _)) (pss_one (ps_ret (pe_lst (pa_nil)))) (pss_nil))
       (pss_cons (ps_set (i := 1) nd rfl (by first | exact Or.inl rfl | exact Or.inr rfl) (pe_lst (pa_cons (pe_call G_shrunk (hr.mono (by decide)) (by rfl) T.g_shrunk T.F_shrunk.kp B_shrunk .nil pass0 (pa_cons (pv 0) (pa_nil))) (pa_nil))))
       (pss_cons (ps_set (i := 2) nd rfl (by first | exact Or.inl rfl | exact Or.inr rfl) (pe_call G_shrunk (hr.mono (by decide)) (by rfl) T.g_shrunk T.F_shrunk.kp B_shrunk .nil pass0 (pa_cons (pe_call G_slope (hr.mono (by decide)) (by rfl) T.g_slope T.F_slope.kp B_slope .nil pass0 (pa_cons (pv 0) (pa_nil))) (pa_nil))))
       (pss_cons (ps_while PassesOwn.never (pt_cmpR (op_neD hr.units) (pv 2) (pe_lst (pa_nil)) (nomark _)) (pss_cons (ps_expr (pe_bm PySem.F.plainAttrs_list PySem.F.slot_list_append PySem.F.type_list_append mt_append (pv 1) (pa_cons (pv 2) (pa_nil))))
       (pss_cons (ps_set (i := 3) nd rfl (by first | exact Or.inl rfl | exact Or.inr rfl) (pe_ix ix_tup (pe_call G_divided (hr.mono (by decide)) (by rfl) T.g_divided T.F_divided.kp B_divided .nil pass0 (pa_cons (pe_ix ix_list (pv 1) (pe_un un_neg (pe_int)) (fun _ _ => rfl)) (pa_cons (pe_ix ix_list (pv 1) (pe_un un_neg (pe_int)) (fun _ _ => rfl)) (pa_nil)))) (pe_int) (fun _ _ => rfl)))
       (pss_one (ps_set (i := 2) nd rfl (by first | exact Or.inl rfl | exact Or.inr rfl) (pe_call G_shrunk (hr.mono (by decide)) (by rfl) T.g_shrunk T.F_shrunk.kp B_shrunk .nil pass0 (pa_cons (pe_lc (own := [("one", 4)]) (by rfl) nd (pi_list (pv 3)) (blkOk_by (own := [("one", 4)]) (N := ["P", "row", "later", "rest", "one"]) (sc := defScope s_row_of) (by decide +kernel)) (fun _ _ _ _ _ => pg_name (i := 4) nd rfl (by first | exact Or.inl rfl | exact Or.inr rfl)) (fun _ _ _ _ _ => pts_nil) (fun _ _ _ _ _ => pe_op op_sub (pe_int) (pv 4))) (pa_nil))))))))
       (pss_one (ps_ret (pv 1))))))
theorem ok_changes (T : Txt K mg Cof ad fd) : FnOk P w K mg base CX0 3 (ad 11) (fd 11) ["row", "r"] (sp_changes K Cof) := by
  have G_sign_at := ok_sign_at (P := P) (w := w) (base := base) T
  have B_sign_at := B_sign_at T
  have nd := sc_changes.nd
  refine T.F_changes.ok sc_changes (fun vs H Q E h => len_changes h) (fun cdv A outer s H vs Q E hr h => ⟨t_changes K Cof E, ?_, rd_changes h⟩)
  exact pss_cons (ps_set (i := 2) nd rfl (by first | exact Or.inl rfl | exact Or.inr rfl) (pe_int))
       (pss_cons (ps_set (i := 3) nd rfl (by first | exact Or.inl rfl | exact Or.inr rfl) (pe_int))
       (pss_cons (ps_for PassesOwn.never rfl (pi_list (pv 0)) (pg_name (i := 4) nd rfl (by first | exact Or.inl rfl | exact Or.inr rfl)) (pss_cons (ps_set (i := 5) nd rfl (by first | exact Or.inl rfl | exact Or.inr rfl) (pe_call G_sign_at (hr.mono (by decide)) (by rfl) T.g_sign_at T.F_sign_at.kp B_sign_at .nil pass0 (pa_cons (pv 4) (pa_cons (pv 1) (pa_nil)))))
       (pss_one (ps_if (pt_cmpR op_ne (pv 5) (pe_int) (nomark _)) (pss_cut (ps_if (pt_cmpR op_eq (pv 3) (pe_op op_sub (pe_int) (pv 5)) (nomark _)) (pss_one (ps_set (i := 2) nd rfl (by first | exact Or.inl rfl | exact Or.inr rfl) (pe_op op_add (pv 2) (pe_int)))) (pss_nil))
       (pss_one (ps_set (i := 3) nd rfl (by first | exact Or.inl rfl | exact Or.inr rfl) (pv 5)))) (pss_nil)))))
       (pss_one (ps_ret (pv 2)))))
theorem ok_count (T : Txt K mg Cof ad fd) : FnOk P w K mg base CX0 4 (ad 12) (fd 12) ["row", "low", "high"] (sp_count K Cof) := by
  have G_changes := ok_changes (P := P) (w := w) (base := base) T
  have B_changes := B_changes T
  have nd := sc_count.nd
  refine T.F_count.ok sc_count (fun vs H Q E h => len_count h) (fun cdv A outer s H vs Q E hr h => ⟨t_count K Cof E, ?_, rd_count h⟩)
  exact pss_one (ps_ret (pe_op op_sub (pe_call G_changes (hr.mono (by decide)) (by rfl) T.g_changes T.F_changes.kp B_changes .nil pass0 (pa_cons (pv 0) (pa_cons (pv 1) (pa_nil)))) (pe_call G_changes (hr.mono (by decide)) (by rfl) T.g_changes T.F_changes.kp B_changes .nil pass0 (pa_cons (pv 0) (pa_cons (pv 2) (pa_nil))))))
theorem ok__law_cell_at (T : Txt K mg Cof ad fd) : FnOk P w K mg base CX0 1 (ad 13) (fd 13) ["_law_script", "_law_k"] (sp__law_cell_at K Cof) := by
  have nd := sc__law_cell_at.nd
  refine T.F__law_cell_at.ok sc__law_cell_at (fun vs H Q E h => len__law_cell_at h) (fun cdv A outer s H vs Q E hr h => ⟨t__law_cell_at K Cof E, ?_, rd__law_cell_at h⟩)
  exact pss_cons (ps_if (pt_cmpR op_lt (pv 1) (pe_callB call_len_seq (by rfl) T.z_len (by decide +kernel) (pa_cons (pv 0) (pa_nil))) (nomark _)) (pss_one (ps_ret (pe_ix ix_list (pv 0) (pv 1) (fun _ _ => rfl)))) (pss_nil))
       (pss_one (ps_ret (pe_int)))
theorem ok__law_whole (T : Txt K mg Cof ad fd) : FnOk P w K mg base CX0 1 (ad 14) (fd 14) ["_law_found"] (sp__law_whole K Cof) := by
  have nd := sc__law_whole.nd
  refine T.F__law_whole.ok sc__law_whole (fun vs H Q E h => len__law_whole h) (fun cdv A outer s H vs Q E hr h => ⟨t__law_whole K Cof E, ?_, rd__law_whole h⟩)
  exact pss_one (ps_ret (pe_and (pe_callB call_isi (by rfl) T.z_isinstance (by decide +kernel) (pa_cons (pv 0) (pa_cons (pe_bltn (v := .ty "int") (by rfl) T.z_int (by decide +kernel) rfl) (pa_nil)))) (pe_one (pe_not (pe_callB call_isi (by rfl) T.z_isinstance (by decide +kernel) (pa_cons (pv 0) (pa_cons (pe_bltn (v := .ty "bool") (by rfl) T.z_bool (by decide +kernel) rfl) (pa_nil))))))))
theorem ok__law_within (T : Txt K mg Cof ad fd) : FnOk P w K mg base CX0 1 (ad 15) (fd 15) ["_law_cell", "_law_most"] (sp__law_within K Cof) := by
  have nd := sc__law_within.nd
  refine T.F__law_within.ok sc__law_within (fun vs H Q E h => len__law_within h) (fun cdv A outer s H vs Q E hr h => ⟨t__law_within K Cof E, ?_, rd__law_within h⟩)
  exact pss_one (ps_ret (pe_op op_sub (pe_op op_modN (pv 0) (pe_op op_add (pe_op op_mulX (pe_int) (pv 1)) (pe_int))) (pv 1)))
theorem ok__law_trim (T : Txt K mg Cof ad fd) : FnOk P w K mg base CX0 1 (ad 16) (fd 16) ["_law_row_here"] (sp__law_trim K Cof) := by
  have nd := sc__law_trim.nd
  refine T.F__law_trim.ok sc__law_trim (fun vs H Q E h => len__law_trim h) (fun cdv A outer s H vs Q E hr h => ⟨t__law_trim K Cof E, ?_, rd__law_trim h⟩)
  exact pss_cons (ps_set (i := 1) nd rfl (by first | exact Or.inl rfl | exact Or.inr rfl) (pe_callB call_len_seq (by rfl) T.z_len (by decide +kernel) (pa_cons (pv 0) (pa_nil))))
       (pss_cons (ps_while PassesOwn.never (PW.pt (pw_and (pt_cmpR op_gt (pv 1) (pe_int) (nomark _)) (pw_and1 (pt_cmpR op_eq (pe_ix ix_list (pv 0) (pe_op op_sub (pv 1) (pe_int)) (fun _ _ => rfl)) (pe_int) (nomark _))))) (pss_one (ps_set (i := 1) nd rfl (by first | exact Or.inl rfl | exact Or.inr rfl) (pe_op op_sub (pv 1) (pe_int)))))
       (pss_one (ps_ret (pe_slice sl_list (pv 0) (po_none) (po_some (pv 1))))))
theorem ok__law_mul (T : Txt K mg Cof ad fd) : FnOk P w K mg base CX0 1 (ad 17) (fd 17) ["_law_kp", "_law_kq"] (sp__law_mul K Cof) := by
  have nd := sc__law_mul.nd
  refine T.F__law_mul.ok sc__law_mul (fun vs H Q E h => len__law_mul h) (fun cdv A outer s H vs Q E hr h => ⟨t__law_mul K Cof E, ?_, rd__law_mul h⟩)
  exact pss_cons (ps_if (PW.pt (pw_or (pt_cmpR op_eq (pe_callB call_len_seq (by rfl) T.z_len (by decide +kernel) (pa_cons (pv 0) (pa_nil))) (pe_int) (nomark _)) (pw_or1 (pt_cmpR op_eq (pe_callB call_len_seq (by rfl) T.z_len (by decide +kernel) (pa_cons (pv 1) (pa_nil))) (pe_int) (nomark _))))) (pss_one (ps_ret (pe_lst (pa_nil)))) (pss_nil))
       (pss_cons (ps_setLc (i := 2) (own := [("_law_k", 3)]) (by rfl) nd rfl rfl (sw_true rfl rfl rfl (by decide +kernel)) (pi_range1 (by rfl) T.z_range (pa_cons (pe_op op_sub (pe_op op_add (pe_callB call_len_seq (by rfl) T.z_len (by decide +kernel) (pa_cons (pv 0) (pa_nil))) (pe_callB call_len_seq (by rfl) T.z_len (by decide +kernel) (pa_cons (pv 1) (pa_nil)))) (pe_int)) (pa_nil))) (blkOk_by (own := [("_law_k", 3)]) (N := ["_law_kp", "_law_kq", "_law_made", "_law_k", "_law_i", "_law_one", "_law_j", "_law_other"]) (sc := defScope s__law_mul) (by decide +kernel)) (fun _ _ _ _ _ => pg_name (i := 3) nd rfl (by first | exact Or.inl rfl | exact Or.inr rfl)) (fun _ _ _ _ _ => pts_nil) (fun _ _ _ _ _ => pe_int))
       (pss_cons (ps_for PassesOwn.never rfl (pi_enum (by rfl) T.z_enumerate (pa_cons (pv 0) (pa_nil))) (pg_tup rfl (pgs_cons (pg_name (i := 4) nd rfl (by first | exact Or.inl rfl | exact Or.inr rfl)) (pgs_cons (pg_name (i := 5) nd rfl (by first | exact Or.inl rfl | exact Or.inr rfl)) (pgs_nil)))) (pss_one (ps_for PassesOwn.never rfl (pi_enum (by rfl) T.z_enumerate (pa_cons (pv 1) (pa_nil))) (pg_tup rfl (pgs_cons (pg_name (i := 6) nd rfl (by first | exact Or.inl rfl | exact Or.inr rfl)) (pgs_cons (pg_name (i := 7) nd rfl (by first | exact Or.inl rfl | exact Or.inr rfl)) (pgs_nil)))) (pss_one (ps_asg (pe_op op_add (pe_ix ix_list (pv 2) (pe_op op_add (pv 4) (pv 6)) (fun _ _ => rfl)) (pe_op op_mulX (pv 5) (pv 7))) (pg_sub (pv 2) (pe_op op_add (pv 4) (pv 6)) set_list))))))
       (pss_one (ps_ret (pv 2)))))
theorem ok__law_gcd (T : Txt K mg Cof ad fd) : FnOk P w K mg base CX0 1 (ad 18) (fd 18) ["_law_a", "_law_b"] (sp__law_gcd K Cof) := by
  have nd := sc__law_gcd.nd
  refine T.F__law_gcd.ok sc__law_gcd (fun vs H Q E h => len__law_gcd h) (fun cdv A outer s H vs Q E hr h => ⟨t__law_gcd K Cof E, ?_, rd__law_gcd h⟩)
  exact pss_cons (ps_set (i := 0) nd rfl (by first | exact Or.inl rfl | exact Or.inr rfl) (pe_callB call_abs (by rfl) T.z_abs (by decide +kernel) (pa_cons (pv 0) (pa_nil))))
       (pss_cons (ps_set (i := 1) nd rfl (by first | exact Or.inl rfl | exact Or.inr rfl) (pe_callB call_abs (by rfl) T.z_abs (by decide +kernel) (pa_cons (pv 1) (pa_nil))))
       (pss_cons (ps_while PassesOwn.never (pt_cmpR op_gt (pv 1) (pe_int) (nomark _)) (pss_cons (ps_set (i := 2) nd rfl (by first | exact Or.inl rfl | exact Or.inr rfl) (pe_op op_modN (pv 0) (pv 1)))
       (pss_cons (ps_set (i := 0) nd rfl (by first | exact Or.inl rfl | exact Or.inr rfl) (pv 1))
       (pss_one (ps_set (i := 1) nd rfl (by first | exact Or.inl rfl | exact Or.inr rfl) (pv 2))))))
       (pss_one (ps_ret (pv 0)))))
theorem ok__law_shrunk (T : Txt K mg Cof ad fd) : FnOk P w K mg base CX0 2 (ad 19) (fd 19) ["_law_kp"] (sp__law_shrunk K Cof) := by
  have G__law_gcd := ok__law_gcd (P := P) (w := w) (base := base) T
  have B__law_gcd := B__law_gcd T
  have nd := sc__law_shrunk.nd
  refine T.F__law_shrunk.ok sc__law_shrunk (fun vs H Q E h => len__law_shrunk h) (fun cdv A outer s H vs Q E hr h => ⟨t__law_shrunk K Cof E, ?_, rd__law_shrunk h⟩)
  exact pss_cons (ps_set (i := 1) nd rfl (by first | exact Or.inl rfl | exact Or.inr rfl) (pe_int))
       (pss_cons (ps_for PassesOwn.never rfl (pi_list (pv 0)) (pg_name (i := 2) nd rfl (by first | exact Or.inl rfl | exact Or.inr rfl)) (pss_one (ps_set (i := 1) nd rfl (by first | exact Or.inl rfl | exact Or.inr rfl) (pe_call G__law_gcd (hr.mono (by decide)) (by rfl) T.g__law_gcd T.F__law_gcd.kp B__law_gcd .nil pass0 (pa_cons (pv 1) (pa_cons (pv 2) (pa_nil)))))))
       (pss_cons (ps_if (pt_cmpR op_eq (pv 1) (pe_int) (nomark _)) (pss_one (ps_ret (pe_lst (pa_nil)))) (pss_nil))
       (pss_one (ps_ret (pe_lc (own := [("_law_one", 2)]) (by rfl) nd (pi_list (pv 0)) (blkOk_by (own := [("_law_one", 2)]) (N := ["_law_kp", "_law_most", "_law_one"]) (sc := defScope s__law_shrunk) (by decide +kernel)) (fun _ _ _ _ _ => pg_name (i := 2) nd rfl (by first | exact Or.inl rfl | exact Or.inr rfl)) (fun _ _ _ _ _ => pts_nil) (fun _ _ _ _ _ => pe_op op_fdivA (pv 2) (pv 1)))))))
theorem ok__law_plain (T : Txt K mg Cof ad fd) : FnOk P w K mg base CX0 3 (ad 20) (fd 20) ["_law_kp"] (sp__law_plain K Cof) := by
  have G__law_shrunk := ok__law_shrunk (P := P) (w := w) (base := base) T
  have B__law_shrunk := B__law_shrunk T
  have nd := sc__law_plain.nd
  refine T.F__law_plain.ok sc__law_plain (fun vs H Q E h => len__law_plain h) (fun cdv A outer s H vs Q E hr h => ⟨t__law_plain K Cof E, ?_, rd__law_plain h⟩)
  exact pss_cons (ps_set (i := 1) nd rfl (by first | exact Or.inl rfl | exact Or.inr rfl) (pe_call G__law_shrunk (hr.mono (by decide)) (by rfl) T.g__law_shrunk T.F__law_shrunk.kp B__law_shrunk .nil pass0 (pa_cons (pv 0) (pa_nil))))
       (pss_cons (ps_if (PW.pt (pw_and (pt_cmpR op_gt (pe_callB call_len_seq (by rfl) T.z_len (by decide +kernel) (pa_cons (pv 1) (pa_nil))) (pe_int) (nomark _)) (pw_and1 (pt_cmpR op_lt (pe_ix ix_list (pv 1) (pe_un un_neg (pe_int)) (fun _ _ => rfl)) (pe_int) (nomark _))))) (pss_one (ps_ret (pe_lc (own := [("_law_one", 2)]) (by rfl) nd (pi_list (pv 1)) (blkOk_by (own := [("_law_one", 2)]) (N := ["_law_kp", "_law_made", "_law_one"]) (sc := defScope s__law_plain) (by decide +kernel)) (fun _ _ _ _ _ => pg_name (i := 2) nd rfl (by first | exact Or.inl rfl | exact Or.inr rfl)) (fun _ _ _ _ _ => pts_nil) (fun _ _ _ _ _ => pe_op op_sub (pe_int) (pv 2))))) (pss_nil))
       (pss_one (ps_ret (pv 1))))
theorem ok__law_factor_by (T : Txt K mg Cof ad fd) : FnOk P w K mg base CX0 1 (ad 21) (fd 21) ["_law_cell", "_law_most"] (sp__law_factor_by K Cof) := by
  have nd := sc__law_factor_by.nd
  refine T.F__law_factor_by.ok sc__law_factor_by (fun vs H Q E h => len__law_factor_by h) (fun cdv A outer s H vs Q E hr h => ⟨t__law_factor_by K Cof E, ?_, rd__law_factor_by h⟩)
  exact pss_cons (ps_set (i := 2) nd rfl (by first | exact Or.inl rfl | exact Or.inr rfl) (pe_op op_sub (pe_op op_modN (pe_op op_fdivA (pv 0) (pe_int)) (pe_op op_add (pe_op op_mulX (pe_int) (pv 1)) (pe_int))) (pv 1)))
       (pss_cons (ps_set (i := 3) nd rfl (by first | exact Or.inl rfl | exact Or.inr rfl) (pe_op op_add (pe_int) (pe_op op_modN (pe_op op_modN (pe_op op_mulX (pv 0) (pe_int)) (pe_int)) (pe_int))))
       (pss_cons (ps_set (i := 4) nd rfl (by first | exact Or.inl rfl | exact Or.inr rfl) (pe_op op_add (pe_int) (pe_op op_modN (pe_op op_modN (pe_op op_mulX (pv 0) (pe_int)) (pe_int)) (pe_int))))
       (pss_cons (ps_set (i := 5) nd rfl (by first | exact Or.inl rfl | exact Or.inr rfl) (pe_op op_add (pe_op op_add (pe_op op_mulX (pv 4) (pv 4)) (pe_int)) (pe_op op_modN (pe_op op_modN (pe_op op_mulX (pv 0) (pe_int)) (pe_int)) (pe_op op_mulX (pe_int) (pv 4)))))
       (pss_cons (ps_if (pt_cmpR op_eq (pe_op op_modN (pv 0) (pe_int)) (pe_int) (nomark _)) (pss_one (ps_ret (pe_tup (pa_cons (pv 2) (pa_cons (pv 5) (pa_cons (pv 3) (pa_nil))))))) (pss_nil))
       (pss_cons (ps_if (pt_cmpR op_eq (pe_op op_modN (pv 0) (pe_int)) (pe_int) (nomark _)) (pss_one (ps_ret (pe_tup (pa_cons (pv 2) (pa_cons (pe_op op_sub (pe_int) (pv 5)) (pa_cons (pv 3) (pa_nil))))))) (pss_nil))
       (pss_one (ps_ret (pe_tup (pa_cons (pv 2) (pa_cons (pe_int) (pa_cons (pv 3) (pa_nil))))))))))))
theorem ok__law_shape (T : Txt K mg Cof ad fd) : FnOk P w K mg base CX0 4 (ad 22) (fd 22) ["_law_factor"] (sp__law_shape K Cof) := by
  have G__law_plain := ok__law_plain (P := P) (w := w) (base := base) T
  have B__law_plain := B__law_plain T
  have nd := sc__law_shape.nd
  refine T.F__law_shape.ok sc__law_shape (fun vs H Q E h => len__law_shape h) (fun cdv A outer s H vs Q E hr h => ⟨t__law_shape K Cof E, ?_, rd__law_shape h⟩)
  exact pss_cons (ps_set (i := 1) nd rfl (by first | exact Or.inl rfl | exact Or.inr rfl) (pe_ix ix_tup (pv 0) (pe_int) (fun _ _ => rfl)))
       (pss_cons (ps_set (i := 2) nd rfl (by first | exact Or.inl rfl | exact Or.inr rfl) (pe_ix ix_tup (pv 0) (pe_int) (fun _ _ => rfl)))
       (pss_cons (ps_if (pt_cmpR op_eq (pe_ix ix_tup (pv 0) (pe_int) (fun _ _ => rfl)) (pe_int) (nomark _)) (pss_one (ps_ret (pe_call G__law_plain (hr.mono (by decide)) (by rfl) T.g__law_plain T.F__law_plain.kp B__law_plain .nil pass0 (pa_cons (pe_lst (pa_cons (pe_op op_sub (pe_int) (pv 1)) (pa_cons (pv 2) (pa_nil)))) (pa_nil))))) (pss_nil))
       (pss_one (ps_ret (pe_call G__law_plain (hr.mono (by decide)) (by rfl) T.g__law_plain T.F__law_plain.kp B__law_plain .nil pass0 (pa_cons (pe_lst (pa_cons (pe_op op_sub (pe_op op_mulX (pv 1) (pv 1)) (pe_ix ix_tup (pv 0) (pe_int) (fun _ _ => rfl))) (pa_cons (pe_op op_mulX (pe_op op_mulX (pe_un un_neg (pe_int)) (pv 2)) (pv 1)) (pa_cons (pe_op op_mulX (pv 2) (pv 2)) (pa_nil))))) (pa_nil)))))))
theorem ok__law_factors_by (T : Txt K mg Cof ad fd) : FnOk P w K mg base CX0 5 (ad 23) (fd 23) ["_law_drawn", "_law_most", "_law_room"] (sp__law_factors_by K Cof) := by
  have G__law_factor_by := ok__law_factor_by (P := P) (w := w) (base := base) T
  have B__law_factor_by := B__law_factor_by T
  have G__law_shape := ok__law_shape (P := P) (w := w) (base := base) T
  have B__law_shape := B__law_shape T
  have nd := sc__law_factors_by.nd
  refine T.F__law_factors_by.ok sc__law_factors_by (fun vs H Q E h => len__law_factors_by h) (fun cdv A outer s H vs Q E hr h => ⟨t__law_factors_by K Cof E, ?_, rd__law_factors_by h⟩)
  exact pss_cons (ps_set (i := 3) nd rfl (by first | exact Or.inl rfl | exact Or.inr rfl) (pe_lst (pa_nil)))
       (pss_cons (ps_set (i := 4) nd rfl (by first | exact Or.inl rfl | exact Or.inr rfl) (pe_lst (pa_nil)))
       (pss_cons (ps_for PassesOwn.never rfl (pi_list (pv 0)) (pg_name (i := 5) nd rfl (by first | exact Or.inl rfl | exact Or.inr rfl)) (pss_cons (ps_set (i := 6) nd rfl (by first | exact Or.inl rfl | exact Or.inr rfl) (pe_call G__law_factor_by (hr.mono (by decide)) (by rfl) T.g__law_factor_by T.F__law_factor_by.kp B__law_factor_by .nil pass0 (pa_cons (pv 5) (pa_cons (pv 1) (pa_nil)))))
       (pss_cons (ps_set (i := 7) nd rfl (by first | exact Or.inl rfl | exact Or.inr rfl) (pe_call G__law_shape (hr.mono (by decide)) (by rfl) T.g__law_shape T.F__law_shape.kp B__law_shape .nil pass0 (pa_cons (pv 6) (pa_nil))))
       (pss_one (ps_if (PW.pt (pw_and (pt_cmpR (op_notInD (units1 hr)) (pv 7) (pv 4) (by rfl)) (pw_and1 (pt_cmpR op_le (pe_op op_sub (pe_callB call_len_seq (by rfl) T.z_len (by decide +kernel) (pa_cons (pv 7) (pa_nil))) (pe_int)) (pv 2) (nomark _))))) (pss_cons (ps_expr (pe_bm PySem.F.plainAttrs_list PySem.F.slot_list_append PySem.F.type_list_append mt_append (pv 3) (pa_cons (pv 6) (pa_nil))))
       (pss_cons (ps_expr (pe_bm PySem.F.plainAttrs_list PySem.F.slot_list_append PySem.F.type_list_append mt_append (pv 4) (pa_cons (pv 7) (pa_nil))))
       (pss_one (ps_set (i := 2) nd rfl (by first | exact Or.inl rfl | exact Or.inr rfl) (pe_op op_add (pe_op op_sub (pv 2) (pe_callB call_len_seq (by rfl) T.z_len (by decide +kernel) (pa_cons (pv 7) (pa_nil)))) (pe_int)))))) (pss_nil))))))
       (pss_one (ps_ret (pv 3)))))
theorem ok__law_product (T : Txt K mg Cof ad fd) : FnOk P w K mg base CX0 5 (ad 24) (fd 24) ["_law_factors"] (sp__law_product K Cof) := by
  have G__law_mul := ok__law_mul (P := P) (w := w) (base := base) T
  have B__law_mul := B__law_mul T
  have G__law_shape := ok__law_shape (P := P) (w := w) (base := base) T
  have B__law_shape := B__law_shape T
  have nd := sc__law_product.nd
  refine T.F__law_product.ok sc__law_product (fun vs H Q E h => len__law_product h) (fun cdv A outer s H vs Q E hr h => ⟨t__law_product K Cof E, ?_, rd__law_product h⟩)
  exact pss_cons (ps_set (i := 1) nd rfl (by first | exact Or.inl rfl | exact Or.inr rfl) (pe_lst (pa_cons (pe_int) (pa_nil))))
       (pss_cons (ps_for PassesOwn.never rfl (pi_list (pv 0)) (pg_name (i := 2) nd rfl (by first | exact Or.inl rfl | exact Or.inr rfl)) (pss_one (ps_set (i := 1) nd rfl (by first | exact Or.inl rfl | exact Or.inr rfl) (pe_call G__law_mul (hr.mono (by decide)) (by rfl) T.g__law_mul T.F__law_mul.kp B__law_mul .nil pass0 (pa_cons (pv 1) (pa_cons (pe_call G__law_shape (hr.mono (by decide)) (by rfl) T.g__law_shape T.F__law_shape.kp B__law_shape .nil pass0 (pa_cons (pv 2) (pa_nil))) (pa_nil)))))))
       (pss_one (ps_ret (pv 1))))
theorem ok__law_sure (T : Txt K mg Cof ad fd) : FnOk P w K mg base CX0 1 (ad 25) (fd 25) ["_law_square", "_law_due"] (sp__law_sure K Cof) := by
  have nd := sc__law_sure.nd
  refine T.F__law_sure.ok sc__law_sure (fun vs H Q E h => len__law_sure h) (fun cdv A outer s H vs Q E hr h => ⟨t__law_sure K Cof E, ?_, rd__law_sure h⟩)
  exact pss_cons (ps_if (PW.pt (pw_or (pt_cmpR op_lt (pv 1) (pe_int) (nomark _)) (pw_or1 (pt_cmpR op_gt (pv 0) (pe_op op_mulX (pv 1) (pv 1)) (nomark _))))) (pss_one (ps_ret (pe_int))) (pss_nil))
       (pss_one (ps_ret (pe_op op_sub (pe_int) (pe_callTy call_int1 (by rfl) T.z_int (by decide +kernel) (pa_cons (pe_cmpR op_lt (pv 0) (pe_op op_mulX (pv 1) (pv 1)) (nomark _)) (pa_nil))))))
theorem ok__law_side (T : Txt K mg Cof ad fd) : FnOk P w K mg base CX0 2 (ad 26) (fd 26) ["_law_spot", "_law_top", "_law_bottom"] (sp__law_side K Cof) := by
  have G__law_sure := ok__law_sure (P := P) (w := w) (base := base) T
  have B__law_sure := B__law_sure T
  have nd := sc__law_side.nd
  refine T.F__law_side.ok sc__law_side (fun vs H Q E h => len__law_side h) (fun cdv A outer s H vs Q E hr h => ⟨t__law_side K Cof E, ?_, rd__law_side h⟩)
  exact pss_cons (ps_set (i := 3) nd rfl (by first | exact Or.inl rfl | exact Or.inr rfl) (pe_op op_sub (pe_op op_mulX (pe_ix ix_tup (pv 0) (pe_int) (fun _ _ => rfl)) (pv 1)) (pe_op op_mulX (pe_ix ix_tup (pv 0) (pe_int) (fun _ _ => rfl)) (pv 2))))
       (pss_cons (ps_set (i := 4) nd rfl (by first | exact Or.inl rfl | exact Or.inr rfl) (pe_op op_mulX (pe_op op_mulX (pe_ix ix_tup (pv 0) (pe_int) (fun _ _ => rfl)) (pv 2)) (pv 2)))
       (pss_cons (ps_if (pt_cmpR op_gt (pe_ix ix_tup (pv 0) (pe_int) (fun _ _ => rfl)) (pe_int) (nomark _)) (pss_one (ps_ret (pe_call G__law_sure (hr.mono (by decide)) (by rfl) T.g__law_sure T.F__law_sure.kp B__law_sure .nil pass0 (pa_cons (pv 4) (pa_cons (pv 3) (pa_nil)))))) (pss_nil))
       (pss_one (ps_ret (pe_op op_sub (pe_int) (pe_call G__law_sure (hr.mono (by decide)) (by rfl) T.g__law_sure T.F__law_sure.kp B__law_sure .nil pass0 (pa_cons (pv 4) (pa_cons (pe_op op_sub (pe_int) (pv 3)) (pa_nil)))))))))
theorem ok__law_roots_of (T : Txt K mg Cof ad fd) : FnOk P w K mg base CX0 1 (ad 27) (fd 27) ["_law_factors"] (sp__law_roots_of K Cof) := by
  have nd := sc__law_roots_of.nd
  refine T.F__law_roots_of.ok sc__law_roots_of (fun vs H Q E h => len__law_roots_of h) (fun cdv A outer s H vs Q E hr h => ⟨t__law_roots_of K Cof E, ?_, rd__law_roots_of h⟩)
  exact pss_cons (ps_set (i := 1) nd rfl (by first | exact Or.inl rfl | exact Or.inr rfl) (pe_lst (pa_nil)))
       (pss_cons (ps_for PassesOwn.never rfl (pi_list (pv 0)) (pg_name (i := 2) nd rfl (by first | exact Or.inl rfl | exact Or.inr rfl)) (pss_cut (ps_if (pt_cmpR op_ge (pe_ix ix_tup (pv 2) (pe_int) (fun _ _ => rfl)) (pe_int) (nomark _)) (pss_one (ps_expr (pe_bm PySem.F.plainAttrs_list PySem.F.slot_list_append PySem.F.type_list_append mt_append (pv 1) (pa_cons (pe_tup (pa_cons (pe_ix ix_tup (pv 2) (pe_int) (fun _ _ => rfl)) (pa_cons (pe_ix ix_tup (pv 2) (pe_int) (fun _ _ => rfl)) (pa_cons (pe_ix ix_tup (pv 2) (pe_int) (fun _ _ => rfl)) (pa_cons (pe_int) (pa_nil)))))) (pa_nil))))) (pss_nil))
       (pss_one (ps_if (pt_cmpR op_gt (pe_ix ix_tup (pv 2) (pe_int) (fun _ _ => rfl)) (pe_int) (nomark _)) (pss_one (ps_expr (pe_bm PySem.F.plainAttrs_list PySem.F.slot_list_append PySem.F.type_list_append mt_append (pv 1) (pa_cons (pe_tup (pa_cons (pe_ix ix_tup (pv 2) (pe_int) (fun _ _ => rfl)) (pa_cons (pe_ix ix_tup (pv 2) (pe_int) (fun _ _ => rfl)) (pa_cons (pe_ix ix_tup (pv 2) (pe_int) (fun _ _ => rfl)) (pa_cons (pe_un un_neg (pe_int)) (pa_nil)))))) (pa_nil))))) (pss_nil)))))
       (pss_one (ps_ret (pv 1))))
theorem ok__law_rest (T : Txt K mg Cof ad fd) : FnOk P w K mg base CX0 2 (ad 28) (fd 28) ["_law_kp", "_law_kq"] (sp__law_rest K Cof) := by
  have G__law_trim := ok__law_trim (P := P) (w := w) (base := base) T
  have B__law_trim := B__law_trim T
  have nd := sc__law_rest.nd
  refine T.F__law_rest.ok sc__law_rest (fun vs H Q E h => len__law_rest h) (fun cdv A outer s H vs Q E hr h => ⟨t__law_rest K Cof E, ?_, rd__law_rest h⟩)
  exact pss_cons (ps_set (i := 2) nd rfl (by first | exact Or.inl rfl | exact Or.inr rfl) (pe_callTy call_list_of (by rfl) T.z_list (by decide +kernel) (pa_cons (pv 0) (pa_nil))))
       (pss_cons (ps_while PassesOwn.never (pt_cmpR op_ge (pe_callB call_len_seq (by rfl) T.z_len (by decide +kernel) (pa_cons (pv 2) (pa_nil))) (pe_callB call_len_seq (by rfl) T.z_len (by decide +kernel) (pa_cons (pv 1) (pa_nil))) (nomark _)) (pss_cons (ps_set (i := 3) nd rfl (by first | exact Or.inl rfl | exact Or.inr rfl) (pe_op op_sub (pe_callB call_len_seq (by rfl) T.z_len (by decide +kernel) (pa_cons (pv 2) (pa_nil))) (pe_callB call_len_seq (by rfl) T.z_len (by decide +kernel) (pa_cons (pv 1) (pa_nil)))))
       (pss_cons (ps_set (i := 4) nd rfl (by first | exact Or.inl rfl | exact Or.inr rfl) (pe_ix ix_list (pv 2) (pe_un un_neg (pe_int)) (fun _ _ => rfl)))
       (pss_cut (ps_if (pt_cmpR op_lt (pe_ix ix_list (pv 1) (pe_un un_neg (pe_int)) (fun _ _ => rfl)) (pe_int) (nomark _)) (pss_one (ps_set (i := 4) nd rfl (by first | exact Or.inl rfl | exact Or.inr rfl) (pe_op op_sub (pe_int) (pv 4)))) (pss_nil))
       (pss_cons (ps_setLc (i := 2) (own := [("_law_one", 5)]) (by rfl) nd rfl rfl (sw_true rfl rfl rfl (by decide +kernel)) (pi_list (pv 2)) (blkOk_by (own := [("_law_one", 5)]) (N := ["_law_kp", "_law_kq", "_law_left", "_law_gap", "_law_top", "_law_one", "_law_k"]) (sc := defScope s__law_rest) (by decide +kernel)) (fun _ _ _ _ _ => pg_name (i := 5) nd rfl (by first | exact Or.inl rfl | exact Or.inr rfl)) (fun _ _ _ _ _ => pts_nil) (fun _ _ _ _ _ => pe_op op_mulX (pv 5) (pe_callB call_abs (by rfl) T.z_abs (by decide +kernel) (pa_cons (pe_ix ix_list (pv 1) (pe_un un_neg (pe_int)) (fun _ _ => rfl)) (pa_nil)))))
       (pss_cons (ps_for PassesOwn.never rfl (pi_enum (by rfl) T.z_enumerate (pa_cons (pv 1) (pa_nil))) (pg_tup rfl (pgs_cons (pg_name (i := 6) nd rfl (by first | exact Or.inl rfl | exact Or.inr rfl)) (pgs_cons (pg_name (i := 5) nd rfl (by first | exact Or.inl rfl | exact Or.inr rfl)) (pgs_nil)))) (pss_one (ps_asg (pe_op op_sub (pe_ix ix_list (pv 2) (pe_op op_add (pv 3) (pv 6)) (fun _ _ => rfl)) (pe_op op_mulX (pv 4) (pv 5))) (pg_sub (pv 2) (pe_op op_add (pv 3) (pv 6)) set_list))))
       (pss_one (ps_set (i := 2) nd rfl (by first | exact Or.inl rfl | exact Or.inr rfl) (pe_call G__law_trim (hr.mono (by decide)) (by rfl) T.g__law_trim T.F__law_trim.kp B__law_trim .nil pass0 (pa_cons (pv 2) (pa_nil)))))))))))
       (pss_one (ps_ret (pv 2))))
theorem ok__law_slope (T : Txt K mg Cof ad fd) : FnOk P w K mg base CX0 1 (ad 29) (fd 29) ["_law_kp"] (sp__law_slope K Cof) := by
  have nd := sc__law_slope.nd
  refine T.F__law_slope.ok sc__law_slope (fun vs H Q E h => len__law_slope h) (fun cdv A outer s H vs Q E hr h => ⟨t__law_slope K Cof E, ?_, rd__law_slope h⟩)
  exact pss_one (ps_ret (pe_slice sl_list (pe_lc (own := [("_law_k", 1), ("_law_one", 2)]) (by rfl) nd (pi_enum (by rfl) T.z_enumerate (pa_cons (pv 0) (pa_nil))) (blkOk_by (own := [("_law_k", 1), ("_law_one", 2)]) (N := ["_law_kp", "_law_k", "_law_one"]) (sc := defScope s__law_slope) (by decide +kernel)) (fun _ _ _ _ _ => pg_tup rfl (pgs_cons (pg_name (i := 1) nd rfl (by first | exact Or.inl rfl | exact Or.inr rfl)) (pgs_cons (pg_name (i := 2) nd rfl (by first | exact Or.inl rfl | exact Or.inr rfl)) (pgs_nil)))) (fun _ _ _ _ _ => pts_nil) (fun _ _ _ _ _ => pe_op op_mulX (pv 1) (pv 2))) (po_some (pe_int)) (po_none)))
theorem ok__law_part (T : Txt K mg Cof ad fd) : FnOk P w K mg base CX0 1 (ad 30) (fd 30) ["_law_kp", "_law_kq"] (sp__law_part K Cof) := by
  have nd := sc__law_part.nd
  refine T.F__law_part.ok sc__law_part (fun vs H Q E h => len__law_part h) (fun cdv A outer s H vs Q E hr h => ⟨t__law_part K Cof E, ?_, rd__law_part h⟩)
  exact pss_cons (ps_set (i := 2) nd rfl (by first | exact Or.inl rfl | exact Or.inr rfl) (pe_callTy call_list_of (by rfl) T.z_list (by decide +kernel) (pa_cons (pv 0) (pa_nil))))
       (pss_cons (ps_setLc (i := 3) (own := [("_law_k", 4)]) (by rfl) nd rfl rfl (sw_true rfl rfl rfl (by decide +kernel)) (pi_range1 (by rfl) T.z_range (pa_cons (pe_op op_add (pe_op op_sub (pe_callB call_len_seq (by rfl) T.z_len (by decide +kernel) (pa_cons (pv 0) (pa_nil))) (pe_callB call_len_seq (by rfl) T.z_len (by decide +kernel) (pa_cons (pv 1) (pa_nil)))) (pe_int)) (pa_nil))) (blkOk_by (own := [("_law_k", 4)]) (N := ["_law_kp", "_law_kq", "_law_left", "_law_found", "_law_k", "_law_one", "_law_j"]) (sc := defScope s__law_part) (by decide +kernel)) (fun _ _ _ _ _ => pg_name (i := 4) nd rfl (by first | exact Or.inl rfl | exact Or.inr rfl)) (fun _ _ _ _ _ => pts_nil) (fun _ _ _ _ _ => pe_int))
       (pss_cons (ps_for PassesOwn.never rfl (pi_revR (by rfl) T.z_reversed (prg_1 (by rfl) T.z_range (pe_callB call_len_seq (by rfl) T.z_len (by decide +kernel) (pa_cons (pv 3) (pa_nil))))) (pg_name (i := 4) nd rfl (by first | exact Or.inl rfl | exact Or.inr rfl)) (pss_cons (ps_setLc (i := 2) (own := [("_law_one", 5)]) (by rfl) nd rfl rfl (sw_true rfl rfl rfl (by decide +kernel)) (pi_list (pv 2)) (blkOk_by (own := [("_law_one", 5)]) (N := ["_law_kp", "_law_kq", "_law_left", "_law_found", "_law_k", "_law_one", "_law_j"]) (sc := defScope s__law_part) (by decide +kernel)) (fun _ _ _ _ _ => pg_name (i := 5) nd rfl (by first | exact Or.inl rfl | exact Or.inr rfl)) (fun _ _ _ _ _ => pts_nil) (fun _ _ _ _ _ => pe_op op_mulX (pv 5) (pe_callB call_abs (by rfl) T.z_abs (by decide +kernel) (pa_cons (pe_ix ix_list (pv 1) (pe_un un_neg (pe_int)) (fun _ _ => rfl)) (pa_nil)))))
       (pss_cons (ps_setLc (i := 3) (own := [("_law_one", 5)]) (by rfl) nd rfl rfl (sw_true rfl rfl rfl (by decide +kernel)) (pi_list (pv 3)) (blkOk_by (own := [("_law_one", 5)]) (N := ["_law_kp", "_law_kq", "_law_left", "_law_found", "_law_k", "_law_one", "_law_j"]) (sc := defScope s__law_part) (by decide +kernel)) (fun _ _ _ _ _ => pg_name (i := 5) nd rfl (by first | exact Or.inl rfl | exact Or.inr rfl)) (fun _ _ _ _ _ => pts_nil) (fun _ _ _ _ _ => pe_op op_mulX (pv 5) (pe_callB call_abs (by rfl) T.z_abs (by decide +kernel) (pa_cons (pe_ix ix_list (pv 1) (pe_un un_neg (pe_int)) (fun _ _ => rfl)) (pa_nil)))))
       (pss_cons (ps_asg (pe_op op_fdivA (pe_ix ix_list (pv 2) (pe_op op_sub (pe_op op_add (pv 4) (pe_callB call_len_seq (by rfl) T.z_len (by decide +kernel) (pa_cons (pv 1) (pa_nil)))) (pe_int)) (fun _ _ => rfl)) (pe_ix ix_list (pv 1) (pe_un un_neg (pe_int)) (fun _ _ => rfl))) (pg_sub (pv 3) (pv 4) set_list))
       (pss_one (ps_for PassesOwn.never rfl (pi_enum (by rfl) T.z_enumerate (pa_cons (pv 1) (pa_nil))) (pg_tup rfl (pgs_cons (pg_name (i := 6) nd rfl (by first | exact Or.inl rfl | exact Or.inr rfl)) (pgs_cons (pg_name (i := 5) nd rfl (by first | exact Or.inl rfl | exact Or.inr rfl)) (pgs_nil)))) (pss_one (ps_asg (pe_op op_sub (pe_ix ix_list (pv 2) (pe_op op_add (pv 4) (pv 6)) (fun _ _ => rfl)) (pe_op op_mulX (pe_ix ix_list (pv 3) (pv 4) (fun _ _ => rfl)) (pv 5))) (pg_sub (pv 2) (pe_op op_add (pv 4) (pv 6)) set_list)))))))))
       (pss_one (ps_ret (pv 3)))))
theorem ok__law_flat (T : Txt K mg Cof ad fd) : FnOk P w K mg base CX0 3 (ad 31) (fd 31) ["_law_kp"] (sp__law_flat K Cof) := by
  have G__law_part := ok__law_part (P := P) (w := w) (base := base) T
  have B__law_part := B__law_part T
  have G__law_rest := ok__law_rest (P := P) (w := w) (base := base) T
  have B__law_rest := B__law_rest T
  have G__law_shrunk := ok__law_shrunk (P := P) (w := w) (base := base) T
  have B__law_shrunk := B__law_shrunk T
  have G__law_slope := ok__law_slope (P := P) (w := w) (base := base) T
  have B__law_slope := B__law_slope T
  have nd := sc__law_flat.nd
  refine T.F__law_flat.ok sc__law_flat (fun vs H Q E h => len__law_flat h) (fun cdv A outer s H vs Q E hr h => ⟨t__law_flat K Cof E, ?_, rd__law_flat h⟩)
  exact pss_cons (ps_set (i := 1) nd rfl (by first | exact Or.inl rfl | exact Or.inr rfl) (pv 0))
       (pss_cons (ps_set (i := 2) nd rfl (by first | exact Or.inl rfl | exact Or.inr rfl) (pe_call G__law_slope (hr.mono (by decide)) (by rfl) T.g__law_slope T.F__law_slope.kp B__law_slope .nil pass0 (pa_cons (pv 0) (pa_nil))))
       (pss_cons (ps_while PassesOwn.never (pt_cmpR op_gt (pe_callB call_len_seq (by rfl) T.z_len (by decide +kernel) (pa_cons (pv 2) (pa_nil))) (pe_int) (nomark _)) (pss_one (ps_par (i := 1) (j := 2) (by rfl) nd rfl rfl (by decide) rfl rfl (pa_cons (pv 2) (pa_cons (pe_call G__law_shrunk (hr.mono (by decide)) (by rfl) T.g__law_shrunk T.F__law_shrunk.kp B__law_shrunk .nil pass0 (pa_cons (pe_call G__law_rest (hr.mono (by decide)) (by rfl) T.g__law_rest T.F__law_rest.kp B__law_rest .nil pass0 (pa_cons (pv 1) (pa_cons (pv 2) (pa_nil)))) (pa_nil))) (pa_nil))) (by rfl))))
       (pss_one (ps_ret (pe_call G__law_shrunk (hr.mono (by decide)) (by rfl) T.g__law_shrunk T.F__law_shrunk.kp B__law_shrunk .nil pass0 (pa_cons (pe_call G__law_part (hr.mono (by decide)) (by rfl) T.g__law_part T.F__law_part.kp B__law_part .nil pass0 (pa_cons (pv 0) (pa_cons (pv 1) (pa_nil)))) (pa_nil)))))))
theorem ok__law_row (T : Txt K mg Cof ad fd) : FnOk P w K mg base CX0 3 (ad 32) (fd 32) ["_law_kp"] (sp__law_row K Cof) := by
  have G__law_rest := ok__law_rest (P := P) (w := w) (base := base) T
  have B__law_rest := B__law_rest T
  have G__law_shrunk := ok__law_shrunk (P := P) (w := w) (base := base) T
  have B__law_shrunk := B__law_shrunk T
  have G__law_slope := ok__law_slope (P := P) (w := w) (base := base) T
  have B__law_slope := B__law_slope T
  have nd := sc__law_row.nd
  refine T.F__law_row.ok sc__law_row (fun vs H Q E h => len__law_row h) (fun cdv A outer s H vs Q E hr h => ⟨t__law_row K Cof E, ?_, rd__law_row h⟩)
  exact pss_cons (ps_set (i := 1) nd rfl (by first | exact Or.inl rfl | exact Or.inr rfl) (pe_lst (pa_cons (pv 0) (pa_nil))))
       (pss_cons (ps_set (i := 2) nd rfl (by first | exact Or.inl rfl | exact Or.inr rfl) (pe_call G__law_slope (hr.mono (by decide)) (by rfl) T.g__law_slope T.F__law_slope.kp B__law_slope .nil pass0 (pa_cons (pv 0) (pa_nil))))
       (pss_cons (ps_while PassesOwn.never (pt_cmpR op_gt (pe_callB call_len_seq (by rfl) T.z_len (by decide +kernel) (pa_cons (pv 2) (pa_nil))) (pe_int) (nomark _)) (pss_cons (ps_expr (pe_bm PySem.F.plainAttrs_list PySem.F.slot_list_append PySem.F.type_list_append mt_append (pv 1) (pa_cons (pe_call G__law_shrunk (hr.mono (by decide)) (by rfl) T.g__law_shrunk T.F__law_shrunk.kp B__law_shrunk .nil pass0 (pa_cons (pv 2) (pa_nil))) (pa_nil))))
       (pss_one (ps_setLc (i := 2) (own := [("_law_one", 3)]) (by rfl) nd rfl rfl (sw_true rfl rfl rfl (by decide +kernel)) (pi_list (pe_call G__law_rest (hr.mono (by decide)) (by rfl) T.g__law_rest T.F__law_rest.kp B__law_rest .nil pass0 (pa_cons (pe_ix ix_list (pv 1) (pe_un un_neg (pe_int)) (fun _ _ => rfl)) (pa_cons (pe_ix ix_list (pv 1) (pe_un un_neg (pe_int)) (fun _ _ => rfl)) (pa_nil))))) (blkOk_by (own := [("_law_one", 3)]) (N := ["_law_kp", "_law_row_here", "_law_other", "_law_one"]) (sc := defScope s__law_row) (by decide +kernel)) (fun _ _ _ _ _ => pg_name (i := 3) nd rfl (by first | exact Or.inl rfl | exact Or.inr rfl)) (fun _ _ _ _ _ => pts_nil) (fun _ _ _ _ _ => pe_op op_sub (pe_int) (pv 3))))))
       (pss_one (ps_ret (pv 1)))))
theorem ok__law_changes (T : Txt K mg Cof ad fd) : FnOk P w K mg base CX0 1 (ad 33) (fd 33) ["_law_row_here", "_law_spot"] (sp__law_changes K Cof) := by
  have nd := sc__law_changes.nd
  refine T.F__law_changes.ok sc__law_changes (fun vs H Q E h => len__law_changes h) (fun cdv A outer s H vs Q E hr h => ⟨t__law_changes K Cof E, ?_, rd__law_changes h⟩)
  exact pss_cons (ps_set (i := 2) nd rfl (by first | exact Or.inl rfl | exact Or.inr rfl) (pe_int))
       (pss_cons (ps_set (i := 3) nd rfl (by first | exact Or.inl rfl | exact Or.inr rfl) (pe_int))
       (pss_cons (ps_for PassesOwn.never rfl (pi_list (pv 0)) (pg_name (i := 4) nd rfl (by first | exact Or.inl rfl | exact Or.inr rfl)) (pss_cons (ps_set (i := 5) nd rfl (by first | exact Or.inl rfl | exact Or.inr rfl) (pe_int))
       (pss_cons (ps_set (i := 6) nd rfl (by first | exact Or.inl rfl | exact Or.inr rfl) (pe_int))
       (pss_cons (ps_for PassesOwn.never rfl (pi_reversed (by rfl) T.z_reversed (pa_cons (pv 4) (pa_nil))) (pg_name (i := 7) nd rfl (by first | exact Or.inl rfl | exact Or.inr rfl)) (pss_cons (ps_set (i := 5) nd rfl (by first | exact Or.inl rfl | exact Or.inr rfl) (pe_op op_add (pe_op op_mulX (pv 5) (pe_ix ix_tup (pv 1) (pe_int) (fun _ _ => rfl))) (pe_op op_mulX (pv 7) (pv 6))))
       (pss_one (ps_set (i := 6) nd rfl (by first | exact Or.inl rfl | exact Or.inr rfl) (pe_op op_mulX (pv 6) (pe_ix ix_tup (pv 1) (pe_int) (fun _ _ => rfl)))))))
       (pss_cons (ps_set (i := 2) nd rfl (by first | exact Or.inl rfl | exact Or.inr rfl) (pe_op op_add (pv 2) (pe_callTy call_int1 (by rfl) T.z_int (by decide +kernel) (pa_cons (pe_cmpR op_lt (pe_op op_mulX (pv 3) (pv 5)) (pe_int) (nomark _)) (pa_nil)))))
       (pss_one (ps_if (pt_cmpR op_ne (pv 5) (pe_int) (nomark _)) (pss_one (ps_set (i := 3) nd rfl (by first | exact Or.inl rfl | exact Or.inr rfl) (pe_op op_sub (pe_callTy call_int1 (by rfl) T.z_int (by decide +kernel) (pa_cons (pe_cmpR op_gt (pv 5) (pe_int) (nomark _)) (pa_nil))) (pe_callTy call_int1 (by rfl) T.z_int (by decide +kernel) (pa_cons (pe_cmpR op_lt (pv 5) (pe_int) (nomark _)) (pa_nil)))))) (pss_nil))))))))
       (pss_one (ps_ret (pv 2)))))
theorem ok__law_any (T : Txt K mg Cof ad fd) : FnOk P w K mg base CX0 4 (ad 34) (fd 34) ["_law_cell"] (sp__law_any K Cof) := by
  have G__law_flat := ok__law_flat (P := P) (w := w) (base := base) T
  have B__law_flat := B__law_flat T
  have G__law_trim := ok__law_trim (P := P) (w := w) (base := base) T
  have B__law_trim := B__law_trim T
  have nd := sc__law_any.nd
  refine T.F__law_any.ok sc__law_any (fun vs H Q E h => len__law_any h) (fun cdv A outer s H vs Q E hr h => ⟨t__law_any K Cof E, ?_, rd__law_any h⟩)
  exact pss_cons (ps_set (i := 1) nd rfl (by first | exact Or.inl rfl | exact Or.inr rfl) (pe_lst (pa_nil)))
       (pss_cons (ps_set (i := 2) nd rfl (by first | exact Or.inl rfl | exact Or.inr rfl) (pe_op op_fdivA (pv 0) (pe_int)))
       (pss_cons (ps_for PassesOwn.never rfl (pi_range1 (by rfl) T.z_range (pa_cons (pe_op op_add (pe_int) (pe_op op_modN (pv 0) (pe_int))) (pa_nil))) (pg_name (i := 3) nd rfl (by first | exact Or.inl rfl | exact Or.inr rfl)) (pss_cons (ps_expr (pe_bm PySem.F.plainAttrs_list PySem.F.slot_list_append PySem.F.type_list_append mt_append (pv 1) (pa_cons (pe_op op_sub (pe_op op_modN (pv 2) (pe_int)) (pe_int)) (pa_nil))))
       (pss_one (ps_set (i := 2) nd rfl (by first | exact Or.inl rfl | exact Or.inr rfl) (pe_op op_fdivA (pv 2) (pe_int))))))
       (pss_cons (ps_set (i := 1) nd rfl (by first | exact Or.inl rfl | exact Or.inr rfl) (pe_call G__law_trim (hr.mono (by decide)) (by rfl) T.g__law_trim T.F__law_trim.kp B__law_trim .nil pass0 (pa_cons (pv 1) (pa_nil))))
       (pss_cons (ps_if (pt_cmpR op_eq (pe_callB call_len_seq (by rfl) T.z_len (by decide +kernel) (pa_cons (pv 1) (pa_nil))) (pe_int) (nomark _)) (pss_one (ps_ret (pe_lst (pa_nil)))) (pss_nil))
       (pss_one (ps_ret (pe_call G__law_flat (hr.mono (by decide)) (by rfl) T.g__law_flat T.F__law_flat.kp B__law_flat .nil pass0 (pa_cons (pv 1) (pa_nil)))))))))
theorem ok__law_many (T : Txt K mg Cof ad fd) : FnOk P w K mg base CX0 3 (ad 35) (fd 35) ["_law_spots", "_law_low", "_law_high"] (sp__law_many K Cof) := by
  have G__law_changes := ok__law_changes (P := P) (w := w) (base := base) T
  have B__law_changes := B__law_changes T
  have G__law_side := ok__law_side (P := P) (w := w) (base := base) T
  have B__law_side := B__law_side T
  have nd := sc__law_many.nd
  refine T.F__law_many.ok sc__law_many (fun vs H Q E h => len__law_many h) (fun cdv A outer s H vs Q E hr h => ⟨t__law_many K Cof E, ?_, rd__law_many h⟩)
  exact pss_cons (ps_if (PW.pt (pw_and (pt_cmpR op_gt (pe_callB call_len_seq (by rfl) T.z_len (by decide +kernel) (pa_cons (pv 0) (pa_nil))) (pe_int) (nomark _)) (pw_and1 (pt_val (pe_callB call_isi (by rfl) T.z_isinstance (by decide +kernel) (pa_cons (pe_ix ix_list (pv 0) (pe_int) (fun _ _ => rfl)) (pa_cons (pe_bltn (v := .ty "list") (by rfl) T.z_list (by decide +kernel) rfl) (pa_nil)))))))) (pss_one (ps_ret (pe_op op_sub (pe_call G__law_changes (hr.mono (by decide)) (by rfl) T.g__law_changes T.F__law_changes.kp B__law_changes .nil pass0 (pa_cons (pv 0) (pa_cons (pv 1) (pa_nil)))) (pe_call G__law_changes (hr.mono (by decide)) (by rfl) T.g__law_changes T.F__law_changes.kp B__law_changes .nil pass0 (pa_cons (pv 0) (pa_cons (pv 2) (pa_nil))))))) (pss_nil))
       (pss_cons (ps_set (i := 3) nd rfl (by first | exact Or.inl rfl | exact Or.inr rfl) (pe_int))
       (pss_cons (ps_for PassesOwn.never rfl (pi_list (pv 0)) (pg_name (i := 4) nd rfl (by first | exact Or.inl rfl | exact Or.inr rfl)) (pss_cons (ps_set (i := 5) nd rfl (by first | exact Or.inl rfl | exact Or.inr rfl) (pe_call G__law_side (hr.mono (by decide)) (by rfl) T.g__law_side T.F__law_side.kp B__law_side .nil pass0 (pa_cons (pv 4) (pa_cons (pe_ix ix_tup (pv 1) (pe_int) (fun _ _ => rfl)) (pa_cons (pe_ix ix_tup (pv 1) (pe_int) (fun _ _ => rfl)) (pa_nil))))))
       (pss_one (ps_if (PW.pt (pw_and (pt_cmpR op_gt (pv 5) (pe_int) (nomark _)) (pw_and1 (pt_cmpR op_le (pe_call G__law_side (hr.mono (by decide)) (by rfl) T.g__law_side T.F__law_side.kp B__law_side .nil pass0 (pa_cons (pv 4) (pa_cons (pe_ix ix_tup (pv 2) (pe_int) (fun _ _ => rfl)) (pa_cons (pe_ix ix_tup (pv 2) (pe_int) (fun _ _ => rfl)) (pa_nil))))) (pe_int) (nomark _))))) (pss_one (ps_set (i := 3) nd rfl (by first | exact Or.inl rfl | exact Or.inr rfl) (pe_op op_add (pv 3) (pe_int)))) (pss_nil)))))
       (pss_one (ps_ret (pv 3)))))
theorem ok__law_end (T : Txt K mg Cof ad fd) : FnOk P w K mg base CX0 2 (ad 36) (fd 36) ["_law_cell", "_law_factors", "_law_most"] (sp__law_end K Cof) := by
  have G__law_within := ok__law_within (P := P) (w := w) (base := base) T
  have B__law_within := B__law_within T
  have nd := sc__law_end.nd
  refine T.F__law_end.ok sc__law_end (fun vs H Q E h => len__law_end h) (fun cdv A outer s H vs Q E hr h => ⟨t__law_end K Cof E, ?_, rd__law_end h⟩)
  exact pss_cons (ps_setLc (i := 3) (own := [("_law_one", 4)]) (by rfl) nd rfl rfl (sw_true rfl rfl rfl (by decide +kernel)) (pi_list (pv 1)) (blkOk_by (own := [("_law_one", 4)]) (N := ["_law_cell", "_law_factors", "_law_most", "_law_known", "_law_one"]) (sc := defScope s__law_end) (by decide +kernel)) (fun _ _ _ _ _ => pg_name (i := 4) nd rfl (by first | exact Or.inl rfl | exact Or.inr rfl)) (fun _ _ _ _ _ => pts_one (pt_cmpR op_eq (pe_ix ix_tup (pv 4) (pe_int) (fun _ _ => rfl)) (pe_int) (nomark _))) (fun _ _ _ _ _ => pv 4))
       (pss_cons (ps_if (PW.pt (pw_and (pt_cmpR op_eq (pe_op op_modN (pv 0) (pe_int)) (pe_int) (nomark _)) (pw_and1 (pt_cmpR op_gt (pe_callB call_len_seq (by rfl) T.z_len (by decide +kernel) (pa_cons (pv 3) (pa_nil))) (pe_int) (nomark _))))) (pss_cons (ps_set (i := 4) nd rfl (by first | exact Or.inl rfl | exact Or.inr rfl) (pe_ix ix_list (pv 3) (pe_op op_modN (pe_op op_fdivA (pv 0) (pe_int)) (pe_callB call_len_seq (by rfl) T.z_len (by decide +kernel) (pa_cons (pv 3) (pa_nil)))) (fun _ _ => rfl)))
       (pss_one (ps_ret (pe_tup (pa_cons (pe_ix ix_tup (pv 4) (pe_int) (fun _ _ => rfl)) (pa_cons (pe_ix ix_tup (pv 4) (pe_int) (fun _ _ => rfl)) (pa_nil))))))) (pss_nil))
       (pss_one (ps_ret (pe_tup (pa_cons (pe_call G__law_within (hr.mono (by decide)) (by rfl) T.g__law_within T.F__law_within.kp B__law_within .nil pass0 (pa_cons (pe_op op_fdivA (pv 0) (pe_int)) (pa_cons (pv 2) (pa_nil)))) (pa_cons (pe_op op_add (pe_int) (pe_op op_modN (pe_op op_modN (pe_op op_mulX (pv 0) (pe_int)) (pe_int)) (pe_int))) (pa_nil)))))))
theorem ok_law (T : Txt K mg Cof ad fd) : FnOk P w K mg base CX0 6 (ad 37) (fd 37) ["_law_script"] (sp_law K Cof) := by
  have G_Ratio___init__ := ok_Ratio___init__ (P := P) (w := w) (base := base) T
  have B_Ratio___init__ := B_Ratio___init__ T
  have G__law_any := ok__law_any (P := P) (w := w) (base := base) T
  have B__law_any := B__law_any T
  have G__law_cell_at := ok__law_cell_at (P := P) (w := w) (base := base) T
  have B__law_cell_at := B__law_cell_at T
  have G__law_end := ok__law_end (P := P) (w := w) (base := base) T
  have B__law_end := B__law_end T
  have G__law_factors_by := ok__law_factors_by (P := P) (w := w) (base := base) T
  have B__law_factors_by := B__law_factors_by T
  have G__law_many := ok__law_many (P := P) (w := w) (base := base) T
  have B__law_many := B__law_many T
  have G__law_mul := ok__law_mul (P := P) (w := w) (base := base) T
  have B__law_mul := B__law_mul T
  have G__law_product := ok__law_product (P := P) (w := w) (base := base) T
  have B__law_product := B__law_product T
  have G__law_roots_of := ok__law_roots_of (P := P) (w := w) (base := base) T
  have B__law_roots_of := B__law_roots_of T
  have G__law_row := ok__law_row (P := P) (w := w) (base := base) T
  have B__law_row := B__law_row T
  have G__law_whole := ok__law_whole (P := P) (w := w) (base := base) T
  have B__law_whole := B__law_whole T
  have G_count := ok_count (P := P) (w := w) (base := base) T
  have B_count := B_count T
  have G_row_of := ok_row_of (P := P) (w := w) (base := base) T
  have B_row_of := B_row_of T
  have nd := sc_law.nd
  refine T.F_law.ok sc_law (fun vs H Q E h => len_law h) (fun cdv A outer s H vs Q E hr h => ⟨t_law K Cof E, ?_, rd_law h⟩)
  exact pss_cons (ps_set (i := 1) nd rfl (by first | exact Or.inl rfl | exact Or.inr rfl) (pe_ix ix_list (pe_lst (pa_cons (pe_int) (pa_cons (pe_int) (pa_cons (pe_int) (pa_cons (pe_op op_pow (pe_int) (pe_int)) (pa_nil)))))) (pe_op op_modN (pe_call G__law_cell_at (hr.mono (by decide)) (by rfl) T.g__law_cell_at T.F__law_cell_at.kp B__law_cell_at .nil pass0 (pa_cons (pv 0) (pa_cons (pe_int) (pa_nil)))) (pe_int)) (fun _ _ => rfl)))
       (pss_cons (ps_set (i := 2) nd rfl (by first | exact Or.inl rfl | exact Or.inr rfl) (pe_call G__law_factors_by (hr.mono (by decide)) (by rfl) T.g__law_factors_by T.F__law_factors_by.kp B__law_factors_by .nil pass0 (pa_cons (pe_slice sl_list (pv 0) (po_some (pe_int)) (po_none)) (pa_cons (pv 1) (pa_cons (pe_ix ix_list (pe_lst (pa_cons (pe_int) (pa_cons (pe_int) (pa_cons (pe_int) (pa_cons (pe_int) (pa_nil)))))) (pe_op op_modN (pe_op op_fdivA (pe_call G__law_cell_at (hr.mono (by decide)) (by rfl) T.g__law_cell_at T.F__law_cell_at.kp B__law_cell_at .nil pass0 (pa_cons (pv 0) (pa_cons (pe_int) (pa_nil)))) (pe_int)) (pe_int)) (fun _ _ => rfl)) (pa_nil))))))
       (pss_cons (ps_set (i := 3) nd rfl (by first | exact Or.inl rfl | exact Or.inr rfl) (pe_op op_mulX (pe_op op_add (pe_int) (pe_op op_modN (pe_op op_fdivA (pe_call G__law_cell_at (hr.mono (by decide)) (by rfl) T.g__law_cell_at T.F__law_cell_at.kp B__law_cell_at .nil pass0 (pa_cons (pv 0) (pa_cons (pe_int) (pa_nil)))) (pe_int)) (pe_op op_pow (pe_int) (pe_int)))) (pe_op op_sub (pe_int) (pe_op op_mulX (pe_int) (pe_op op_modN (pe_call G__law_cell_at (hr.mono (by decide)) (by rfl) T.g__law_cell_at T.F__law_cell_at.kp B__law_cell_at .nil pass0 (pa_cons (pv 0) (pa_cons (pe_int) (pa_nil)))) (pe_int))))))
       (pss_cons (ps_set (i := 4) nd rfl (by first | exact Or.inl rfl | exact Or.inr rfl) (pe_call G__law_mul (hr.mono (by decide)) (by rfl) T.g__law_mul T.F__law_mul.kp B__law_mul .nil pass0 (pa_cons (pe_lst (pa_cons (pv 3) (pa_nil))) (pa_cons (pe_call G__law_product (hr.mono (by decide)) (by rfl) T.g__law_product T.F__law_product.kp B__law_product .nil pass0 (pa_cons (pv 2) (pa_nil))) (pa_nil)))))
       (pss_cons (ps_set (i := 5) nd rfl (by first | exact Or.inl rfl | exact Or.inr rfl) (pe_call G__law_end (hr.mono (by decide)) (by rfl) T.g__law_end T.F__law_end.kp B__law_end .nil pass0 (pa_cons (pe_call G__law_cell_at (hr.mono (by decide)) (by rfl) T.g__law_cell_at T.F__law_cell_at.kp B__law_cell_at .nil pass0 (pa_cons (pv 0) (pa_cons (pe_int) (pa_nil)))) (pa_cons (pv 2) (pa_cons (pv 1) (pa_nil))))))
       (pss_cons (ps_set (i := 6) nd rfl (by first | exact Or.inl rfl | exact Or.inr rfl) (pe_call G__law_end (hr.mono (by decide)) (by rfl) T.g__law_end T.F__law_end.kp B__law_end .nil pass0 (pa_cons (pe_call G__law_cell_at (hr.mono (by decide)) (by rfl) T.g__law_cell_at T.F__law_cell_at.kp B__law_cell_at .nil pass0 (pa_cons (pv 0) (pa_cons (pe_int) (pa_nil)))) (pa_cons (pv 2) (pa_cons (pv 1) (pa_nil))))))
       (pss_cut (ps_if (pt_cmpR op_eq (pe_op op_mulX (pe_ix ix_tup (pv 5) (pe_int) (fun _ _ => rfl)) (pe_ix ix_tup (pv 6) (pe_int) (fun _ _ => rfl))) (pe_op op_mulX (pe_ix ix_tup (pv 6) (pe_int) (fun _ _ => rfl)) (pe_ix ix_tup (pv 5) (pe_int) (fun _ _ => rfl))) (nomark _)) (pss_one (ps_set (i := 6) nd rfl (by first | exact Or.inl rfl | exact Or.inr rfl) (pe_tup (pa_cons (pe_op op_add (pe_ix ix_tup (pv 5) (pe_int) (fun _ _ => rfl)) (pe_ix ix_tup (pv 5) (pe_int) (fun _ _ => rfl))) (pa_cons (pe_ix ix_tup (pv 5) (pe_int) (fun _ _ => rfl)) (pa_nil)))))) (pss_nil))
       (pss_cut (ps_if (pt_cmpR op_gt (pe_op op_mulX (pe_ix ix_tup (pv 5) (pe_int) (fun _ _ => rfl)) (pe_ix ix_tup (pv 6) (pe_int) (fun _ _ => rfl))) (pe_op op_mulX (pe_ix ix_tup (pv 6) (pe_int) (fun _ _ => rfl)) (pe_ix ix_tup (pv 5) (pe_int) (fun _ _ => rfl))) (nomark _)) (pss_cons (ps_set (i := 7) nd rfl (by first | exact Or.inl rfl | exact Or.inr rfl) (pv 5))
       (pss_cons (ps_set (i := 5) nd rfl (by first | exact Or.inl rfl | exact Or.inr rfl) (pv 6))
       (pss_one (ps_set (i := 6) nd rfl (by first | exact Or.inl rfl | exact Or.inr rfl) (pv 7))))) (pss_nil))
       (pss_cons (ps_set (i := 8) nd rfl (by first | exact Or.inl rfl | exact Or.inr rfl) (pe_call G__law_many (hr.mono (by decide)) (by rfl) T.g__law_many T.F__law_many.kp B__law_many .nil pass0 (pa_cons (pe_call G__law_roots_of (hr.mono (by decide)) (by rfl) T.g__law_roots_of T.F__law_roots_of.kp B__law_roots_of .nil pass0 (pa_cons (pv 2) (pa_nil))) (pa_cons (pv 5) (pa_cons (pv 6) (pa_nil))))))
       (pss_cut (ps_if (pt_cmpR op_eq (pe_op op_modN (pe_op op_fdivA (pe_call G__law_cell_at (hr.mono (by decide)) (by rfl) T.g__law_cell_at T.F__law_cell_at.kp B__law_cell_at .nil pass0 (pa_cons (pv 0) (pa_cons (pe_int) (pa_nil)))) (pe_int)) (pe_int)) (pe_int) (nomark _)) (pss_cons (ps_setLc (i := 4) (own := [("_law_one", 9)]) (by rfl) nd rfl rfl (sw_true rfl rfl rfl (by decide +kernel)) (pi_list (pe_call G__law_any (hr.mono (by decide)) (by rfl) T.g__law_any T.F__law_any.kp B__law_any .nil pass0 (pa_cons (pe_call G__law_cell_at (hr.mono (by decide)) (by rfl) T.g__law_cell_at T.F__law_cell_at.kp B__law_cell_at .nil pass0 (pa_cons (pv 0) (pa_cons (pe_int) (pa_nil)))) (pa_nil)))) (blkOk_by (own := [("_law_one", 9)]) (N := ["_law_script", "_law_most", "_law_factors", "_law_lead", "_law_kp", "_law_low", "_law_high", "_law_kept", "_law_due", "_law_one", "_law_handed", "_law_row_here", "_law_found", "_law_back"]) (sc := defScope s_law) (by decide +kernel)) (fun _ _ _ _ _ => pg_name (i := 9) nd rfl (by first | exact Or.inl rfl | exact Or.inr rfl)) (fun _ _ _ _ _ => pts_nil) (fun _ _ _ _ _ => pe_op op_mulX (pv 9) (pv 3)))
       (pss_cut (ps_if (pt_cmpR (op_eqD hr.units) (pv 4) (pe_lst (pa_nil)) (nomark _)) (pss_one (ps_set (i := 4) nd rfl (by first | exact Or.inl rfl | exact Or.inr rfl) (pe_lst (pa_cons (pv 3) (pa_nil))))) (pss_nil))
       (pss_one (ps_set (i := 8) nd rfl (by first | exact Or.inl rfl | exact Or.inr rfl) (pe_call G__law_many (hr.mono (by decide)) (by rfl) T.g__law_many T.F__law_many.kp B__law_many .nil pass0 (pa_cons (pe_call G__law_row (hr.mono (by decide)) (by rfl) T.g__law_row T.F__law_row.kp B__law_row .nil pass0 (pa_cons (pv 4) (pa_nil))) (pa_cons (pv 5) (pa_cons (pv 6) (pa_nil))))))))) (pss_nil))
       (pss_cons (ps_set (i := 10) nd rfl (by first | exact Or.inl rfl | exact Or.inr rfl) (pe_callTy call_list_of (by rfl) T.z_list (by decide +kernel) (pa_cons (pv 4) (pa_nil))))
       (pss_cons (ps_set (i := 11) nd rfl (by first | exact Or.inl rfl | exact Or.inr rfl) (pe_call G_row_of (hr.mono (by decide)) (by rfl) T.g_row_of T.F_row_of.kp B_row_of .nil pass0 (pa_cons (pv 10) (pa_nil))))
       (pss_cons (ps_set (i := 12) nd rfl (by first | exact Or.inl rfl | exact Or.inr rfl) (pe_call G_count (hr.mono (by decide)) (by rfl) T.g_count T.F_count.kp B_count .nil pass0 (pa_cons (pv 11) (pa_cons (pe_make T.mk_Ratio G_Ratio___init__ (hr.mono (by decide)) (by rfl) T.q_Ratio B_Ratio___init__ .nil pass0 (pa_cons (pe_ix ix_tup (pv 5) (pe_int) (fun _ _ => rfl)) (pa_cons (pe_ix ix_tup (pv 5) (pe_int) (fun _ _ => rfl)) (pa_nil)))) (pa_cons (pe_make T.mk_Ratio G_Ratio___init__ (hr.mono (by decide)) (by rfl) T.q_Ratio B_Ratio___init__ .nil pass0 (pa_cons (pe_ix ix_tup (pv 6) (pe_int) (fun _ _ => rfl)) (pa_cons (pe_ix ix_tup (pv 6) (pe_int) (fun _ _ => rfl)) (pa_nil)))) (pa_nil))))))
       (pss_cons (ps_set (i := 13) nd rfl (by first | exact Or.inl rfl | exact Or.inr rfl) (pe_call G_count (hr.mono (by decide)) (by rfl) T.g_count T.F_count.kp B_count .nil pass0 (pa_cons (pv 11) (pa_cons (pe_make T.mk_Ratio G_Ratio___init__ (hr.mono (by decide)) (by rfl) T.q_Ratio B_Ratio___init__ .nil pass0 (pa_cons (pe_ix ix_tup (pv 6) (pe_int) (fun _ _ => rfl)) (pa_cons (pe_ix ix_tup (pv 6) (pe_int) (fun _ _ => rfl)) (pa_nil)))) (pa_cons (pe_make T.mk_Ratio G_Ratio___init__ (hr.mono (by decide)) (by rfl) T.q_Ratio B_Ratio___init__ .nil pass0 (pa_cons (pe_ix ix_tup (pv 5) (pe_int) (fun _ _ => rfl)) (pa_cons (pe_ix ix_tup (pv 5) (pe_int) (fun _ _ => rfl)) (pa_nil)))) (pa_nil))))))
       (pss_cons (ps_if (PW.pt (pw_or (pt_not (pt_val (pe_call G__law_whole (hr.mono (by decide)) (by rfl) T.g__law_whole T.F__law_whole.kp B__law_whole .nil pass0 (pa_cons (pv 12) (pa_nil))))) (pw_or (pt_not (pt_val (pe_call G__law_whole (hr.mono (by decide)) (by rfl) T.g__law_whole T.F__law_whole.kp B__law_whole .nil pass0 (pa_cons (pv 13) (pa_nil))))) (pw_or1 (pt_cmpR (op_neD hr.units) (pv 10) (pv 4) (nomark _)))))) (pss_one (ps_ret (pe_bl))) (pss_nil))
       (pss_one (ps_ret (pe_and (pe_cmpR op_eq (pv 12) (pv 8) (nomark _)) (pe_one (pe_cmpR op_eq (pv 13) (pe_op op_sub (pe_int) (pv 8)) (nomark _))))))))))))))))))))
end
theorem all_mk {l : PySem.W.OpenLaw} {w : World} {K : PySem.W.Frag} {h : Heap} {mg : Str → Option Value} {fa : Addr} (X : K.In h) (G : h.Ns mainGlobals mg) (hfa : mg "law" = some (.ref fa))
    {CRatio : Addr} (aCRatio : PySem.W.nsIn K mainGlobals "Ratio" = some (some (.ref CRatio))) (kCRatio : PySem.W.keepIn K (.ref CRatio) = true)
    (pCRatio : PySem.W.plainGet K CRatio Str.empty = true) (hCRatio : PySem.W.hasDictIn K CRatio = true) (oCRatio : PySem.W.plainOver K CRatio = true) (yCRatio : PySem.W.findIn K (.ref CRatio) "__setattr__" = some (some (.builtin "object.__setattr__"))) (wCRatio : PySem.W.makesIn K CRatio = true)
    (lCRatio : PySem.W.findIn K (.ref CRatio) "__class__" = some (some (.builtin "object.__class__"))) (mCRatio : PySem.W.mroIn K CRatio (.type "object") = some true)
    (nRatio_bottom : PySem.W.findIn K (.ref CRatio) "bottom" = some none)
    (nRatio_top : PySem.W.findIn K (.ref CRatio) "top" = some none)
    {f0 : Addr} {od0 an0 : Option Addr} {sl0 : Array (Option Value)} {oc0 kV0 dc0 pm0 cd0 ct0 : Value}
    {f1 : Addr} {od1 an1 : Option Addr} {sl1 : Array (Option Value)} {oc1 kV1 dc1 pm1 cd1 ct1 : Value}
    {f2 : Addr} {od2 an2 : Option Addr} {sl2 : Array (Option Value)} {oc2 kV2 dc2 pm2 cd2 ct2 : Value}
    {f3 : Addr} {od3 an3 : Option Addr} {sl3 : Array (Option Value)} {oc3 kV3 dc3 pm3 cd3 ct3 : Value}
    {f4 : Addr} {od4 an4 : Option Addr} {sl4 : Array (Option Value)} {oc4 kV4 dc4 pm4 cd4 ct4 : Value}
    {f5 : Addr} {od5 an5 : Option Addr} {sl5 : Array (Option Value)} {oc5 kV5 dc5 pm5 cd5 ct5 : Value}
    {f6 : Addr} {od6 an6 : Option Addr} {sl6 : Array (Option Value)} {oc6 kV6 dc6 pm6 cd6 ct6 : Value}
    {f7 : Addr} {od7 an7 : Option Addr} {sl7 : Array (Option Value)} {oc7 kV7 dc7 pm7 cd7 ct7 : Value}
    {f8 : Addr} {od8 an8 : Option Addr} {sl8 : Array (Option Value)} {oc8 kV8 dc8 pm8 cd8 ct8 : Value}
    {f9 : Addr} {od9 an9 : Option Addr} {sl9 : Array (Option Value)} {oc9 kV9 dc9 pm9 cd9 ct9 : Value}
    {f10 : Addr} {od10 an10 : Option Addr} {sl10 : Array (Option Value)} {oc10 kV10 dc10 pm10 cd10 ct10 : Value}
    {f11 : Addr} {od11 an11 : Option Addr} {sl11 : Array (Option Value)} {oc11 kV11 dc11 pm11 cd11 ct11 : Value}
    {f12 : Addr} {od12 an12 : Option Addr} {sl12 : Array (Option Value)} {oc12 kV12 dc12 pm12 cd12 ct12 : Value}
    {f13 : Addr} {od13 an13 : Option Addr} {sl13 : Array (Option Value)} {oc13 kV13 dc13 pm13 cd13 ct13 : Value}
    {f14 : Addr} {od14 an14 : Option Addr} {sl14 : Array (Option Value)} {oc14 kV14 dc14 pm14 cd14 ct14 : Value}
    {f15 : Addr} {od15 an15 : Option Addr} {sl15 : Array (Option Value)} {oc15 kV15 dc15 pm15 cd15 ct15 : Value}
    {f16 : Addr} {od16 an16 : Option Addr} {sl16 : Array (Option Value)} {oc16 kV16 dc16 pm16 cd16 ct16 : Value}
    {f17 : Addr} {od17 an17 : Option Addr} {sl17 : Array (Option Value)} {oc17 kV17 dc17 pm17 cd17 ct17 : Value}
    {f18 : Addr} {od18 an18 : Option Addr} {sl18 : Array (Option Value)} {oc18 kV18 dc18 pm18 cd18 ct18 : Value}
    {f19 : Addr} {od19 an19 : Option Addr} {sl19 : Array (Option Value)} {oc19 kV19 dc19 pm19 cd19 ct19 : Value}
    {f20 : Addr} {od20 an20 : Option Addr} {sl20 : Array (Option Value)} {oc20 kV20 dc20 pm20 cd20 ct20 : Value}
    {f21 : Addr} {od21 an21 : Option Addr} {sl21 : Array (Option Value)} {oc21 kV21 dc21 pm21 cd21 ct21 : Value}
    {f22 : Addr} {od22 an22 : Option Addr} {sl22 : Array (Option Value)} {oc22 kV22 dc22 pm22 cd22 ct22 : Value}
    {f23 : Addr} {od23 an23 : Option Addr} {sl23 : Array (Option Value)} {oc23 kV23 dc23 pm23 cd23 ct23 : Value}
    {f24 : Addr} {od24 an24 : Option Addr} {sl24 : Array (Option Value)} {oc24 kV24 dc24 pm24 cd24 ct24 : Value}
    {f25 : Addr} {od25 an25 : Option Addr} {sl25 : Array (Option Value)} {oc25 kV25 dc25 pm25 cd25 ct25 : Value}
    {f26 : Addr} {od26 an26 : Option Addr} {sl26 : Array (Option Value)} {oc26 kV26 dc26 pm26 cd26 ct26 : Value}
    {f27 : Addr} {od27 an27 : Option Addr} {sl27 : Array (Option Value)} {oc27 kV27 dc27 pm27 cd27 ct27 : Value}
    {f28 : Addr} {od28 an28 : Option Addr} {sl28 : Array (Option Value)} {oc28 kV28 dc28 pm28 cd28 ct28 : Value}
    {f29 : Addr} {od29 an29 : Option Addr} {sl29 : Array (Option Value)} {oc29 kV29 dc29 pm29 cd29 ct29 : Value}
    {f30 : Addr} {od30 an30 : Option Addr} {sl30 : Array (Option Value)} {oc30 kV30 dc30 pm30 cd30 ct30 : Value}
    {f31 : Addr} {od31 an31 : Option Addr} {sl31 : Array (Option Value)} {oc31 kV31 dc31 pm31 cd31 ct31 : Value}
    {f32 : Addr} {od32 an32 : Option Addr} {sl32 : Array (Option Value)} {oc32 kV32 dc32 pm32 cd32 ct32 : Value}
    {f33 : Addr} {od33 an33 : Option Addr} {sl33 : Array (Option Value)} {oc33 kV33 dc33 pm33 cd33 ct33 : Value}
    {f34 : Addr} {od34 an34 : Option Addr} {sl34 : Array (Option Value)} {oc34 kV34 dc34 pm34 cd34 ct34 : Value}
    {f35 : Addr} {od35 an35 : Option Addr} {sl35 : Array (Option Value)} {oc35 kV35 dc35 pm35 cd35 ct35 : Value}
    {f36 : Addr} {od36 an36 : Option Addr} {sl36 : Array (Option Value)} {oc36 kV36 dc36 pm36 cd36 ct36 : Value}
    {f37 : Addr} {od37 an37 : Option Addr} {sl37 : Array (Option Value)} {oc37 kV37 dc37 pm37 cd37 ct37 : Value}
    (a0 : PySem.W.nsIn K mainGlobals "shared" = some (some (.ref f0))) (l0 : K.lookup f0 = some ⟨oc0, od0, .func (PySem.W.fnOf "shared" "shared" (defArgs s_shared) (defBody s_shared) (defScope s_shared) .none kV0 dc0 pm0 an0 cd0 ct0), sl0⟩) (c0 : PySem.W.codeIn K cd0 "shared" = true) (k0 : PySem.W.keepIn K (.ref f0) = true)
    (a1 : PySem.W.nsIn K mainGlobals "told_order" = some (some (.ref f1))) (l1 : K.lookup f1 = some ⟨oc1, od1, .func (PySem.W.fnOf "told_order" "told_order" (defArgs s_told_order) (defBody s_told_order) (defScope s_told_order) .none kV1 dc1 pm1 an1 cd1 ct1), sl1⟩) (c1 : PySem.W.codeIn K cd1 "told_order" = true) (k1 : PySem.W.keepIn K (.ref f1) = true)
    {T2 : Addr} {ocd2 : Value} {odd2 : Option Addr} {nd2 : Nat} {sld2 : Array (Option Value)}
    {tkd2_0 : Tok}
    (a2 : PySem.W.findIn K (.ref CRatio) "__init__" = some (some (.ref f2))) (i2 : PySem.W.isFn K (.ref f2) = true) (l2 : K.lookup f2 = some ⟨oc2, od2, .func (PySem.W.fnOf "__init__" "Ratio.__init__" (defArgs s_Ratio___init__) (defBody s_Ratio___init__) (defScope s_Ratio___init__) (.ref T2) kV2 dc2 pm2 an2 cd2 ct2), sl2⟩) (c2 : PySem.W.codeIn K cd2 "Ratio.__init__" = true) (k2 : PySem.W.keepIn K (.ref f2) = true)
    (d2 : K.lookup T2 = some ⟨ocd2, odd2, .seq #[.int 1 tkd2_0] nd2, sld2⟩)
    (a3 : PySem.W.nsIn K mainGlobals "poly" = some (some (.ref f3))) (l3 : K.lookup f3 = some ⟨oc3, od3, .func (PySem.W.fnOf "poly" "poly" (defArgs s_poly) (defBody s_poly) (defScope s_poly) .none kV3 dc3 pm3 an3 cd3 ct3), sl3⟩) (c3 : PySem.W.codeIn K cd3 "poly" = true) (k3 : PySem.W.keepIn K (.ref f3) = true)
    (a4 : PySem.W.nsIn K mainGlobals "degree" = some (some (.ref f4))) (l4 : K.lookup f4 = some ⟨oc4, od4, .func (PySem.W.fnOf "degree" "degree" (defArgs s_degree) (defBody s_degree) (defScope s_degree) .none kV4 dc4 pm4 an4 cd4 ct4), sl4⟩) (c4 : PySem.W.codeIn K cd4 "degree" = true) (k4 : PySem.W.keepIn K (.ref f4) = true)
    (a5 : PySem.W.nsIn K mainGlobals "slope" = some (some (.ref f5))) (l5 : K.lookup f5 = some ⟨oc5, od5, .func (PySem.W.fnOf "slope" "slope" (defArgs s_slope) (defBody s_slope) (defScope s_slope) .none kV5 dc5 pm5 an5 cd5 ct5), sl5⟩) (c5 : PySem.W.codeIn K cd5 "slope" = true) (k5 : PySem.W.keepIn K (.ref f5) = true)
    (a6 : PySem.W.nsIn K mainGlobals "shrunk" = some (some (.ref f6))) (l6 : K.lookup f6 = some ⟨oc6, od6, .func (PySem.W.fnOf "shrunk" "shrunk" (defArgs s_shrunk) (defBody s_shrunk) (defScope s_shrunk) .none kV6 dc6 pm6 an6 cd6 ct6), sl6⟩) (c6 : PySem.W.codeIn K cd6 "shrunk" = true) (k6 : PySem.W.keepIn K (.ref f6) = true)
    (a7 : PySem.W.nsIn K mainGlobals "top_at" = some (some (.ref f7))) (l7 : K.lookup f7 = some ⟨oc7, od7, .func (PySem.W.fnOf "top_at" "top_at" (defArgs s_top_at) (defBody s_top_at) (defScope s_top_at) .none kV7 dc7 pm7 an7 cd7 ct7), sl7⟩) (c7 : PySem.W.codeIn K cd7 "top_at" = true) (k7 : PySem.W.keepIn K (.ref f7) = true)
    (a8 : PySem.W.nsIn K mainGlobals "sign_at" = some (some (.ref f8))) (l8 : K.lookup f8 = some ⟨oc8, od8, .func (PySem.W.fnOf "sign_at" "sign_at" (defArgs s_sign_at) (defBody s_sign_at) (defScope s_sign_at) .none kV8 dc8 pm8 an8 cd8 ct8), sl8⟩) (c8 : PySem.W.codeIn K cd8 "sign_at" = true) (k8 : PySem.W.keepIn K (.ref f8) = true)
    (a9 : PySem.W.nsIn K mainGlobals "divided" = some (some (.ref f9))) (l9 : K.lookup f9 = some ⟨oc9, od9, .func (PySem.W.fnOf "divided" "divided" (defArgs s_divided) (defBody s_divided) (defScope s_divided) .none kV9 dc9 pm9 an9 cd9 ct9), sl9⟩) (c9 : PySem.W.codeIn K cd9 "divided" = true) (k9 : PySem.W.keepIn K (.ref f9) = true)
    (a10 : PySem.W.nsIn K mainGlobals "row_of" = some (some (.ref f10))) (l10 : K.lookup f10 = some ⟨oc10, od10, .func (PySem.W.fnOf "row_of" "row_of" (defArgs s_row_of) (defBody s_row_of) (defScope s_row_of) .none kV10 dc10 pm10 an10 cd10 ct10), sl10⟩) (c10 : PySem.W.codeIn K cd10 "row_of" = true) (k10 : PySem.W.keepIn K (.ref f10) = true)
    (a11 : PySem.W.nsIn K mainGlobals "changes" = some (some (.ref f11))) (l11 : K.lookup f11 = some ⟨oc11, od11, .func (PySem.W.fnOf "changes" "changes" (defArgs s_changes) (defBody s_changes) (defScope s_changes) .none kV11 dc11 pm11 an11 cd11 ct11), sl11⟩) (c11 : PySem.W.codeIn K cd11 "changes" = true) (k11 : PySem.W.keepIn K (.ref f11) = true)
    (a12 : PySem.W.nsIn K mainGlobals "count" = some (some (.ref f12))) (l12 : K.lookup f12 = some ⟨oc12, od12, .func (PySem.W.fnOf "count" "count" (defArgs s_count) (defBody s_count) (defScope s_count) .none kV12 dc12 pm12 an12 cd12 ct12), sl12⟩) (c12 : PySem.W.codeIn K cd12 "count" = true) (k12 : PySem.W.keepIn K (.ref f12) = true)
    (a13 : PySem.W.nsIn K mainGlobals "_law_cell_at" = some (some (.ref f13))) (l13 : K.lookup f13 = some ⟨oc13, od13, .func (PySem.W.fnOf "_law_cell_at" "_law_cell_at" (defArgs s__law_cell_at) (defBody s__law_cell_at) (defScope s__law_cell_at) .none kV13 dc13 pm13 an13 cd13 ct13), sl13⟩) (c13 : PySem.W.codeIn K cd13 "_law_cell_at" = true) (k13 : PySem.W.keepIn K (.ref f13) = true)
    (a14 : PySem.W.nsIn K mainGlobals "_law_whole" = some (some (.ref f14))) (l14 : K.lookup f14 = some ⟨oc14, od14, .func (PySem.W.fnOf "_law_whole" "_law_whole" (defArgs s__law_whole) (defBody s__law_whole) (defScope s__law_whole) .none kV14 dc14 pm14 an14 cd14 ct14), sl14⟩) (c14 : PySem.W.codeIn K cd14 "_law_whole" = true) (k14 : PySem.W.keepIn K (.ref f14) = true)
    (a15 : PySem.W.nsIn K mainGlobals "_law_within" = some (some (.ref f15))) (l15 : K.lookup f15 = some ⟨oc15, od15, .func (PySem.W.fnOf "_law_within" "_law_within" (defArgs s__law_within) (defBody s__law_within) (defScope s__law_within) .none kV15 dc15 pm15 an15 cd15 ct15), sl15⟩) (c15 : PySem.W.codeIn K cd15 "_law_within" = true) (k15 : PySem.W.keepIn K (.ref f15) = true)
    (a16 : PySem.W.nsIn K mainGlobals "_law_trim" = some (some (.ref f16))) (l16 : K.lookup f16 = some ⟨oc16, od16, .func (PySem.W.fnOf "_law_trim" "_law_trim" (defArgs s__law_trim) (defBody s__law_trim) (defScope s__law_trim) .none kV16 dc16 pm16 an16 cd16 ct16), sl16⟩) (c16 : PySem.W.codeIn K cd16 "_law_trim" = true) (k16 : PySem.W.keepIn K (.ref f16) = true)
    (a17 : PySem.W.nsIn K mainGlobals "_law_mul" = some (some (.ref f17))) (l17 : K.lookup f17 = some ⟨oc17, od17, .func (PySem.W.fnOf "_law_mul" "_law_mul" (defArgs s__law_mul) (defBody s__law_mul) (defScope s__law_mul) .none kV17 dc17 pm17 an17 cd17 ct17), sl17⟩) (c17 : PySem.W.codeIn K cd17 "_law_mul" = true) (k17 : PySem.W.keepIn K (.ref f17) = true)
    (a18 : PySem.W.nsIn K mainGlobals "_law_gcd" = some (some (.ref f18))) (l18 : K.lookup f18 = some ⟨oc18, od18, .func (PySem.W.fnOf "_law_gcd" "_law_gcd" (defArgs s__law_gcd) (defBody s__law_gcd) (defScope s__law_gcd) .none kV18 dc18 pm18 an18 cd18 ct18), sl18⟩) (c18 : PySem.W.codeIn K cd18 "_law_gcd" = true) (k18 : PySem.W.keepIn K (.ref f18) = true)
    (a19 : PySem.W.nsIn K mainGlobals "_law_shrunk" = some (some (.ref f19))) (l19 : K.lookup f19 = some ⟨oc19, od19, .func (PySem.W.fnOf "_law_shrunk" "_law_shrunk" (defArgs s__law_shrunk) (defBody s__law_shrunk) (defScope s__law_shrunk) .none kV19 dc19 pm19 an19 cd19 ct19), sl19⟩) (c19 : PySem.W.codeIn K cd19 "_law_shrunk" = true) (k19 : PySem.W.keepIn K (.ref f19) = true)
    (a20 : PySem.W.nsIn K mainGlobals "_law_plain" = some (some (.ref f20))) (l20 : K.lookup f20 = some ⟨oc20, od20, .func (PySem.W.fnOf "_law_plain" "_law_plain" (defArgs s__law_plain) (defBody s__law_plain) (defScope s__law_plain) .none kV20 dc20 pm20 an20 cd20 ct20), sl20⟩) (c20 : PySem.W.codeIn K cd20 "_law_plain" = true) (k20 : PySem.W.keepIn K (.ref f20) = true)
    (a21 : PySem.W.nsIn K mainGlobals "_law_factor_by" = some (some (.ref f21))) (l21 : K.lookup f21 = some ⟨oc21, od21, .func (PySem.W.fnOf "_law_factor_by" "_law_factor_by" (defArgs s__law_factor_by) (defBody s__law_factor_by) (defScope s__law_factor_by) .none kV21 dc21 pm21 an21 cd21 ct21), sl21⟩) (c21 : PySem.W.codeIn K cd21 "_law_factor_by" = true) (k21 : PySem.W.keepIn K (.ref f21) = true)
    (a22 : PySem.W.nsIn K mainGlobals "_law_shape" = some (some (.ref f22))) (l22 : K.lookup f22 = some ⟨oc22, od22, .func (PySem.W.fnOf "_law_shape" "_law_shape" (defArgs s__law_shape) (defBody s__law_shape) (defScope s__law_shape) .none kV22 dc22 pm22 an22 cd22 ct22), sl22⟩) (c22 : PySem.W.codeIn K cd22 "_law_shape" = true) (k22 : PySem.W.keepIn K (.ref f22) = true)
    (a23 : PySem.W.nsIn K mainGlobals "_law_factors_by" = some (some (.ref f23))) (l23 : K.lookup f23 = some ⟨oc23, od23, .func (PySem.W.fnOf "_law_factors_by" "_law_factors_by" (defArgs s__law_factors_by) (defBody s__law_factors_by) (defScope s__law_factors_by) .none kV23 dc23 pm23 an23 cd23 ct23), sl23⟩) (c23 : PySem.W.codeIn K cd23 "_law_factors_by" = true) (k23 : PySem.W.keepIn K (.ref f23) = true)
    (a24 : PySem.W.nsIn K mainGlobals "_law_product" = some (some (.ref f24))) (l24 : K.lookup f24 = some ⟨oc24, od24, .func (PySem.W.fnOf "_law_product" "_law_product" (defArgs s__law_product) (defBody s__law_product) (defScope s__law_product) .none kV24 dc24 pm24 an24 cd24 ct24), sl24⟩) (c24 : PySem.W.codeIn K cd24 "_law_product" = true) (k24 : PySem.W.keepIn K (.ref f24) = true)
    (a25 : PySem.W.nsIn K mainGlobals "_law_sure" = some (some (.ref f25))) (l25 : K.lookup f25 = some ⟨oc25, od25, .func (PySem.W.fnOf "_law_sure" "_law_sure" (defArgs s__law_sure) (defBody s__law_sure) (defScope s__law_sure) .none kV25 dc25 pm25 an25 cd25 ct25), sl25⟩) (c25 : PySem.W.codeIn K cd25 "_law_sure" = true) (k25 : PySem.W.keepIn K (.ref f25) = true)
    (a26 : PySem.W.nsIn K mainGlobals "_law_side" = some (some (.ref f26))) (l26 : K.lookup f26 = some ⟨oc26, od26, .func (PySem.W.fnOf "_law_side" "_law_side" (defArgs s__law_side) (defBody s__law_side) (defScope s__law_side) .none kV26 dc26 pm26 an26 cd26 ct26), sl26⟩) (c26 : PySem.W.codeIn K cd26 "_law_side" = true) (k26 : PySem.W.keepIn K (.ref f26) = true)
    (a27 : PySem.W.nsIn K mainGlobals "_law_roots_of" = some (some (.ref f27))) (l27 : K.lookup f27 = some ⟨oc27, od27, .func (PySem.W.fnOf "_law_roots_of" "_law_roots_of" (defArgs s__law_roots_of) (defBody s__law_roots_of) (defScope s__law_roots_of) .none kV27 dc27 pm27 an27 cd27 ct27), sl27⟩) (c27 : PySem.W.codeIn K cd27 "_law_roots_of" = true) (k27 : PySem.W.keepIn K (.ref f27) = true)
    (a28 : PySem.W.nsIn K mainGlobals "_law_rest" = some (some (.ref f28))) (l28 : K.lookup f28 = some ⟨oc28, od28, .func (PySem.W.fnOf "_law_rest" "_law_rest" (defArgs s__law_rest) (defBody s__law_rest) (defScope s__law_rest) .none kV28 dc28 pm28 an28 cd28 ct28), sl28⟩) (c28 : PySem.W.codeIn K cd28 "_law_rest" = true) (k28 : PySem.W.keepIn K (.ref f28) = true)
    (a29 : PySem.W.nsIn K mainGlobals "_law_slope" = some (some (.ref f29))) (l29 : K.lookup f29 = some ⟨oc29, od29, .func (PySem.W.fnOf "_law_slope" "_law_slope" (defArgs s__law_slope) (defBody s__law_slope) (defScope s__law_slope) .none kV29 dc29 pm29 an29 cd29 ct29), sl29⟩) (c29 : PySem.W.codeIn K cd29 "_law_slope" = true) (k29 : PySem.W.keepIn K (.ref f29) = true)
    (a30 : PySem.W.nsIn K mainGlobals "_law_part" = some (some (.ref f30))) (l30 : K.lookup f30 = some ⟨oc30, od30, .func (PySem.W.fnOf "_law_part" "_law_part" (defArgs s__law_part) (defBody s__law_part) (defScope s__law_part) .none kV30 dc30 pm30 an30 cd30 ct30), sl30⟩) (c30 : PySem.W.codeIn K cd30 "_law_part" = true) (k30 : PySem.W.keepIn K (.ref f30) = true)
    (a31 : PySem.W.nsIn K mainGlobals "_law_flat" = some (some (.ref f31))) (l31 : K.lookup f31 = some ⟨oc31, od31, .func (PySem.W.fnOf "_law_flat" "_law_flat" (defArgs s__law_flat) (defBody s__law_flat) (defScope s__law_flat) .none kV31 dc31 pm31 an31 cd31 ct31), sl31⟩) (c31 : PySem.W.codeIn K cd31 "_law_flat" = true) (k31 : PySem.W.keepIn K (.ref f31) = true)
    (a32 : PySem.W.nsIn K mainGlobals "_law_row" = some (some (.ref f32))) (l32 : K.lookup f32 = some ⟨oc32, od32, .func (PySem.W.fnOf "_law_row" "_law_row" (defArgs s__law_row) (defBody s__law_row) (defScope s__law_row) .none kV32 dc32 pm32 an32 cd32 ct32), sl32⟩) (c32 : PySem.W.codeIn K cd32 "_law_row" = true) (k32 : PySem.W.keepIn K (.ref f32) = true)
    (a33 : PySem.W.nsIn K mainGlobals "_law_changes" = some (some (.ref f33))) (l33 : K.lookup f33 = some ⟨oc33, od33, .func (PySem.W.fnOf "_law_changes" "_law_changes" (defArgs s__law_changes) (defBody s__law_changes) (defScope s__law_changes) .none kV33 dc33 pm33 an33 cd33 ct33), sl33⟩) (c33 : PySem.W.codeIn K cd33 "_law_changes" = true) (k33 : PySem.W.keepIn K (.ref f33) = true)
    (a34 : PySem.W.nsIn K mainGlobals "_law_any" = some (some (.ref f34))) (l34 : K.lookup f34 = some ⟨oc34, od34, .func (PySem.W.fnOf "_law_any" "_law_any" (defArgs s__law_any) (defBody s__law_any) (defScope s__law_any) .none kV34 dc34 pm34 an34 cd34 ct34), sl34⟩) (c34 : PySem.W.codeIn K cd34 "_law_any" = true) (k34 : PySem.W.keepIn K (.ref f34) = true)
    (a35 : PySem.W.nsIn K mainGlobals "_law_many" = some (some (.ref f35))) (l35 : K.lookup f35 = some ⟨oc35, od35, .func (PySem.W.fnOf "_law_many" "_law_many" (defArgs s__law_many) (defBody s__law_many) (defScope s__law_many) .none kV35 dc35 pm35 an35 cd35 ct35), sl35⟩) (c35 : PySem.W.codeIn K cd35 "_law_many" = true) (k35 : PySem.W.keepIn K (.ref f35) = true)
    (a36 : PySem.W.nsIn K mainGlobals "_law_end" = some (some (.ref f36))) (l36 : K.lookup f36 = some ⟨oc36, od36, .func (PySem.W.fnOf "_law_end" "_law_end" (defArgs s__law_end) (defBody s__law_end) (defScope s__law_end) .none kV36 dc36 pm36 an36 cd36 ct36), sl36⟩) (c36 : PySem.W.codeIn K cd36 "_law_end" = true) (k36 : PySem.W.keepIn K (.ref f36) = true)
    (a37 : PySem.W.nsIn K mainGlobals "law" = some (some (.ref f37))) (l37 : K.lookup f37 = some ⟨oc37, od37, .func (PySem.W.fnOf "law" "law" (defArgs s_law) (defBody s_law) (defScope s_law) .none kV37 dc37 pm37 an37 cd37 ct37), sl37⟩) (c37 : PySem.W.codeIn K cd37 "law" = true) (k37 : PySem.W.keepIn K (.ref f37) = true)
    (spC : PySem.W.specialIn K (.builtin "object.__class__") "__get__" = some (some (.builtin "getset_descriptor.__get__"))) (tkC : PySem.W.takesIn K (.builtin "object.__class__") = some true)
    (z_abs : PySem.W.nsIn K mainGlobals "abs" = some none)
    (z_bool : PySem.W.nsIn K mainGlobals "bool" = some none)
    (z_enumerate : PySem.W.nsIn K mainGlobals "enumerate" = some none)
    (z_int : PySem.W.nsIn K mainGlobals "int" = some none)
    (z_isinstance : PySem.W.nsIn K mainGlobals "isinstance" = some none)
    (z_len : PySem.W.nsIn K mainGlobals "len" = some none)
    (z_list : PySem.W.nsIn K mainGlobals "list" = some none)
    (z_range : PySem.W.nsIn K mainGlobals "range" = some none)
    (z_reversed : PySem.W.nsIn K mainGlobals "reversed" = some none)
    : ∃ fd : FuncData, (∀ (s : Shared) (v : Value), BindsTo s fd ⟨[v], []⟩ [("_law_script", v)]) ∧ ∀ base : Heap, K.In base → base.Ns mainGlobals mg → FnOk l.prog w K mg base CX0 6 fa fd ["_law_script"] (sp_law K (fun _ => 0)) := by
  have e := hfa.symm.trans (PySem.W.mg_of X G a37)
  cases e
  have T : Txt K mg (fun s => if s = "Ratio" then CRatio else 0) (fun i => [f0, f1, f2, f3, f4, f5, f6, f7, f8, f9, f10, f11, f12, f13, f14, f15, f16, f17, f18, f19, f20, f21, f22, f23, f24, f25, f26, f27, f28, f29, f30, f31, f32, f33, f34, f35, f36, fa].getD i 0) (fun i => [PySem.W.fnOf "shared" "shared" (defArgs s_shared) (defBody s_shared) (defScope s_shared) .none kV0 dc0 pm0 an0 cd0 ct0, PySem.W.fnOf "told_order" "told_order" (defArgs s_told_order) (defBody s_told_order) (defScope s_told_order) .none kV1 dc1 pm1 an1 cd1 ct1, PySem.W.fnOf "__init__" "Ratio.__init__" (defArgs s_Ratio___init__) (defBody s_Ratio___init__) (defScope s_Ratio___init__) (.ref T2) kV2 dc2 pm2 an2 cd2 ct2, PySem.W.fnOf "poly" "poly" (defArgs s_poly) (defBody s_poly) (defScope s_poly) .none kV3 dc3 pm3 an3 cd3 ct3, PySem.W.fnOf "degree" "degree" (defArgs s_degree) (defBody s_degree) (defScope s_degree) .none kV4 dc4 pm4 an4 cd4 ct4, PySem.W.fnOf "slope" "slope" (defArgs s_slope) (defBody s_slope) (defScope s_slope) .none kV5 dc5 pm5 an5 cd5 ct5, PySem.W.fnOf "shrunk" "shrunk" (defArgs s_shrunk) (defBody s_shrunk) (defScope s_shrunk) .none kV6 dc6 pm6 an6 cd6 ct6, PySem.W.fnOf "top_at" "top_at" (defArgs s_top_at) (defBody s_top_at) (defScope s_top_at) .none kV7 dc7 pm7 an7 cd7 ct7, PySem.W.fnOf "sign_at" "sign_at" (defArgs s_sign_at) (defBody s_sign_at) (defScope s_sign_at) .none kV8 dc8 pm8 an8 cd8 ct8, PySem.W.fnOf "divided" "divided" (defArgs s_divided) (defBody s_divided) (defScope s_divided) .none kV9 dc9 pm9 an9 cd9 ct9, PySem.W.fnOf "row_of" "row_of" (defArgs s_row_of) (defBody s_row_of) (defScope s_row_of) .none kV10 dc10 pm10 an10 cd10 ct10, PySem.W.fnOf "changes" "changes" (defArgs s_changes) (defBody s_changes) (defScope s_changes) .none kV11 dc11 pm11 an11 cd11 ct11, PySem.W.fnOf "count" "count" (defArgs s_count) (defBody s_count) (defScope s_count) .none kV12 dc12 pm12 an12 cd12 ct12, PySem.W.fnOf "_law_cell_at" "_law_cell_at" (defArgs s__law_cell_at) (defBody s__law_cell_at) (defScope s__law_cell_at) .none kV13 dc13 pm13 an13 cd13 ct13, PySem.W.fnOf "_law_whole" "_law_whole" (defArgs s__law_whole) (defBody s__law_whole) (defScope s__law_whole) .none kV14 dc14 pm14 an14 cd14 ct14, PySem.W.fnOf "_law_within" "_law_within" (defArgs s__law_within) (defBody s__law_within) (defScope s__law_within) .none kV15 dc15 pm15 an15 cd15 ct15, PySem.W.fnOf "_law_trim" "_law_trim" (defArgs s__law_trim) (defBody s__law_trim) (defScope s__law_trim) .none kV16 dc16 pm16 an16 cd16 ct16, PySem.W.fnOf "_law_mul" "_law_mul" (defArgs s__law_mul) (defBody s__law_mul) (defScope s__law_mul) .none kV17 dc17 pm17 an17 cd17 ct17, PySem.W.fnOf "_law_gcd" "_law_gcd" (defArgs s__law_gcd) (defBody s__law_gcd) (defScope s__law_gcd) .none kV18 dc18 pm18 an18 cd18 ct18, PySem.W.fnOf "_law_shrunk" "_law_shrunk" (defArgs s__law_shrunk) (defBody s__law_shrunk) (defScope s__law_shrunk) .none kV19 dc19 pm19 an19 cd19 ct19, PySem.W.fnOf "_law_plain" "_law_plain" (defArgs s__law_plain) (defBody s__law_plain) (defScope s__law_plain) .none kV20 dc20 pm20 an20 cd20 ct20, PySem.W.fnOf "_law_factor_by" "_law_factor_by" (defArgs s__law_factor_by) (defBody s__law_factor_by) (defScope s__law_factor_by) .none kV21 dc21 pm21 an21 cd21 ct21, PySem.W.fnOf "_law_shape" "_law_shape" (defArgs s__law_shape) (defBody s__law_shape) (defScope s__law_shape) .none kV22 dc22 pm22 an22 cd22 ct22, PySem.W.fnOf "_law_factors_by" "_law_factors_by" (defArgs s__law_factors_by) (defBody s__law_factors_by) (defScope s__law_factors_by) .none kV23 dc23 pm23 an23 cd23 ct23, PySem.W.fnOf "_law_product" "_law_product" (defArgs s__law_product) (defBody s__law_product) (defScope s__law_product) .none kV24 dc24 pm24 an24 cd24 ct24, PySem.W.fnOf "_law_sure" "_law_sure" (defArgs s__law_sure) (defBody s__law_sure) (defScope s__law_sure) .none kV25 dc25 pm25 an25 cd25 ct25, PySem.W.fnOf "_law_side" "_law_side" (defArgs s__law_side) (defBody s__law_side) (defScope s__law_side) .none kV26 dc26 pm26 an26 cd26 ct26, PySem.W.fnOf "_law_roots_of" "_law_roots_of" (defArgs s__law_roots_of) (defBody s__law_roots_of) (defScope s__law_roots_of) .none kV27 dc27 pm27 an27 cd27 ct27, PySem.W.fnOf "_law_rest" "_law_rest" (defArgs s__law_rest) (defBody s__law_rest) (defScope s__law_rest) .none kV28 dc28 pm28 an28 cd28 ct28, PySem.W.fnOf "_law_slope" "_law_slope" (defArgs s__law_slope) (defBody s__law_slope) (defScope s__law_slope) .none kV29 dc29 pm29 an29 cd29 ct29, PySem.W.fnOf "_law_part" "_law_part" (defArgs s__law_part) (defBody s__law_part) (defScope s__law_part) .none kV30 dc30 pm30 an30 cd30 ct30, PySem.W.fnOf "_law_flat" "_law_flat" (defArgs s__law_flat) (defBody s__law_flat) (defScope s__law_flat) .none kV31 dc31 pm31 an31 cd31 ct31, PySem.W.fnOf "_law_row" "_law_row" (defArgs s__law_row) (defBody s__law_row) (defScope s__law_row) .none kV32 dc32 pm32 an32 cd32 ct32, PySem.W.fnOf "_law_changes" "_law_changes" (defArgs s__law_changes) (defBody s__law_changes) (defScope s__law_changes) .none kV33 dc33 pm33 an33 cd33 ct33, PySem.W.fnOf "_law_any" "_law_any" (defArgs s__law_any) (defBody s__law_any) (defScope s__law_any) .none kV34 dc34 pm34 an34 cd34 ct34, PySem.W.fnOf "_law_many" "_law_many" (defArgs s__law_many) (defBody s__law_many) (defScope s__law_many) .none kV35 dc35 pm35 an35 cd35 ct35, PySem.W.fnOf "_law_end" "_law_end" (defArgs s__law_end) (defBody s__law_end) (defScope s__law_end) .none kV36 dc36 pm36 an36 cd36 ct36, PySem.W.fnOf "law" "law" (defArgs s_law) (defBody s_law) (defScope s_law) .none kV37 dc37 pm37 an37 cd37 ct37].getD i (PySem.W.fnOf "law" "law" (defArgs s_law) (defBody s_law) (defScope s_law) .none kV37 dc37 pm37 an37 cd37 ct37)) :=
    { z_abs := PySem.W.mg_none_of X G z_abs, z_bool := PySem.W.mg_none_of X G z_bool, z_enumerate := PySem.W.mg_none_of X G z_enumerate, z_int := PySem.W.mg_none_of X G z_int, z_isinstance := PySem.W.mg_none_of X G z_isinstance, z_len := PySem.W.mg_none_of X G z_len, z_list := PySem.W.mg_none_of X G z_list, z_range := PySem.W.mg_none_of X G z_range, z_reversed := PySem.W.mg_none_of X G z_reversed, g_shared := PySem.W.mg_of X G a0, F_shared := fun_mk (st := s_shared) l0 c0 k0, g_told_order := PySem.W.mg_of X G a1, F_told_order := fun_mk (st := s_told_order) l1 c1 k1, F_Ratio___init__ := funD_mkV (dvs := [.int 1]) (its := [.int 1 tkd2_0]) l2 d2 c2 k2 (by simp) (.cons ⟨_, rfl⟩ .nil), mk_Ratio := ⟨wCRatio, a2, i2, kCRatio⟩, g_poly := PySem.W.mg_of X G a3, F_poly := fun_mk (st := s_poly) l3 c3 k3, g_degree := PySem.W.mg_of X G a4, F_degree := fun_mk (st := s_degree) l4 c4 k4, g_slope := PySem.W.mg_of X G a5, F_slope := fun_mk (st := s_slope) l5 c5 k5, g_shrunk := PySem.W.mg_of X G a6, F_shrunk := fun_mk (st := s_shrunk) l6 c6 k6, g_top_at := PySem.W.mg_of X G a7, F_top_at := fun_mk (st := s_top_at) l7 c7 k7, g_sign_at := PySem.W.mg_of X G a8, F_sign_at := fun_mk (st := s_sign_at) l8 c8 k8, g_divided := PySem.W.mg_of X G a9, F_divided := fun_mk (st := s_divided) l9 c9 k9, g_row_of := PySem.W.mg_of X G a10, F_row_of := fun_mk (st := s_row_of) l10 c10 k10, g_changes := PySem.W.mg_of X G a11, F_changes := fun_mk (st := s_changes) l11 c11 k11, g_count := PySem.W.mg_of X G a12, F_count := fun_mk (st := s_count) l12 c12 k12, g__law_cell_at := PySem.W.mg_of X G a13, F__law_cell_at := fun_mk (st := s__law_cell_at) l13 c13 k13, g__law_whole := PySem.W.mg_of X G a14, F__law_whole := fun_mk (st := s__law_whole) l14 c14 k14, g__law_within := PySem.W.mg_of X G a15, F__law_within := fun_mk (st := s__law_within) l15 c15 k15, g__law_trim := PySem.W.mg_of X G a16, F__law_trim := fun_mk (st := s__law_trim) l16 c16 k16, g__law_mul := PySem.W.mg_of X G a17, F__law_mul := fun_mk (st := s__law_mul) l17 c17 k17, g__law_gcd := PySem.W.mg_of X G a18, F__law_gcd := fun_mk (st := s__law_gcd) l18 c18 k18, g__law_shrunk := PySem.W.mg_of X G a19, F__law_shrunk := fun_mk (st := s__law_shrunk) l19 c19 k19, g__law_plain := PySem.W.mg_of X G a20, F__law_plain := fun_mk (st := s__law_plain) l20 c20 k20, g__law_factor_by := PySem.W.mg_of X G a21, F__law_factor_by := fun_mk (st := s__law_factor_by) l21 c21 k21, g__law_shape := PySem.W.mg_of X G a22, F__law_shape := fun_mk (st := s__law_shape) l22 c22 k22, g__law_factors_by := PySem.W.mg_of X G a23, F__law_factors_by := fun_mk (st := s__law_factors_by) l23 c23 k23, g__law_product := PySem.W.mg_of X G a24, F__law_product := fun_mk (st := s__law_product) l24 c24 k24, g__law_sure := PySem.W.mg_of X G a25, F__law_sure := fun_mk (st := s__law_sure) l25 c25 k25, g__law_side := PySem.W.mg_of X G a26, F__law_side := fun_mk (st := s__law_side) l26 c26 k26, g__law_roots_of := PySem.W.mg_of X G a27, F__law_roots_of := fun_mk (st := s__law_roots_of) l27 c27 k27, g__law_rest := PySem.W.mg_of X G a28, F__law_rest := fun_mk (st := s__law_rest) l28 c28 k28, g__law_slope := PySem.W.mg_of X G a29, F__law_slope := fun_mk (st := s__law_slope) l29 c29 k29, g__law_part := PySem.W.mg_of X G a30, F__law_part := fun_mk (st := s__law_part) l30 c30 k30, g__law_flat := PySem.W.mg_of X G a31, F__law_flat := fun_mk (st := s__law_flat) l31 c31 k31, g__law_row := PySem.W.mg_of X G a32, F__law_row := fun_mk (st := s__law_row) l32 c32 k32, g__law_changes := PySem.W.mg_of X G a33, F__law_changes := fun_mk (st := s__law_changes) l33 c33 k33, g__law_any := PySem.W.mg_of X G a34, F__law_any := fun_mk (st := s__law_any) l34 c34 k34, g__law_many := PySem.W.mg_of X G a35, F__law_many := fun_mk (st := s__law_many) l35 c35 k35, g__law_end := PySem.W.mg_of X G a36, F__law_end := fun_mk (st := s__law_end) l36 c36 k36, g_law := PySem.W.mg_of X G a37, F_law := fun_mk (st := s_law) l37 c37 k37, q_Ratio := PySem.W.mg_of X G aCRatio, cls_Ratio := ⟨pCRatio, hCRatio, oCRatio, yCRatio⟩, ex := { cl_Ratio := ⟨pCRatio, hCRatio, oCRatio, yCRatio⟩, is_Ratio := ⟨lCRatio, spC, tkC, mCRatio⟩, n_Ratio_bottom := nRatio_bottom, n_Ratio_top := nRatio_top } }
  exact ⟨PySem.W.fnOf "law" "law" (defArgs s_law) (defBody s_law) (defScope s_law) .none kV37 dc37 pm37 an37 cd37 ct37, fun s v => .of_eq rfl, fun base _ _ => ok_law T⟩
end RP
open PySem PySem.W PyProof.Rows
set_option maxHeartbeats 0 in
theorem PySem.Challenge.cw_rootspan_k24_whole_counts_holds : PySem.Challenge.rw_rootspan_k24_whole_counts.Holds := by
  w_on; o_law; k_head; (case hw => w_witness2)
  k_fill
  refine L2.walk_of (l := PySem.Challenge.rw_rootspan_k24_whole_counts) (n := 63) (k := 6) (x := "_law_script") (CX := fun _ => L2.CX0) (sp := fun w => RP.sp_law _ (fun _ => 0)) rfl (by decide) rfl ⟨rfl, by decide, by decide⟩ (fun w h Y => PySem.W.kIn_of Y) ?F (fun _ _ a ns hl _ hS => ⟨a, ns, rfl, hS, hl, fun _ => rfl⟩) (fun _ _ _ _ _ h => h)
  case F =>
    intro w mg fa h KX G hmg
    refine' RP.all_mk KX G hmg ?aCRatio ?kCRatio ?pCRatio ?hCRatio ?oCRatio ?yCRatio ?wCRatio ?lCRatio ?mCRatio ?nRatio_bottom ?nRatio_top ?a0 ?l0 ?c0 ?k0 ?a1 ?l1 ?c1 ?k1 ?a2 ?i2 ?l2 ?c2 ?k2 ?d2 ?a3 ?l3 ?c3 ?k3 ?a4 ?l4 ?c4 ?k4 ?a5 ?l5 ?c5 ?k5 ?a6 ?l6 ?c6 ?k6 ?a7 ?l7 ?c7 ?k7 ?a8 ?l8 ?c8 ?k8 ?a9 ?l9 ?c9 ?k9 ?a10 ?l10 ?c10 ?k10 ?a11 ?l11 ?c11 ?k11 ?a12 ?l12 ?c12 ?k12 ?a13 ?l13 ?c13 ?k13 ?a14 ?l14 ?c14 ?k14 ?a15 ?l15 ?c15 ?k15 ?a16 ?l16 ?c16 ?k16 ?a17 ?l17 ?c17 ?k17 ?a18 ?l18 ?c18 ?k18 ?a19 ?l19 ?c19 ?k19 ?a20 ?l20 ?c20 ?k20 ?a21 ?l21 ?c21 ?k21 ?a22 ?l22 ?c22 ?k22 ?a23 ?l23 ?c23 ?k23 ?a24 ?l24 ?c24 ?k24 ?a25 ?l25 ?c25 ?k25 ?a26 ?l26 ?c26 ?k26 ?a27 ?l27 ?c27 ?k27 ?a28 ?l28 ?c28 ?k28 ?a29 ?l29 ?c29 ?k29 ?a30 ?l30 ?c30 ?k30 ?a31 ?l31 ?c31 ?k31 ?a32 ?l32 ?c32 ?k32 ?a33 ?l33 ?c33 ?k33 ?a34 ?l34 ?c34 ?k34 ?a35 ?l35 ?c35 ?k35 ?a36 ?l36 ?c36 ?k36 ?a37 ?l37 ?c37 ?k37 ?spC ?tkC ?z_abs ?z_bool ?z_enumerate ?z_int ?z_isinstance ?z_len ?z_list ?z_range ?z_reversed
    (case aCRatio => k_is); (case kCRatio => k_is); (case pCRatio => k_is); (case hCRatio => k_is); (case oCRatio => k_is); (case yCRatio => k_is); (case wCRatio => k_is); (case lCRatio => k_is); (case mCRatio => k_is); (case nRatio_bottom => k_is); (case nRatio_top => k_is); (case a0 => k_is); (case l0 => k_is); (case c0 => k_is); (case k0 => k_is); (case a1 => k_is); (case l1 => k_is); (case c1 => k_is); (case k1 => k_is); (case a2 => k_is); (case i2 => k_is); (case l2 => k_is); (case c2 => k_is); (case k2 => k_is); (case d2 => k_is); (case a3 => k_is); (case l3 => k_is); (case c3 => k_is); (case k3 => k_is); (case a4 => k_is); (case l4 => k_is); (case c4 => k_is); (case k4 => k_is); (case a5 => k_is); (case l5 => k_is); (case c5 => k_is); (case k5 => k_is); (case a6 => k_is); (case l6 => k_is); (case c6 => k_is); (case k6 => k_is); (case a7 => k_is); (case l7 => k_is); (case c7 => k_is); (case k7 => k_is); (case a8 => k_is); (case l8 => k_is); (case c8 => k_is); (case k8 => k_is); (case a9 => k_is); (case l9 => k_is); (case c9 => k_is); (case k9 => k_is); (case a10 => k_is); (case l10 => k_is); (case c10 => k_is); (case k10 => k_is); (case a11 => k_is); (case l11 => k_is); (case c11 => k_is); (case k11 => k_is); (case a12 => k_is); (case l12 => k_is); (case c12 => k_is); (case k12 => k_is); (case a13 => k_is); (case l13 => k_is); (case c13 => k_is); (case k13 => k_is); (case a14 => k_is); (case l14 => k_is); (case c14 => k_is); (case k14 => k_is); (case a15 => k_is); (case l15 => k_is); (case c15 => k_is); (case k15 => k_is); (case a16 => k_is); (case l16 => k_is); (case c16 => k_is); (case k16 => k_is); (case a17 => k_is); (case l17 => k_is); (case c17 => k_is); (case k17 => k_is); (case a18 => k_is); (case l18 => k_is); (case c18 => k_is); (case k18 => k_is); (case a19 => k_is); (case l19 => k_is); (case c19 => k_is); (case k19 => k_is); (case a20 => k_is); (case l20 => k_is); (case c20 => k_is); (case k20 => k_is); (case a21 => k_is); (case l21 => k_is); (case c21 => k_is); (case k21 => k_is); (case a22 => k_is); (case l22 => k_is); (case c22 => k_is); (case k22 => k_is); (case a23 => k_is); (case l23 => k_is); (case c23 => k_is); (case k23 => k_is); (case a24 => k_is); (case l24 => k_is); (case c24 => k_is); (case k24 => k_is); (case a25 => k_is); (case l25 => k_is); (case c25 => k_is); (case k25 => k_is); (case a26 => k_is); (case l26 => k_is); (case c26 => k_is); (case k26 => k_is); (case a27 => k_is); (case l27 => k_is); (case c27 => k_is); (case k27 => k_is); (case a28 => k_is); (case l28 => k_is); (case c28 => k_is); (case k28 => k_is); (case a29 => k_is); (case l29 => k_is); (case c29 => k_is); (case k29 => k_is); (case a30 => k_is); (case l30 => k_is); (case c30 => k_is); (case k30 => k_is); (case a31 => k_is); (case l31 => k_is); (case c31 => k_is); (case k31 => k_is); (case a32 => k_is); (case l32 => k_is); (case c32 => k_is); (case k32 => k_is); (case a33 => k_is); (case l33 => k_is); (case c33 => k_is); (case k33 => k_is); (case a34 => k_is); (case l34 => k_is); (case c34 => k_is); (case k34 => k_is); (case a35 => k_is); (case l35 => k_is); (case c35 => k_is); (case k35 => k_is); (case a36 => k_is); (case l36 => k_is); (case c36 => k_is); (case k36 => k_is); (case a37 => k_is); (case l37 => k_is); (case c37 => k_is); (case k37 => k_is); (case spC => first | k_is | rfl | decide +kernel); (case tkC => first | k_is | rfl | decide +kernel); (case z_abs => k_is); (case z_bool => k_is); (case z_enumerate => k_is); (case z_int => k_is); (case z_isinstance => k_is); (case z_len => k_is); (case z_list => k_is); (case z_range => k_is); (case z_reversed => k_is)

import PyProof.Rows.All
import Wide.All
import OpenK.AllK
import Wide.FinOn
import HandS.ForMost
import HandS.Exc
import HandS.TryOnly
import HandS.ExcOwn
import HandS.WordsExc
import HandS.Wide
import HandS.IsInst
import HandS.Conv
import HandS.RevRange
import HandS.Evl
import HandS.More
import HandS.Style
import HandS.Defaults
import HandS.Deep
import PySem.Challenge.RW_rootspan_k27_narrowed
set_option Elab.async false
set_option linter.all false
set_option maxRecDepth 100000
set_option maxHeartbeats 4000000
set_option exponentiation.threshold 100000
set_option linter.all false
set_option maxRecDepth 100000
set_option maxHeartbeats 4000000
namespace RB
open PySem PySem.Spec PyProof.Rows L2
open Evl (Ex rLenS rListS rMax2 tCut pss_cut)

/-! ### the readings' names -/
def rIAdd : R2 := rI0 fun i j => .int (i + j)
def rISub : R2 := rI0 fun i j => .int (i - j)
/-- * of factors that are not too wide, or of any one and a small one -/
def CMulX (i j : Int) : Prop := CMulW i j ∨ j.natAbs < 2 ^ 60
def rMul : R2 := rI CMulX fun i j => .int (i * j)
def rMod : R2 := rI (fun _ j => j ≠ 0) fun i j => .int (i.fmod j)
def CDivA (_ j : Int) : Prop := j ≠ 0 ∧ j.natAbs.log2 < 9000
/-- // by a great divisor, too, where the two are nearly as long -/
def CDivX (i j : Int) : Prop := j ≠ 0 ∧ (j.natAbs.log2 < 9000 ∨ i.natAbs.log2 ≤ j.natAbs.log2 + 4400)
theorem noPylongX {i j : Int} (h : CDivX i j) : Builtin.divisionGoesByPylong i j = false := by
  rcases h.2 with h2 | h2
  · exact PyProof.noPylong_of_log2 h2
  · have hj : (j == 0) = false := by
      rw [beq_eq_false_iff_ne]; exact h.1
    have key : ¬ ((if i == 0 then 0 else i.natAbs.log2 / 30 + 1) > (if j == 0 then 0 else j.natAbs.log2 / 30 + 1) + 150) := by
      rw [hj]
      split
      · omega
      · simp only [Bool.false_eq_true, if_false]
        omega
    show (_ && decide ((if i == 0 then 0 else i.natAbs.log2 / 30 + 1) > (if j == 0 then 0 else j.natAbs.log2 / 30 + 1) + 150)) = false
    rw [decide_eq_false key, Bool.and_false]
def rDiv : R2 := rI CDivX fun i j => .int (i.fdiv j)
def rPow : R2 := rI CPow fun i j => .int (i ^ j.toNat)
def rLt : R2 := rI0 fun i j => .bl (decide (i < j))
def rLe : R2 := rI0 fun i j => .bl (decide (i ≤ j))
def rGt : R2 := rI0 fun i j => .bl (decide (j < i))
def rGe : R2 := rI0 fun i j => .bl (decide (j ≤ i))
def rIsN : R2 := fun x y H Q => y = .non ∧ Q (.bl (decide (x = .non))) H
def rNotN : R2 := fun x y H Q => y = .non ∧ Q (.bl (!decide (x = .non))) H
def rNeg : V → Hp → VK → Prop := rU fun i => .int (-i)
def rAbs : List V → Hp → VK → Prop := fun xs H Q => ∃ i, xs = [.int i] ∧ Q (.int (if i < 0 then -i else i)) H
def rMin2 : List V → Hp → VK → Prop := fun xs H Q => ∃ i j, xs = [.int i, .int j] ∧ Q (.int (if j < i then j else i)) H
def rInt1 : List V → Hp → VK → Prop := fun xs H Q => (∃ i, xs = [.int i] ∧ Q (.int i) H) ∨ ∃ k, xs = [.bl k] ∧ Q (.int (if k then 1 else 0)) H
def rAddS : R2 := fun x y H Q => ∃ i j, x = .str i ∧ y = .str j ∧ i.length + j.length ≤ sizeLine ∧ Q (.str (i ++ j)) H
def rLenStr : List V → Hp → VK → Prop := fun xs H Q => ∃ z, xs = [.str z] ∧ z.length ≤ sizeLine ∧ Q (.int z.length) H
def rStrInt : List V → Hp → VK → Prop := fun xs H Q => ∃ i, xs = [.int i] ∧ i.natAbs.log2 < 1920 ∧ Q (.str (toString i)) H
def rInsert : V → List V → Hp → VK → Prop := fun x vs H Q => ∃ (l : Addr) (xs : List V) (i : Int) (y : V), x = .ref l ∧ vs = [.int i, y] ∧ H l = some (.lst xs) ∧ xs.length < sizeLine ∧ 0 ≤ i ∧ i < 2 ^ 63 ∧ Q .non (upd H l (.lst (xs.take i.toNat ++ [y] ++ xs.drop i.toNat)))
section
variable {X : Cx}
theorem op_fdivA : OpR X (binaryOp .FloorDiv) rDiv := opI fun i j _ _ _ _ _ hc q => floordiv_int hc.1 q (.inl (noPylongX hc))
theorem op_mulX : OpR X (binaryOp .Mult) rMul := opI fun _ _ _ _ _ _ _ hc q => mul_int q (hc.elim CMulW.ok fun h => IntMulOk.of_right (intBits_le_64 (by omega) (by omega)))
theorem op_isN1 : OpR X (compareOp .Is) rIsN := op_isN
theorem op_notN1 : OpR X (compareOp .IsNot) rNotN := op_notN
end

/-! ### heaps -/
def Exb (l : Addr) (H H' : Hp) : Prop := ∀ a, a ≠ l → ∀ o, H a = some o → H' a = some o
theorem _root_.Evl.Ex.mutb {H0 H H' : Hp} {l : Addr} (e : Ex H0 H) (b : Exb l H H') (f : H0 l = none) : Ex H0 H' := fun a o h => b a (ne_of_none h f) o (e a o h)
theorem Exb.trans {l : Addr} {H H1 H2 : Hp} (a : Exb l H H1) (b : Exb l H1 H2) : Exb l H H2 := fun c n o h => b c n o (a c n o h)
theorem Exb.ex {l : Addr} {H H1 H2 : Hp} (a : Exb l H H1) (b : Ex H1 H2) : Exb l H H2 := fun c n o h => b c o (a c n o h)
theorem _root_.Evl.Ex.exb {l : Addr} {H H1 H2 : Hp} (a : Ex H H1) (b : Exb l H1 H2) : Exb l H H2 := fun c n o h => b c n o (a c o h)
/-- a list laid anew -/
theorem newL {H : Hp} {xs : List V} {Q : VK} (k : ∀ p H', H p = none → Ex H H' → H' p = some (.lst xs) → Q (.ref p) H') : ∀ p, H p = none → Q (.ref p) (upd H p (.lst xs)) :=
  fun p hp => k p _ hp (Evl.Ex.new hp) upd_same
theorem newT {H : Hp} {xs : List V} {Q : VK} (k : ∀ p H', H p = none → Ex H H' → H' p = some (.tup xs) → Q (.ref p) H') : ∀ p, H p = none → Q (.ref p) (upd H p (.tup xs)) :=
  fun p hp => k p _ hp (Evl.Ex.new hp) upd_same
/-- an object changed -/
theorem mutL {H : Hp} {l : Addr} {o : HO} {G : Hp → Prop} (k : ∀ H', Exb l H H' → H' l = some o → G H') : G (upd H l o) :=
  k _ (fun a n o h => by rw [upd_ne n]; exact h) upd_same
theorem _root_.Evl.Ex.free {H H' : Hp} (e : Ex H H') {p : Addr} (h : H' p = none) : H p = none := Evl.fresh_back e h
theorem _root_.Evl.Ex.l {K : PySem.W.Frag} {H H' : Hp} {a : Addr} {xs : List V} (e : Ex H H') (h : SqL K H a xs) : SqL K H' a xs := Evl.ex_l e h
theorem SqL.inj {K : PySem.W.Frag} {H : Hp} {a : Addr} {xs : List V} (h : H a = some (.lst xs)) : SqL K H a xs := .inl (.inl h)

def LstK (Q : VK) : List V → Hp → Prop := fun xs H1 => xs.length ≤ sizeLine ∧ ∀ p, H1 p = none → Q (.ref p) (upd H1 p (.lst xs))
def TupK (Q : VK) : List V → Hp → Prop := fun xs H1 => xs.length ≤ sizeLine ∧ ∀ p, H1 p = none → Q (.ref p) (upd H1 p (.tup xs))
theorem small0 {n : Nat} (h : n ≤ 16777216) : n ≤ sizeLine := by rw [sizeLine_eq]; exact h
/-! ### readings, step by step -/
section
variable {K : PySem.W.Frag} {σ : L2.St} {H : Hp} {Q : VK} {D : Ends} {ta tb te to ti : TE} {t u : TS} {tt t1 t2 : TT} {g : TG}
theorem r_seq (h : t { D with nx := u D } σ H) : tSeq t u D σ H := h
theorem r_next (h : D.nx σ H) : tNext D σ H := h
theorem r_var {i : Nat} {v : V} (h : σ[i]? = some (some v)) (q : Q v H) : tVar i σ H Q := ⟨v, h, q⟩
theorem r_c {v : V} (q : Q v H) : tC v σ H Q := q
theorem r_op {r : R2} (h : ta σ H fun x H1 => tb σ H1 fun y H2 => r x y H2 Q) : tOp r ta tb σ H Q := h
theorem r_un {r : V → Hp → VK → Prop} (h : ta σ H fun x H1 => r x H1 Q) : tUn r ta σ H Q := h
theorem r_add {i j : Int} (q : Q (.int (i + j)) H) : rIAdd (.int i) (.int j) H Q := ⟨i, j, rfl, rfl, q⟩
theorem r_sub {i j : Int} (q : Q (.int (i - j)) H) : rISub (.int i) (.int j) H Q := ⟨i, j, rfl, rfl, q⟩
theorem r_mul {i j : Int} (c : CMulW i j) (q : Q (.int (i * j)) H) : rMul (.int i) (.int j) H Q := ⟨i, j, rfl, rfl, .inl c, q⟩
theorem r_mulR {i j : Int} (c : j.natAbs < 2 ^ 60) (q : Q (.int (i * j)) H) : rMul (.int i) (.int j) H Q := ⟨i, j, rfl, rfl, .inr c, q⟩
theorem r_mod {i j : Int} (c : j ≠ 0) (q : Q (.int (i.fmod j)) H) : rMod (.int i) (.int j) H Q := ⟨i, j, rfl, rfl, c, q⟩
theorem r_div {i j : Int} (c : CDivA i j) (q : Q (.int (i.fdiv j)) H) : rDiv (.int i) (.int j) H Q := ⟨i, j, rfl, rfl, ⟨c.1, .inl c.2⟩, q⟩
theorem r_divX {i j : Int} (c : CDivX i j) (q : Q (.int (i.fdiv j)) H) : rDiv (.int i) (.int j) H Q := ⟨i, j, rfl, rfl, c, q⟩
theorem r_pow {i j : Int} (c : CPow i j) (q : Q (.int (i ^ j.toNat)) H) : rPow (.int i) (.int j) H Q := ⟨i, j, rfl, rfl, c, q⟩
theorem r_lt {i j : Int} (q : Q (.bl (decide (i < j))) H) : rLt (.int i) (.int j) H Q := ⟨i, j, rfl, rfl, q⟩
theorem r_le {i j : Int} (q : Q (.bl (decide (i ≤ j))) H) : rLe (.int i) (.int j) H Q := ⟨i, j, rfl, rfl, q⟩
theorem r_gt {i j : Int} (q : Q (.bl (decide (j < i))) H) : rGt (.int i) (.int j) H Q := ⟨i, j, rfl, rfl, q⟩
theorem r_ge {i j : Int} (q : Q (.bl (decide (j ≤ i))) H) : rGe (.int i) (.int j) H Q := ⟨i, j, rfl, rfl, q⟩
theorem r_neg {i : Int} (q : Q (.int (-i)) H) : rNeg (.int i) H Q := ⟨i, rfl, q⟩
theorem d_int (i j : Int) : decide (V.int i = V.int j) = decide (i = j) := by
  by_cases h : i = j
  · rw [h]; simp
  · rw [decide_eq_false h, decide_eq_false (fun z => h (V.int.inj z))]
theorem d_bl (i j : Bool) : decide (V.bl i = V.bl j) = decide (i = j) := by
  by_cases h : i = j
  · rw [h]; simp
  · rw [decide_eq_false h, decide_eq_false (fun z => h (V.bl.inj z))]
theorem d_str (i j : Str) : decide (V.str i = V.str j) = decide (i = j) := by
  by_cases h : i = j
  · rw [h]; simp
  · rw [decide_eq_false h, decide_eq_false (fun z => h (V.str.inj z))]
theorem r_eqI {i j : Int} (q : Q (.bl (decide (i = j))) H) : rEq (.int i) (.int j) H Q := ⟨rfl, by rw [d_int]; exact q⟩
theorem r_neI {i j : Int} (q : Q (.bl (!decide (i = j))) H) : rNe (.int i) (.int j) H Q := ⟨rfl, by rw [d_int]; exact q⟩
theorem r_eqB {i j : Bool} (q : Q (.bl (decide (i = j))) H) : rEq (.bl i) (.bl j) H Q := ⟨rfl, by rw [d_bl]; exact q⟩
theorem r_eqS {i j : Str} (q : Q (.bl (decide (i = j))) H) : rEq (.str i) (.str j) H Q := ⟨rfl, by rw [d_str]; exact q⟩
theorem r_neS {i j : Str} (q : Q (.bl (!decide (i = j))) H) : rNe (.str i) (.str j) H Q := ⟨rfl, by rw [d_str]; exact q⟩
theorem r_isN {x : V} (q : Q (.bl (decide (x = .non))) H) : rIsN x .non H Q := ⟨rfl, q⟩
theorem r_notN {x : V} (q : Q (.bl (!decide (x = .non))) H) : rNotN x .non H Q := ⟨rfl, q⟩
theorem r_ixL {p : Addr} {i : Int} {xs : List V} {v : V} (h : SqL K H p xs) (a : atI xs i = some v) (q : Q v H) : rIxL K (.ref p) (.int i) H Q := ⟨p, xs, i, v, rfl, rfl, h, a, q⟩
theorem r_ixT {p : Addr} {i : Int} {xs : List V} {v : V} (h : SqT K H p xs) (a : atI xs i = some v) (q : Q v H) : rIxT K (.ref p) (.int i) H Q := ⟨p, xs, i, v, rfl, rfl, h, a, q⟩
theorem r_cons {ta : TE} {tr : TA} {Q : List V → Hp → Prop} (h : ta σ H fun x H1 => tr σ H1 fun xs H2 => Q (x :: xs) H2) : tCons ta tr σ H Q := h
theorem r_nil {Q : List V → Hp → Prop} (h : Q [] H) : tNil σ H Q := h
theorem r_cb {r : List V → Hp → VK → Prop} {ta : TA} (h : ta σ H fun vs H1 => r vs H1 Q) : tCB r ta σ H Q := h
theorem r_abs {i : Int} (q : Q (.int (if i < 0 then -i else i)) H) : rAbs [.int i] H Q := ⟨i, rfl, q⟩
theorem r_max2 {i j : Int} (q : Q (.int (if j > i then j else i)) H) : rMax2 [.int i, .int j] H Q := ⟨i, j, rfl, q⟩
theorem r_min2 {i j : Int} (q : Q (.int (if j < i then j else i)) H) : rMin2 [.int i, .int j] H Q := ⟨i, j, rfl, q⟩
theorem r_len {p : Addr} {xs : List V} (h : SqL K H p xs) (q : Q (.int xs.length) H) : rLenS K [.ref p] H Q := ⟨p, xs, rfl, .inl h, q⟩
theorem r_lenT {p : Addr} {xs : List V} (h : SqT K H p xs) (q : Q (.int xs.length) H) : rLenS K [.ref p] H Q := ⟨p, xs, rfl, .inr h, q⟩
theorem r_list {p : Addr} {xs : List V} (h : SqL K H p xs) (q : ∀ l H', H l = none → Ex H H' → H' l = some (.lst xs) → Q (.ref l) H') : rListS K [.ref p] H Q := ⟨p, xs, rfl, .inl h, newL q⟩
theorem r_intI {i : Int} (q : Q (.int i) H) : rInt1 [.int i] H Q := .inl ⟨i, rfl, q⟩
theorem r_intB {b : Bool} (q : Q (.int (if b then 1 else 0)) H) : rInt1 [.bl b] H Q := .inr ⟨b, rfl, q⟩
theorem r_call {sp : Sp} {E : XK} {ta : TA} (h : ta σ H fun vs H1 => sp vs H1 Q E) : tCall sp [] E ta σ H Q := by
  show ta σ H fun vs H1 => sp (vs ++ []) H1 Q E
  have e : (fun vs H1 => sp (vs ++ []) H1 Q E) = fun (vs : List V) H1 => sp vs H1 Q E := by
    funext vs H1; rw [List.append_nil]
  rw [e]; exact h
theorem r_lst {ta : TA} (h : ta σ H (LstK Q)) : tLst ta σ H Q := h
theorem r_lstK {xs : List V} (k : ∀ p H', H p = none → Ex H H' → H' p = some (.lst xs) → Q (.ref p) H') (hz : xs.length ≤ 16777216 := by simp) : LstK Q xs H := ⟨small0 hz, newL k⟩
theorem r_tup {ta : TA} (h : ta σ H (TupK Q)) : tTup ta σ H Q := h
theorem r_tupK {xs : List V} (k : ∀ p H', H p = none → Ex H H' → H' p = some (.tup xs) → Q (.ref p) H') (hz : xs.length ≤ 16777216 := by simp) : TupK Q xs H := ⟨small0 hz, newT k⟩
theorem r_asg (h : te σ H fun x H1 => g x σ H1 D.nx) : tAsg te g D σ H := h
theorem r_gn {i : Nat} {v : V} {Q : L2.St → Hp → Prop} (h : Q (σ.set i (some v)) H) : gName i v σ H Q := h
theorem r_ret (h : te σ H D.rt) : tRet te D σ H := h
theorem r_drop (h : te σ H fun _ H1 => D.nx σ H1) : tDrop te D σ H := h
theorem r_ifS (h : tt σ H fun b H1 => if b = true then t D σ H1 else u D σ H1) : tIfS tt t u D σ H := h
theorem r_test {Q : Bool → Hp → Prop} (h : te σ H fun x H1 => ∃ k, x = .bl k ∧ Q k H1) : tTest te σ H Q := h
theorem r_B {Q : Bool → Hp → Prop} (h : te σ H fun x H1 => ∃ k, x = .bl k ∧ Q k H1) : tB te σ H Q := h
theorem r_bl {k : Bool} {Q : Bool → Prop} (h : Q k) : ∃ k', V.bl k = .bl k' ∧ Q k' := ⟨k, rfl, h⟩
theorem r_and {Q : Bool → Hp → Prop} (h : t1 σ H fun c H1 => if c = true then t2 σ H1 Q else Q false H1) : tAnd t1 t2 σ H Q := h
theorem r_or {Q : Bool → Hp → Prop} (h : t1 σ H fun c H1 => if c = true then Q true H1 else t2 σ H1 Q) : tOr t1 t2 σ H Q := h
theorem r_not {Q : Bool → Hp → Prop} (h : tt σ H fun c H1 => Q (!c) H1) : tNot tt σ H Q := h
theorem r_andV (h : ta σ H fun x H1 => ∃ c, x = .bl c ∧ if c = true then tb σ H1 Q else Q (.bl false) H1) : tAndV ta tb σ H Q := h
theorem r_orV (h : ta σ H fun x H1 => ∃ c, x = .bl c ∧ if c = true then Q (.bl true) H1 else tb σ H1 Q) : tOrV ta tb σ H Q := h
theorem r_notV (h : ta σ H fun x H1 => ∃ c, x = .bl c ∧ Q (.bl (!c)) H1) : tNotV ta σ H Q := h
theorem r_if (h : tt σ H fun c H1 => if c = true then ta σ H1 Q else tb σ H1 Q) : tIf tt ta tb σ H Q := h
theorem r_bm {T : String} {r : V → List V → Hp → VK → Prop} {ta : TA} (h : to σ H fun x H1 => tyV K T x H1 ∧ ta σ H1 fun xs H2 => r x xs H2 Q) : tBM K T r to ta σ H Q := h
theorem r_bm0 {T : String} {r : V → List V → Hp → VK → Prop} (h : to σ H fun x H1 => tyV K T x H1 ∧ r x [] H1 Q) : tBM0 K T r to σ H Q := h
theorem r_append {l : Addr} {xs : List V} {y : V} (h : H l = some (.lst xs)) (z : xs.length < sizeLine) (q : ∀ H', Exb l H H' → H' l = some (.lst (xs ++ [y])) → Q .non H') : rAppend (.ref l) [y] H Q :=
  ⟨l, xs, y, rfl, rfl, h, z, mutL q⟩
theorem r_pop {l : Addr} {xs : List V} {y : V} (h : H l = some (.lst xs)) (z : xs[xs.length - 1]? = some y) (q : ∀ H', Exb l H H' → H' l = some (.lst xs.dropLast) → Q y H') : rPop (.ref l) [] H Q :=
  ⟨l, xs, y, rfl, rfl, h, z, mutL q⟩
theorem r_insert {l : Addr} {xs : List V} {y : V} {i : Int} (h : H l = some (.lst xs)) (z : xs.length < sizeLine) (h0 : 0 ≤ i) (h1 : i < 2 ^ 63) (q : ∀ H', Exb l H H' → H' l = some (.lst (xs.take i.toNat ++ [y] ++ xs.drop i.toNat)) → Q .non H') : rInsert (.ref l) [.int i, y] H Q :=
  ⟨l, xs, i, y, rfl, rfl, h, z, h0, h1, mutL q⟩
theorem tyL {p : Addr} {xs : List V} (h : H p = some (.lst xs)) : tyV K "list" (.ref p) H := .inl ⟨rfl, _, .inl (.inl h)⟩
theorem r_ty {T : String} {x : V} {B : Prop} (h : tyV K T x H) (q : B) : tyV K T x H ∧ B := ⟨h, q⟩
theorem r_sub_ {ts : TSet} {v : V} {Q : L2.St → Hp → Prop} (h : to σ H fun o H1 => ti σ H1 fun i H2 => ts o i v H2 fun H3 => Q σ H3) : gSub to ti ts v σ H Q := h
theorem r_setL {p : Addr} {xs : List V} {k : Int} {j : Nat} {v : V} {Q : Hp → Prop} (h : H p = some (.lst xs)) (hk : ixN xs.length k = some j) (q : ∀ H', Exb p H H' → H' p = some (.lst (xs.set j v)) → Q H') : rSetL (.ref p) (.int k) v H Q :=
  ⟨p, xs, k, j, rfl, rfl, h, hk, mutL q⟩
theorem r_cat {l b : Addr} {xs zs : List V} (h1 : H l = some (.lst xs)) (h2 : H b = some (.lst zs)) (z : xs.length + zs.length ≤ sizeLine) (q : ∀ p H', H p = none → Ex H H' → H' p = some (.lst (xs ++ zs)) → Q (.ref p) H') : rCat (.ref l) (.ref b) H Q :=
  ⟨l, b, xs, zs, rfl, rfl, h1, h2, z, newL q⟩
theorem flat_rep {α : Type} (x : α) : ∀ n : Nat, (List.replicate n [x]).flatten = List.replicate n x
  | 0 => rfl
  | n + 1 => by rw [List.replicate_succ, List.flatten_cons, flat_rep x n, List.replicate_succ]; rfl
/-- [x] * k -/
theorem r_rep1 {l : Addr} {x : V} {k : Int} (h1 : H l = some (.lst [x])) (z : k.toNat ≤ 1000000) (q : ∀ p H', H p = none → Ex H H' → H' p = some (.lst (List.replicate k.toNat x)) → Q (.ref p) H')  (h0 : -(2 ^ 63) ≤ k := by omega) : rRep (.ref l) (.int k) H Q :=
  ⟨l, k, [x], rfl, rfl, h1, h0, by omega, by
    show 1 * k.toNat ≤ sizeLine
    rw [Nat.one_mul]
    exact Nat.le_trans z (by decide), newL fun p H' a b c => q p H' a b (by rw [flat_rep] at c; exact c)⟩
theorem r_sl {r : V → Option Int → Option Int → Hp → VK → Prop} {tl th : TO} (h : te σ H fun x H1 => tl σ H1 fun l H2 => th σ H2 fun u H3 => r x l u H3 Q) : tSl r te tl th σ H Q := h
theorem r_part {Q : Option Int → Hp → Prop} (h : te σ H fun x H1 => ∃ i, x = .int i ∧ Q (some i) H1) : tPart te σ H Q := h
theorem r_int {i : Int} {Q : Int → Prop} (h : Q i) : ∃ j, V.int i = .int j ∧ Q j := ⟨i, rfl, h⟩
theorem r_nopart {Q : Option Int → Hp → Prop} (h : Q none H) : tNoPart σ H Q := h
theorem r_slL {a : Addr} {xs : List V} {lo hi : Option Int} (h : SqL K H a xs) (q : ∀ p H', H p = none → Ex H H' → H' p = some (.lst (cutV xs lo hi)) → Q (.ref p) H') : rSlL K (.ref a) lo hi H Q := ⟨a, xs, rfl, h, newL q⟩
theorem r_par {i j : Nat} {ta : TA} (h : ta σ H fun vs H1 => ∃ v w, vs = [v, w] ∧ D.nx ((σ.set i (some v)).set j (some w)) H1) : tPar i j ta D σ H := h
theorem r_par2 {i j : Nat} {v w : V} (h : D.nx ((σ.set i (some v)).set j (some w)) H) : ∃ v' w', [v, w] = [v', w'] ∧ D.nx ((σ.set i (some v')).set j (some w')) H := ⟨v, w, rfl, h⟩
end
/-- a truth that is decided, both ways -/
theorem ite_d {p A B : Prop} [Decidable p] (h1 : p → A) (h2 : ¬ p → B) : if decide p = true then A else B := by
  by_cases h : p
  · rw [if_pos (decide_eq_true h)]; exact h1 h
  · rw [if_neg (by rw [decide_eq_false h]; decide)]; exact h2 h
theorem ite_nd {p A B : Prop} [Decidable p] (h1 : ¬ p → A) (h2 : p → B) : if (!decide p) = true then A else B := by
  by_cases h : p
  · rw [if_neg (by rw [decide_eq_true h]; decide)]; exact h2 h
  · rw [if_pos (by rw [decide_eq_false h]; rfl)]; exact h1 h
theorem ite_b {b : Bool} {A B : Prop} (h1 : b = true → A) (h2 : b = false → B) : if b = true then A else B := by
  cases b with
  | true => rw [if_pos rfl]; exact h1 rfl
  | false => rw [if_neg (by decide)]; exact h2 rfl

theorem r_isi {K : PySem.W.Frag} {H : Hp} {Q : VK} {x c : V} {t u : Value} {b : Bool} (ht : TyX K H x t) (hc : ClsV c u) (hk : PySem.W.kitOne K t u = some b) (q : Q (.bl b) H) : rIsi K [x, c] H Q := ⟨x, c, t, u, b, rfl, hc, ht, hk, q⟩
theorem iteD {p A B : Prop} [Decidable p] (h : p) (a : A) : if decide p = true then A else B := by rw [if_pos (decide_eq_true h)]; exact a
theorem iteDF {p A B : Prop} [Decidable p] (h : ¬ p) (a : B) : if decide p = true then A else B := by rw [if_neg (by rw [decide_eq_false h]; decide)]; exact a
/-! ### lists of ints, compared -/
theorem dp_ints {K : PySem.W.Frag} {H : Hp} : ∀ ns : List Int, DpAll K H (ns.map V.int) (ns.map PyData.int)
  | [] => .nil
  | n :: r => .cons (.int n) (dp_ints r)
theorem dp_listI {K : PySem.W.Frag} {H : Hp} {a : Addr} {ns : List Int} (h : SqL K H a (ns.map V.int)) : Dp K H (.ref a) (.list (ns.map PyData.int)) := .lst h (dp_ints ns)
def dI (ns : List Int) : PyData := .list (ns.map PyData.int)
theorem canLay_ints : ∀ ns : List Int, PyData.canLayAll0 (ns.map PyData.int) = true
  | [] => by simp [PyData.canLayAll0]
  | n :: r => by
    rw [List.map_cons, PyData.canLayAll0, canLay_ints r]; simp [PyData.canLay0]
theorem depth_ints : ∀ ns : List Int, PyData.depthAll (ns.map PyData.int) ≤ 1
  | [] => by simp [PyData.depthAll]
  | n :: r => by
    have := depth_ints r
    rw [List.map_cons, PyData.depthAll]
    simp [PyData.depth]
    omega
theorem shaped_dI (ns : List Int) : SeqAt.shaped (dI ns) = true := by
  have h1 := canLay_ints ns
  have h2 := depth_ints ns
  unfold SeqAt.shaped dI
  rw [Bool.and_eq_true, PyData.canLay0, PyData.depth]
  exact ⟨h1, decide_eq_true (by omega)⟩
theorem eqvAll_ints : ∀ ns ms : List Int, PyData.eqvAll (ns.map PyData.int) (ms.map PyData.int) = decide (ns = ms)
  | [], [] => by simp [PyData.eqvAll]
  | [], m :: r => by simp [PyData.eqvAll]
  | n :: r, [] => by simp [PyData.eqvAll]
  | n :: r, m :: s => by
    rw [List.map_cons, List.map_cons, PyData.eqvAll, eqvAll_ints r s]
    simp [PyData.eqv, Bool.beq_eq_decide_eq]
theorem eqv_dI (ns ms : List Int) : PyData.eqv (dI ns) (dI ms) = decide (ns = ms) := by
  unfold dI
  rw [PyData.eqv, eqvAll_ints]
theorem r_eqInts {K : PySem.W.Frag} {H : Hp} {Q : VK} {a b : Addr} {ns ms : List Int} (h1 : SqL K H a (ns.map V.int)) (h2 : SqL K H b (ms.map V.int)) (q : Q (.bl (decide (ns = ms))) H) : rEqD K (.ref a) (.ref b) H Q :=
  ⟨_, _, dp_listI h1, dp_listI h2, shaped_dI ns, shaped_dI ms, by rw [show PyData.eqv (.list (ns.map PyData.int)) (.list (ms.map PyData.int)) = decide (ns = ms) from eqv_dI ns ms]; exact q⟩
theorem r_neInts {K : PySem.W.Frag} {H : Hp} {Q : VK} {a b : Addr} {ns ms : List Int} (h1 : SqL K H a (ns.map V.int)) (h2 : SqL K H b (ms.map V.int)) (q : Q (.bl (!decide (ns = ms))) H) : rNeD K (.ref a) (.ref b) H Q :=
  ⟨_, _, dp_listI h1, dp_listI h2, shaped_dI ns, shaped_dI ms, by rw [show PyData.eqv (.list (ns.map PyData.int)) (.list (ms.map PyData.int)) = decide (ns = ms) from eqv_dI ns ms]; exact q⟩
/-! ### loops -/
def Lp (J : It) (g : TG) (tb : TS) (D : Ends) (σ : L2.St) (H : Hp) : Prop := ∃ W : Nat → Nat → L2.St → Hp → Prop, (∃ m, W 0 m σ H) ∧ ∀ i m σ H, W i m σ H →
  (J.stop i H ∧ D.nx σ H) ∨ (J.go i H ∧ ∃ N : L2.St → Hp → Prop, (∀ σ' H', N σ' H' → ∃ m', m' < m ∧ W (i + 1) m' σ' H') ∧ ∀ x H', J.yld i H x H' → g x σ H' fun σ2 H2 => tb { D with nx := N, ct := N, bk := D.nx } σ2 H2)
section
variable {K : PySem.W.Frag} {σ : L2.St} {H : Hp} {D : Ends} {te : TE} {ta : TA} {tb : TS} {g : TG} {wi : TI}
theorem r_for (h : wi σ H fun J H1 => Lp J g tb D σ H1) : tFor wi g tb D σ H := h
theorem r_iList {R : It → Hp → Prop} (h : te σ H fun x H1 => ∃ a, x = .ref a ∧ (∃ xs, SqL K H1 a xs) ∧ R (Itl K a) H1) : iList K te σ H R := h
theorem r_iListA {a : Addr} {xs : List V} (h : SqL K H a xs) (q : Lp (Itl K a) g tb D σ H) : ∃ a', V.ref a = .ref a' ∧ (∃ xs, SqL K H a' xs) ∧ Lp (Itl K a') g tb D σ H := ⟨a, rfl, ⟨xs, h⟩, q⟩
theorem r_iTup {R : It → Hp → Prop} (h : te σ H fun x H1 => ∃ a, x = .ref a ∧ (∃ xs, SqT K H1 a xs) ∧ R (Itt K a) H1) : iTup K te σ H R := h
theorem r_iTupA {a : Addr} {xs : List V} (h : SqT K H a xs) (q : Lp (Itt K a) g tb D σ H) : ∃ a', V.ref a = .ref a' ∧ (∃ xs, SqT K H a' xs) ∧ Lp (Itt K a') g tb D σ H := ⟨a, rfl, ⟨xs, h⟩, q⟩
theorem r_iRng1 {R : It → Hp → Prop} (h : ta σ H fun vs H1 => ∃ j : Int, vs = [.int j] ∧ -(2 ^ 62) ≤ j ∧ j < 2 ^ 62 ∧ R (Itr 0 j.toNat) H1) : iRng1 ta σ H R := h
theorem r_iRng1A {j : Int} (h0 : -(2 ^ 62) ≤ j) (h1 : j < 2 ^ 62) (q : Lp (Itr 0 j.toNat) g tb D σ H) : ∃ j' : Int, [V.int j] = [.int j'] ∧ -(2 ^ 62) ≤ j' ∧ j' < 2 ^ 62 ∧ Lp (Itr 0 j'.toNat) g tb D σ H := ⟨j, rfl, h0, h1, q⟩
theorem r_iRng2 {R : It → Hp → Prop} (h : ta σ H fun vs H1 => ∃ i j : Int, vs = [.int i, .int j] ∧ (-(2 ^ 62) ≤ i ∧ i < 2 ^ 62 ∧ -(2 ^ 62) ≤ j ∧ j < 2 ^ 62) ∧ R (Itr i (j - i).toNat) H1) : iRng2 ta σ H R := h
theorem r_iRng2A {i j : Int} (hb : -(2 ^ 62) ≤ i ∧ i < 2 ^ 62 ∧ -(2 ^ 62) ≤ j ∧ j < 2 ^ 62) (q : Lp (Itr i (j - i).toNat) g tb D σ H) : ∃ i' j' : Int, [V.int i, V.int j] = [.int i', .int j'] ∧ (-(2 ^ 62) ≤ i' ∧ i' < 2 ^ 62 ∧ -(2 ^ 62) ≤ j' ∧ j' < 2 ^ 62) ∧ Lp (Itr i' (j' - i').toNat) g tb D σ H := ⟨i, j, rfl, hb, q⟩
theorem r_iRev {R : It → Hp → Prop} (h : ta σ H fun vs H1 => ∃ (a : Addr) (xs : List V), vs = [.ref a] ∧ SqL K H1 a xs ∧ R (Itv K a xs.length) H1) : iRev K ta σ H R := h
theorem r_iRevA {a : Addr} {xs : List V} (h : SqL K H a xs) (q : Lp (Itv K a xs.length) g tb D σ H) : ∃ (a' : Addr) (xs : List V), [V.ref a] = [.ref a'] ∧ SqL K H a' xs ∧ Lp (Itv K a' xs.length) g tb D σ H := ⟨a, xs, rfl, h, q⟩
theorem r_iEnum {R : It → Hp → Prop} (h : ta σ H fun vs H1 => ∃ a xs, vs = [.ref a] ∧ SqL K H1 a xs ∧ R (Ite K a) H1) : iEnum K ta σ H R := h
theorem r_iEnumA {a : Addr} {xs : List V} (h : SqL K H a xs) (q : Lp (Ite K a) g tb D σ H) : ∃ (a' : Addr) (xs : List V), [V.ref a] = [.ref a'] ∧ SqL K H a' xs ∧ Lp (Ite K a') g tb D σ H := ⟨a, xs, rfl, h, q⟩
theorem r_iRevR {tr : L2.St → Hp → (Int → Int → Hp → Prop) → Prop} {R : It → Hp → Prop} (h : tr σ H fun a b H1 => -(2 ^ 62) ≤ a ∧ a < 2 ^ 62 ∧ -(2 ^ 62) ≤ b ∧ b < 2 ^ 62 ∧ R (Itc (a + (((b - a).toNat : Nat) : Int) - 1) (-1) (b - a).toNat) H1) : iRevR tr σ H R := h

theorem loop_list {a : Addr} {xs : List V} (Pv : Nat → L2.St → Hp → Prop) (h0 : Pv 0 σ H) (hl : ∀ i σ H, i ≤ xs.length → Pv i σ H → SqL K H a xs)
    (hs : ∀ i x σ H, xs[i]? = some x → Pv i σ H → g x σ H fun σ2 H2 => tb { D with nx := Pv (i + 1), ct := Pv (i + 1), bk := D.nx } σ2 H2) (hd : ∀ σ H, Pv xs.length σ H → D.nx σ H) : Lp (Itl K a) g tb D σ H := for_list Pv h0 hl hs hd
/-- a loop over a list of ints -/
theorem loop_ints {a : Addr} {ns : List Int} {j : Nat} (Pv : Nat → L2.St → Hp → Prop) (h0 : Pv 0 σ H) (hl : ∀ i σ H, i ≤ ns.length → Pv i σ H → SqL K H a (ns.map V.int))
    (hs : ∀ i x σ H, ns[i]? = some x → Pv i σ H → tb { D with nx := Pv (i + 1), ct := Pv (i + 1), bk := D.nx } (σ.set j (some (.int x))) H) (hd : ∀ σ H, Pv ns.length σ H → D.nx σ H) : Lp (Itl K a) (gName j) tb D σ H :=
  for_list (xs := ns.map V.int) Pv h0 (fun i σ H h => hl i σ H (by rw [List.length_map] at h; exact h)) (fun i x σ H hx hp => by
    rw [List.getElem?_map] at hx
    cases e : ns[i]? with
    | none => rw [e] at hx; cases hx
    | some z => rw [e] at hx; cases hx; exact hs i z σ H e hp) (fun σ H h => hd σ H (by rw [List.length_map] at h; exact h))
theorem loop_tup {a : Addr} {xs : List V} (Pv : Nat → L2.St → Hp → Prop) (h0 : Pv 0 σ H) (hl : ∀ i σ H, i ≤ xs.length → Pv i σ H → SqT K H a xs)
    (hs : ∀ i x σ H, xs[i]? = some x → Pv i σ H → g x σ H fun σ2 H2 => tb { D with nx := Pv (i + 1), ct := Pv (i + 1), bk := D.nx } σ2 H2) (hd : ∀ σ H, Pv xs.length σ H → D.nx σ H) : Lp (Itt K a) g tb D σ H := for_tup Pv h0 hl hs hd
theorem loop_range {lo : Int} {n : Nat} {j : Nat} (Pv : Nat → L2.St → Hp → Prop) (h0 : Pv 0 σ H)
    (hs : ∀ i σ H, i < n → Pv i σ H → tb { D with nx := Pv (i + 1), ct := Pv (i + 1), bk := D.nx } (σ.set j (some (.int (lo + (i : Int))))) H) (hd : ∀ σ H, Pv n σ H → D.nx σ H) : Lp (Itr lo n) (gName j) tb D σ H := for_range Pv h0 hs hd
theorem loop_range0 {n : Nat} {j : Nat} (Pv : Nat → L2.St → Hp → Prop) (h0 : Pv 0 σ H)
    (hs : ∀ i σ H, i < n → Pv i σ H → tb { D with nx := Pv (i + 1), ct := Pv (i + 1), bk := D.nx } (σ.set j (some (.int (i : Int)))) H) (hd : ∀ σ H, Pv n σ H → D.nx σ H) : Lp (Itr 0 n) (gName j) tb D σ H :=
  for_range Pv h0 (fun i σ H hi hp => by
    have e : (0 : Int) + (i : Int) = (i : Int) := Int.zero_add _
    rw [e]
    exact hs i σ H hi hp) hd
theorem loop_rangeC {lo c : Int} {n : Nat} {j : Nat} (Pv : Nat → L2.St → Hp → Prop) (h0 : Pv 0 σ H)
    (hs : ∀ i σ H, i < n → Pv i σ H → tb { D with nx := Pv (i + 1), ct := Pv (i + 1), bk := D.nx } (σ.set j (some (.int (lo + (i : Int) * c)))) H) (hd : ∀ σ H, Pv n σ H → D.nx σ H) : Lp (Itc lo c n) (gName j) tb D σ H := for_rangeC Pv h0 hs hd
theorem loop_rev {a : Addr} {xs : List V} (Pv : Nat → L2.St → Hp → Prop) (h0 : Pv 0 σ H) (hl : ∀ i σ H, i ≤ xs.length → Pv i σ H → SqL K H a xs)
    (hs : ∀ i x σ H, xs[xs.length - 1 - i]? = some x → i < xs.length → Pv i σ H → g x σ H fun σ2 H2 => tb { D with nx := Pv (i + 1), ct := Pv (i + 1), bk := D.nx } σ2 H2) (hd : ∀ σ H, Pv xs.length σ H → D.nx σ H) : Lp (Itv K a xs.length) g tb D σ H := by
  refine ⟨fun i m σ H => m = xs.length - i ∧ i ≤ xs.length ∧ Pv i σ H, ⟨xs.length, by simp, Nat.zero_le _, h0⟩, ?_⟩
  rintro i m σ H ⟨rfl, hi, p⟩
  have q := hl i σ H hi p
  by_cases hlt : i < xs.length
  · have hk : xs.length - 1 - i < xs.length := by omega
    refine .inr ⟨⟨hlt, xs, xs[xs.length - 1 - i], q, by simp [hk]⟩, Pv (i + 1), fun σ' H' p' => ⟨xs.length - (i + 1), by omega, rfl, hlt, p'⟩, fun x H' y => ?_⟩
    obtain ⟨e, y⟩ := y
    subst e
    exact hs i x σ _ (y xs q) hlt p
  · have e : i = xs.length := by omega
    subst e
    exact .inl ⟨Nat.le_refl _, hd σ H p⟩
theorem loop_enum {a : Addr} {xs : List V} {j k : Nat} (Pv : Nat → L2.St → Hp → Prop) (h0 : Pv 0 σ H) (hl : ∀ i σ H, i ≤ xs.length → Pv i σ H → SqL K H a xs)
    (hs : ∀ i x σ H H', xs[i]? = some x → Pv i σ H → Ex H H' → tb { D with nx := Pv (i + 1), ct := Pv (i + 1), bk := D.nx } ((σ.set j (some (.int (i : Int)))).set k (some x)) H') (hd : ∀ σ H, Pv xs.length σ H → D.nx σ H) :
    Lp (Ite K a) (gTup K 2 (gCons (gName j) (gCons (gName k) gNil))) tb D σ H := by
  refine ⟨fun i m σ H => m = xs.length - i ∧ i ≤ xs.length ∧ Pv i σ H, ⟨xs.length, by simp, Nat.zero_le _, h0⟩, ?_⟩
  rintro i m σ H ⟨rfl, hi, p⟩
  have q := hl i σ H hi p
  by_cases hlt : i < xs.length
  · refine .inr ⟨⟨xs, xs[i], q, by simp [hlt]⟩, Pv (i + 1), fun σ' H' p' => ⟨xs.length - (i + 1), by omega, rfl, hlt, p'⟩, fun v H' y => ?_⟩
    obtain ⟨T, x, rfl, nT, rfl, y⟩ := y
    exact ⟨T, _, rfl, .inl (.inl upd_same), rfl, _, _, rfl, x, [], rfl, rfl, hs i x σ H _ (y xs q) p (Evl.Ex.new nT)⟩
  · have e : i = xs.length := by omega
    subst e
    exact .inl ⟨⟨xs, q, Nat.le_refl _⟩, hd σ H p⟩
theorem r_while {tt : TT} (W : Nat → L2.St → Hp → Prop) (m0 : Nat) (h0 : W m0 σ H)
    (hs : ∀ m σ' H', W m σ' H' → tt σ' H' fun b H1 => if b = true then ∃ N : L2.St → Hp → Prop, (∀ σ2 H2, N σ2 H2 → ∃ m', m' < m ∧ W m' σ2 H2) ∧ tb { D with nx := N, ct := N, bk := D.nx } σ' H1 else D.nx σ' H1) : tWhile tt tb D σ H :=
  ⟨W, ⟨m0, h0⟩, hs⟩
theorem wh_in {W : Nat → L2.St → Hp → Prop} {m : Nat} (h : tb { D with nx := fun σ2 H2 => ∃ m', m' < m ∧ W m' σ2 H2, ct := fun σ2 H2 => ∃ m', m' < m ∧ W m' σ2 H2, bk := D.nx } σ H) :
    ∃ N : L2.St → Hp → Prop, (∀ σ2 H2, N σ2 H2 → ∃ m', m' < m ∧ W m' σ2 H2) ∧ tb { D with nx := N, ct := N, bk := D.nx } σ H := ⟨_, fun _ _ h => h, h⟩
end
/-! ### bounds -/
theorem small_le {n : Nat} (h : n ≤ 16777216) : n ≤ sizeLine := by rw [sizeLine_eq]; exact h
theorem small_lt {n : Nat} (h : n < 16777216) : n < sizeLine := by rw [sizeLine_eq]; exact h
/-! ### comprehensions -/
def Lc (J : It) (g : TG) (tt : TT) (te : TE) (vs : List Nat) (σ : L2.St) (H1 : Hp) (Q : VK) : Prop := ∀ D, H1 D = none → ∃ W : Nat → Nat → Hp → Prop, (∃ m, W 0 m (upd H1 D (.lst []))) ∧ ∀ i m H, W i m H →
  (J.stop i H ∧ Q (.ref D) H) ∨ (J.go i H ∧ ∃ Nx : Hp → Prop, (∀ H', Nx H' → ∃ m', m' < m ∧ W (i + 1) m' H') ∧ ∀ x H', J.yld i H x H' → g x (wipe σ vs) H' fun σ2 H2 => wipe σ2 vs = wipe σ vs ∧ tt σ2 H2 fun b H3 =>
    if b = true then te σ2 H3 fun y H4 => ∃ acc, H4 D = some (.lst acc) ∧ acc.length < sizeLine ∧ Nx (upd H4 D (.lst (acc ++ [y]))) else Nx H3)
theorem r_lc {wi : TI} {g : TG} {tt : TT} {te : TE} {vs : List Nat} {σ : L2.St} {H : Hp} {Q : VK} (h : wi σ H fun J H1 => Lc J g tt te vs σ H1 Q) : tLc wi g tt te vs σ H Q := h
theorem set_set {α : Type} : ∀ (l : List α) (i : Nat) (a b : α), (l.set i a).set i b = l.set i b
  | [], _, _, _ => rfl
  | _ :: _, 0, _, _ => rfl
  | x :: l, i + 1, a, b => by show x :: (l.set i a).set i b = x :: l.set i b; rw [set_set l i a b]
section
variable {K : PySem.W.Frag} {σ : L2.St} {H : Hp} {te : TE} {Q : VK} {g : TG}
theorem r_cListA {a : Addr} {xs : List V} {tt : TT} {vs : List Nat} (h : SqL K H a xs) (q : Lc (Itl K a) g tt te vs σ H Q) : ∃ a', V.ref a = .ref a' ∧ (∃ xs, SqL K H a' xs) ∧ Lc (Itl K a') g tt te vs σ H Q := ⟨a, rfl, ⟨xs, h⟩, q⟩
theorem r_cRng1A {j : Int} {tt : TT} {vs : List Nat} (h0 : -(2 ^ 62) ≤ j) (h1 : j < 2 ^ 62) (q : Lc (Itr 0 j.toNat) g tt te vs σ H Q) : ∃ j' : Int, [V.int j] = [.int j'] ∧ -(2 ^ 62) ≤ j' ∧ j' < 2 ^ 62 ∧ Lc (Itr 0 j'.toNat) g tt te vs σ H Q := ⟨j, rfl, h0, h1, q⟩
theorem r_cRng2A {i j : Int} {tt : TT} {vs : List Nat} (hb : -(2 ^ 62) ≤ i ∧ i < 2 ^ 62 ∧ -(2 ^ 62) ≤ j ∧ j < 2 ^ 62) (q : Lc (Itr i (j - i).toNat) g tt te vs σ H Q) : ∃ i' j' : Int, [V.int i, V.int j] = [.int i', .int j'] ∧ (-(2 ^ 62) ≤ i' ∧ i' < 2 ^ 62 ∧ -(2 ^ 62) ≤ j' ∧ j' < 2 ^ 62) ∧ Lc (Itr i' (j' - i').toNat) g tt te vs σ H Q := ⟨i, j, rfl, hb, q⟩
/-- over a list, each item giving a value by a function -/
theorem lc_map {a : Addr} {xs : List V} {j : Nat} (f : V → V) (hx : SqL K H a xs) (hz : xs.length < 1000000)
    (he : ∀ x, x ∈ xs → ∀ H1, Ex H H1 → ∀ Q' : VK, (∀ H2, Ex H1 H2 → Q' (f x) H2) → te (σ.set j (some x)) H1 Q')
    (q : ∀ p H', H p = none → Ex H H' → H' p = some (.lst (xs.map f)) → Q (.ref p) H') : Lc (Itl K a) (gName j) tYes te [j] σ H Q := fun D hD =>
  lc_list (xs := xs) (fun i H' => Ex H H' ∧ H' D = some (.lst ((xs.take i).map f))) ⟨Evl.Ex.new hD, upd_same⟩ (fun i H' _ p => p.1.l hx)
    (fun i x H' hi p => ⟨by show ((σ.set j none).set j (some x)).set j none = σ.set j none; rw [set_set, set_set], by
      show te ((σ.set j none).set j (some x)) H' _
      rw [set_set]
      refine he x (List.mem_of_getElem? hi) H' p.1 _ fun H2 e2 => ⟨_, e2 D _ p.2, ?_, (Evl.Ex.mut (p.1.trans e2) hD), ?_⟩
      · rw [List.length_map, List.length_take]; exact small_lt (by omega)
      · rw [upd_same, List.take_add_one, hi, List.map_append]; rfl⟩)
    (fun H' p => q D H' hD p.1 (by rw [List.take_length] at p; exact p.2))
/-- over a list of ints, each giving an int -/
theorem lc_ints {a : Addr} {ns : List Int} {j : Nat} (f : Int → Int) (hx : SqL K H a (ns.map V.int)) (hz : ns.length < 1000000)
    (he : ∀ x, x ∈ ns → ∀ H1, Ex H H1 → ∀ Q' : VK, (∀ H2, Ex H1 H2 → Q' (.int (f x)) H2) → te (σ.set j (some (.int x))) H1 Q')
    (q : ∀ p H', H p = none → Ex H H' → H' p = some (.lst ((ns.map f).map V.int)) → Q (.ref p) H') : Lc (Itl K a) (gName j) tYes te [j] σ H Q :=
  lc_map (xs := ns.map V.int) (fun v => match v with | .int x => .int (f x) | v => v) hx (by rw [List.length_map]; exact hz)
    (fun v hv H1 e1 Q' k => by
      obtain ⟨x, hx', rfl⟩ := List.mem_map.mp hv
      exact he x hx' H1 e1 Q' k)
    (fun p H' hp e h => q p H' hp e (by
      rw [List.map_map] at h ⊢
      exact h))
/-- over a range from 0, each giving an int -/
theorem lc_rangeI {n : Nat} {j : Nat} (f : Nat → Int) (hz : n < 1000000)
    (he : ∀ i, i < n → ∀ H1, Ex H H1 → ∀ Q' : VK, (∀ H2, Ex H1 H2 → Q' (.int (f i)) H2) → te (σ.set j (some (.int (i : Int)))) H1 Q')
    (q : ∀ p H', H p = none → Ex H H' → H' p = some (.lst (((List.range n).map f).map V.int)) → Q (.ref p) H') : Lc (Itr 0 n) (gName j) tYes te [j] σ H Q := fun D hD =>
  lc_range (lo := 0) (n := n) (fun i H' => Ex H H' ∧ H' D = some (.lst (((List.range i).map f).map V.int))) ⟨Evl.Ex.new hD, upd_same⟩
    (fun i H' hi p => ⟨by show ((σ.set j none).set j _).set j none = σ.set j none; rw [set_set, set_set], by
      show te ((σ.set j none).set j (some (.int ((0 : Int) + (i : Int))))) H' _
      rw [set_set, show (0 : Int) + (i : Int) = (i : Int) from Int.zero_add _]
      refine he i hi H' p.1 _ fun H2 e2 => ⟨_, e2 D _ p.2, ?_, (Evl.Ex.mut (p.1.trans e2) hD), ?_⟩
      · rw [List.length_map, List.length_map, List.length_range]; exact small_lt (by omega)
      · rw [upd_same, List.range_succ, List.map_append, List.map_append]; rfl⟩)
    (fun H' p => q D H' hD p.1 p.2)
end
/-- an item of a list of ints -/
theorem r_ixI {K : PySem.W.Frag} {H : Hp} {Q : VK} {p : Addr} {i : Int} {ns : List Int} (h : SqL K H p (ns.map V.int)) (h0 : 0 ≤ i) (h1 : i < ns.length) (q : Q (.int (ns.getD i.toNat 0)) H) : rIxL K (.ref p) (.int i) H Q := by
  obtain ⟨k, rfl⟩ : ∃ k : Nat, i = (k : Int) := ⟨i.toNat, by omega⟩
  have hk : k < ns.length := by omega
  refine r_ixL h (atI_nat (j := k) (v := .int ns[k]) ?_) ?_
  · rw [List.getElem?_map, List.getElem?_eq_getElem hk]; rfl
  · rw [Int.toNat_natCast, List.getD_eq_getElem?_getD, List.getElem?_eq_getElem hk] at q
    exact q
/-- a slice of a list of ints, both ends in it -/
theorem cutI (ns : List Int) (lo hi : Option Int) : cutV (ns.map V.int) lo hi = ((ns.drop (HT.sIx ns.length 0 lo)).take (HT.sIx ns.length ns.length hi - HT.sIx ns.length 0 lo)).map V.int := by
  unfold cutV
  rw [List.length_map, List.map_take, List.map_drop]
/-- the part of a list between two bounds -/
def sliceI (ns : List Int) (lo hi : Option Int) : List Int := (ns.drop (HT.sIx ns.length 0 lo)).take (HT.sIx ns.length ns.length hi - HT.sIx ns.length 0 lo)
theorem sliceI_mem {ns : List Int} {lo hi : Option Int} {x : Int} (h : x ∈ sliceI ns lo hi) : x ∈ ns := List.mem_of_mem_drop (List.mem_of_mem_take h)
theorem sliceI_len (ns : List Int) (lo hi : Option Int) : (sliceI ns lo hi).length ≤ ns.length := by
  unfold sliceI
  rw [List.length_take, List.length_drop]; omega
theorem r_slI {K : PySem.W.Frag} {H : Hp} {Q : VK} {a : Addr} {ns : List Int} {lo hi : Option Int} (h : SqL K H a (ns.map V.int)) (q : ∀ p H', H p = none → Ex H H' → H' p = some (.lst ((sliceI ns lo hi).map V.int)) → Q (.ref p) H') : rSlL K (.ref a) lo hi H Q :=
  r_slL h fun p H' hp e hh => q p H' hp e (by rw [cutI] at hh; exact hh)
theorem r_repN {H : Hp} {Q : VK} {l : Addr} {ns : List Int} {k : Int} (h1 : H l = some (.lst (ns.map V.int))) (hk : k < 2 ^ 63) (z : ns.length * k.toNat ≤ 16777216) (q : ∀ p H', H p = none → Ex H H' → H' p = some (.lst (((List.replicate k.toNat ns).flatten).map V.int)) → Q (.ref p) H') (h0 : -(2 ^ 63) ≤ k := by omega) : rRep (.ref l) (.int k) H Q :=
  ⟨l, k, _, rfl, rfl, h1, h0, hk, by rw [List.length_map]; exact small0 z, newL fun p H' a b c => q p H' a b (by rw [List.map_flatten, List.map_replicate]; exact c)⟩
def insI (ns : List Int) (i : Int) (y : Int) : List Int := ns.take i.toNat ++ [y] ++ ns.drop i.toNat
theorem insI_mem {ns : List Int} {i y x : Int} : x ∈ insI ns i y ↔ x = y ∨ x ∈ ns := by
  unfold insI
  have h : x ∈ ns ↔ x ∈ ns.take i.toNat ∨ x ∈ ns.drop i.toNat := by rw [← List.mem_append, List.take_append_drop]
  rw [h, List.mem_append, List.mem_append, List.mem_singleton]
  constructor
  · rintro ((h | h) | h)
    · exact .inr (.inl h)
    · exact .inl h
    · exact .inr (.inr h)
  · rintro (h | h | h)
    · exact .inl (.inr h)
    · exact .inl (.inl h)
    · exact .inr h
theorem insI_len (ns : List Int) (i y : Int) : (insI ns i y).length = ns.length + 1 := by
  unfold insI
  rw [List.length_append, List.length_append, List.length_take, List.length_drop]
  show min i.toNat ns.length + 1 + (ns.length - i.toNat) = _
  omega
theorem r_insertI {H : Hp} {Q : VK} {l : Addr} {ns : List Int} {i y : Int} (h : H l = some (.lst (ns.map V.int))) (z : ns.length < 16777216) (h0 : 0 ≤ i) (h1 : i < 2 ^ 63) (q : ∀ H', Exb l H H' → H' l = some (.lst ((insI ns i y).map V.int)) → Q .non H') : rInsert (.ref l) [.int i, .int y] H Q :=
  r_insert h (by rw [List.length_map]; exact small_lt z) h0 h1 fun H' e hh => q H' e (by
    unfold insI
    rw [List.map_append, List.map_append, List.map_take, List.map_drop]
    exact hh)
theorem r_appendI {H : Hp} {Q : VK} {l : Addr} {ns : List Int} {y : Int} (h : H l = some (.lst (ns.map V.int))) (z : ns.length < 16777216) (q : ∀ H', Exb l H H' → H' l = some (.lst ((ns ++ [y]).map V.int)) → Q .non H') : rAppend (.ref l) [.int y] H Q :=
  r_append h (by rw [List.length_map]; exact small_lt z) fun H' e hh => q H' e (by rw [List.map_append]; exact hh)
theorem r_catI {H : Hp} {Q : VK} {l b : Addr} {ns ms : List Int} (h1 : H l = some (.lst (ns.map V.int))) (h2 : H b = some (.lst (ms.map V.int))) (z : ns.length + ms.length ≤ 16777216) (q : ∀ p H', H p = none → Ex H H' → H' p = some (.lst ((ns ++ ms).map V.int)) → Q (.ref p) H') : rCat (.ref l) (.ref b) H Q :=
  r_cat h1 h2 (by rw [List.length_map, List.length_map]; exact small0 z) fun p H' a e hh => q p H' a e (by rw [List.map_append]; exact hh)
theorem i_t {A B : Prop} (h : A) : if true = true then A else B := iteT h
theorem i_f {A B : Prop} (h : B) : if false = true then A else B := iteF h
theorem i_nt {A B : Prop} (h : B) : if (!true) = true then A else B := iteF h
theorem i_nf {A B : Prop} (h : A) : if (!false) = true then A else B := iteT h
theorem sliceI_to {ns : List Int} {n : Nat} (h : n ≤ ns.length) : sliceI ns none (some (n : Int)) = ns.take n := by
  unfold sliceI
  rw [HT.sIx_none, HT.sIx_nat, List.drop_zero, Nat.min_eq_left h]; rfl
theorem sliceI_toI {ns : List Int} {n : Int} (h0 : 0 ≤ n) : sliceI ns none (some n) = ns.take n.toNat := by
  obtain ⟨k, rfl⟩ : ∃ k : Nat, n = (k : Int) := ⟨n.toNat, by omega⟩
  unfold sliceI
  rw [HT.sIx_none, HT.sIx_nat, List.drop_zero, Int.toNat_natCast, Nat.sub_zero]
  by_cases h : k ≤ ns.length
  · rw [Nat.min_eq_left h]
  · rw [Nat.min_eq_right (by omega), List.take_length, List.take_of_length_le (by omega)]
theorem sliceI_fromI {ns : List Int} {n : Int} (h0 : 0 ≤ n) : sliceI ns (some n) none = ns.drop n.toNat := by
  obtain ⟨k, rfl⟩ : ∃ k : Nat, n = (k : Int) := ⟨n.toNat, by omega⟩
  unfold sliceI
  rw [HT.sIx_none, HT.sIx_nat, Int.toNat_natCast]
  by_cases h : k ≤ ns.length
  · rw [Nat.min_eq_left h, List.take_of_length_le (by rw [List.length_drop]; omega)]
  · rw [Nat.min_eq_right (by omega), List.drop_eq_nil_of_le (by omega : ns.length ≤ k), List.drop_length, List.take_nil]
theorem sliceI_bothI {ns : List Int} {n m : Int} (h0 : 0 ≤ n) (h1 : n ≤ m) : sliceI ns (some n) (some m) = (ns.drop n.toNat).take (m.toNat - n.toNat) := by
  obtain ⟨k, rfl⟩ : ∃ k : Nat, n = (k : Int) := ⟨n.toNat, by omega⟩
  obtain ⟨l, rfl⟩ : ∃ l : Nat, m = (l : Int) := ⟨m.toNat, by omega⟩
  unfold sliceI
  rw [HT.sIx_nat, HT.sIx_nat, Int.toNat_natCast, Int.toNat_natCast]
  by_cases h : k ≤ ns.length
  · rw [Nat.min_eq_left h]
    by_cases h' : l ≤ ns.length
    · rw [Nat.min_eq_left h']
    · rw [Nat.min_eq_right (by omega), List.take_of_length_le (by rw [List.length_drop]; omega), List.take_of_length_le (by rw [List.length_drop]; omega)]
  · rw [Nat.min_eq_right (show ns.length ≤ k by omega), List.drop_length, List.drop_eq_nil_of_le (by omega : ns.length ≤ k)]; simp
/-- what a def that makes a new list of ints promises -/
def RetI (xs : List Int) (H : Hp) (Q : VK) : Prop := ∀ p H', H p = none → Ex H H' → H' p = some (.lst (xs.map V.int)) → Q (.ref p) H'
theorem RetI.go {xs : List Int} {H H1 : Hp} {Q : VK} (k : RetI xs H Q) (e : Ex H H1) {p : Addr} {H2 : Hp} (hp : H1 p = none) (e2 : Ex H1 H2) (h : H2 p = some (.lst (xs.map V.int))) : Q (.ref p) H2 := k p H2 (Evl.fresh_back e hp) (e.trans e2) h
/-! ### the heap since the entry -/
/-- all that stood in H stands in H' (the same as Ex, kept apart) -/
structure Fx (H H' : Hp) : Prop where
  to : Ex H H'
theorem Fx.refl (H : Hp) : Fx H H := ⟨Evl.Ex.refl H⟩
theorem Fx.ex {H H1 H2 : Hp} (f : Fx H H1) (e : Ex H1 H2) : Fx H H2 := ⟨Evl.Ex.trans f.to e⟩
theorem Fx.of {H H1 : Hp} (e : Ex H H1) : Fx H H1 := ⟨e⟩
theorem Fx.mut {H H1 H2 : Hp} {l : Addr} (f : Fx H H1) (b : Exb l H1 H2) (h : H l = none) : Fx H H2 := ⟨Evl.Ex.mutb f.to b h⟩
theorem Fx.free {H H1 : Hp} {p : Addr} (f : Fx H H1) (h : H1 p = none) : H p = none := Evl.fresh_back f.to h
theorem Fx.l {K : PySem.W.Frag} {H H' : Hp} {a : Addr} {xs : List V} (e : Fx H H') (h : SqL K H a xs) : SqL K H' a xs := Evl.ex_l e.to h
theorem hx_e {H H' : Hp} {a : Addr} {o : HO} (e : Ex H H') (h : H a = some o) : H' a = some o := e a o h
theorem hx_b {H H' : Hp} {a l : Addr} {o : HO} (e : Exb l H H') (n : a ≠ l) (h : H a = some o) : H' a = some o := e a n o h
theorem ne_1 {H : Hp} {a l : Addr} {o : HO} (h' : H l = none) (h : H a = some o) : a ≠ l := ne_of_none h h'
theorem ne_2 {H : Hp} {a l : Addr} {o : HO} (h' : H a = none) (h : H l = some o) : a ≠ l := (ne_of_none h h').symm
def tTru (K : PySem.W.Frag) (te : TE) : TT := fun σ H Q => te σ H fun x H' => ∃ k, TruV K x H' k ∧ Q k H'
theorem pt_tru {X : Cx} {a : Expr} {ta : TE} (ha : PE X a ta) (he : ∀ whole, isTrue a X.env whole = (do let v ← whole; standAt a.pos; holding [v] (truthy v)) := by intro _; rfl) : PT X a (tTru X.K ta) := pt_truth ha he
theorem r_tru {K : PySem.W.Frag} {te : TE} {σ : L2.St} {H : Hp} {Q : Bool → Hp → Prop} (h : te σ H fun x H' => ∃ k, TruV K x H' k ∧ Q k H') : tTru K te σ H Q := h
theorem r_truL {K : PySem.W.Frag} {a : Addr} {xs : List V} {H : Hp} {Q : Bool → Prop} (h : SqL K H a xs) (q : Q (!xs.isEmpty)) : ∃ k, TruV K (.ref a) H k ∧ Q k := ⟨_, .inl ⟨xs, h, rfl⟩, q⟩
def RevK (K : PySem.W.Frag) (Q : VK) : V → Hp → Prop := fun x H1 => ∃ a xs, x = .ref a ∧ SqL K H1 a xs ∧ ∀ p, H1 p = none → Q (.ref p) (upd H1 p (.lst xs.reverse))
theorem r_rev {K : PySem.W.Frag} {te : TE} {σ : L2.St} {H : Hp} {Q : VK} (h : te σ H (RevK K Q)) : tRevL K te σ H Q := h
theorem r_revI {K : PySem.W.Frag} {H : Hp} {Q : VK} {a : Addr} {ns : List Int} (h : SqL K H a (ns.map V.int)) (q : ∀ p H', H p = none → Ex H H' → H' p = some (.lst (ns.reverse.map V.int)) → Q (.ref p) H') : RevK K Q (.ref a) H :=
  ⟨a, _, rfl, h, newL fun p H' hp e hh => q p H' hp e (by rw [List.map_reverse]; exact hh)⟩
theorem rg2 {a b : Int} (ha : 0 ≤ a) (ha' : a < 2 ^ 60) (hb : -(2 ^ 60) ≤ b) (hb' : b < 2 ^ 60) : RgC a b 2 ((b - a + 1) / 2).toNat := by
  have e : Builtin.Range.rangeSize a b 2 = (((b - a + 1) / 2).toNat : Int) := by
    unfold Builtin.Range.rangeSize
    rw [if_pos (by decide)]
    split <;> omega
  refine ⟨by decide, by decide, ?_, e⟩
  unfold Builtin.Range.small
  rw [e]
  simp only [Builtin.Range.rangeFitsLong, Bool.and_eq_true, Bool.or_eq_true, decide_eq_true_eq, beq_iff_eq, show ((2 : Int) > 0) by decide, if_true]
  omega
theorem r_iRng3 {ta : TA} {σ : L2.St} {H : Hp} {R : It → Hp → Prop} (h : ta σ H fun vs H1 => ∃ (i j c : Int) (n : Nat), vs = [.int i, .int j, .int c] ∧ RgC i j c n ∧ R (Itc i c n) H1) : iRng3 ta σ H R := h
theorem r_iRng3A {g : TG} {tb : TS} {D : Ends} {σ : L2.St} {H : Hp} {i j c : Int} {n : Nat} (h : RgC i j c n) (q : Lp (Itc i c n) g tb D σ H) : ∃ (i' j' c' : Int) (n : Nat), [V.int i, V.int j, V.int c] = [.int i', .int j', .int c'] ∧ RgC i' j' c' n ∧ Lp (Itc i' c' n) g tb D σ H := ⟨i, j, c, n, rfl, h, q⟩
/-- over a range from lo, each giving an int -/
theorem lc_rangeL {σ : L2.St} {H : Hp} {te : TE} {Q : VK} {lo : Int} {n : Nat} {j : Nat} (f : Nat → Int) (hz : n < 1000000)
    (he : ∀ i, i < n → ∀ H1, Ex H H1 → ∀ Q' : VK, (∀ H2, Ex H1 H2 → Q' (.int (f i)) H2) → te (σ.set j (some (.int (lo + (i : Int))))) H1 Q')
    (q : ∀ p H', H p = none → Ex H H' → H' p = some (.lst (((List.range n).map f).map V.int)) → Q (.ref p) H') : Lc (Itr lo n) (gName j) tYes te [j] σ H Q := fun D hD =>
  lc_range (lo := lo) (n := n) (fun i H' => Ex H H' ∧ H' D = some (.lst (((List.range i).map f).map V.int))) ⟨Evl.Ex.new hD, upd_same⟩
    (fun i H' hi p => ⟨by show ((σ.set j none).set j _).set j none = σ.set j none; rw [set_set, set_set], by
      show te ((σ.set j none).set j (some (.int (lo + (i : Int))))) H' _
      rw [set_set]
      refine he i hi H' p.1 _ fun H2 e2 => ⟨_, e2 D _ p.2, ?_, (Evl.Ex.mut (p.1.trans e2) hD), ?_⟩
      · rw [List.length_map, List.length_map, List.length_range]; exact small_lt (by omega)
      · rw [upd_same, List.range_succ, List.map_append, List.map_append]; rfl⟩)
    (fun H' p => q D H' hD p.1 p.2)
theorem r_lenI {K : PySem.W.Frag} {H : Hp} {Q : VK} {p : Addr} {ns : List Int} (h : SqL K H p (ns.map V.int)) (q : Q (.int ns.length) H) : rLenS K [.ref p] H Q := ⟨p, _, rfl, .inl h, by rw [List.length_map]; exact q⟩
/-- the last item -/
theorem r_ixLast {K : PySem.W.Frag} {H : Hp} {Q : VK} {p : Addr} {ns : List Int} (h : SqL K H p (ns.map V.int)) (h0 : ns ≠ []) (q : Q (.int (ns.getD (ns.length - 1) 0)) H) : rIxL K (.ref p) (.int (-1)) H Q := by
  have e : ns.map V.int = (ns.dropLast.map V.int) ++ [.int (ns.getD (ns.length - 1) 0)] := by
    have e1 : ns.getD (ns.length - 1) 0 = ns.getLast h0 := by
      rw [List.getD_eq_getElem?_getD, ← List.getLast?_eq_getElem?, List.getLast?_eq_some_getLast h0]; rfl
    rw [e1, ← List.map_singleton, ← List.map_append, List.dropLast_concat_getLast]
  exact r_ixL h (by rw [e]; exact atI_last _ _) q
theorem r_truI {K : PySem.W.Frag} {a : Addr} {ns : List Int} {H : Hp} {Q : Bool → Hp → Prop} (h : SqL K H a (ns.map V.int)) (q : Q (!decide (ns = [])) H) : ∃ k, TruV K (.ref a) H k ∧ Q k H := ⟨_, .inl ⟨_, h, rfl⟩, by
  have e : (!(ns.map V.int).isEmpty) = !decide (ns = []) := by
    cases ns with
    | nil => rfl
    | cons x r => rfl
  rw [e]; exact q⟩
theorem r_rg1 {te : TE} {σ : L2.St} {H : Hp} {R : Int → Int → Hp → Prop} (h : te σ H fun x H1 => ∃ b, x = .int b ∧ R 0 b H1) : tRg1 te σ H R := h
theorem r_revRA {g : TG} {tb : TS} {D : Ends} {σ : L2.St} {H : Hp} {b : Int} (h0 : -(2 ^ 62) ≤ b) (h1 : b < 2 ^ 62) (q : Lp (Itc (b.toNat - 1) (-1) b.toNat) g tb D σ H) : -(2 ^ 62) ≤ (0 : Int) ∧ (0 : Int) < 2 ^ 62 ∧ -(2 ^ 62) ≤ b ∧ b < 2 ^ 62 ∧ Lp (Itc (0 + (((b - 0).toNat : Nat) : Int) - 1) (-1) (b - 0).toNat) g tb D σ H := ⟨by decide, by decide, h0, h1, by
  rw [Int.sub_zero, Int.zero_add]; exact q⟩
/-- a loop over range(n), backwards -/
theorem loop_down {n : Nat} {j : Nat} {tb : TS} {D : Ends} {σ : L2.St} {H : Hp} (Pv : Nat → L2.St → Hp → Prop) (h0 : Pv n σ H)
    (hs : ∀ k σ H, k < n → Pv (k + 1) σ H → tb { D with nx := Pv k, ct := Pv k, bk := D.nx } (σ.set j (some (.int (k : Int)))) H) (hd : ∀ σ H, Pv 0 σ H → D.nx σ H) : Lp (Itc ((n : Int) - 1) (-1) n) (gName j) tb D σ H := by
  refine ⟨fun i m σ H => m = n - i ∧ i ≤ n ∧ Pv (n - i) σ H, ⟨n, by simp, Nat.zero_le _, h0⟩, ?_⟩
  rintro i m σ H ⟨rfl, hi, p⟩
  by_cases hlt : i < n
  · refine .inr ⟨hlt, Pv (n - (i + 1)), fun σ' H' p' => ⟨n - (i + 1), by omega, rfl, hlt, p'⟩, fun x H' y => ?_⟩
    obtain ⟨rfl, rfl⟩ := y
    have e1 : (n : Int) - 1 + (i : Int) * -1 = ((n - (i + 1) : Nat) : Int) := by omega
    have e2 : n - i = n - (i + 1) + 1 := by omega
    rw [e1]
    rw [e2] at p
    exact hs (n - (i + 1)) σ _ (by omega) p
  · have e : i = n := by omega
    subst e
    rw [Nat.sub_self] at p
    exact .inl ⟨Nat.le_refl _, hd σ H p⟩
theorem never_ {t : TS} {D : Ends} {σ : L2.St} {H : Hp} (h : False) : t D σ H := h.elim
end RB

set_option linter.all false
/-! Shared divisors. -/
namespace MG
def gcdN (ns : List Int) : Nat := ns.foldl (fun (g : Nat) x => Nat.gcd g x.natAbs) 0
def gcdL (ns : List Int) : Int := (gcdN ns : Int)
theorem fmod_lt {a b : Int} (h : b ≠ 0) : (a.fmod b).natAbs < b.natAbs := by
  by_cases hb : 0 < b
  · have h1 := Int.fmod_nonneg_of_pos a hb
    have h2 := Int.fmod_lt_of_pos a hb
    omega
  · have hb' : 0 < -b := by omega
    have e : a.fmod b = -((-a).fmod (-b)) := by rw [Int.neg_fmod_neg]; omega
    have h1 := Int.fmod_nonneg_of_pos (-a) hb'
    have h2 := Int.fmod_lt_of_pos (-a) hb'
    rw [e]
    omega
theorem gcd_fmod (a b : Int) : Int.gcd b (a.fmod b) = Int.gcd a b := by
  rw [Int.fmod_def, Int.gcd_sub_mul_left_right, Int.gcd_comm]
theorem foldl_gcd (ns : List Int) : ∀ g : Nat, ns.foldl (fun (g : Nat) x => Nat.gcd g x.natAbs) g = Nat.gcd g (gcdN ns) := by
  induction ns with
  | nil => intro g; simp [gcdN]
  | cons x r ih =>
    intro g
    show List.foldl _ (Nat.gcd g x.natAbs) r = _
    rw [ih]
    have e : gcdN (x :: r) = Nat.gcd (x.natAbs) (gcdN r) := by
      show List.foldl _ (Nat.gcd 0 x.natAbs) r = _
      rw [ih, Nat.gcd_zero_left]
    rw [e, Nat.gcd_assoc]
theorem gcdN_cons (x : Int) (r : List Int) : gcdN (x :: r) = Nat.gcd x.natAbs (gcdN r) := by
  show List.foldl _ (Nat.gcd 0 x.natAbs) r = _
  rw [foldl_gcd, Nat.gcd_zero_left]
theorem gcdN_nil : gcdN [] = 0 := rfl
theorem gcdN_append (xs ys : List Int) : gcdN (xs ++ ys) = Nat.gcd (gcdN xs) (gcdN ys) := by
  show List.foldl _ 0 (xs ++ ys) = _
  rw [List.foldl_append, foldl_gcd]; rfl
theorem gcdN_take {ns : List Int} {i : Nat} {x : Int} (h : ns[i]? = some x) : gcdN (ns.take (i + 1)) = Nat.gcd (gcdN (ns.take i)) x.natAbs := by
  rw [List.take_add_one, h, gcdN_append]
  congr 1
  show gcdN [x] = _
  rw [gcdN_cons, gcdN_nil, Nat.gcd_zero_right]
theorem gcdN_dvd {ns : List Int} : ∀ {x : Int}, x ∈ ns → (gcdN ns : Int) ∣ x := by
  induction ns with
  | nil => intro x h; cases h
  | cons y r ih =>
    intro x h
    rw [gcdN_cons]
    rcases List.mem_cons.mp h with rfl | h
    · exact Int.ofNat_dvd_left.mpr (Nat.gcd_dvd_left _ _)
    · exact Int.dvd_trans (Int.ofNat_dvd.mpr (Nat.gcd_dvd_right _ _)) (ih h)
theorem dvd_gcdN {ns : List Int} {d : Nat} (h : ∀ x ∈ ns, (d : Int) ∣ x) : d ∣ gcdN ns := by
  induction ns with
  | nil => exact Nat.dvd_zero _
  | cons y r ih =>
    rw [gcdN_cons]
    exact Nat.dvd_gcd (Int.ofNat_dvd_left.mp (h y (List.mem_cons_self))) (ih fun x hx => h x (List.mem_cons_of_mem _ hx))
theorem gcdN_eq {ns : List Int} {g : Nat} (h1 : ∀ x ∈ ns, (g : Int) ∣ x) (h2 : ∀ d : Nat, (∀ x ∈ ns, (d : Int) ∣ x) → d ∣ g) : gcdN ns = g :=
  Nat.dvd_antisymm (h2 _ fun _ hx => gcdN_dvd hx) (dvd_gcdN h1)
end MG

set_option linter.all false
set_option maxRecDepth 100000
/-! Instances: made, their fields, their methods; the fraction. -/
namespace RB
open PySem PySem.Spec PyProof.Rows L2
open Evl (Ex rLenS rListS rMax2 tCut pss_cut)
def tDead : TS := fun _ _ _ => False
theorem ps_dead {X : Cx} {st : Stmt} : PS X st tDead := ⟨fun _ _ _ _ _ _ h => h.elim⟩
theorem pss_dead {X : Cx} {st : List Stmt} : PSs X st tDead := ⟨fun _ _ _ _ _ _ h => h.elim⟩
theorem okN {P : Program} {w : World} {K : PySem.W.Frag} {mg : Str → Option Value} {base : Heap} {x qual : Str} {params : Arguments} {body : List Stmt} {scope : Scope} {dvs : List V} {kws : List (Str × V)} {f : Addr} {fd : FuncData} {N ps : List Str} {k : Nat} {sp : Sp} (F : FunD K x qual params body scope dvs kws f fd) (S : FnScope N ps scope) (len : ∀ vs H Q E, sp vs H Q E → vs.length = ps.length)
    (hb : ∀ (cdv : Value) (A : Around) (outer : List Env) (s : Shared) (H : Hp) (vs : List V) (Q : VK) (E : XK), Room k (A.deeper (envOfC qual scope s.heap.objs.size f cdv)) → sp vs H Q E →
      ∃ t, PSs (cxOf CX0 P w K mg base N qual scope f cdv A outer s H E).nox body t ∧ t { nx := fun _ H' => Q .non H', rt := Q } (start N vs) H) : FnOk P w K mg base CX0 (k + 1) f fd ps sp :=
  F.ok S len fun cdv A outer s H vs Q E hr h => by
    obtain ⟨t, h1, h2⟩ := hb cdv A outer s H vs Q E hr h
    exact ⟨t, h1.nox, h2⟩
theorem funD_mk {K : PySem.W.Frag} {x qual : Str} {params : Arguments} {body : List Stmt} {scope : Scope} {i : Int} {f T : Addr} {oc : Value} {od an : Option Addr} {osl : Array (Option Value)} {kV doc pm cdv ct oc2 : Value} {od2 : Option Addr} {tk : Tok} {n2 : Nat} {sl2 : Array (Option Value)}
    (l : K.lookup f = some ⟨oc, od, .func (PySem.W.fnOf x qual params body scope (.ref T) kV doc pm an cdv ct), osl⟩) (d : K.lookup T = some ⟨oc2, od2, .seq #[.int i tk] n2, sl2⟩) (c : PySem.W.codeIn K cdv qual = true) (k : PySem.W.keepIn K (.ref f) = true) :
    FunD K x qual params body scope [.int i] [] f (PySem.W.fnOf x qual params body scope (.ref T) kV doc pm an cdv ct) :=
  ⟨⟨oc, od, .ref T, kV, doc, pm, an, cdv, ct, osl, rfl, l, c, .inr ⟨by simp, T, _, [.int i tk], n2, rfl, d, rfl, .cons ⟨tk, rfl⟩ .nil⟩, .inl rfl⟩, k⟩
theorem funD_mkV {K : PySem.W.Frag} {x qual : Str} {params : Arguments} {body : List Stmt} {scope : Scope} {dvs : List V} {its : List Value} {f T : Addr} {oc : Value} {od an : Option Addr} {osl : Array (Option Value)} {kV doc pm cdv ct oc2 : Value} {od2 : Option Addr} {n2 : Nat} {sl2 : Array (Option Value)}
    (l : K.lookup f = some ⟨oc, od, .func (PySem.W.fnOf x qual params body scope (.ref T) kV doc pm an cdv ct), osl⟩) (d : K.lookup T = some ⟨oc2, od2, .seq its.toArray n2, sl2⟩) (c : PySem.W.codeIn K cdv qual = true) (k : PySem.W.keepIn K (.ref f) = true) (ne : dvs ≠ []) (r : Vals dvs its) :
    FunD K x qual params body scope dvs [] f (PySem.W.fnOf x qual params body scope (.ref T) kV doc pm an cdv ct) :=
  ⟨⟨oc, od, .ref T, kV, doc, pm, an, cdv, ct, osl, rfl, l, c, .inr ⟨ne, T, _, its, n2, rfl, d, rfl, r⟩, .inl rfl⟩, k⟩
theorem binds_full {K : PySem.W.Frag} {fd : FuncData} {ps : List Str} (h : ∃ ds, Vals ([] : List V) ds ∧ Binds K fd ps ds) : Binds K fd ps [] := by
  obtain ⟨ds, h1, h2⟩ := h
  cases h1
  exact h2
/-! ### making -/
def MakeK (C : Addr) (sp : Sp) (dvs : List V) (E : XK) (Q : VK) : List V → Hp → Prop := fun vs H1 => ∀ x dx, H1 x = none → H1 dx = none → dx ≠ x →
  sp (.ref x :: (vs ++ dvs)) (upd (upd H1 dx (.own x)) x (.ins C dx [])) (fun v H2 => v = .non ∧ Q (.ref x) H2) E
theorem r_make {C : Addr} {sp : Sp} {dvs : List V} {E : XK} {ta : TA} {σ : L2.St} {H : Hp} {Q : VK} (h : ta σ H (MakeK C sp dvs E Q)) : tMake C sp dvs E ta σ H Q := h
def FldK (K : PySem.W.Frag) (f : Str) (Q : VK) : V → Hp → Prop := fun x H1 => ∃ a C dx fs v, x = .ref a ∧ H1 a = some (.ins C dx fs) ∧ Cls K C ∧ NoAttr K C f ∧ fs.lookup f = some v ∧ Q v H1
theorem r_fld {K : PySem.W.Frag} {te : TE} {f : Str} {σ : L2.St} {H : Hp} {Q : VK} (h : te σ H (FldK K f Q)) : tFld K te f σ H Q := h
def SFldK (K : PySem.W.Frag) (f : Str) (y : V) (G : Hp → Prop) : V → Hp → Prop := fun x H2 => ∃ a C dx fs, x = .ref a ∧ H2 a = some (.ins C dx fs) ∧ Cls K C ∧ NoAttr K C f ∧ fs.length < 1000 ∧ G (upd H2 a (.ins C dx (putF f y fs)))
theorem r_sfld {K : PySem.W.Frag} {ta tv : TE} {f : Str} {D : Ends} {σ : L2.St} {H : Hp} (h : tv σ H fun y H1 => ta σ H1 (SFldK K f y (D.nx σ))) : sFld K ta tv f D σ H := h
def MethK (C : Addr) (m : Str) (sp : Sp) (dvs : List V) (E : XK) (t : TA) (σ : L2.St) (Q : VK) : V → Hp → Prop := fun x H1 => ∃ a dx fs, x = .ref a ∧ H1 a = some (.ins C dx fs) ∧ fs.lookup m = none ∧ t σ H1 fun vs H2 => sp (x :: (vs ++ dvs)) H2 Q E
theorem r_meth {C : Addr} {m : Str} {sp : Sp} {dvs : List V} {E : XK} {ta : TE} {t : TA} {σ : L2.St} {H : Hp} {Q : VK} (h : ta σ H (MethK C m sp dvs E t σ Q)) : tMeth C m sp dvs E ta t σ H Q := h
/-! ### the fraction -/
def rF (t b : Int) : List (Str × V) := [("top", .int t), ("bottom", .int b)]
def IsR (C : Addr) (H : Hp) (a : Addr) (t b : Int) : Prop := ∃ dx, H a = some (.ins C dx (rF t b))
theorem IsR.ex {C : Addr} {H H' : Hp} {a : Addr} {t b : Int} (e : Ex H H') (h : IsR C H a t b) : IsR C H' a t b := h.elim fun dx h => ⟨dx, e _ _ h⟩
theorem IsR.exb {C : Addr} {H H' : Hp} {a l : Addr} {t b : Int} (e : Exb l H H') (n : a ≠ l) (h : IsR C H a t b) : IsR C H' a t b := h.elim fun dx h => ⟨dx, e _ n _ h⟩
theorem rF_top (t b : Int) : (rF t b).lookup ("top" : Str) = some (.int t) := by
  unfold rF
  simp [List.lookup]
theorem rF_bottom (t b : Int) : (rF t b).lookup ("bottom" : Str) = some (.int b) := by
  unfold rF
  have e : (("bottom" : Str) == ("top" : Str)) = false := by decide +kernel
  simp [List.lookup, e]
theorem rF_none (t b : Int) {m : Str} (h1 : (m == ("top" : Str)) = false) (h2 : (m == ("bottom" : Str)) = false) : (rF t b).lookup m = none := by
  unfold rF
  simp [List.lookup, h1, h2]
theorem r_top {K : PySem.W.Frag} {C : Addr} {H : Hp} {Q : VK} {a : Addr} {t b : Int} (c : Cls K C) (n : NoAttr K C "top") (h : IsR C H a t b) (q : Q (.int t) H) : FldK K "top" Q (.ref a) H := by
  obtain ⟨dx, h⟩ := h
  exact ⟨a, C, dx, _, _, rfl, h, c, n, rF_top t b, q⟩
theorem r_bottom {K : PySem.W.Frag} {C : Addr} {H : Hp} {Q : VK} {a : Addr} {t b : Int} (c : Cls K C) (n : NoAttr K C "bottom") (h : IsR C H a t b) (q : Q (.int b) H) : FldK K "bottom" Q (.ref a) H := by
  obtain ⟨dx, h⟩ := h
  exact ⟨a, C, dx, _, _, rfl, h, c, n, rF_bottom t b, q⟩
theorem r_methR {C : Addr} {m : Str} {sp : Sp} {dvs : List V} {E : XK} {ta : TA} {σ : L2.St} {Q : VK} {H : Hp} {a : Addr} {t b : Int} (h : IsR C H a t b) (h1 : (m == ("top" : Str)) = false) (h2 : (m == ("bottom" : Str)) = false) (q : ta σ H fun vs H2 => sp (.ref a :: (vs ++ dvs)) H2 Q E) : MethK C m sp dvs E ta σ Q (.ref a) H := by
  obtain ⟨dx, h⟩ := h
  exact ⟨a, dx, _, rfl, h, rF_none t b h1 h2, q⟩
def RetR (C : Addr) (t b : Int) (H : Hp) (Q : VK) : Prop := ∀ p H', H p = none → Ex H H' → IsR C H' p t b → Q (.ref p) H'
theorem RetR.go {C : Addr} {t b : Int} {H H1 : Hp} {Q : VK} (k : RetR C t b H Q) (e : Ex H H1) : RetR C t b H1 Q := fun p H' hp e2 h => k p H' (Evl.fresh_back e hp) (e.trans e2) h
/-- the shared divisor with the bottom's sign -/
def rG (t b : Int) : Int := if b < 0 then -MG.gcdL [t, b] else MG.gcdL [t, b]
def rT (t b : Int) : Int := t.fdiv (rG t b)
def rB (t b : Int) : Int := b.fdiv (rG t b)
theorem gcdL_pair (t b : Int) : MG.gcdL [t, b] = (Int.gcd t b : Int) := by
  unfold MG.gcdL MG.gcdN Int.gcd
  simp
theorem rG_pos {t b : Int} (hb : b ≠ 0) : 0 < Int.gcd t b := Int.gcd_pos_of_ne_zero_right t hb
theorem rG_ne {t b : Int} (hb : b ≠ 0) : rG t b ≠ 0 := by
  have := rG_pos (t := t) hb
  unfold rG
  rw [gcdL_pair]
  split <;> omega
theorem rG_abs (t b : Int) : (rG t b).natAbs = Int.gcd t b := by
  unfold rG
  rw [gcdL_pair]
  split <;> omega
theorem rG_log {t b : Int} {n : Nat} (hb : b ≠ 0) (h0 : 0 < n) (h : b.natAbs < 2 ^ n) : (rG t b).natAbs.log2 < n := by
  rw [rG_abs]
  exact PySem.Flt.log2_lt_of h0 (Nat.lt_of_le_of_lt (Nat.gcd_le_right _ (by omega)) h)
theorem rG_dvd_t (t b : Int) : rG t b ∣ t := by
  rw [← Int.natAbs_dvd, rG_abs]; exact Int.gcd_dvd_left ..
theorem rG_dvd_b (t b : Int) : rG t b ∣ b := by
  rw [← Int.natAbs_dvd, rG_abs]; exact Int.gcd_dvd_right ..
theorem rT_mul {t b : Int} (hb : b ≠ 0) : rT t b * rG t b = t := by
  obtain ⟨k, hk⟩ := rG_dvd_t t b
  unfold rT
  conv => lhs; arg 1; arg 1; rw [hk]
  rw [Int.mul_fdiv_cancel_left _ (rG_ne hb), Int.mul_comm, ← hk]
theorem rB_mul {t b : Int} (hb : b ≠ 0) : rB t b * rG t b = b := by
  obtain ⟨k, hk⟩ := rG_dvd_b t b
  unfold rB
  conv => lhs; arg 1; arg 1; rw [hk]
  rw [Int.mul_fdiv_cancel_left _ (rG_ne hb), Int.mul_comm, ← hk]
theorem rB_pos {t b : Int} (hb : b ≠ 0) : 0 < rB t b := by
  have h1 := rB_mul (t := t) hb
  have h2 := rG_pos (t := t) hb
  have hs : (b < 0 → rG t b < 0) ∧ (¬ b < 0 → 0 < rG t b) := by
    unfold rG
    rw [gcdL_pair]
    constructor
    · intro h; rw [if_pos h]; omega
    · intro h; rw [if_neg h]; omega
  apply Classical.byContradiction
  intro h
  by_cases hn : b < 0
  · have := Int.mul_nonneg_of_nonpos_of_nonpos (show rB t b ≤ 0 by omega) (show rG t b ≤ 0 by have := hs.1 hn; omega)
    omega
  · have := Int.mul_nonneg (show 0 ≤ -rB t b by omega) (show 0 ≤ rG t b by have := hs.2 hn; omega)
    rw [Int.neg_mul] at this
    omega
theorem r_cross {t b : Int} (hb : b ≠ 0) : rT t b * b = t * rB t b := by
  have h1 := rT_mul (t := t) hb
  have h2 := rB_mul (t := t) hb
  generalize rT t b = p at *
  generalize rB t b = q at *
  generalize rG t b = g at *
  rw [← h1, ← h2, Int.mul_assoc, Int.mul_comm g q]
theorem r_low {t b : Int} (hb : b ≠ 0) : Int.gcd (rT t b) (rB t b) = 1 := by
  have h1 := rT_mul (t := t) hb
  have h2 := rB_mul (t := t) hb
  have h3 := rG_abs t b
  have h4 := rG_pos (t := t) hb
  have h5 := Int.gcd_mul_right (rT t b) (rG t b) (rB t b)
  rw [h1, h2, h3] at h5
  exact Nat.eq_of_mul_eq_mul_right h4 (by omega)
theorem rT_abs {t b : Int} (hb : b ≠ 0) : (rT t b).natAbs ≤ t.natAbs := by
  have h1 := rT_mul (t := t) hb
  have h4 := rG_pos (t := t) hb
  have h3 := rG_abs t b
  have h5 : (rT t b).natAbs * (rG t b).natAbs = t.natAbs := by rw [← Int.natAbs_mul, h1]
  rw [h3] at h5
  rw [← h5]
  exact Nat.le_mul_of_pos_right _ h4
theorem rB_abs {t b : Int} (hb : b ≠ 0) : (rB t b).natAbs ≤ b.natAbs := by
  have h1 := rB_mul (t := t) hb
  have h4 := rG_pos (t := t) hb
  have h3 := rG_abs t b
  have h5 : (rB t b).natAbs * (rG t b).natAbs = b.natAbs := by rw [← Int.natAbs_mul, h1]
  rw [h3] at h5
  rw [← h5]
  exact Nat.le_mul_of_pos_right _ h4
end RB
namespace RB
open PySem PySem.Spec PyProof.Rows L2
/-- what isinstance asks of a class of instances -/
structure InsC (K : PySem.W.Frag) (C : Addr) : Prop where
  ha : PySem.W.findIn K (.ref C) "__class__" = some (some (.builtin "object.__class__"))
  hn : PySem.W.specialIn K (.builtin "object.__class__") "__get__" = some (some (.builtin "getset_descriptor.__get__"))
  ht : PySem.W.takesIn K (.builtin "object.__class__") = some true
  hm : PySem.W.mroIn K C (.type "object") = some true
theorem kit_self (K : PySem.W.Frag) (t : Value) (h : (t == t) = true) : PySem.W.kitOne K t t = some true := by
  unfold PySem.W.kitOne
  rw [if_pos h]
theorem r_isR {K : PySem.W.Frag} {C : Addr} {H : Hp} {Q : VK} {a : Addr} {t b : Int} (c : Cls K C) (i : InsC K C) (h : IsR C H a t b) (q : Q (.bl true) H) : rIsi K [.ref a, .ref C] H Q := by
  obtain ⟨dx, h⟩ := h
  exact ⟨.ref a, .ref C, .ref C, .ref C, true, rfl, .own C, .base (.ins h c i.ha i.hn i.ht i.hm), kit_self K (.ref C) (beq_self_eq_true _), q⟩
end RB

set_option linter.all false
/-! Fractions: order, sign, floor. -/
namespace RB
/-- -1, 0 or 1 -/
def ordI (l r : Int) : Int := if l < r then -1 else if r < l then 1 else 0
theorem ordI_lt {l r : Int} (h : l < r) : ordI l r = -1 := if_pos h
theorem ordI_gt {l r : Int} (h : r < l) : ordI l r = 1 := by
  unfold ordI
  rw [if_neg (by omega), if_pos h]
theorem ordI_self (l : Int) : ordI l l = 0 := by
  unfold ordI
  rw [if_neg (by omega), if_neg (by omega)]
theorem ordI_swap (l r : Int) : ordI r l = - ordI l r := by
  rcases Int.lt_trichotomy l r with h | h | h
  · rw [ordI_lt h, ordI_gt h]; rfl
  · subst h; rw [ordI_self]; rfl
  · rw [ordI_gt h, ordI_lt h]
theorem ordI_scale {c : Int} (hc : 0 < c) (l r : Int) : ordI (l * c) (r * c) = ordI l r := by
  rcases Int.lt_trichotomy l r with h | h | h
  · rw [ordI_lt h, ordI_lt (Int.mul_lt_mul_of_pos_right h hc)]
  · subst h; rw [ordI_self, ordI_self]
  · rw [ordI_gt h, ordI_gt (Int.mul_lt_mul_of_pos_right h hc)]
theorem ordI_sub (l r : Int) : ordI (l - r) 0 = ordI l r := by
  rcases Int.lt_trichotomy l r with h | h | h
  · rw [ordI_lt h, ordI_lt (by omega)]
  · subst h; rw [ordI_self, Int.sub_self, ordI_self]
  · rw [ordI_gt h, ordI_gt (by omega)]
theorem rG_gt {t b : Int} (hb : 0 < b) : 0 < rG t b := by
  have := rG_pos (t := t) (b := b) (by omega)
  unfold rG
  rw [gcdL_pair, if_neg (by omega)]
  omega
/-- the order of two made fractions is that of what they are made of -/
theorem ord_made {t b u v : Int} (hb : 0 < b) (hv : 0 < v) : ordI (rT t b * rB u v) (rT u v * rB t b) = ordI (t * v) (u * b) := by
  have g1 := rG_gt (t := t) hb
  have g2 := rG_gt (t := u) hv
  have e1 := rT_mul (t := t) (b := b) (by omega)
  have e2 := rB_mul (t := t) (b := b) (by omega)
  have e3 := rT_mul (t := u) (b := v) (by omega)
  have e4 := rB_mul (t := u) (b := v) (by omega)
  generalize rT t b = p at *
  generalize rB t b = q at *
  generalize rT u v = p' at *
  generalize rB u v = q' at *
  generalize rG t b = g at *
  generalize rG u v = g' at *
  have hg : 0 < g * g' := Int.mul_pos g1 g2
  have a1 : t * v = (p * q') * (g * g') := by rw [← e1, ← e4]; simp only [Int.mul_assoc, Int.mul_left_comm, Int.mul_comm]
  have a2 : u * b = (p' * q) * (g * g') := by rw [← e3, ← e2]; simp only [Int.mul_assoc, Int.mul_left_comm, Int.mul_comm]
  rw [a1, a2, ordI_scale hg]
theorem sign_made {t b : Int} (hb : 0 < b) : ordI (rT t b) 0 = ordI t 0 := by
  have g1 := rG_gt (t := t) hb
  have e1 := rT_mul (t := t) (b := b) (by omega)
  have := ordI_scale g1 (rT t b) 0
  rw [e1, Int.zero_mul] at this
  exact this.symm
theorem rG_one (t : Int) : rG t 1 = 1 := by
  unfold rG
  rw [gcdL_pair, if_neg (by decide), Int.gcd_one_right]; rfl
theorem rT_one (t : Int) : rT t 1 = t := by
  unfold rT; rw [rG_one, Int.fdiv_one]
theorem rB_one (t : Int) : rB t 1 = 1 := by
  unfold rB; rw [rG_one]; rfl
theorem fdiv_two {p q : Int} (hq : 0 < q) : p.fdiv q * q ≤ p ∧ p < (p.fdiv q + 1) * q := by
  have h1 := Int.mul_fdiv_add_fmod p q
  have h2 := Int.fmod_nonneg_of_pos p hq
  have h3 := Int.fmod_lt_of_pos p hq
  rw [Int.add_mul, Int.one_mul, Int.mul_comm (p.fdiv q) q]
  omega
theorem fdiv_abs {p q : Int} (hq : 0 < q) : (p.fdiv q).natAbs ≤ p.natAbs := by
  obtain ⟨h1, h2⟩ := fdiv_two (p := p) hq
  generalize p.fdiv q = l at *
  by_cases hl : 0 ≤ l
  · have := Int.mul_le_mul_of_nonneg_left (show 1 ≤ q by omega) hl
    rw [Int.mul_one] at this
    omega
  · have := Int.mul_le_mul_of_nonneg_left (show 1 ≤ q by omega) (show 0 ≤ -(l + 1) by omega)
    rw [Int.mul_one, Int.neg_mul] at this
    omega
/-- the floor of a made fraction, told by what it is made of -/
theorem floor_made {t b : Int} (hb : 0 < b) : (rT t b).fdiv (rB t b) * b ≤ t ∧ t < ((rT t b).fdiv (rB t b) + 1) * b := by
  have g1 := rG_gt (t := t) hb
  have e1 := rT_mul (t := t) (b := b) (by omega)
  have e2 := rB_mul (t := t) (b := b) (by omega)
  obtain ⟨h1, h2⟩ := fdiv_two (p := rT t b) (rB_pos (t := t) (b := b) (by omega))
  generalize (rT t b).fdiv (rB t b) = l at *
  generalize rT t b = p at *
  generalize rB t b = q at *
  generalize rG t b = g at *
  have a1 := Int.mul_le_mul_of_nonneg_right h1 (show 0 ≤ g by omega)
  have a2 := Int.mul_lt_mul_of_pos_right h2 g1
  rw [Int.mul_assoc, e2, e1] at a1 a2
  exact ⟨a1, a2⟩
end RB
namespace RB
open PySem PySem.Spec PyProof.Rows L2
theorem r_strI {i : Int} {H : Hp} {Q : VK} (h : i.natAbs.log2 < 1920) (q : Q (.str (toString i)) H) : rStrInt [.int i] H Q := ⟨i, rfl, h, q⟩
theorem r_addS {i j : Str} {H : Hp} {Q : VK} (h : i.length + j.length ≤ sizeLine) (q : Q (.str (i ++ j)) H) : rAddS (.str i) (.str j) H Q := ⟨i, j, rfl, rfl, h, q⟩
theorem rG_low {t b : Int} (hb : 0 < b) (h : Int.gcd t b = 1) : rG t b = 1 := by
  unfold rG
  rw [gcdL_pair, if_neg (by omega), h]; rfl
theorem rT_low {t b : Int} (hb : 0 < b) (h : Int.gcd t b = 1) : rT t b = t := by
  unfold rT; rw [rG_low hb h, Int.fdiv_one]
theorem rB_low {t b : Int} (hb : 0 < b) (h : Int.gcd t b = 1) : rB t b = b := by
  unfold rB; rw [rG_low hb h, Int.fdiv_one]
/-- a fraction's text -/
def textR (t b : Int) : Str := if b = 1 then (toString t : String) else Str.ofString (toString t) ++ "/" ++ Str.ofString (toString b)
theorem text_len {i : Int} (h : i.natAbs.log2 < 1920) : (Str.ofString (toString i)).length ≤ 1921 := PyProof.Rows.int_text_len_1921 h
theorem cat_len (a b : Str) : (a ++ b).length = a.length + b.length := by
  show (a.cps ++ b.cps).size = _
  rw [Array.size_append]; rfl
theorem log_lt {i : Int} {n : Nat} (h0 : 0 < n) (h9 : n ≤ 1920) (h : i.natAbs < 2 ^ n) : i.natAbs.log2 < 1920 := Nat.lt_of_lt_of_le (PySem.Flt.log2_lt_of h0 h) h9
end RB
namespace RB
theorem cross_made {X Y T B : Int} (hY : Y ≠ 0) (h : X * B = T * Y) : rT X Y * B = T * rB X Y := by
  have h1 := rT_mul (t := X) hY
  have h2 := rB_mul (t := X) hY
  have hg := rG_ne (t := X) hY
  generalize rT X Y = p at *
  generalize rB X Y = q at *
  generalize rG X Y = g at *
  apply Int.eq_of_mul_eq_mul_right hg
  rw [Int.mul_assoc, Int.mul_comm B g, ← Int.mul_assoc, h1, h, Int.mul_assoc, h2]
theorem plus_cross {p q p' q' a b c d : Int} (h1 : p * b = a * q) (h2 : p' * d = c * q') : (p * q' + p' * q) * (b * d) = (a * d + c * b) * (q * q') := by grind
theorem minus_cross {p q p' q' a b c d : Int} (h1 : p * b = a * q) (h2 : p' * d = c * q') : (p * q' - p' * q) * (b * d) = (a * d - c * b) * (q * q') := by grind
theorem times_cross {p q p' q' a b c d : Int} (h1 : p * b = a * q) (h2 : p' * d = c * q') : (p * p') * (b * d) = (a * c) * (q * q') := by grind
theorem over_cross {p q p' q' a b c d : Int} (h1 : p * b = a * q) (h2 : p' * d = c * q') : (p * q') * (b * c) = (a * d) * (q * p') := by grind
theorem rT_zero (b : Int) : rT 0 b = 0 := by
  unfold rT; exact Int.zero_fdiv _
end RB

set_option linter.all false
/-! Lists of coefficients. -/
namespace ML
/-- the coefficient at a place, 0 beyond -/
def cf (P : List Int) (k : Nat) : Int := P.getD k 0
theorem cf_nil (k : Nat) : cf [] k = 0 := by simp [cf]
theorem cf_zero (x : Int) (r : List Int) : cf (x :: r) 0 = x := rfl
theorem cf_succ (x : Int) (r : List Int) (k : Nat) : cf (x :: r) (k + 1) = cf r k := by simp [cf]
theorem cf_get {P : List Int} {k : Nat} (h : k < P.length) : cf P k = P[k] := by
  unfold cf; rw [List.getD_eq_getElem?_getD, List.getElem?_eq_getElem h]; rfl
theorem cf_some {P : List Int} {k : Nat} {x : Int} (h : P[k]? = some x) : cf P k = x := by
  unfold cf; rw [List.getD_eq_getElem?_getD, h]; rfl
theorem cf_beyond {P : List Int} {k : Nat} (h : P.length ≤ k) : cf P k = 0 := by
  unfold cf; rw [List.getD_eq_getElem?_getD, List.getElem?_eq_none h]; rfl
theorem cf_getElem? {P : List Int} {k : Nat} (h : k < P.length) : P[k]? = some (cf P k) := by
  rw [cf_get h, List.getElem?_eq_getElem h]
/-- two lists of one length with the same coefficients are alike -/
theorem ext {P Q : List Int} (hl : P.length = Q.length) (h : ∀ k, k < P.length → cf P k = cf Q k) : P = Q := by
  apply List.ext_getElem hl
  intro i h1 h2
  rw [← cf_get h1, ← cf_get h2]
  exact h i h1
/-- without noughts at the end -/
def Trim (P : List Int) : Prop := P = [] ∨ cf P (P.length - 1) ≠ 0
theorem trim_ext {P Q : List Int} (hP : Trim P) (hQ : Trim Q) (h : ∀ k, cf P k = cf Q k) : P = Q := by
  have aux : ∀ {P Q : List Int}, Trim P → (∀ k, cf P k = cf Q k) → P.length ≤ Q.length := fun {P Q} hP h => by
    rcases hP with rfl | hP
    · exact Nat.zero_le _
    · apply Nat.le_of_not_lt
      intro hl
      have := h (P.length - 1)
      rw [cf_beyond (P := Q) (by omega)] at this
      exact hP this
  exact ext (Nat.le_antisymm (aux hP h) (aux hQ fun k => (h k).symm)) fun k _ => h k
def trimL : List Int → List Int
  | [] => []
  | x :: r => match trimL r with
    | [] => if x = 0 then [] else [x]
    | y :: s => x :: y :: s
theorem cf_trimL : ∀ (P : List Int) (k : Nat), cf (trimL P) k = cf P k
  | [], k => rfl
  | x :: r, k => by
    have ih := cf_trimL r
    unfold trimL
    split
    · next e =>
      rw [e] at ih
      split
      · next hx =>
        subst hx
        cases k with
        | zero => rfl
        | succ k => rw [cf_succ, ← ih k, cf_nil, cf_nil]
      · cases k with
        | zero => rfl
        | succ k => rw [cf_succ, cf_succ, ← ih k]
    · next y s e =>
      rw [e] at ih
      cases k with
      | zero => rfl
      | succ k => rw [cf_succ, cf_succ, ← ih k]
theorem trim_trimL : ∀ P : List Int, Trim (trimL P)
  | [] => .inl rfl
  | x :: r => by
    have ih := trim_trimL r
    unfold trimL
    split
    · split
      · exact .inl rfl
      · next hx => exact .inr hx
    · next y s e =>
      rw [e] at ih
      rcases ih with h | h
      · cases h
      · refine .inr ?_
        show cf (x :: y :: s) (s.length + 1) ≠ 0
        rw [cf_succ]
        exact h
theorem trimL_eq {P Q : List Int} (hQ : Trim Q) (h : ∀ k, cf Q k = cf P k) : trimL P = Q := trim_ext (trim_trimL P) hQ fun k => by rw [cf_trimL, h]
theorem trimL_self {P : List Int} (h : Trim P) : trimL P = P := trimL_eq h fun _ => rfl
theorem trimL_trimL (P : List Int) : trimL (trimL P) = trimL P := trimL_self (trim_trimL P)
theorem trimL_len : ∀ P : List Int, (trimL P).length ≤ P.length
  | [] => Nat.le_refl _
  | x :: r => by
    have ih := trimL_len r
    unfold trimL
    split
    · split <;> simp
    · next y s e =>
      rw [e] at ih
      simp only [List.length_cons] at ih ⊢
      omega
theorem trimL_congr {P Q : List Int} (h : ∀ k, cf P k = cf Q k) : trimL P = trimL Q := trim_ext (trim_trimL P) (trim_trimL Q) fun k => by rw [cf_trimL, cf_trimL, h]
/-- what the loop finds -/
theorem trimL_take {P : List Int} {n : Nat} (hn : n ≤ P.length) (h0 : ∀ k, n ≤ k → cf P k = 0) (h1 : n = 0 ∨ cf P (n - 1) ≠ 0) : trimL P = P.take n := by
  have hc : ∀ k, cf (P.take n) k = cf P k := fun k => by
    by_cases hk : k < n
    · unfold cf
      rw [List.getD_eq_getElem?_getD, List.getD_eq_getElem?_getD, List.getElem?_take_of_lt hk]
    · rw [h0 k (by omega), cf_beyond (by rw [List.length_take]; omega)]
  refine trimL_eq ?_ hc
  rcases h1 with h1 | h1
  · left; subst h1; rfl
  · by_cases hz : n = 0
    · left; subst hz; rfl
    · right
      rw [List.length_take, Nat.min_eq_left hn, hc]
      exact h1
/-- all coefficients below 2 ^ n -/
def Sz (n : Nat) (P : List Int) : Prop := ∀ x ∈ P, x.natAbs < 2 ^ n
theorem Sz.cf {n : Nat} {P : List Int} (h : Sz n P) (k : Nat) : (cf P k).natAbs < 2 ^ n := by
  by_cases hk : k < P.length
  · rw [cf_get hk]; exact h _ (List.getElem_mem hk)
  · rw [cf_beyond (by omega)]; exact Nat.two_pow_pos n
theorem Sz.of {n : Nat} {P : List Int} (h : ∀ k, k < P.length → (ML.cf P k).natAbs < 2 ^ n) : Sz n P := fun x hx => by
  obtain ⟨k, hk, rfl⟩ := List.getElem_of_mem hx
  rw [← cf_get hk]; exact h k hk
theorem Sz.mono {n m : Nat} {P : List Int} (h : Sz n P) (hm : n ≤ m) : Sz m P := fun x hx => Nat.lt_of_lt_of_le (h x hx) (Nat.pow_le_pow_right (by decide) hm)
theorem Sz.trim {n : Nat} {P : List Int} (h : Sz n P) : Sz n (trimL P) := Sz.of fun k _ => by rw [cf_trimL]; exact h.cf k
theorem Sz.take {n : Nat} {P : List Int} (h : Sz n P) (k : Nat) : Sz n (P.take k) := fun x hx => h x (List.mem_of_mem_take hx)
theorem Sz.drop {n : Nat} {P : List Int} (h : Sz n P) (k : Nat) : Sz n (P.drop k) := fun x hx => h x (List.mem_of_mem_drop hx)
theorem Sz.append {n : Nat} {P Q : List Int} (h : Sz n P) (h' : Sz n Q) : Sz n (P ++ Q) := fun x hx => (List.mem_append.mp hx).elim (h x) (h' x)
theorem Sz.nil (n : Nat) : Sz n [] := fun x hx => by cases hx
theorem Sz.cons {n : Nat} {x : Int} {P : List Int} (hx : x.natAbs < 2 ^ n) (h : Sz n P) : Sz n (x :: P) := fun y hy => (List.mem_cons.mp hy).elim (fun e => by rw [e]; exact hx) (h y)
theorem Sz.rep0 (n k : Nat) : Sz n (List.replicate k 0) := fun x hx => by
  rw [List.mem_replicate] at hx
  rw [hx.2]; exact Nat.two_pow_pos n
theorem Sz.reverse {n : Nat} {P : List Int} (h : Sz n P) : Sz n P.reverse := fun x hx => h x (List.mem_reverse.mp hx)
theorem cf_map {f : Int → Int} (h0 : f 0 = 0) (P : List Int) (k : Nat) : cf (P.map f) k = f (cf P k) := by
  unfold cf
  rw [List.getD_eq_getElem?_getD, List.getD_eq_getElem?_getD, List.getElem?_map]
  cases P[k]? with
  | none => exact h0.symm
  | some x => rfl
theorem cf_range {n : Nat} {f : Nat → Int} {k : Nat} (h : k < n) : cf ((List.range n).map f) k = f k := by
  rw [cf_get (by simpa using h)]; simp
theorem cf_range_beyond {n : Nat} {f : Nat → Int} {k : Nat} (h : n ≤ k) : cf ((List.range n).map f) k = 0 := cf_beyond (by simpa using h)
theorem cf_set {P : List Int} {i k : Nat} {x : Int} (h : i < P.length) : cf (P.set i x) k = if k = i then x else cf P k := by
  unfold cf
  rw [List.getD_eq_getElem?_getD, List.getElem?_set, List.getD_eq_getElem?_getD]
  by_cases e : i = k
  · subst e; simp [h]
  · rw [if_neg e, if_neg (fun z => e z.symm)]
theorem cf_append_left {P Q : List Int} {k : Nat} (h : k < P.length) : cf (P ++ Q) k = cf P k := by
  unfold cf
  rw [List.getD_eq_getElem?_getD, List.getElem?_append_left h, List.getD_eq_getElem?_getD]
theorem cf_append_right {P Q : List Int} {k : Nat} (h : P.length ≤ k) : cf (P ++ Q) k = cf Q (k - P.length) := by
  unfold cf
  rw [List.getD_eq_getElem?_getD, List.getElem?_append_right h, List.getD_eq_getElem?_getD]
theorem cf_rep0 (n k : Nat) : cf (List.replicate n 0) k = 0 := by
  unfold cf
  rw [List.getD_eq_getElem?_getD, List.getElem?_replicate]
  split <;> rfl
theorem cf_drop (P : List Int) (n k : Nat) : cf (P.drop n) k = cf P (n + k) := by
  unfold cf
  rw [List.getD_eq_getElem?_getD, List.getElem?_drop, List.getD_eq_getElem?_getD]
theorem cf_take {P : List Int} {n k : Nat} (h : k < n) : cf (P.take n) k = cf P k := by
  unfold cf
  rw [List.getD_eq_getElem?_getD, List.getD_eq_getElem?_getD, List.getElem?_take_of_lt h]

/-! ### sums and products -/
def addL (P Q : List Int) : List Int := trimL ((List.range (max P.length Q.length)).map fun k => cf P k + cf Q k)
def subL (P Q : List Int) : List Int := trimL ((List.range (max P.length Q.length)).map fun k => cf P k - cf Q k)
theorem cf_addL (P Q : List Int) (k : Nat) : cf (addL P Q) k = cf P k + cf Q k := by
  unfold addL
  rw [cf_trimL]
  by_cases h : k < max P.length Q.length
  · rw [cf_range h]
  · rw [cf_range_beyond (by omega), cf_beyond (P := P) (by omega), cf_beyond (P := Q) (by omega)]; rfl
theorem cf_subL (P Q : List Int) (k : Nat) : cf (subL P Q) k = cf P k - cf Q k := by
  unfold subL
  rw [cf_trimL]
  by_cases h : k < max P.length Q.length
  · rw [cf_range h]
  · rw [cf_range_beyond (by omega), cf_beyond (P := P) (by omega), cf_beyond (P := Q) (by omega)]; rfl
theorem trim_addL (P Q : List Int) : Trim (addL P Q) := trim_trimL _
theorem trim_subL (P Q : List Int) : Trim (subL P Q) := trim_trimL _
/-- the sum of f over 0 .. n - 1 -/
def sm : Nat → (Nat → Int) → Int
  | 0, _ => 0
  | n + 1, f => sm n f + f n
theorem sm_succ (n : Nat) (f : Nat → Int) : sm (n + 1) f = sm n f + f n := rfl
theorem sm_congr {n : Nat} {f g : Nat → Int} (h : ∀ i, i < n → f i = g i) : sm n f = sm n g := by
  induction n with
  | zero => rfl
  | succ n ih => unfold sm; rw [ih fun i hi => h i (by omega), h n (by omega)]
theorem sm_zero {n : Nat} {f : Nat → Int} (h : ∀ i, i < n → f i = 0) : sm n f = 0 := by
  induction n with
  | zero => rfl
  | succ n ih => unfold sm; rw [ih fun i hi => h i (by omega), h n (by omega)]; rfl
theorem sm_add (n : Nat) (f g : Nat → Int) : sm n (fun i => f i + g i) = sm n f + sm n g := by
  induction n with
  | zero => rfl
  | succ n ih => simp only [sm_succ]; rw [ih]; omega
theorem sm_sub (n : Nat) (f g : Nat → Int) : sm n (fun i => f i - g i) = sm n f - sm n g := by
  induction n with
  | zero => rfl
  | succ n ih => simp only [sm_succ]; rw [ih]; omega
theorem sm_mul (n : Nat) (c : Int) (f : Nat → Int) : sm n (fun i => c * f i) = c * sm n f := by
  induction n with
  | zero => simp [sm]
  | succ n ih => unfold sm; rw [ih, Int.mul_add]
theorem sm_mul_r (n : Nat) (c : Int) (f : Nat → Int) : sm n (fun i => f i * c) = sm n f * c := by
  rw [Int.mul_comm, ← sm_mul]; exact sm_congr fun i _ => Int.mul_comm _ _
theorem sm_neg (n : Nat) (f : Nat → Int) : sm n (fun i => - f i) = - sm n f := by
  induction n with
  | zero => rfl
  | succ n ih => simp only [sm_succ]; rw [ih]; omega
theorem sm_ext {n m : Nat} {f : Nat → Int} (h : n ≤ m) (h0 : ∀ i, n ≤ i → i < m → f i = 0) : sm m f = sm n f := by
  induction m with
  | zero => have : n = 0 := by omega
            subst this; rfl
  | succ m ih =>
    by_cases e : n = m + 1
    · subst e; rfl
    · rw [sm_succ, ih (by omega) fun i h1 h2 => h0 i h1 (by omega), h0 m (by omega) (by omega)]
      omega
theorem sm_single {n : Nat} {f : Nat → Int} {j : Nat} (hj : j < n) (h : ∀ i, i < n → i ≠ j → f i = 0) : sm n f = f j := by
  induction n with
  | zero => omega
  | succ n ih =>
    unfold sm
    by_cases e : j = n
    · subst e
      rw [sm_zero fun i hi => h i (by omega) (by omega)]; omega
    · rw [ih (by omega) fun i hi hn => h i (by omega) hn, h n (by omega) (fun z => e z.symm)]; omega
theorem sm_shift (n : Nat) (f : Nat → Int) : sm (n + 1) f = f 0 + sm n (fun i => f (i + 1)) := by
  induction n with
  | zero => simp [sm]
  | succ n ih =>
    rw [sm, ih]
    show f 0 + sm n (fun i => f (i + 1)) + f (n + 1) = f 0 + (sm n (fun i => f (i + 1)) + f (n + 1))
    omega
theorem sm_rev (n : Nat) (f : Nat → Int) : sm n (fun i => f (n - 1 - i)) = sm n f := by
  induction n generalizing f with
  | zero => rfl
  | succ n ih =>
    rw [sm_shift, sm]
    have e : sm n (fun i => f (n + 1 - 1 - (i + 1))) = sm n f := by
      rw [← ih f]
      exact sm_congr fun i hi => by congr 1; omega
    rw [e]
    show f (n - 0) + sm n f = sm n f + f n
    rw [Nat.sub_zero]; omega
theorem sm_swap (n m : Nat) (f : Nat → Nat → Int) : sm n (fun i => sm m (fun j => f i j)) = sm m (fun j => sm n (fun i => f i j)) := by
  induction n with
  | zero => rw [sm]; exact (sm_zero fun _ _ => rfl).symm
  | succ n ih =>
    rw [sm, ih, ← sm_add]
    exact sm_congr fun j _ => rfl
/-- the coefficient of a product at a place -/
def cv (P Q : List Int) (k : Nat) : Int := sm (k + 1) fun i => cf P i * cf Q (k - i)
def mulL (P Q : List Int) : List Int := trimL ((List.range (P.length + Q.length)).map (cv P Q))
theorem cv_beyond {P Q : List Int} {k : Nat} (h : P.length + Q.length ≤ k + 1) : cv P Q k = 0 := sm_zero fun i hi => by
  by_cases h1 : i < P.length
  · rw [cf_beyond (P := Q) (by omega), Int.mul_zero]
  · rw [cf_beyond (P := P) (by omega), Int.zero_mul]
theorem cf_mulL (P Q : List Int) (k : Nat) : cf (mulL P Q) k = cv P Q k := by
  unfold mulL
  rw [cf_trimL]
  by_cases h : k < P.length + Q.length
  · rw [cf_range h]
  · rw [cf_range_beyond (by omega), cv_beyond (by omega)]
theorem trim_mulL (P Q : List Int) : Trim (mulL P Q) := trim_trimL _
/-- the product as it stands behind k turns of the outer loop and i of the inner one -/
def pcv (P Q : List Int) (k j : Nat) : Int := sm k fun a => if a ≤ j then cf P a * cf Q (j - a) else 0
def pcw (P Q : List Int) (k i j : Nat) : Int := pcv P Q k j + if k ≤ j ∧ j - k < i then cf P k * cf Q (j - k) else 0
theorem pcw_zero (P Q : List Int) (k j : Nat) : pcw P Q k 0 j = pcv P Q k j := by
  unfold pcw
  rw [if_neg (by omega)]; omega
theorem pcw_full (P Q : List Int) (k j : Nat) : pcw P Q k Q.length j = pcv P Q (k + 1) j := by
  unfold pcw
  show _ = pcv P Q k j + (if k ≤ j then cf P k * cf Q (j - k) else 0)
  by_cases h : k ≤ j
  · rw [if_pos h]
    by_cases h2 : j - k < Q.length
    · rw [if_pos ⟨h, h2⟩]
    · rw [if_neg (by omega), cf_beyond (P := Q) (by omega), Int.mul_zero]
  · rw [if_neg h, if_neg (by omega)]
theorem pcw_step (P Q : List Int) (k i j : Nat) : pcw P Q k (i + 1) j = if j = k + i then pcw P Q k i j + cf P k * cf Q i else pcw P Q k i j := by
  unfold pcw
  by_cases h : j = k + i
  · subst h
    rw [if_pos rfl, if_pos (by omega), if_neg (by omega), Nat.add_sub_cancel_left]; omega
  · rw [if_neg h]
    by_cases h2 : k ≤ j ∧ j - k < i
    · rw [if_pos h2, if_pos (by omega)]
    · rw [if_neg h2, if_neg (by omega)]
theorem pcv_full (P Q : List Int) (j : Nat) : pcv P Q P.length j = cv P Q j := by
  unfold pcv cv
  by_cases h : P.length ≤ j + 1
  · rw [sm_ext (f := fun i => cf P i * cf Q (j - i)) h fun i h1 h2 => by rw [cf_beyond (P := P) h1, Int.zero_mul]]
    exact sm_congr fun i hi => if_pos (by omega)
  · rw [sm_ext (n := j + 1) (by omega) fun i h1 h2 => if_neg (by omega)]
    exact sm_congr fun i hi => if_pos (by omega)
theorem mulL_of {P Q R : List Int} (hl : R.length = P.length + Q.length) (h : ∀ j, cf R j = pcv P Q P.length j) : trimL R = mulL P Q := by
  refine trim_ext (trim_trimL _) (trim_mulL P Q) fun j => ?_
  rw [cf_trimL, h, pcv_full, cf_mulL]
def linL (P Q : List Int) (f : Int) : List Int := trimL ((List.range (max P.length Q.length)).map fun k => cf P k + f * cf Q k)
theorem linL_one (P Q : List Int) : linL P Q 1 = addL P Q := by
  unfold linL addL
  congr 1
  apply List.map_congr_left
  intro k _
  rw [Int.one_mul]
theorem linL_neg (P Q : List Int) : linL P Q (-1) = subL P Q := by
  unfold linL subL
  congr 1
  apply List.map_congr_left
  intro k _
  omega
theorem linL_of {P Q R : List Int} {f : Int} (hl : R.length = max P.length Q.length) (h : ∀ j, j < max P.length Q.length → cf R j = cf P j + f * cf Q j) : trimL R = linL P Q f := by
  unfold linL
  congr 1
  refine ext (by simpa using hl) fun k hk => ?_
  rw [h k (by omega), cf_range (by omega)]
/-! ### slope, turned, flipped, lifted -/
def slopeL (P : List Int) : List Int := (List.range (P.length - 1)).map fun (k : Nat) => ((k : Int) + 1) * cf P (k + 1)
def turnL (P : List Int) : List Int := (List.range P.length).map fun k => if k % 2 = 1 then - cf P k else cf P k
def flipL (P : List Int) : List Int := trimL P.reverse
/-- each coefficient at so many times its place -/
def liftL (P : List Int) (m : Nat) : List Int := (List.range (if P.length = 0 then 0 else m * (P.length - 1) + 1)).map fun j => if j % m = 0 then cf P (j / m) else 0
theorem cf_slopeL (P : List Int) (k : Nat) : cf (slopeL P) k = ((k : Int) + 1) * cf P (k + 1) := by
  unfold slopeL
  by_cases h : k < P.length - 1
  · rw [cf_range h]
  · rw [cf_range_beyond (by omega), cf_beyond (P := P) (show P.length ≤ k + 1 by omega), Int.mul_zero]
theorem cf_turnL (P : List Int) (k : Nat) : cf (turnL P) k = if k % 2 = 1 then - cf P k else cf P k := by
  unfold turnL
  by_cases h : k < P.length
  · rw [cf_range h]
  · rw [cf_range_beyond (by omega), cf_beyond (P := P) (by omega)]; split <;> rfl
theorem turnL_len (P : List Int) : (turnL P).length = P.length := by unfold turnL; simp
theorem turnL_turnL (P : List Int) : turnL (turnL P) = P := by
  refine ext (by rw [turnL_len, turnL_len]) fun k _ => ?_
  rw [cf_turnL, cf_turnL]
  by_cases h : k % 2 = 1
  · rw [if_pos h, if_pos h]; omega
  · rw [if_neg h, if_neg h]
theorem cf_reverse {P : List Int} {k : Nat} (h : k < P.length) : cf P.reverse k = cf P (P.length - 1 - k) := by
  unfold cf
  rw [List.getD_eq_getElem?_getD, List.getElem?_reverse h, List.getD_eq_getElem?_getD]
theorem liftL_len (P : List Int) (m : Nat) : (liftL P m).length = if P.length = 0 then 0 else m * (P.length - 1) + 1 := by unfold liftL; simp
theorem div_bound {j m n : Nat} (hm : 0 < m) (h : j < m * n + 1) : j / m ≤ n := by
  rw [← Nat.lt_add_one_iff, Nat.div_lt_iff_lt_mul hm, Nat.add_mul, Nat.mul_comm n m]; omega
theorem liftL_step {P R : List Int} {m i : Nat} (hm : 0 < m) (hi : i < P.length) (hR : R = liftL (P.take i) m) : (if i = 0 then R else R ++ List.replicate (m - 1) 0) ++ [cf P i] = liftL (P.take (i + 1)) m := by
  have lt1 : (P.take i).length = i := by rw [List.length_take]; omega
  have lt2 : (P.take (i + 1)).length = i + 1 := by rw [List.length_take]; omega
  have lR : R.length = if i = 0 then 0 else m * (i - 1) + 1 := by rw [hR, liftL_len, lt1]
  have lL : (if i = 0 then R else R ++ List.replicate (m - 1) 0).length = m * i := by
    by_cases h : i = 0
    · subst h; rw [if_pos rfl, lR, if_pos rfl]; rfl
    · rw [if_neg h, List.length_append, List.length_replicate, lR, if_neg h]
      have : m * i = m * (i - 1) + m := by rw [← Nat.mul_succ]; congr 1; omega
      omega
  refine ext ?_ fun k hk => ?_
  · rw [List.length_append, lL, liftL_len, lt2, if_neg (by omega), Nat.add_sub_cancel]; rfl
  · rw [List.length_append, lL] at hk
    have hk' : k < m * i + 1 := hk
    have hr : cf (liftL (P.take (i + 1)) m) k = if k % m = 0 then cf (P.take (i + 1)) (k / m) else 0 := by
      unfold liftL
      rw [lt2, if_neg (by omega), Nat.add_sub_cancel, cf_range hk']
    rw [hr]
    by_cases hlast : k = m * i
    · rw [cf_append_right (by omega), lL, hlast, Nat.sub_self, Nat.mul_mod_right, if_pos rfl, Nat.mul_div_cancel_left _ hm, cf_take (by omega)]; rfl
    · rw [cf_append_left (by omega)]
      have i0 : i ≠ 0 := by intro e; subst e; omega
      rw [if_neg i0]
      rw [if_neg i0] at lR
      have em : m * i = m * (i - 1) + m := by rw [← Nat.mul_succ]; congr 1; omega
      by_cases hin : k < R.length
      · rw [cf_append_left hin, hR]
        unfold liftL
        rw [lt1, if_neg i0, cf_range (by omega)]
        split
        · have := div_bound hm (show k < m * (i - 1) + 1 by omega)
          rw [cf_take (by omega), cf_take (by omega)]
        · rfl
      · rw [cf_append_right (by omega), cf_rep0]
        have hd : k / m = i - 1 := by
          apply Nat.div_eq_of_lt_le
          · rw [Nat.mul_comm]; omega
          · rw [Nat.succ_mul, Nat.mul_comm]; omega
        have hne : k % m ≠ 0 := fun e => by
          have := Nat.div_add_mod k m
          rw [hd, e] at this
          omega
        rw [if_neg hne]
theorem liftL_all (P : List Int) (m : Nat) : liftL (P.take P.length) m = liftL P m := by rw [List.take_length]
theorem liftL_nil (P : List Int) (m : Nat) : liftL (P.take 0) m = [] := by simp [liftL]
theorem cf_liftL (P : List Int) {m : Nat} (hm : 0 < m) (j : Nat) : cf (liftL P m) j = if j % m = 0 then cf P (j / m) else 0 := by
  unfold liftL
  by_cases h : j < (if P.length = 0 then 0 else m * (P.length - 1) + 1)
  · rw [cf_range h]
  · rw [cf_range_beyond (by omega)]
    split
    · next e =>
      refine (cf_beyond ?_).symm
      by_cases h0 : P.length = 0
      · rw [h0]; exact Nat.zero_le _
      · rw [if_neg h0] at h
        have := Nat.div_add_mod j m
        rw [e] at this
        apply Nat.le_of_not_lt
        intro hlt
        have h2 : m * (j / m) ≤ m * (P.length - 1) := Nat.mul_le_mul_left m (by omega)
        omega
    · rfl
theorem trim_liftL {P : List Int} {m : Nat} (hm : 0 < m) (h : Trim P) : Trim (liftL P m) := by
  by_cases h0 : P.length = 0
  · left; unfold liftL; rw [if_pos h0]; rfl
  · right
    rw [liftL_len, if_neg h0, Nat.add_sub_cancel, cf_liftL P hm, Nat.mul_mod_right, if_pos rfl, Nat.mul_div_cancel_left _ hm]
    rcases h with h | h
    · rw [h] at h0; exact absurd rfl h0
    · exact h
/-- the product with its noughts -/
def mulU (P Q : List Int) : List Int := if P = [] ∨ Q = [] then [] else (List.range (P.length + Q.length - 1)).map (cv P Q)
theorem cf_mulU (P Q : List Int) (k : Nat) : cf (mulU P Q) k = cv P Q k := by
  unfold mulU
  split
  · next h =>
    rw [cf_nil]
    refine (cv_beyond' h k).symm
  · by_cases h : k < P.length + Q.length - 1
    · rw [cf_range h]
    · rw [cf_range_beyond (by omega), cv_beyond (by omega)]
where
  cv_beyond' {P Q : List Int} (h : P = [] ∨ Q = []) (k : Nat) : cv P Q k = 0 := sm_zero fun i _ => by
    rcases h with h | h
    · rw [h, cf_nil, Int.zero_mul]
    · rw [h, cf_nil, Int.mul_zero]
theorem mulU_len (P Q : List Int) : (mulU P Q).length ≤ P.length + Q.length := by
  unfold mulU
  split
  · simp
  · rw [List.length_map, List.length_range]; omega
theorem addL_len (P Q : List Int) : (addL P Q).length ≤ max P.length Q.length := Nat.le_trans (trimL_len _) (by simp)
theorem sm_abs {n : Nat} {f : Nat → Int} {b : Nat} (h : ∀ i, i < n → (f i).natAbs ≤ b) : (sm n f).natAbs ≤ n * b := by
  induction n with
  | zero => simp [sm]
  | succ n ih =>
    rw [sm_succ, Nat.add_mul]
    have := ih fun i hi => h i (by omega)
    have := h n (by omega)
    omega
theorem two_pow_ge (n : Nat) : n + 1 ≤ 2 ^ n := by
  induction n with
  | zero => decide
  | succ n ih => rw [Nat.pow_succ]; omega
theorem cv_sz {P Q : List Int} {n m : Nat} (hp : Sz n P) (hq : Sz m Q) (k : Nat) : (cv P Q k).natAbs < 2 ^ (n + m + P.length + 1) := by
  have h1 : cv P Q k = pcv P Q P.length k := (pcv_full P Q k).symm
  rw [h1]
  have h2 : (pcv P Q P.length k).natAbs ≤ P.length * 2 ^ (n + m) := sm_abs fun i _ => by
    split
    · rw [Int.natAbs_mul, Nat.pow_add]
      exact Nat.mul_le_mul (Nat.le_of_lt (hp.cf _)) (Nat.le_of_lt (hq.cf _))
    · exact Nat.zero_le _
  refine Nat.lt_of_le_of_lt h2 ?_
  have h3 := two_pow_ge P.length
  have h4 : 2 ^ (n + m + P.length + 1) = 2 ^ (P.length + 1) * 2 ^ (n + m) := by rw [← Nat.pow_add]; congr 1; omega
  rw [h4]
  exact Nat.mul_lt_mul_of_pos_right (by rw [Nat.pow_succ]; omega) (Nat.two_pow_pos _)
theorem Sz.mulL {P Q : List Int} {n m : Nat} (hp : Sz n P) (hq : Sz m Q) : Sz (n + m + P.length + 1) (mulL P Q) := Sz.of fun k _ => by rw [cf_mulL]; exact cv_sz hp hq k
theorem Sz.mulU {P Q : List Int} {n m : Nat} (hp : Sz n P) (hq : Sz m Q) : Sz (n + m + P.length + 1) (mulU P Q) := Sz.of fun k _ => by rw [cf_mulU]; exact cv_sz hp hq k
theorem Sz.addL {P Q : List Int} {n : Nat} (hp : Sz n P) (hq : Sz n Q) : Sz (n + 1) (addL P Q) := Sz.of fun k _ => by
  rw [cf_addL]
  have := hp.cf k
  have := hq.cf k
  have : 2 ^ (n + 1) = 2 ^ n + 2 ^ n := by rw [Nat.pow_succ]; omega
  omega
end ML

set_option linter.all false
set_option maxRecDepth 100000
set_option maxHeartbeats 1000000
/-! Sturm's count, told with fractions alone. -/
namespace ST
open ML
/-! ### changes of sign along two rows of signs -/
def stp (s : Int × Int) (x : Int) : Int × Int := if x ≠ 0 then (if s.2 = 0 - x then s.1 + 1 else s.1, x) else s
theorem stp_shift (n m l : Int) (xs : List Int) : (xs.foldl stp (n + m, l)) = ((xs.foldl stp (n, l)).1 + m, (xs.foldl stp (n, l)).2) := by
  induction xs generalizing n l with
  | nil => rfl
  | cons x xs ih =>
    rw [List.foldl_cons, List.foldl_cons]
    unfold stp
    by_cases hx : x ≠ 0
    · rw [if_pos hx, if_pos hx]
      by_cases h : l = 0 - x
      · rw [if_pos h, if_pos h]
        show List.foldl stp (n + m + 1, x) xs = _
        rw [show n + m + 1 = (n + 1) + m by omega, ih]; rfl
      · rw [if_neg h, if_neg h]
        exact ih n x
    · rw [if_neg hx, if_neg hx]; exact ih n l
def St (p : Int × Int) : Prop := p.1 = p.2 ∧ (p.1 = 1 ∨ p.1 = -1)
def Sg (x : Int) : Prop := x = 1 ∨ x = 0 ∨ x = -1
/-- rows of signs at two places that lie near: the first sign is the same at both -/
inductive Chn : List (Int × Int) → Prop where
  | one {p} : St p → Chn [p]
  | st {p q r} : St p → Chn (q :: r) → Chn (p :: q :: r)
  | sk {p h k r} : St p → Sg h.1 → Sg h.2 → p.1 = 0 - k.1 → Chn (k :: r) → Chn (p :: h :: k :: r)
theorem Chn.hd {p : Int × Int} {r} (h : Chn (p :: r)) : St p := by
  cases h <;> assumption
theorem chn_same : ∀ {l : List (Int × Int)}, Chn l → ∀ p r, l = p :: r → ∀ n : Int, ((r.map Prod.fst).foldl stp (n, p.1)).1 = ((r.map Prod.snd).foldl stp (n, p.2)).1 := by
  intro l h
  induction h with
  | one h => intro p r e n; cases e; rfl
  | @st p q r hp hc ih =>
    intro p' r' e n
    cases e
    have hq := hc.hd
    rw [List.map_cons, List.map_cons, List.foldl_cons, List.foldl_cons]
    have e1 : stp (n, p.1) q.1 = ((if p.1 = 0 - q.1 then n + 1 else n), q.1) := by
      unfold stp; rw [if_pos (by rcases hq.2 with h | h <;> omega)]
    have e2 : stp (n, p.2) q.2 = ((if p.1 = 0 - q.1 then n + 1 else n), q.2) := by
      unfold stp; rw [if_pos (by have := hq.1; rcases hq.2 with h | h <;> omega), ← hp.1, ← hq.1]
    rw [e1, e2]
    exact ih q r rfl _
  | @sk p h k r hp h1 h2 hk hc ih =>
    intro p' r' e n
    cases e
    have hq := hc.hd
    have key : ∀ (σ x y : Int), (σ = 1 ∨ σ = -1) → Sg x → σ = 0 - y → stp (stp (n, σ) x) y = (n + 1, y) := by
      intro σ x y hσ hx hy
      have hy0 : y = 0 - σ := by omega
      subst hy0
      have e : ∀ a b : Int, a = b → (a, 0 - σ) = (b, 0 - σ) := fun a b h => by rw [h]
      rcases hσ with rfl | rfl <;> rcases hx with rfl | rfl | rfl <;> simp [stp]
    rw [List.map_cons, List.map_cons, List.map_cons, List.map_cons, List.foldl_cons, List.foldl_cons, List.foldl_cons, List.foldl_cons]
    rw [key p.1 h.1 k.1 hp.2 h1 hk, key p.2 h.2 k.2 (by rw [← hp.1]; exact hp.2) h2 (by rw [← hp.1, ← hq.1]; exact hk)]
    exact ih k r rfl _
def var (xs : List Int) : Int := (xs.foldl stp (0, 0)).1
theorem stp0 {x : Int} (h : x ≠ 0) : stp (0, 0) x = (0, x) := by
  unfold stp; rw [if_pos h, if_neg (by show ¬ ((0:Int) = _); omega)]
theorem var_cons {x : Int} (h : x ≠ 0) (xs : List Int) : var (x :: xs) = (xs.foldl stp (0, x)).1 := by
  unfold var; rw [List.foldl_cons, stp0 h]
theorem var_zero (xs : List Int) : var (0 :: xs) = var xs := by
  unfold var; rw [List.foldl_cons]; rfl
/-- the same changes -/
theorem var_same {l : List (Int × Int)} (h : Chn l) : var (l.map Prod.fst) = var (l.map Prod.snd) := by
  cases l with
  | nil => rfl
  | cons p r =>
    have hp := h.hd
    rw [List.map_cons, List.map_cons, var_cons (by rcases hp.2 with h | h <;> omega), var_cons (by have := hp.1; rcases hp.2 with h | h <;> omega)]
    exact chn_same h p r rfl 0
theorem var_two {x y : Int} (hy : y = 1 ∨ y = -1) (hx : Sg x) (xs : List Int) : var (x :: y :: xs) = var (y :: xs) + (if x = 0 - y then 1 else 0) := by
  rcases hx with rfl | rfl | rfl
  · rw [var_cons (by decide), List.foldl_cons, var_cons (by omega)]
    unfold stp
    rw [if_pos (by omega)]
    by_cases h : (1 : Int) = 0 - y
    · rw [if_pos h, if_pos h]
      show (List.foldl stp (0 + 1, y) xs).1 = _
      rw [stp_shift]; rfl
    · rw [if_neg h, if_neg h]; show _ = _ + (0 : Int); rw [Int.add_zero]
  · rw [var_zero, if_neg (by omega), Int.add_zero]
  · rw [var_cons (by decide), List.foldl_cons, var_cons (by omega)]
    unfold stp
    rw [if_pos (by omega)]
    by_cases h : (-1 : Int) = 0 - y
    · rw [if_pos h, if_pos h]
      show (List.foldl stp (0 + 1, y) xs).1 = _
      rw [stp_shift]; rfl
    · rw [if_neg h, if_neg h]; show _ = _ + (0 : Int); rw [Int.add_zero]
/-- the first sign moves along the second one's -/
def Up (p q : Int × Int) : Prop := Sg p.1 ∧ Sg p.2 ∧ ((q.1 = 1 ∧ p.1 < p.2) ∨ (q.1 = -1 ∧ p.2 < p.1))
def Tn (p : Int × Int) : Prop := p.1 ≠ 0 ∧ (p.2 = 0 ∨ p.2 = 0 - p.1)
theorem var_up {p q : Int × Int} {r : List (Int × Int)} (hc : Chn (q :: r)) (hu : Up p q) : (Tn p ∧ var ((p :: q :: r).map Prod.fst) = var ((p :: q :: r).map Prod.snd) + 1) ∨ (¬ Tn p ∧ var ((p :: q :: r).map Prod.fst) = var ((p :: q :: r).map Prod.snd)) := by
  have hq := hc.hd
  have hs := var_same hc
  obtain ⟨s1, s2, hu⟩ := hu
  simp only [List.map_cons] at hs ⊢
  rw [var_two hq.2 s1, var_two (by rw [← hq.1]; exact hq.2) s2, hs, ← hq.1]
  unfold Tn
  generalize var (q.2 :: List.map Prod.snd r) = v
  have hq1 := hq.1
  have hq2 := hq.2
  clear hs hq hc
  obtain ⟨a, b⟩ := p
  obtain ⟨c, d⟩ := q
  simp only at *
  subst hq1
  rcases hq2 with rfl | rfl <;> rcases s1 with rfl | rfl | rfl <;> rcases s2 with rfl | rfl | rfl <;> simp at hu ⊢
/-! ### fractions -/
def sgR (x : Rat) : Int := if x < 0 then -1 else if x = 0 then 0 else 1
theorem sgR_cases (x : Rat) : (x < 0 ∧ sgR x = -1) ∨ (x = 0 ∧ sgR x = 0) ∨ (0 < x ∧ sgR x = 1) := by
  unfold sgR
  by_cases h : x < 0
  · rw [if_pos h]; exact .inl ⟨h, rfl⟩
  · rw [if_neg h]
    by_cases h2 : x = 0
    · rw [if_pos h2]; exact .inr (.inl ⟨h2, rfl⟩)
    · rw [if_neg h2]; exact .inr (.inr ⟨by grind, rfl⟩)
theorem sgR_pos {x : Rat} (h : 0 < x) : sgR x = 1 := by rcases sgR_cases x with ⟨a, b⟩ | ⟨a, b⟩ | ⟨a, b⟩ <;> grind
theorem sgR_neg {x : Rat} (h : x < 0) : sgR x = -1 := by rcases sgR_cases x with ⟨a, b⟩ | ⟨a, b⟩ | ⟨a, b⟩ <;> grind
theorem sgR_sg (x : Rat) : Sg (sgR x) := by unfold Sg; rcases sgR_cases x with ⟨a, b⟩ | ⟨a, b⟩ | ⟨a, b⟩ <;> grind
theorem sgR_mul (x y : Rat) : sgR (x * y) = sgR x * sgR y := by
  rcases sgR_cases x with ⟨a, b⟩ | ⟨a, b⟩ | ⟨a, b⟩ <;> rcases sgR_cases y with ⟨c, d⟩ | ⟨c, d⟩ | ⟨c, d⟩ <;> rw [b, d]
  · have := Rat.mul_pos (show 0 < -x by grind) (show 0 < -y by grind)
    rw [sgR_pos (by grind)]; rfl
  · rw [c]; simp [sgR]
  · have := Rat.mul_pos (show 0 < -x by grind) c
    rw [sgR_neg (by grind)]; rfl
  · rw [a]; simp [sgR]
  · rw [a]; simp [sgR]
  · rw [a]; simp [sgR]
  · have := Rat.mul_pos a (show 0 < -y by grind)
    rw [sgR_neg (by grind)]; rfl
  · rw [c]; simp [sgR]
  · rw [sgR_pos (Rat.mul_pos a c)]; rfl
/-! ### functions that are bounded and do not move fast -/
def In (B x : Rat) : Prop := -B ≤ x ∧ x ≤ B
def Tame (B : Rat) (f : Rat → Rat) : Prop := ∃ M : Rat, 0 < M ∧ (∀ x, In B x → In M (f x)) ∧ ∀ x y, In B x → In B y → x ≤ y → In (M * (y - x)) (f y - f x)
theorem In.mono {a b x : Rat} (h : In a x) (hab : a ≤ b) : In b x := by unfold In at *; grind
theorem In.mul {a b x y : Rat} (h : In a x) (h' : In b y) : In (a * b) (x * y) := by
  unfold In at *
  have h1 := Rat.mul_nonneg (show 0 ≤ a - x by grind) (show 0 ≤ b - y by grind)
  have h2 := Rat.mul_nonneg (show 0 ≤ a + x by grind) (show 0 ≤ b + y by grind)
  have h3 := Rat.mul_nonneg (show 0 ≤ a - x by grind) (show 0 ≤ b + y by grind)
  have h4 := Rat.mul_nonneg (show 0 ≤ a + x by grind) (show 0 ≤ b - y by grind)
  constructor <;> grind
theorem In.add {a b x y : Rat} (h : In a x) (h' : In b y) : In (a + b) (x + y) := by unfold In at *; grind
theorem tame_const (B c : Rat) : Tame B (fun _ => c) := by
  refine ⟨c * c + 1, ?_, fun x _ => ?_, fun x y _ _ h => ?_⟩
  · have : 0 ≤ c * c := by rcases Rat.le_total (a := 0) (b := c) with h | h
                           · exact Rat.mul_nonneg h h
                           · have := Rat.mul_nonneg (show 0 ≤ -c by grind) (show 0 ≤ -c by grind); grind
    grind
  · unfold In
    rcases Rat.le_total (a := 0) (b := c) with h | h
    · have k := Rat.mul_nonneg h h
      rcases Rat.le_total (a := c) (b := 1) with g | g
      · grind
      · have := Rat.mul_nonneg h (show 0 ≤ c - 1 by grind); grind
    · have k := Rat.mul_nonneg (show 0 ≤ -c by grind) (show 0 ≤ -c by grind)
      rcases Rat.le_total (a := -c) (b := 1) with g | g
      · grind
      · have := Rat.mul_nonneg (show 0 ≤ -c by grind) (show 0 ≤ -c - 1 by grind); grind
  · have : 0 ≤ c * c := by rcases Rat.le_total (a := 0) (b := c) with h | h
                           · exact Rat.mul_nonneg h h
                           · have := Rat.mul_nonneg (show 0 ≤ -c by grind) (show 0 ≤ -c by grind); grind
    have := Rat.mul_nonneg (show 0 ≤ c * c + 1 by grind) (show 0 ≤ y - x by grind)
    unfold In; grind
theorem Tame.add {B : Rat} {f g : Rat → Rat} (hf : Tame B f) (hg : Tame B g) : Tame B (fun x => f x + g x) := by
  obtain ⟨M, m0, m1, m2⟩ := hf
  obtain ⟨N, n0, n1, n2⟩ := hg
  refine ⟨M + N, by grind, fun x h => (m1 x h).add (n1 x h), fun x y hx hy h => ?_⟩
  have := (m2 x y hx hy h).add (n2 x y hx hy h)
  unfold In at *; grind
theorem Tame.mul {B : Rat} {f g : Rat → Rat} (hf : Tame B f) (hg : Tame B g) : Tame B (fun x => f x * g x) := by
  obtain ⟨M, m0, m1, m2⟩ := hf
  obtain ⟨N, n0, n1, n2⟩ := hg
  have mn := Rat.mul_pos m0 n0
  refine ⟨2 * M * N, by grind, fun x h => ((m1 x h).mul (n1 x h)).mono (by grind), fun x y hx hy h => ?_⟩
  have a1 := (m2 x y hx hy h).mul (n1 y hy)
  have a2 := (m1 x hx).mul (n2 x y hx hy h)
  have e : f y * g y - f x * g x = (f y - f x) * g y + f x * (g y - g x) := by grind
  rw [e]
  refine (a1.add a2).mono ?_
  grind
theorem tame_id {B : Rat} (h : 0 < B) : Tame B (fun x => x) := by
  refine ⟨B + 1, by grind, fun x h => h.mono (by grind), fun x y hx hy h => ?_⟩
  have := Rat.mul_nonneg (show 0 ≤ B by grind) (show 0 ≤ y - x by grind)
  unfold In; grind
/-! ### polynomials at fractions -/
def ev : List Int → Rat → Rat
  | [], _ => 0
  | c :: r, x => (c : Rat) + x * ev r x
theorem tame_ev {B : Rat} (h : 0 < B) : ∀ P : List Int, Tame B (ev P)
  | [] => tame_const B 0
  | c :: r => (tame_const B c).add ((tame_id h).mul (tame_ev h r))
def dv : List Int → Rat → Rat
  | [], _ => 0
  | _ :: r, x => ev r x + x * dv r x
theorem tame_dv {B : Rat} (h : 0 < B) : ∀ P : List Int, Tame B (dv P)
  | [] => tame_const B 0
  | c :: r => (tame_ev h r).add ((tame_id h).mul (tame_dv h r))
theorem taylor {B : Rat} (h : 0 < B) : ∀ P : List Int, ∃ M : Rat, 0 < M ∧ ∀ x y, In B x → In B y → ∃ e, In M e ∧ ev P y - ev P x = (y - x) * (dv P x + (y - x) * e)
  | [] => ⟨1, by decide, fun x y _ _ => ⟨0, by unfold In; grind, by show (0:Rat) - 0 = (y - x) * (0 + (y - x) * 0); grind⟩⟩
  | c :: r => by
    obtain ⟨M, m0, hM⟩ := taylor h r
    obtain ⟨N, n0, hN, _⟩ := tame_dv h r
    have bm := Rat.mul_pos h m0
    refine ⟨N + B * M, by grind, fun x y hx hy => ?_⟩
    obtain ⟨e, he, eq⟩ := hM x y hx hy
    refine ⟨dv r x + y * e, (hN x hx).add (hy.mul he), ?_⟩
    show ((c : Rat) + y * ev r y) - ((c : Rat) + x * ev r x) = (y - x) * (ev r x + x * dv r x + (y - x) * (dv r x + y * e))
    have : ev r y = ev r x + (y - x) * (dv r x + (y - x) * e) := by grind
    rw [this]; grind
end ST

set_option linter.all false
/-! A polynomial at a fraction, by places from the top (top_at), and changes of sign. -/
namespace MH
open ML
/-- the total behind the coefficients (that of the highest power first), the scale -/
def hs (t b : Int) : List Int → Int × Int
  | [] => (0, 1)
  | x :: r => ((hs t b r).1 * t + x * (hs t b r).2, (hs t b r).2 * b)
/-- P at t / b, times b to the power of P's degree; the list's head is the constant, so hs is read from behind -/
def topL (P : List Int) (t b : Int) : Int := (hs t b P).1
theorem hs_cons (t b x : Int) (r : List Int) : hs t b (x :: r) = ((hs t b r).1 * t + x * (hs t b r).2, (hs t b r).2 * b) := rfl
theorem hs_drop {t b : Int} {P : List Int} {i : Nat} {x : Int} (h : P[i]? = some x) : hs t b (P.drop i) = ((hs t b (P.drop (i + 1))).1 * t + x * (hs t b (P.drop (i + 1))).2, (hs t b (P.drop (i + 1))).2 * b) := by
  obtain ⟨hl, e⟩ := List.getElem?_eq_some_iff.mp h
  rw [List.drop_eq_getElem_cons hl, e, hs_cons]
theorem hs_sz {t b : Int} {n m : Nat} (ht : t.natAbs < 2 ^ m) (hb : b.natAbs < 2 ^ m) : ∀ P : List Int, Sz n P → ((hs t b P).1).natAbs < 2 ^ (n + (m + 1) * P.length + 1) ∧ ((hs t b P).2).natAbs < 2 ^ (m * P.length + 1)
  | [], _ => ⟨Nat.two_pow_pos _, by show (1 : Int).natAbs < 2 ^ (m * 0 + 1); simp⟩
  | x :: r, h => by
    obtain ⟨h1, h2⟩ := hs_sz ht hb r (fun y hy => h y (List.mem_cons_of_mem _ hy))
    have hx := h x (List.mem_cons_self ..)
    have a1 : ((hs t b r).1 * t).natAbs < 2 ^ (n + (m + 1) * r.length + 1 + m) := L2.wide_lt h1 ht
    have a2 : (x * (hs t b r).2).natAbs < 2 ^ (n + (m * r.length + 1)) := L2.wide_lt hx h2
    have a3 : ((hs t b r).2 * b).natAbs < 2 ^ (m * r.length + 1 + m) := L2.wide_lt h2 hb
    have e1 : (m + 1) * (r.length + 1) = m * r.length + r.length + m + 1 := by
      rw [Nat.mul_add, Nat.add_mul]; omega
    have e1' : (m + 1) * r.length = m * r.length + r.length := by rw [Nat.add_mul, Nat.one_mul]
    have e2 : m * (r.length + 1) = m * r.length + m := by rw [Nat.mul_add]; omega
    rw [hs_cons, List.length_cons, e1, e2]
    refine ⟨?_, Nat.lt_of_lt_of_le a3 (Nat.pow_le_pow_right (by decide) (by omega))⟩
    have b1 : ((hs t b r).1 * t).natAbs < 2 ^ (n + (m * r.length + r.length + m + 1)) := Nat.lt_of_lt_of_le a1 (Nat.pow_le_pow_right (by decide) (by omega))
    have b2 : (x * (hs t b r).2).natAbs < 2 ^ (n + (m * r.length + r.length + m + 1)) := Nat.lt_of_lt_of_le a2 (Nat.pow_le_pow_right (by decide) (by omega))
    rw [Nat.pow_succ]
    show ((hs t b r).1 * t + x * (hs t b r).2).natAbs < _
    generalize 2 ^ (n + (m * r.length + r.length + m + 1)) = z at b1 b2 ⊢
    omega
theorem hs_scale (p q g : Int) : ∀ P : List Int, (hs (p * g) (q * g) P).1 * g = (hs p q P).1 * g ^ P.length ∧ (hs (p * g) (q * g) P).2 = (hs p q P).2 * g ^ P.length
  | [] => ⟨by show (0 : Int) * g = 0 * g ^ 0; rw [Int.zero_mul, Int.zero_mul], by show (1 : Int) = 1 * g ^ 0; rw [Int.pow_zero]; rfl⟩
  | x :: r => by
    obtain ⟨h1, h2⟩ := hs_scale p q g r
    rw [hs_cons, hs_cons, List.length_cons, Int.pow_succ, h2]
    constructor
    · show ((hs (p * g) (q * g) r).1 * (p * g) + x * ((hs p q r).2 * g ^ r.length)) * g = ((hs p q r).1 * p + x * (hs p q r).2) * (g ^ r.length * g)
      generalize (hs (p * g) (q * g) r).1 = A at *
      generalize (hs p q r).1 = B at *
      generalize g ^ r.length = G at *
      grind
    · show (hs p q r).2 * g ^ r.length * (q * g) = (hs p q r).2 * q * (g ^ r.length * g)
      generalize g ^ r.length = G
      grind
theorem pow_pos {g : Int} (h : 0 < g) : ∀ n : Nat, 0 < g ^ n
  | 0 => by rw [Int.pow_zero]; decide
  | n + 1 => by rw [Int.pow_succ]; exact Int.mul_pos (pow_pos h n) h
/-- the sign at a made fraction is that at what it is made of -/
theorem sign_made (P : List Int) {t b : Int} (hb : 0 < b) : RB.ordI (topL P (RB.rT t b) (RB.rB t b)) 0 = RB.ordI (topL P t b) 0 := by
  have hg := RB.rG_gt (t := t) hb
  have e1 := RB.rT_mul (t := t) (b := b) (by omega)
  have e2 := RB.rB_mul (t := t) (b := b) (by omega)
  have h := (hs_scale (RB.rT t b) (RB.rB t b) (RB.rG t b) P).1
  rw [e1, e2] at h
  have a1 := RB.ordI_scale hg (topL P t b) 0
  have a2 := RB.ordI_scale (pow_pos hg P.length) (topL P (RB.rT t b) (RB.rB t b)) 0
  rw [Int.zero_mul] at a1 a2
  rw [← a1, ← a2]
  unfold topL
  rw [h]
/-- one more sign: how many changes, the last sign -/
def stp (s : Int × Int) (x : Int) : Int × Int := if x ≠ 0 then (if s.2 = 0 - x then s.1 + 1 else s.1, x) else s
def chg (Ps : List (List Int)) (t b : Int) : Int × Int := Ps.foldl (fun s P => stp s (RB.ordI (topL P t b) 0)) (0, 0)
theorem chg_take {Ps : List (List Int)} {t b : Int} {i : Nat} {P : List Int} (h : Ps[i]? = some P) : chg (Ps.take (i + 1)) t b = stp (chg (Ps.take i) t b) (RB.ordI (topL P t b) 0) := by
  unfold chg
  rw [List.take_add_one, h]
  simp [List.foldl_append]
theorem chg_made (Ps : List (List Int)) {t b : Int} (hb : 0 < b) : chg Ps (RB.rT t b) (RB.rB t b) = chg Ps t b := by
  unfold chg
  congr 1
  funext s P
  rw [sign_made P hb]
end MH

namespace RB
structure HSz (n m : Nat) (P : List Int) (t b : Int) : Prop where
  sP : ML.Sz n P
  st : t.natAbs < 2 ^ m
  sb : b.natAbs < 2 ^ m
  n0 : 0 < n
  m0 : 0 < m
  le : n + (m + 1) * (P.length + 1) ≤ 900000
theorem HSz.steps {n m : Nat} {P : List Int} {t b : Int} (s : HSz n m P t b) (k : Nat) : (MH.hs t b (P.drop k)).1.natAbs < 2 ^ (n + (m + 1) * P.length + 1) ∧ (MH.hs t b (P.drop k)).2.natAbs < 2 ^ (m * P.length + 1) := by
  have h := MH.hs_sz s.st s.sb (P.drop k) (s.sP.drop k)
  have hl : (P.drop k).length ≤ P.length := by rw [List.length_drop]; omega
  have h1 := Nat.mul_le_mul_left (m + 1) hl
  have h2 := Nat.mul_le_mul_left m hl
  exact ⟨Nat.lt_of_lt_of_le h.1 (Nat.pow_le_pow_right (by decide) (by omega)), Nat.lt_of_lt_of_le h.2 (Nat.pow_le_pow_right (by decide) (by omega))⟩
end RB

set_option linter.all false
/-! Shrunk, plain. -/
namespace MP
open MG ML
theorem mem_cf {P : List Int} {d : Int} : (∀ x ∈ P, d ∣ x) ↔ ∀ k, d ∣ cf P k := by
  constructor
  · intro h k
    by_cases hk : k < P.length
    · rw [cf_get hk]; exact h _ (List.getElem_mem hk)
    · rw [cf_beyond (by omega)]; exact Int.dvd_zero d
  · intro h x hx
    obtain ⟨k, hk, rfl⟩ := List.getElem_of_mem hx
    rw [← cf_get hk]; exact h k
theorem gcdN_congr {P Q : List Int} (h : ∀ k, cf P k = cf Q k) : gcdN P = gcdN Q := by
  refine gcdN_eq (mem_cf.mpr fun k => ?_) fun d hd => dvd_gcdN (mem_cf.mpr fun k => ?_)
  · rw [h]; exact mem_cf.mp (fun x hx => gcdN_dvd hx) k
  · rw [← h]; exact mem_cf.mp hd k
theorem gcdN_trim (P : List Int) : gcdN (trimL P) = gcdN P := gcdN_congr (cf_trimL P)
theorem gcdN_cf (P : List Int) (k : Nat) : (gcdN P : Int) ∣ cf P k := mem_cf.mp (fun x hx => gcdN_dvd hx) k
theorem gcdL_cf (P : List Int) (k : Nat) : gcdL P ∣ cf P k := gcdN_cf P k
theorem gcdN_zero {P : List Int} (h : gcdN P = 0) (k : Nat) : cf P k = 0 := by
  have := gcdN_cf P k
  rw [h] at this
  exact Int.zero_dvd.mp this
theorem gcdL_ne {P : List Int} {k : Nat} (h : cf P k ≠ 0) : gcdL P ≠ 0 := fun e => h (gcdN_zero (by unfold gcdL at e; omega) k)
theorem gcdL_nonneg (P : List Int) : 0 ≤ gcdL P := by unfold gcdL; omega
theorem gcdL_pos {P : List Int} {k : Nat} (h : cf P k ≠ 0) : 0 < gcdL P := by
  have := gcdL_ne h; have := gcdL_nonneg P; omega
theorem gcdL_le {P : List Int} {k : Nat} (h : cf P k ≠ 0) : (gcdL P).natAbs ≤ (cf P k).natAbs := Nat.le_of_dvd (by omega) (Int.natAbs_dvd_natAbs.mpr (gcdL_cf P k))
theorem trim_last {P : List Int} (h : Trim P) (h0 : P ≠ []) : cf P (P.length - 1) ≠ 0 := h.elim (fun e => absurd e h0) id
theorem gcdL_trim_pos {P : List Int} (h : Trim P) (h0 : P ≠ []) : 0 < gcdL P := gcdL_pos (trim_last h h0)
theorem gcdL_log {n : Nat} {P : List Int} (hn : 0 < n) (hs : Sz n P) (h : Trim P) (h0 : P ≠ []) : (gcdL P).natAbs < 2 ^ n := Nat.lt_of_le_of_lt (gcdL_le (trim_last h h0)) (hs.cf _)
theorem gcdN_mul (c : Int) (P : List Int) : gcdN (P.map (c * ·)) = c.natAbs * gcdN P := by
  induction P with
  | nil => simp [gcdN_nil]
  | cons x r ih => rw [List.map_cons, gcdN_cons, gcdN_cons, ih, Int.natAbs_mul, Nat.gcd_mul_left]
/-- divided by the shared divisor -/
def shrunkL (P : List Int) : List Int := P.map fun x => x.fdiv (gcdL P)
def negL (P : List Int) : List Int := P.map fun x => -x
def plainL (P : List Int) : List Int := if shrunkL P ≠ [] ∧ cf (shrunkL P) ((shrunkL P).length - 1) < 0 then negL (shrunkL P) else shrunkL P
theorem shrunkL_len (P : List Int) : (shrunkL P).length = P.length := by unfold shrunkL; simp
theorem fdiv_zero (c : Int) : (0 : Int).fdiv c = 0 := by simp
theorem cf_shrunkL (P : List Int) (k : Nat) : cf (shrunkL P) k = (cf P k).fdiv (gcdL P) := cf_map (f := fun x => x.fdiv (gcdL P)) (fdiv_zero _) P k
theorem fdiv_exact {c x : Int} (h : c ∣ x) : c * x.fdiv c = x := by
  rw [Int.fdiv_eq_ediv_of_dvd h, Int.mul_ediv_cancel' h]
theorem mul_shrunkL (P : List Int) (k : Nat) : gcdL P * cf (shrunkL P) k = cf P k := by
  rw [cf_shrunkL]; exact fdiv_exact (gcdL_cf P k)
theorem cf_negL (P : List Int) (k : Nat) : cf (negL P) k = - cf P k := cf_map (f := fun x => -x) (by omega) P k
theorem negL_len (P : List Int) : (negL P).length = P.length := by unfold negL; simp
theorem trim_shrunkL {P : List Int} (h : Trim P) : Trim (shrunkL P) := by
  rcases h with h | h
  · left; rw [h]; rfl
  · right
    rw [shrunkL_len]
    intro e
    apply h
    rw [← mul_shrunkL, e, Int.mul_zero]
theorem trim_negL {P : List Int} (h : Trim P) : Trim (negL P) := by
  rcases h with h | h
  · left; rw [h]; rfl
  · right
    rw [negL_len, cf_negL]; omega
theorem trim_plainL {P : List Int} (h : Trim P) : Trim (plainL P) := by
  unfold plainL
  split
  · exact trim_negL (trim_shrunkL h)
  · exact trim_shrunkL h
theorem plainL_len (P : List Int) : (plainL P).length = P.length := by
  unfold plainL
  split
  · rw [negL_len, shrunkL_len]
  · rw [shrunkL_len]
theorem shrunkL_nil : shrunkL [] = [] := rfl
theorem plainL_nil : plainL [] = [] := by simp [plainL, shrunkL_nil]
/-- what is c times a list whose shared divisor is 1, c above 0 -/
theorem shrunkL_of {P Q : List Int} {c : Int} (hc : 0 < c) (hl : P.length = Q.length) (h : ∀ k, cf P k = c * cf Q k) (h1 : gcdN Q = 1) : shrunkL P = Q := by
  have hP : P = Q.map (c * ·) := ext (by simpa using hl) fun k _ => by rw [h, cf_map (by omega)]
  have hg : gcdL P = c := by
    unfold gcdL
    rw [hP, gcdN_mul, h1, Nat.mul_one]; omega
  refine ext (by rw [shrunkL_len, hl]) fun k _ => ?_
  rw [cf_shrunkL, hg, h, Int.mul_fdiv_cancel_left _ (by omega)]
theorem gcdN_shrunkL {P : List Int} (h : gcdN P ≠ 0) : gcdN (shrunkL P) = 1 := by
  have e : P = (shrunkL P).map (gcdL P * ·) := ext (by simp [shrunkL_len]) fun k _ => by rw [cf_map (by omega), mul_shrunkL]
  have h2 := gcdN_mul (gcdL P) (shrunkL P)
  rw [← e] at h2
  have h3 : (gcdL P).natAbs = gcdN P := by unfold gcdL; omega
  rw [h3] at h2
  exact Nat.eq_of_mul_eq_mul_left (Nat.pos_of_ne_zero h) (by rw [← h2, Nat.mul_one])
theorem gcdN_negL (P : List Int) : gcdN (negL P) = gcdN P := by
  have e : negL P = P.map ((-1) * ·) := by
    unfold negL; apply List.map_congr_left; intro x _; omega
  rw [e, gcdN_mul]; simp
theorem gcdN_plainL {P : List Int} (h : gcdN P ≠ 0) : gcdN (plainL P) = 1 := by
  unfold plainL
  split
  · rw [gcdN_negL, gcdN_shrunkL h]
  · exact gcdN_shrunkL h
/-- a list with 1 as its shared divisor stays -/
theorem shrunkL_one {P : List Int} (h : gcdN P = 1) : shrunkL P = P := shrunkL_of (c := 1) (by decide) rfl (fun k => by omega) h
theorem plainL_last {P : List Int} (h : Trim P) (h0 : P ≠ []) : 0 < cf (plainL P) ((plainL P).length - 1) := by
  have h1 := trim_last (trim_plainL h) (fun e => h0 (by
    have := plainL_len P
    rw [e] at this
    exact List.eq_nil_of_length_eq_zero this.symm))
  have hl := plainL_len P
  unfold plainL at h1 ⊢
  split
  · next hh =>
    rw [cf_negL, negL_len]
    omega
  · next hh =>
    rw [if_neg hh] at h1
    have hs : shrunkL P ≠ [] := fun e => h0 (by
      have := shrunkL_len P
      rw [e] at this
      exact List.eq_nil_of_length_eq_zero this.symm)
    have : ¬ cf (shrunkL P) ((shrunkL P).length - 1) < 0 := fun z => hh ⟨hs, z⟩
    omega
theorem plainL_self {P : List Int} (h1 : gcdN P = 1) (h : P ≠ [] → 0 ≤ cf P (P.length - 1)) : plainL P = P := by
  unfold plainL
  rw [shrunkL_one h1, if_neg]
  rintro ⟨h2, h3⟩
  have := h h2
  omega
theorem plainL_of {P Q : List Int} {c : Int} (hc : c ≠ 0) (hl : P.length = Q.length) (h : ∀ k, cf P k = c * cf Q k) (h1 : gcdN Q = 1) (hq : Q ≠ [] → 0 < cf Q (Q.length - 1)) : plainL P = Q := by
  by_cases hp : 0 < c
  · have e := shrunkL_of hp hl h h1
    unfold plainL
    rw [e, if_neg]
    rintro ⟨h2, h3⟩
    have := hq h2
    omega
  · have e : shrunkL P = negL Q := shrunkL_of (c := -c) (by omega) (by rw [negL_len, hl]) (fun k => by rw [h, cf_negL, Int.neg_mul_neg]) (by rw [gcdN_negL, h1])
    unfold plainL
    rw [e]
    by_cases hn : Q = []
    · subst hn; simp [negL]
    · have := hq hn
      rw [if_pos]
      · unfold negL; rw [List.map_map]
        have : ((fun x : Int => -x) ∘ fun x => -x) = id := by funext x; simp
        rw [this, List.map_id]
      · refine ⟨fun e2 => hn ?_, by rw [negL_len, cf_negL]; omega⟩
        have := negL_len Q
        rw [e2] at this
        exact List.eq_nil_of_length_eq_zero this.symm
theorem Sz.shrunkL {n : Nat} {P : List Int} (h : Sz n P) : Sz n (shrunkL P) := Sz.of fun k _ => by
  have h1 := mul_shrunkL P k
  have h2 := h.cf k
  by_cases h0 : gcdL P = 0
  · rw [cf_shrunkL, h0, Int.fdiv_zero]; exact Nat.two_pow_pos n
  · rw [← h1, Int.natAbs_mul] at h2
    exact Nat.lt_of_le_of_lt (Nat.le_mul_of_pos_left _ (by omega)) h2
theorem Sz.negL {n : Nat} {P : List Int} (h : Sz n P) : Sz n (negL P) := Sz.of fun k _ => by rw [cf_negL, Int.natAbs_neg]; exact h.cf k
theorem Sz.plainL {n : Nat} {P : List Int} (h : Sz n P) : Sz n (plainL P) := by
  unfold MP.plainL
  split
  · exact Sz.negL (Sz.shrunkL h)
  · exact Sz.shrunkL h
end MP

set_option linter.all false
/-! Division with a factor. -/
namespace MD
open ML
/-- the last coefficient -/
def lc (Q : List Int) : Int := cf Q (Q.length - 1)
def subShift (rs Q : List Int) (k : Nat) (many : Int) : List Int := (List.range rs.length).map fun j => if k ≤ j ∧ j - k < Q.length then cf rs j - many * cf Q (j - k) else cf rs j
theorem subShift_len (rs Q : List Int) (k : Nat) (many : Int) : (subShift rs Q k many).length = rs.length := by unfold subShift; simp
theorem cf_subShift {rs Q : List Int} {k : Nat} {many : Int} (j : Nat) (h : k + Q.length ≤ rs.length) : cf (subShift rs Q k many) j = cf rs j - if k ≤ j then many * cf Q (j - k) else 0 := by
  unfold subShift
  by_cases hj : j < rs.length
  · rw [cf_range hj]
    by_cases h1 : k ≤ j
    · rw [if_pos h1]
      by_cases h2 : j - k < Q.length
      · rw [if_pos ⟨h1, h2⟩]
      · rw [if_neg (by omega), cf_beyond (P := Q) (by omega), Int.mul_zero]; omega
    · rw [if_neg (by omega), if_neg h1]; omega
  · rw [cf_range_beyond (by omega), cf_beyond (P := rs) (by omega)]
    split
    · rw [cf_beyond (P := Q) (by omega), Int.mul_zero]; rfl
    · rfl
def dloop (Q : List Int) : Nat → List Int × List Int → List Int × List Int
  | 0, s => s
  | k + 1, (qs, rs) => dloop Q k (qs.set k ((cf rs (k + (Q.length - 1))).fdiv (lc Q)), subShift rs Q k ((cf rs (k + (Q.length - 1))).fdiv (lc Q)))
def facL (P Q : List Int) : Int := if P.length < Q.length then 1 else ((lc Q).natAbs : Int) ^ (P.length - Q.length + 1)
def quoL (P Q : List Int) : List Int := if P.length < Q.length then [] else trimL (dloop Q (P.length - Q.length + 1) (List.replicate (P.length - Q.length + 1) 0, P.map (· * facL P Q))).1
def remL (P Q : List Int) : List Int := if P.length < Q.length then P else trimL (dloop Q (P.length - Q.length + 1) (List.replicate (P.length - Q.length + 1) 0, P.map (· * facL P Q))).2
theorem cv_set {qs Q : List Int} {k : Nat} {x : Int} (hk : k < qs.length) (h0 : cf qs k = 0) (j : Nat) : cv (qs.set k x) Q j = cv qs Q j + if k ≤ j then x * cf Q (j - k) else 0 := by
  unfold cv
  have e : sm (j + 1) (fun i => cf (qs.set k x) i * cf Q (j - i)) = sm (j + 1) (fun i => cf qs i * cf Q (j - i) + if i = k then x * cf Q (j - k) else 0) := sm_congr fun i _ => by
    rw [cf_set hk]
    by_cases h : i = k
    · rw [if_pos h, if_pos h, h, h0, Int.zero_mul]; omega
    · rw [if_neg h, if_neg h]; omega
  rw [e, sm_add]
  congr 1
  by_cases hj : k ≤ j
  · rw [if_pos hj, sm_single (j := k) (by omega) fun i _ hn => if_neg hn, if_pos rfl]
  · rw [if_neg hj]
    exact sm_zero fun i hi => if_neg (by omega)
structure Inv (Q : List Int) (F : Nat → Int) (N g k : Nat) (s : List Int × List Int) : Prop where
  lq : s.1.length = g
  lr : s.2.length = N
  eq : ∀ j, F j = cv s.1 Q j + cf s.2 j
  hi : ∀ j, k + (Q.length - 1) ≤ j → cf s.2 j = 0
  dv : ∀ j, (((lc Q).natAbs ^ k : Nat) : Int) ∣ cf s.2 j
  lo : ∀ i, i < k → cf s.1 i = 0
theorem many_eq {Q rs : List Int} {k : Nat} (hl : lc Q ≠ 0) (dv : ∀ j, (((lc Q).natAbs ^ (k + 1) : Nat) : Int) ∣ cf rs j) (j : Nat) : lc Q * (cf rs j).fdiv (lc Q) = cf rs j := by
  have h1 : lc Q ∣ cf rs j := by
    refine Int.dvd_trans ?_ (dv j)
    refine Int.natAbs_dvd_natAbs.mp ?_
    rw [Int.natAbs_natCast, Nat.pow_succ]
    exact Nat.dvd_mul_left _ _
  rw [Int.fdiv_eq_ediv_of_dvd h1, Int.mul_ediv_cancel' h1]
theorem Inv.step {Q : List Int} {F : Nat → Int} {N g k : Nat} {qs rs : List Int} (I : Inv Q F N g (k + 1) (qs, rs)) (hl : lc Q ≠ 0) (hQ : 0 < Q.length) (hk : k < g) (hN : k + Q.length ≤ N) :
    Inv Q F N g k (qs.set k ((cf rs (k + (Q.length - 1))).fdiv (lc Q)), subShift rs Q k ((cf rs (k + (Q.length - 1))).fdiv (lc Q))) := by
  obtain ⟨lq, lr, eq, hi, dv, lo⟩ := I
  dsimp only at lq lr eq hi dv lo
  have me := many_eq hl dv (k + (Q.length - 1))
  have dm : (((lc Q).natAbs ^ k : Nat) : Int) ∣ (cf rs (k + (Q.length - 1))).fdiv (lc Q) := by
    have h1 := dv (k + (Q.length - 1))
    rw [← me] at h1
    have h2 := Int.natAbs_dvd_natAbs.mpr h1
    rw [Int.natAbs_natCast, Int.natAbs_mul, Nat.pow_succ, Nat.mul_comm] at h2
    have h3 := Nat.dvd_of_mul_dvd_mul_left (by omega) h2
    exact Int.natAbs_dvd_natAbs.mp (by rw [Int.natAbs_natCast]; exact h3)
  generalize (cf rs (k + (Q.length - 1))).fdiv (lc Q) = many at me dm ⊢
  refine ⟨by rw [List.length_set]; exact lq, by rw [subShift_len]; exact lr, fun j => ?_, fun j hj => ?_, fun j => ?_, fun i hi' => ?_⟩
  · dsimp only
    rw [eq j, cv_set (by omega) (lo k (by omega)), cf_subShift j (by omega)]; omega
  · dsimp only
    rw [cf_subShift j (by omega), if_pos (by omega)]
    by_cases h : j = k + (Q.length - 1)
    · have e2 : j - k = Q.length - 1 := by omega
      have e3 : cf Q (Q.length - 1) = lc Q := rfl
      rw [e2, e3, h, ← me, Int.mul_comm]; omega
    · rw [hi j (by omega), cf_beyond (P := Q) (by omega), Int.mul_zero]; rfl
  · dsimp only
    rw [cf_subShift j (by omega)]
    have d1 : (((lc Q).natAbs ^ k : Nat) : Int) ∣ cf rs j := Int.dvd_trans (Int.ofNat_dvd.mpr (Nat.pow_dvd_pow _ (by omega))) (dv j)
    refine Int.dvd_sub d1 ?_
    split
    · exact Int.dvd_mul_of_dvd_left dm
    · exact Int.dvd_zero _
  · dsimp only
    rw [cf_set (by omega), if_neg (by omega)]
    exact lo i (by omega)
theorem Inv.run {Q : List Int} {F : Nat → Int} {N g : Nat} (hl : lc Q ≠ 0) (hQ : 0 < Q.length) : ∀ (k : Nat) (s : List Int × List Int), k ≤ g → (k = 0 ∨ k - 1 + Q.length ≤ N) → Inv Q F N g k s → Inv Q F N g 0 (dloop Q k s)
  | 0, s, _, _, I => I
  | k + 1, (qs, rs), hk, hN, I => Inv.run hl hQ k _ (by omega) (by omega) (I.step hl hQ (by omega) (by omega))
theorem cv_zero_left {qs Q : List Int} (h : ∀ i, cf qs i = 0) (j : Nat) : cv qs Q j = 0 := sm_zero fun i _ => by rw [h, Int.zero_mul]
theorem lc_ne {Q : List Int} (hT : Trim Q) (h0 : Q ≠ []) : lc Q ≠ 0 := hT.elim (fun e => absurd e h0) id
theorem len_pos {Q : List Int} (h0 : Q ≠ []) : 0 < Q.length := List.length_pos_iff.mpr h0
theorem dstart {P Q : List Int} (hT : Trim Q) (h0 : Q ≠ []) (hg : ¬ P.length < Q.length) : Inv Q (fun j => cf P j * facL P Q) P.length (P.length - Q.length + 1) (P.length - Q.length + 1) (List.replicate (P.length - Q.length + 1) 0, P.map (· * facL P Q)) where
  lq := by simp
  lr := by simp
  eq := fun j => by
    dsimp only
    rw [cv_zero_left (fun i => cf_rep0 _ _), cf_map (f := (· * facL P Q)) (by omega)]; omega
  hi := fun j hj => by
    have := len_pos h0
    exact cf_beyond (by simp; omega)
  dv := fun j => by
    dsimp only
    rw [cf_map (f := (· * facL P Q)) (by omega)]
    refine Int.dvd_mul_of_dvd_right ?_
    unfold facL
    rw [if_neg hg, ← Int.natCast_pow]
    exact Int.dvd_refl _
  lo := fun i _ => cf_rep0 _ _
theorem dend {P Q : List Int} (hT : Trim Q) (h0 : Q ≠ []) (hg : ¬ P.length < Q.length) : Inv Q (fun j => cf P j * facL P Q) P.length (P.length - Q.length + 1) 0 (dloop Q (P.length - Q.length + 1) (List.replicate (P.length - Q.length + 1) 0, P.map (· * facL P Q))) :=
  Inv.run (lc_ne hT h0) (len_pos h0) _ _ (Nat.le_refl _) (.inr (by omega)) (dstart hT h0 hg)
theorem cv_trim_left (P Q : List Int) (j : Nat) : cv (trimL P) Q j = cv P Q j := sm_congr fun i _ => by rw [cf_trimL]
/-- factor times P is quotient times Q, added to the rest -/
theorem div_eq {P Q : List Int} (hT : Trim Q) (h0 : Q ≠ []) (j : Nat) : facL P Q * cf P j = cv (quoL P Q) Q j + cf (remL P Q) j := by
  by_cases hg : P.length < Q.length
  · unfold facL quoL remL
    rw [if_pos hg, if_pos hg, if_pos hg, cv_zero_left (fun i => cf_nil i)]; omega
  · have I := dend hT h0 hg
    unfold quoL remL
    rw [if_neg hg, if_neg hg, cv_trim_left, cf_trimL, Int.mul_comm]
    exact I.eq j
theorem rem_len {P Q : List Int} (hT : Trim Q) (h0 : Q ≠ []) : (remL P Q).length < Q.length := by
  by_cases hg : P.length < Q.length
  · unfold remL; rw [if_pos hg]; exact hg
  · have I := dend hT h0 hg
    have hq := len_pos h0
    have hz : ∀ j, Q.length - 1 ≤ j → cf (remL P Q) j = 0 := fun j hj => by
      unfold remL
      rw [if_neg hg, cf_trimL]
      exact I.hi j (by omega)
    have ht : Trim (remL P Q) := by
      unfold remL; rw [if_neg hg]; exact trim_trimL _
    rcases ht with h | h
    · rw [h]; exact hq
    · apply Nat.lt_of_not_le
      intro hle
      exact h (hz _ (by omega))
theorem trim_rem {P Q : List Int} (h : Trim P) : Trim (remL P Q) := by
  unfold remL
  split
  · exact h
  · exact trim_trimL _
theorem trim_quo (P Q : List Int) : Trim (quoL P Q) := by
  unfold quoL
  split
  · exact .inl rfl
  · exact trim_trimL _
/-! ### sizes -/
theorem abs_sub_lt {a b : Int} {n m : Nat} (ha : a.natAbs < 2 ^ n) (hb : b.natAbs < 2 ^ m) (h : n ≤ m) : (a - b).natAbs < 2 ^ (m + 1) := by
  have h1 : (2 : Nat) ^ n ≤ 2 ^ m := Nat.pow_le_pow_right (by decide) h
  have h2 : (2 : Nat) ^ (m + 1) = 2 ^ m + 2 ^ m := by rw [Nat.pow_succ]; omega
  omega
theorem many_lt {Q rs : List Int} {k n : Nat} (hl : lc Q ≠ 0) (dv : ∀ j, (((lc Q).natAbs ^ (k + 1) : Nat) : Int) ∣ cf rs j) (hs : Sz n rs) (j : Nat) : ((cf rs j).fdiv (lc Q)).natAbs < 2 ^ n := by
  have h1 := many_eq hl dv j
  have h2 := hs.cf j
  rw [← h1, Int.natAbs_mul] at h2
  exact Nat.lt_of_le_of_lt (Nat.le_mul_of_pos_left _ (by omega)) h2
theorem Sz.sub {Q rs : List Int} {k n m : Nat} {many : Int} (hs : Sz n rs) (hq : Sz m Q) (hm : many.natAbs < 2 ^ n) : Sz (n + m + 1) (subShift rs Q k many) := fun x hx => by
  unfold subShift at hx
  obtain ⟨j, _, rfl⟩ := List.mem_map.mp hx
  have h1 := hs.cf j
  have h2 : (many * cf Q (j - k)).natAbs < 2 ^ (n + m) := by
    rw [Int.natAbs_mul, Nat.pow_add]
    exact Nat.mul_lt_mul'' hm (hq.cf _)
  split
  · exact abs_sub_lt h1 h2 (by omega)
  · exact Nat.lt_of_lt_of_le h1 (Nat.pow_le_pow_right (by decide) (by omega))
theorem Sz.setq {qs : List Int} {n k : Nat} {x : Int} (hs : Sz n qs) (hx : x.natAbs < 2 ^ n) : Sz n (qs.set k x) := fun y hy => by
  rcases List.mem_or_eq_of_mem_set hy with h | h
  · exact hs y h
  · rw [h]; exact hx
theorem dloop_sz {Q : List Int} {F : Nat → Int} {N g m : Nat} (hl : lc Q ≠ 0) (hQ : 0 < Q.length) (hq : Sz m Q) : ∀ (k : Nat) (s : List Int × List Int) (n : Nat), k ≤ g → (k = 0 ∨ k - 1 + Q.length ≤ N) → Inv Q F N g k s → Sz n s.1 → Sz n s.2 → Sz (n + k * (m + 1)) (dloop Q k s).1 ∧ Sz (n + k * (m + 1)) (dloop Q k s).2
  | 0, s, n, _, _, _, h1, h2 => ⟨h1.mono (by omega), h2.mono (by omega)⟩
  | k + 1, (qs, rs), n, hk, hN, I, h1, h2 => by
    have hm := many_lt hl I.dv h2 (k + (Q.length - 1))
    have := dloop_sz hl hQ hq k _ (n + m + 1) (by omega) (by omega) (I.step hl hQ (by omega) (by omega)) ((Sz.setq h1 hm).mono (by omega)) (Sz.sub h2 hq hm)
    have e : n + m + 1 + k * (m + 1) = n + (k + 1) * (m + 1) := by rw [Nat.add_mul]; omega
    rw [e] at this
    exact this
theorem facL_lt {P Q : List Int} {m : Nat} (hq : Sz m Q) : (facL P Q).natAbs < 2 ^ (m * (P.length - Q.length + 1) + 1) := by
  unfold facL
  split
  · exact Nat.lt_of_lt_of_le (by decide : (1 : Int).natAbs < 2 ^ 1) (Nat.pow_le_pow_right (by decide) (by omega))
  · have h := hq.cf (Q.length - 1)
    rw [← Int.natCast_pow, Int.natAbs_natCast]
    refine Nat.lt_of_le_of_lt (Nat.pow_le_pow_left (Nat.le_of_lt h) _) ?_
    rw [← Nat.pow_mul]
    exact Nat.pow_lt_pow_right (by decide) (by omega)
/-- how great the quotient and the rest can be -/
theorem div_sz {P Q : List Int} {n m : Nat} (hT : Trim Q) (h0 : Q ≠ []) (hp : Sz n P) (hq : Sz m Q) : Sz (n + (2 * m + 1) * (P.length + 1) + 1) (quoL P Q) ∧ Sz (n + (2 * m + 1) * (P.length + 1) + 1) (remL P Q) := by
  by_cases hg : P.length < Q.length
  · unfold quoL remL
    rw [if_pos hg, if_pos hg]
    exact ⟨Sz.nil _, hp.mono (by omega)⟩
  · have hs0 : Sz (n + (m * (P.length - Q.length + 1) + 1)) (P.map (· * facL P Q)) := fun x hx => by
      obtain ⟨y, hy, rfl⟩ := List.mem_map.mp hx
      rw [Int.natAbs_mul, Nat.pow_add]
      exact Nat.mul_lt_mul'' (hp y hy) (facL_lt hq)
    have h := dloop_sz (lc_ne hT h0) (len_pos h0) hq (P.length - Q.length + 1) _ _ (Nat.le_refl _) (.inr (by omega)) (dstart hT h0 hg) (Sz.rep0 _ _) hs0
    have hle : n + (m * (P.length - Q.length + 1) + 1) + (P.length - Q.length + 1) * (m + 1) ≤ n + (2 * m + 1) * (P.length + 1) + 1 := by
      have e1 : (P.length - Q.length + 1) * (m + 1) = m * (P.length - Q.length + 1) + (P.length - Q.length + 1) := by rw [Nat.mul_add, Nat.mul_comm]; omega
      have e2 : (2 * m + 1) * (P.length + 1) = 2 * (m * (P.length + 1)) + (P.length + 1) := by rw [Nat.add_mul, Nat.mul_assoc]; omega
      have e3 : m * (P.length - Q.length + 1) ≤ m * (P.length + 1) := Nat.mul_le_mul_left m (by omega)
      omega
    unfold quoL remL
    rw [if_neg hg, if_neg hg]
    exact ⟨(h.1.mono hle).trim, (h.2.mono hle).trim⟩
theorem cv_one (f : Int) (P : List Int) (k : Nat) : cv [f] P k = f * cf P k := by
  unfold cv
  rw [sm_single (j := 0) (by omega) fun i _ hn => by rw [cf_beyond (P := [f]) (by simp; omega), Int.zero_mul]]
  rfl
theorem mul_one_trim {f : Int} {P : List Int} (hf : f ≠ 0) (hT : Trim P) : Trim (mulU [f] P) := by
  rcases hT with h | h
  · left; unfold mulU; rw [if_pos (.inr h)]
  · right
    have hP : P ≠ [] := fun e => by rw [e] at h; exact h (cf_nil _)
    have hl : (mulU [f] P).length = P.length := by
      unfold mulU
      rw [if_neg (fun z => z.elim (fun h => by cases h) hP), List.length_map, List.length_range]
      show 1 + P.length - 1 = _
      omega
    rw [hl, cf_mulU, cv_one]
    exact Int.mul_ne_zero hf h
theorem facL_pos {P Q : List Int} (hT : Trim Q) (h0 : Q ≠ []) : 0 < facL P Q := by
  unfold facL
  split
  · decide
  · have := lc_ne hT h0
    exact Int.pow_pos (by omega)
/-- the sentence of a division, as lists -/
theorem div_lists {P Q : List Int} (hP : Trim P) (hT : Trim Q) (h0 : Q ≠ []) : mulU [facL P Q] P = addL (mulU (quoL P Q) Q) (remL P Q) := by
  refine trim_ext (mul_one_trim (by have := facL_pos (P := P) hT h0; omega) hP) (trim_addL _ _) fun k => ?_
  rw [cf_mulU, cv_one, cf_addL, cf_mulU]
  exact div_eq hT h0 k
end MD

set_option linter.all false
/-! The row of a polynomial. -/
namespace MS
open ML MD MP
def nextL (A B : List Int) : List Int := shrunkL ((remL A B).map fun x => 0 - x)
def rowG : Nat → List Int → List Int → List (List Int)
  | 0, _, _ => []
  | f + 1, A, B => if B = [] then [] else B :: rowG f B (nextL A B)
/-- what the walk asks of each step -/
def RowOk : Nat → List Int → List Int → Prop
  | 0, _, B => B = []
  | f + 1, A, B => B = [] ∨ (Trim B ∧ (∃ n m, Sz n A ∧ Sz m B ∧ A.length ≤ 100000 ∧ B.length ≤ 100000 ∧ 0 < n ∧ 0 < m ∧ m ≤ 9000 ∧ n + (2 * m + 1) * (A.length + 1) ≤ 900000) ∧ (remL A B ≠ [] → MG.gcdL ((remL A B).map fun x => 0 - x) ≠ 0 ∧ (MG.gcdL ((remL A B).map fun x => 0 - x)).natAbs.log2 < 9000) ∧ RowOk f B (nextL A B))
def rowL (f : Nat) (P : List Int) : List (List Int) := if P = [] then [] else shrunkL P :: rowG f (shrunkL P) (shrunkL (slopeL P))
end MS

set_option linter.all false
/-! The ring of polynomials, by coefficients. -/
namespace MR
open ML MD
theorem cv_comm (P Q : List Int) (k : Nat) : cv P Q k = cv Q P k := by
  unfold cv
  rw [← sm_rev (k + 1) (fun i => cf Q i * cf P (k - i))]
  refine sm_congr fun i hi => ?_
  rw [show k + 1 - 1 - i = k - i by omega, show k - (k - i) = i by omega, Int.mul_comm]
theorem sm_tri (g : Nat → Nat → Int) : ∀ k : Nat, sm (k + 1) (fun i => sm (i + 1) (fun j => g j (i - j))) = sm (k + 1) (fun j => sm (k - j + 1) (fun l => g j l))
  | 0 => rfl
  | k + 1 => by
    rw [sm_succ, sm_tri g k, sm_succ (k + 1) (fun j => g j (k + 1 - j)), sm_succ (k + 1) (fun j => sm (k + 1 - j + 1) (fun l => g j l))]
    have e : sm (k + 1) (fun j => sm (k + 1 - j + 1) (fun l => g j l)) = sm (k + 1) (fun j => sm (k - j + 1) (fun l => g j l) + g j (k + 1 - j)) := sm_congr fun j hj => by
      have : k + 1 - j = k - j + 1 := by omega
      rw [this, sm_succ]
    rw [e, sm_add]
    have e2 : sm (k + 1 - (k + 1) + 1) (fun l => g (k + 1) l) = g (k + 1) (k + 1 - (k + 1)) := by
      rw [Nat.sub_self]; simp [sm]
    rw [e2]; omega
theorem cv_assoc' (P Q R : List Int) (k : Nat) : sm (k + 1) (fun i => cv P Q i * cf R (k - i)) = sm (k + 1) (fun j => cf P j * cv Q R (k - j)) := by
  have h := sm_tri (fun j l => cf P j * cf Q l * cf R (k - j - l)) k
  have e1 : sm (k + 1) (fun i => cv P Q i * cf R (k - i)) = sm (k + 1) (fun i => sm (i + 1) (fun j => cf P j * cf Q (i - j) * cf R (k - j - (i - j)))) := sm_congr fun i hi => by
    unfold cv
    rw [← sm_mul_r]
    exact sm_congr fun j hj => by rw [show k - j - (i - j) = k - i by omega]
  have e2 : sm (k + 1) (fun j => cf P j * cv Q R (k - j)) = sm (k + 1) (fun j => sm (k - j + 1) (fun l => cf P j * cf Q l * cf R (k - j - l))) := sm_congr fun j hj => by
    unfold cv
    rw [← sm_mul]
    exact sm_congr fun l _ => by rw [Int.mul_assoc]
  rw [e1, e2]; exact h
theorem cv_congr {P P' Q Q' : List Int} (h : ∀ i, cf P i = cf P' i) (h' : ∀ i, cf Q i = cf Q' i) (k : Nat) : cv P Q k = cv P' Q' k := sm_congr fun i _ => by rw [h, h']
theorem cv_assoc (P Q R : List Int) (k : Nat) : cv (mulL P Q) R k = cv P (mulL Q R) k := by
  have h := cv_assoc' P Q R k
  unfold cv at h ⊢
  rw [show sm (k + 1) (fun i => cf (mulL P Q) i * cf R (k - i)) = sm (k + 1) (fun i => sm (i + 1) (fun j => cf P j * cf Q (i - j)) * cf R (k - i)) from sm_congr fun i _ => by rw [cf_mulL]; rfl, h]
  exact sm_congr fun i _ => by rw [cf_mulL]; rfl
theorem cv_add_left (P P' Q : List Int) (k : Nat) : cv (addL P P') Q k = cv P Q k + cv P' Q k := by
  unfold cv
  rw [← sm_add]
  exact sm_congr fun i _ => by rw [cf_addL, Int.add_mul]
theorem cv_sub_left (P P' Q : List Int) (k : Nat) : cv (subL P P') Q k = cv P Q k - cv P' Q k := by
  unfold cv
  rw [← sm_sub]
  exact sm_congr fun i _ => by rw [cf_subL, Int.sub_mul]
theorem cv_add_right (P Q Q' : List Int) (k : Nat) : cv P (addL Q Q') k = cv P Q k + cv P Q' k := by
  rw [cv_comm, cv_add_left, cv_comm Q, cv_comm Q']
theorem cv_sub_right (P Q Q' : List Int) (k : Nat) : cv P (subL Q Q') k = cv P Q k - cv P Q' k := by
  rw [cv_comm, cv_sub_left, cv_comm Q, cv_comm Q']
/-- times a number -/
def sclL (c : Int) (P : List Int) : List Int := P.map (c * ·)
theorem cf_sclL (c : Int) (P : List Int) (k : Nat) : cf (sclL c P) k = c * cf P k := cf_map (f := (c * ·)) (by omega) P k
theorem sclL_len (c : Int) (P : List Int) : (sclL c P).length = P.length := by unfold sclL; simp
theorem trim_sclL {c : Int} {P : List Int} (hc : c ≠ 0) (h : Trim P) : Trim (sclL c P) := by
  rcases h with h | h
  · left; rw [h]; rfl
  · right; rw [sclL_len, cf_sclL]; exact Int.mul_ne_zero hc h
theorem cv_scl_left (c : Int) (P Q : List Int) (k : Nat) : cv (sclL c P) Q k = c * cv P Q k := by
  unfold cv
  rw [← sm_mul]
  exact sm_congr fun i _ => by rw [cf_sclL, Int.mul_assoc]
theorem cv_scl_right (c : Int) (P Q : List Int) (k : Nat) : cv P (sclL c Q) k = c * cv P Q k := by
  rw [cv_comm, cv_scl_left, cv_comm]
theorem mulL_comm (P Q : List Int) : mulL P Q = mulL Q P := trim_ext (trim_mulL _ _) (trim_mulL _ _) fun k => by rw [cf_mulL, cf_mulL, cv_comm]
theorem mulL_assoc (P Q R : List Int) : mulL (mulL P Q) R = mulL P (mulL Q R) := trim_ext (trim_mulL _ _) (trim_mulL _ _) fun k => by rw [cf_mulL, cf_mulL, cv_assoc]
theorem mulU_one {c : Int} (P : List Int) : mulU [c] P = sclL c P := by
  by_cases h : P = []
  · subst h; rfl
  · refine ext ?_ fun k _ => ?_
    · unfold mulU
      rw [if_neg (fun z => z.elim (fun h => by cases h) h), List.length_map, List.length_range, sclL_len]
      show 1 + P.length - 1 = _
      omega
    · rw [cf_mulU, cv_one, cf_sclL]
/-- the top of a product -/
theorem cv_top {D Q : List Int} {d e : Nat} (hd : ∀ i, d < i → cf D i = 0) (he : ∀ i, e < i → cf Q i = 0) : cv D Q (d + e) = cf D d * cf Q e := by
  unfold cv
  rw [sm_single (j := d) (by omega) fun i _ hn => ?_]
  · rw [Nat.add_sub_cancel_left]
  · by_cases h : d < i
    · rw [hd i h, Int.zero_mul]
    · rw [he (d + e - i) (by omega), Int.mul_zero]
theorem exists_top {D : List Int} (h : ∃ i, cf D i ≠ 0) : ∃ d, cf D d ≠ 0 ∧ ∀ i, d < i → cf D i = 0 := by
  have ht := trim_trimL D
  rcases ht with e | e
  · obtain ⟨i, hi⟩ := h
    rw [← cf_trimL, e, cf_nil] at hi
    exact absurd rfl hi
  · refine ⟨(trimL D).length - 1, by rw [cf_trimL] at e; exact e, fun i hi => ?_⟩
    rw [← cf_trimL]
    exact cf_beyond (by omega)
theorem top_of {Q : List Int} (hT : Trim Q) (h0 : Q ≠ []) : cf Q (Q.length - 1) ≠ 0 ∧ ∀ i, Q.length - 1 < i → cf Q i = 0 :=
  ⟨lc_ne hT h0, fun i hi => cf_beyond (by omega)⟩
/-- what is times Q and of a lower degree than Q is nought -/
theorem low_zero {D Q : List Int} (hT : Trim Q) (h0 : Q ≠ []) (h : ∀ k, Q.length - 1 ≤ k → cv D Q k = 0) : ∀ i, cf D i = 0 := by
  intro i
  apply Classical.byContradiction
  intro hi
  obtain ⟨d, hd, hd2⟩ := exists_top ⟨i, hi⟩
  obtain ⟨q1, q2⟩ := top_of hT h0
  have := cv_top hd2 q2
  rw [h _ (by omega)] at this
  exact Int.mul_ne_zero hd q1 this.symm
/-- the rest of a division is told by any such sentence -/
theorem rest_unique {P Q A R : List Int} {f : Int} (hT : Trim Q) (h0 : Q ≠ []) (hR : R.length < Q.length) (h : ∀ k, f * cf P k = cv A Q k + cf R k) (k : Nat) : facL P Q * cf R k = f * cf (remL P Q) k ∧ facL P Q * cf A k = f * cf (quoL P Q) k := by
  have hz : ∀ i, cf (subL (sclL (facL P Q) A) (sclL f (quoL P Q))) i = 0 := low_zero hT h0 fun k hk => by
    rw [cv_sub_left, cv_scl_left, cv_scl_left]
    have h1 := h k
    have h2 := div_eq (P := P) hT h0 k
    have hr := rem_len (P := P) hT h0
    rw [cf_beyond (P := R) (by omega)] at h1
    rw [cf_beyond (P := remL P Q) (by omega)] at h2
    rw [show cv A Q k = f * cf P k by omega, show cv (quoL P Q) Q k = facL P Q * cf P k by omega, ← Int.mul_assoc, ← Int.mul_assoc, Int.mul_comm (facL P Q) f]
    omega
  have ha : ∀ i, facL P Q * cf A i = f * cf (quoL P Q) i := fun i => by
    have := hz i
    rw [cf_subL, cf_sclL, cf_sclL] at this
    omega
  refine ⟨?_, ha k⟩
  have h1 := h k
  have h2 := div_eq (P := P) hT h0 k
  have h3 : facL P Q * cv A Q k = f * cv (quoL P Q) Q k := by
    rw [← cv_scl_left, ← cv_scl_left]
    exact cv_congr (fun i => by rw [cf_sclL, cf_sclL, ha]) (fun _ => rfl) k
  have h4 : cf R k = f * cf P k - cv A Q k := by omega
  have h5 : cf (remL P Q) k = facL P Q * cf P k - cv (quoL P Q) Q k := by omega
  rw [h4, h5, Int.mul_sub, Int.mul_sub, h3, ← Int.mul_assoc, ← Int.mul_assoc, Int.mul_comm (facL P Q) f]
theorem trim_mulU {P Q : List Int} (hP : Trim P) (hQ : Trim Q) : Trim (mulU P Q) := by
  by_cases h : P = [] ∨ Q = []
  · left; unfold mulU; rw [if_pos h]
  · right
    have h1 : P ≠ [] := fun e => h (.inl e)
    have h2 : Q ≠ [] := fun e => h (.inr e)
    have e : (mulU P Q).length = P.length + Q.length - 1 := by unfold mulU; rw [if_neg h]; simp
    have l1 := len_pos h1
    have l2 := len_pos h2
    obtain ⟨a1, a2⟩ := top_of hP h1
    obtain ⟨b1, b2⟩ := top_of hQ h2
    rw [e, cf_mulU, show P.length + Q.length - 1 - 1 = (P.length - 1) + (Q.length - 1) by omega, cv_top a2 b2]
    exact Int.mul_ne_zero a1 b1
theorem cf_zero_nil {P : List Int} (hT : Trim P) : P = [] ↔ ∀ k, cf P k = 0 :=
  ⟨fun h k => by rw [h, cf_nil], fun h => hT.elim id fun e => absurd (h _) e⟩
/-- Q divides P just where the rest is [] -/
theorem rem_nil {P Q A R : List Int} {f : Int} (hf : f ≠ 0) (hP : Trim P) (hT : Trim Q) (h0 : Q ≠ []) (hR : R.length < Q.length) (tR : Trim R) (h : ∀ k, f * cf P k = cv A Q k + cf R k) : remL P Q = [] ↔ R = [] := by
  have hp := facL_pos (P := P) hT h0
  rw [cf_zero_nil (trim_rem hP), cf_zero_nil tR]
  constructor
  · intro hz k
    have := (rest_unique hT h0 hR h k).1
    rw [hz k, Int.mul_zero] at this
    rcases Int.mul_eq_zero.mp this with e | e
    · omega
    · exact e
  · intro hz k
    have := (rest_unique hT h0 hR h k).1
    rw [hz k, Int.mul_zero] at this
    rcases Int.mul_eq_zero.mp this.symm with e | e
    · exact absurd e hf
    · exact e
end MR

set_option linter.all false
/-! Polynomials that differ by a factor. -/
namespace MQ
open ML MD MP MR MG
theorem plain_mul (A : List Int) : ∃ a : Int, (A ≠ [] → Trim A → a ≠ 0) ∧ ∀ k, cf A k = a * cf (plainL A) k := by
  by_cases h : shrunkL A ≠ [] ∧ cf (shrunkL A) ((shrunkL A).length - 1) < 0
  · refine ⟨-gcdL A, fun h0 ht => ?_, fun k => ?_⟩
    · have := gcdL_trim_pos ht h0; omega
    · unfold plainL
      rw [if_pos h, cf_negL, Int.neg_mul_neg, mul_shrunkL]
  · refine ⟨gcdL A, fun h0 ht => ?_, fun k => ?_⟩
    · have := gcdL_trim_pos ht h0; omega
    · unfold plainL
      rw [if_neg h, mul_shrunkL]
theorem len_le_of {A B : List Int} (tA : Trim A) (h : ∀ k, cf B k = 0 → cf A k = 0) : A.length ≤ B.length := by
  rcases tA with e | e
  · rw [e]; simp
  · apply Classical.byContradiction
    intro hl
    exact e (h _ (cf_beyond (by omega)))
theorem gcd_one_of {p : List Int} {A : List Int} (h0 : A ≠ []) (tA : Trim A) : gcdN (plainL A) = 1 := by
  refine gcdN_plainL fun e => ?_
  have := gcdL_trim_pos tA h0
  unfold gcdL at this
  omega
/-- what divides all of y * p, p of the shared divisor 1, divides y -/
theorem dvd_all {p : List Int} (h : gcdN p = 1) {y z : Int} (hd : ∀ k, y ∣ z * cf p k) : y ∣ z := by
  have h1 := gcdN_mul z p
  rw [h, Nat.mul_one] at h1
  have h2 : y.natAbs ∣ gcdN (p.map (z * ·)) := dvd_gcdN fun x hx => by
    rw [Int.natAbs_dvd]
    obtain ⟨w, hw, rfl⟩ := List.mem_map.mp hx
    obtain ⟨k, hk, e⟩ := List.getElem_of_mem hw
    have := hd k
    rw [cf_get hk, e] at this
    exact this
  rw [h1] at h2
  exact Int.natAbs_dvd_natAbs.mp h2
theorem plain_prop {A B : List Int} {x y : Int} (tA : Trim A) (tB : Trim B) (hx : x ≠ 0) (hy : y ≠ 0) (h : ∀ k, x * cf A k = y * cf B k) : plainL A = plainL B := by
  have ab : ∀ k, cf A k = 0 → cf B k = 0 := fun k e => by
    have := h k
    rw [e, Int.mul_zero] at this
    exact (Int.mul_eq_zero.mp this.symm).resolve_left hy
  have ba : ∀ k, cf B k = 0 → cf A k = 0 := fun k e => by
    have := h k
    rw [e, Int.mul_zero] at this
    exact (Int.mul_eq_zero.mp this).resolve_left hx
  have hl : A.length = B.length := Nat.le_antisymm (len_le_of tA ba) (len_le_of tB ab)
  by_cases h0 : A = []
  · subst h0
    have : B = [] := List.eq_nil_of_length_eq_zero hl.symm
    rw [this]
  obtain ⟨a, ha, hA⟩ := plain_mul A
  have ha := ha h0 tA
  have h1 := gcd_one_of (p := []) h0 tA
  have hlast := plainL_last tA h0
  have hlen := plainL_len A
  generalize plainL A = p at *
  have hd : y ∣ x * a := dvd_all h1 fun k => ⟨cf B k, by rw [Int.mul_assoc, ← hA, h]⟩
  obtain ⟨b, hb⟩ := hd
  have hb0 : b ≠ 0 := fun e => by
    rw [e, Int.mul_zero] at hb
    exact (Int.mul_ne_zero hx ha) hb
  refine (plainL_of (c := b) hb0 (by omega) (fun k => ?_) h1 fun _ => hlast).symm
  have := h k
  rw [hA, ← Int.mul_assoc, hb, Int.mul_assoc] at this
  exact (Int.eq_of_mul_eq_mul_left hy this).symm
end MQ

set_option linter.all false
set_option exponentiation.threshold 100000
/-! Polynomials of degree one. -/
namespace MN
open ML MD MP
theorem gcd_one (c : Int) : MG.gcdL [c] = (c.natAbs : Int) := by
  unfold MG.gcdL MG.gcdN
  simp
theorem gcd_two (f c : Int) : MG.gcdL [f, c] = (Int.gcd f c : Int) := by
  unfold MG.gcdL MG.gcdN Int.gcd
  simp
/-- what a fraction's polynomial asks -/
structure Frc (n : Nat) (t d : Int) : Prop where
  d0 : 0 < d
  g1 : Int.gcd t d = 1
  st : t.natAbs < 2 ^ n
  sd : d.natAbs < 2 ^ n
  n0 : 0 < n
  n9 : n ≤ 4000
variable {n : Nat} {t d : Int}
theorem gcdN_lin (h : Frc n t d) : MG.gcdN [-t, d] = 1 := by
  have e := gcd_two (-t) d
  rw [Int.neg_gcd, h.g1] at e
  unfold MG.gcdL at e
  omega
theorem plain_lin (h : Frc n t d) : plainL [-t, d] = [-t, d] := plainL_self (gcdN_lin h) fun _ => by
  show 0 ≤ d
  have := h.d0
  omega
theorem shrunk_lin (h : Frc n t d) : shrunkL [-t, d] = [-t, d] := shrunkL_one (gcdN_lin h)
theorem shrunk_one (h : 0 < d) : shrunkL [d] = [1] := shrunkL_of (c := d) h rfl (fun k => by
  cases k with
  | zero => show d = d * 1; omega
  | succ k => show (0 : Int) = d * 0; omega) (by decide)
theorem plain_one (h : 0 < d) : plainL [d] = [1] := plainL_of (c := d) (by omega) rfl (fun k => by
  cases k with
  | zero => show d = d * 1; omega
  | succ k => show (0 : Int) = d * 0; omega) (by decide) (fun _ => by decide)
theorem slope_lin (f c : Int) : slopeL [f, c] = [c] := by
  have e : slopeL [f, c] = [(((0 : Nat) : Int) + 1) * c] := rfl
  rw [e]; simp
theorem rem_one (A : List Int) : remL A [1] = [] := by
  have := rem_len (P := A) (Q := [1]) (.inr (by decide)) (by simp)
  exact List.eq_nil_of_length_eq_zero (Nat.lt_one_iff.mp this)
theorem trim_lin (h : d ≠ 0) : Trim [t, d] := .inr h
theorem cv_one_right (P : List Int) (k : Nat) : cv P [1] k = cf P k := by
  unfold cv
  rw [sm_single (j := k) (by omega) fun i hi hn => by
    have : cf [1] (k - i) = 0 := cf_beyond (by show 1 ≤ k - i; omega)
    rw [this, Int.mul_zero], Nat.sub_self]
  show cf P k * 1 = _
  omega
theorem fac_one (A : List Int) : facL A [1] = 1 := by
  unfold facL
  split
  · rfl
  · show ((1 : Nat) : Int) ^ _ = 1
    exact Int.one_pow
theorem quo_one {A : List Int} (hA : Trim A) : quoL A [1] = A := trim_ext (trim_quo _ _) hA fun k => by
  have h := div_eq (P := A) (Q := [1]) (.inr (by decide)) (by simp) k
  rw [fac_one, cv_one_right, rem_one, cf_nil] at h
  omega
theorem sz_lin (h : Frc n t d) : Sz n [-t, d] := fun x hx => by
  simp only [List.mem_cons, List.not_mem_nil, or_false] at hx
  have h1 := h.st
  have h2 := h.sd
  rcases hx with rfl | rfl
  · rw [Int.natAbs_neg]; exact h1
  · exact h2
theorem row_lin (h : Frc n t d) : MS.rowL 2 [-t, d] = [[-t, d], [1]] := by
  unfold MS.rowL
  rw [if_neg (by simp), slope_lin, shrunk_one h.d0, shrunk_lin h]
  show _ :: (if [1] = [] then [] else [1] :: MS.rowG 1 [1] (MS.nextL _ [1])) = _
  have e : MS.nextL [-t, d] [1] = [] := by unfold MS.nextL; rw [rem_one]; rfl
  rw [if_neg (by simp), e]
  rfl
theorem row_ok (h : Frc n t d) : MS.RowOk 2 (shrunkL [-t, d]) (shrunkL (slopeL [-t, d])) := by
  have n0 := h.n0
  have n9 := h.n9
  rw [slope_lin, shrunk_one h.d0, shrunk_lin h]
  have e : MS.nextL [-t, d] [1] = [] := by unfold MS.nextL; rw [rem_one]; rfl
  refine .inr ⟨.inr (by decide), ⟨n, 1, sz_lin h, fun x hx => ?_, by simp, by simp, n0, by decide, by decide, ?_⟩, fun hn => absurd (rem_one _) hn, .inl e⟩
  · rw [List.mem_singleton] at hx
    rw [hx]; decide
  · show n + (2 * 1 + 1) * (2 + 1) ≤ 900000
    omega
theorem log_gcd (h : Frc n t d) : MG.gcdL [-t, d] ≠ 0 ∧ (MG.gcdL [-t, d]).natAbs.log2 < 9000 := by
  have e := gcd_two (-t) d
  rw [Int.neg_gcd, h.g1] at e
  rw [e]
  exact ⟨by decide, by decide⟩
theorem top_lin (t d x y : Int) : MH.topL [-t, d] x y = d * x - t * y := by
  show (0 * x + d * 1) * x + -t * (1 * y) = _
  grind
theorem top_one (x y : Int) : MH.topL [1] x y = 1 := by
  show 0 * x + 1 * 1 = 1
  omega
/-- one change between what is below and what is not -/
theorem chg_below {x y : Int} (h : d * x < t * y) : (MH.chg [[-t, d], [1]] x y).1 = 1 := by
  show (MH.stp (MH.stp (0, 0) (RB.ordI (MH.topL [-t, d] x y) 0)) (RB.ordI (MH.topL [1] x y) 0)).1 = 1
  rw [top_lin, top_one, RB.ordI_lt (show d * x - t * y < 0 by omega)]
  rfl
theorem chg_above {x y : Int} (h : t * y ≤ d * x) : (MH.chg [[-t, d], [1]] x y).1 = 0 := by
  show (MH.stp (MH.stp (0, 0) (RB.ordI (MH.topL [-t, d] x y) 0)) (RB.ordI (MH.topL [1] x y) 0)).1 = 0
  rw [top_lin, top_one]
  by_cases h1 : d * x - t * y = 0
  · rw [h1]; rfl
  · rw [RB.ordI_gt (show 0 < d * x - t * y by omega)]
    rfl
end MN

set_option linter.all false
set_option maxRecDepth 100000
/-! Fractions as they are made; figures. -/
namespace RB
theorem low_unique {p q p' q' : Int} (hq : 0 < q) (hq' : 0 < q') (h1 : Int.gcd p q = 1) (h2 : Int.gcd p' q' = 1) (h : p * q' = p' * q) : p = p' ∧ q = q' := by
  have e : p.natAbs * q'.natAbs = p'.natAbs * q.natAbs := by rw [← Int.natAbs_mul, h, Int.natAbs_mul]
  have c1 : Nat.Coprime q.natAbs p.natAbs := by
    show Nat.gcd q.natAbs p.natAbs = 1
    rw [Nat.gcd_comm]; exact h1
  have c2 : Nat.Coprime q'.natAbs p'.natAbs := by
    show Nat.gcd q'.natAbs p'.natAbs = 1
    rw [Nat.gcd_comm]; exact h2
  have d1 : q.natAbs ∣ q'.natAbs := c1.dvd_of_dvd_mul_left (by rw [e]; exact Nat.dvd_mul_left ..)
  have d2 : q'.natAbs ∣ q.natAbs := c2.dvd_of_dvd_mul_left (by rw [← e]; exact Nat.dvd_mul_left ..)
  have d3 := Nat.dvd_antisymm d1 d2
  have eq_ : q = q' := by omega
  subst eq_
  exact ⟨Int.eq_of_mul_eq_mul_right (by omega) h, rfl⟩
theorem made_same {X Y X' Y' : Int} (hY : 0 < Y) (hY' : 0 < Y') (h : X * Y' = X' * Y) : rT X Y = rT X' Y' ∧ rB X Y = rB X' Y' := by
  have e1 := r_cross (t := X) (b := Y) (by omega)
  have e2 := r_cross (t := X') (b := Y') (by omega)
  have b1 := rB_pos (t := X) (b := Y) (by omega)
  have b2 := rB_pos (t := X') (b := Y') (by omega)
  refine low_unique b1 b2 (r_low (by omega)) (r_low (by omega)) ?_
  generalize rT X Y = p at *
  generalize rB X Y = q at *
  generalize rT X' Y' = p' at *
  generalize rB X' Y' = q' at *
  have hYY : Y * Y' ≠ 0 := Int.mul_ne_zero (by omega) (by omega)
  refine Int.eq_of_mul_eq_mul_right hYY ?_
  -- p q' Y Y' = X q q' Y' = X' Y q q' = p' Y' q Y
  have a1 : p * q' * (Y * Y') = (p * Y) * (q' * Y') := by grind
  have a2 : p' * q * (Y * Y') = (p' * Y') * (q * Y) := by grind
  rw [a1, a2, e1, e2]
  have a3 : X * q * (q' * Y') = (X * Y') * (q * q') := by grind
  have a4 : X' * q' * (q * Y) = (X' * Y) * (q * q') := by grind
  rw [a3, a4, h]
theorem IsR.same {C p : PySem.Addr} {H : L2.Hp} {X Y X' Y' : Int} (h : IsR C H p (rT X Y) (rB X Y)) (hY : 0 < Y) (hY' : 0 < Y') (e : X * Y' = X' * Y) : IsR C H p (rT X' Y') (rB X' Y') := by
  obtain ⟨h1, h2⟩ := made_same hY hY' e
  rw [← h1, ← h2]; exact h
theorem ord_le0 {a b : Int} : ordI a b ≤ 0 ↔ a ≤ b := by
  unfold ordI
  split
  · constructor <;> intro <;> omega
  · split
    · constructor <;> intro <;> omega
    · constructor <;> intro <;> omega
theorem ord_gt0 {a b : Int} : ordI a b > 0 ↔ b < a := by
  unfold ordI
  split
  · constructor <;> intro <;> omega
  · split
    · constructor <;> intro <;> omega
    · constructor <;> intro <;> omega
end RB
namespace MX
open RB
theorem fd_eq {x q w : Int} (hq : 0 < q) (h1 : w * q ≤ x) (h2 : x < (w + 1) * q) : x.fdiv q = w := by
  obtain ⟨h3, h4⟩ := fdiv_two (p := x) hq
  generalize x.fdiv q = v at *
  have a1 : v < w + 1 := by
    apply Classical.byContradiction
    intro h
    have := Int.mul_le_mul_of_nonneg_right (show w + 1 ≤ v by omega) (show 0 ≤ q by omega)
    omega
  have a2 : w < v + 1 := by
    apply Classical.byContradiction
    intro h
    have := Int.mul_le_mul_of_nonneg_right (show v + 1 ≤ w by omega) (show 0 ≤ q by omega)
    omega
  omega
/-- halves of a floor -/
theorem half_floor {x d : Int} (hd : 0 < d) : ((2 * x).fdiv d + 1).fdiv 2 = (2 * x + d).fdiv (2 * d) := by
  obtain ⟨h1, h2⟩ := fdiv_two (p := 2 * x) hd
  obtain ⟨h3, h4⟩ := fdiv_two (p := (2 * x).fdiv d + 1) (show (0 : Int) < 2 by decide)
  generalize (2 * x).fdiv d = m at *
  generalize (m + 1).fdiv 2 = w at *
  refine (fd_eq (by omega) ?_ ?_).symm
  · have a := Int.mul_le_mul_of_nonneg_right (show 2 * w - 1 ≤ m by omega) (show 0 ≤ d by omega)
    have e : w * (2 * d) = (2 * w - 1) * d + d := by grind
    omega
  · have a := Int.mul_le_mul_of_nonneg_right (show m + 1 ≤ 2 * w + 1 by omega) (show 0 ≤ d by omega)
    have e : (w + 1) * (2 * d) = (2 * w + 1) * d + d := by grind
    omega
theorem fd_cross {x q x' q' : Int} (hq : 0 < q) (hq' : 0 < q') (h : x * q' = x' * q) : x.fdiv q = x'.fdiv q' := by
  obtain ⟨h1, h2⟩ := fdiv_two (p := x') hq'
  generalize x'.fdiv q' = w at *
  refine fd_eq hq ?_ ?_
  · have a := Int.mul_le_mul_of_nonneg_right h1 (show 0 ≤ q by omega)
    rw [← h] at a
    have e : w * q' * q = (w * q) * q' := by grind
    rw [e] at a
    exact Int.le_of_mul_le_mul_right a hq'
  · have a := Int.mul_lt_mul_of_pos_right h2 hq
    rw [← h] at a
    have e : (w + 1) * q' * q = ((w + 1) * q) * q' := by grind
    rw [e] at a
    exact Int.lt_of_mul_lt_mul_right a (by omega)
/-- the floor, from a fraction that is a little greater -/
theorem steps_eq {A t d b p : Int} (hd : 0 < d) (hp : 0 < p) (hb : 0 < b) (h1 : A < t * p) (h2 : t * p ≤ A + d) (h3 : b ≤ p) {w : Int} (hw1 : w * (d * p) ≤ (A + d) * b) (hw2 : (A + d) * b < (w + 1) * (d * p)) : (if t * b < w * d then w - 1 else w) = (t * b).fdiv d := by
  have dp : 0 < d * p := Int.mul_pos hd hp
  have k1 : (t * b) * p ≤ (A + d) * b := by
    have := Int.mul_le_mul_of_nonneg_right h2 (show 0 ≤ b by omega)
    have e : t * p * b = t * b * p := by grind
    omega
  have k2 : (A + d) * b < (t * b) * p + d * p := by
    have := Int.mul_lt_mul_of_pos_right h1 hb
    have e : t * p * b = t * b * p := by grind
    have e2 : (A + d) * b = A * b + d * b := by grind
    have := Int.mul_le_mul_of_nonneg_left h3 (show 0 ≤ d by omega)
    omega
  have c1 : w * (d * p) = (w * d) * p := by grind
  have c2 : (w + 1) * (d * p) = ((w + 1) * d) * p := by grind
  have c3 : t * b * p + d * p = (t * b + d) * p := by grind
  have l1 : w * d < t * b + d := by
    have : (w * d) * p < (t * b + d) * p := by omega
    exact Int.lt_of_mul_lt_mul_right this (by omega)
  have l2 : t * b < (w + 1) * d := by
    have : (t * b) * p < ((w + 1) * d) * p := by omega
    exact Int.lt_of_mul_lt_mul_right this (by omega)
  have e1 : (w + 1) * d = w * d + d := by grind
  have e2 : (w - 1) * d = w * d - d := by grind
  split
  · next h =>
    refine (fd_eq hd (by omega) ?_).symm
    rw [show w - 1 + 1 = w by omega]; exact h
  · next h => exact (fd_eq hd (by omega) l2).symm
end MX

set_option linter.all false
set_option maxRecDepth 100000
/-! The program's fractions as fractions of Lean. -/
namespace RB
open PySem PySem.Spec PyProof.Rows L2
open Evl (Ex)
/-- t / b as a fraction -/
def mq (t b : Int) : Rat := (t : Rat) / (b : Rat)
theorem cast_ne {b : Int} (h : b ≠ 0) : (b : Rat) ≠ 0 := fun z => h (by
  have : (b : Rat) = ((0 : Int) : Rat) := z
  exact Rat.intCast_inj.mp this)
theorem cast_pos {b : Int} (h : 0 < b) : (0 : Rat) < (b : Rat) := by
  have := Rat.intCast_lt_intCast.mpr h
  exact this
theorem mq_mul {t b : Int} (hb : b ≠ 0) : mq t b * (b : Rat) = (t : Rat) := Rat.div_mul_cancel (cast_ne hb)
theorem den_cast (x : Rat) : (((x.den : Nat) : Int) : Rat) = ((x.den : Nat) : Rat) := rfl
theorem q_self (x : Rat) : mq x.num (x.den : Int) = x := by
  unfold mq
  rw [← Rat.divInt_eq_div]
  exact Rat.num_divInt_den x
theorem q_den (x : Rat) : x * ((x.den : Int) : Rat) = (x.num : Rat) := by
  have h := mq_mul (t := x.num) (b := (x.den : Int)) (by have := x.den_pos; omega)
  rw [q_self] at h
  exact h
theorem q_low (x : Rat) : Int.gcd x.num (x.den : Int) = 1 := x.reduced
theorem q_pos (x : Rat) : (0 : Int) < (x.den : Int) := by have := x.den_pos; omega
theorem cast_inj {a b : Int} (h : (a : Rat) = (b : Rat)) : a = b := Rat.intCast_inj.mp h
/-- what a fraction is, by whole numbers -/
theorem q_eq {x : Rat} {t b : Int} (h : x * (b : Rat) = (t : Rat)) : x.num * b = t * (x.den : Int) := by
  refine cast_inj ?_
  have e := q_den x
  rw [Rat.intCast_mul, Rat.intCast_mul, ← e, ← h]
  grind
theorem q_of {x : Rat} {t b : Int} (h : x.num * b = t * (x.den : Int)) : x * (b : Rat) = (t : Rat) := by
  have e := q_den x
  have h2 : ((x.num * b : Int) : Rat) = ((t * (x.den : Int) : Int) : Rat) := by rw [h]
  rw [Rat.intCast_mul, Rat.intCast_mul, ← e] at h2
  have h3 : ((x.den : Int) : Rat) ≠ 0 := cast_ne (by have := q_pos x; omega)
  have h4 : (x * (b : Rat) - (t : Rat)) * ((x.den : Int) : Rat) = 0 := by grind
  rcases Rat.mul_eq_zero.mp h4 with h | h
  · grind
  · exact absurd h h3
/-- made of t and b it is t / b -/
theorem made_q {t b : Int} (hb : b ≠ 0) : rT t b = (mq t b).num ∧ rB t b = ((mq t b).den : Int) := by
  have h := q_eq (mq_mul (t := t) hb)
  refine low_unique (rB_pos hb) (q_pos _) (r_low hb) (q_low _) ?_
  have c := r_cross (t := t) hb
  refine Int.eq_of_mul_eq_mul_right hb ?_
  generalize rT t b = p at *
  generalize rB t b = q at *
  generalize (mq t b).num = p' at *
  generalize ((mq t b).den : Int) = q' at *
  have e1 : p * q' * b = p * b * q' := by grind
  have e2 : p' * q * b = p' * b * q := by grind
  rw [e1, e2, c, h]; grind
/-- a Ratio that is a fraction -/
def IsQ (C : Addr) (H : Hp) (a : Addr) (x : Rat) : Prop := IsR C H a x.num (x.den : Int)
theorem IsQ.ex {C : Addr} {H H' : Hp} {a : Addr} {x : Rat} (e : Ex H H') (h : IsQ C H a x) : IsQ C H' a x := IsR.ex e h
theorem IsQ.exb {C : Addr} {H H' : Hp} {a l : Addr} {x : Rat} (e : Exb l H H') (n : a ≠ l) (h : IsQ C H a x) : IsQ C H' a x := IsR.exb e n h
theorem IsR.toQ {C : Addr} {H : Hp} {a : Addr} {t b : Int} (h : IsR C H a (rT t b) (rB t b)) (hb : b ≠ 0) : IsQ C H a (mq t b) := by
  have e := made_q (t := t) hb
  rw [e.1, e.2] at h
  exact h
theorem IsQ.toR {C : Addr} {H : Hp} {a : Addr} {t b : Int} (h : IsQ C H a (mq t b)) (hb : b ≠ 0) : IsR C H a (rT t b) (rB t b) := by
  have e := made_q (t := t) hb
  rw [e.1, e.2]
  exact h
def RetQ (C : Addr) (x : Rat) (H : Hp) (Q : VK) : Prop := ∀ p H', H p = none → Ex H H' → IsQ C H' p x → Q (.ref p) H'
theorem RetQ.go {C : Addr} {x : Rat} {H H1 : Hp} {Q : VK} (k : RetQ C x H Q) (e : Ex H H1) : RetQ C x H1 Q := fun p H' hp e2 h => k p H' (Evl.fresh_back e hp) (e.trans e2) h
theorem RetQ.toR {C : Addr} {t b : Int} {x : Rat} {H : Hp} {Q : VK} (hb : b ≠ 0) (e : mq t b = x) (k : RetQ C x H Q) : RetR C (rT t b) (rB t b) H Q := fun p H' hp e2 h => k p H' hp e2 (by rw [← e]; exact h.toQ hb)
/-- sizes -/
def Qz (n : Nat) (x : Rat) : Prop := x.num.natAbs < 2 ^ n ∧ x.den < 2 ^ n
theorem Qz.mono {n m : Nat} {x : Rat} (h : Qz n x) (hm : n ≤ m) : Qz m x := ⟨Nat.lt_of_lt_of_le h.1 (Nat.pow_le_pow_right (by decide) hm), Nat.lt_of_lt_of_le h.2 (Nat.pow_le_pow_right (by decide) hm)⟩
theorem Qz.den' {n : Nat} {x : Rat} (h : Qz n x) : ((x.den : Int)).natAbs < 2 ^ n := h.2
theorem Qz.of {x : Rat} {t b : Int} {n : Nat} (hb : b ≠ 0) (h : x * (b : Rat) = (t : Rat)) (ht : t.natAbs < 2 ^ n) (hb' : b.natAbs < 2 ^ n) : Qz n x := by
  have e : x = mq t b := by
    have := mq_mul (t := t) hb
    have h3 := cast_ne hb
    have h4 : (x - mq t b) * (b : Rat) = 0 := by grind
    rcases Rat.mul_eq_zero.mp h4 with h | h
    · grind
    · exact absurd h h3
  have m := made_q (t := t) hb
  subst e
  have a1 := rT_abs (t := t) hb
  have a2 := rB_abs (t := t) hb
  rw [m.1] at a1
  rw [m.2] at a2
  exact ⟨Nat.lt_of_le_of_lt a1 ht, Nat.lt_of_le_of_lt a2 hb'⟩
theorem Qz.mq {t b : Int} {n : Nat} (hb : b ≠ 0) (ht : t.natAbs < 2 ^ n) (hb' : b.natAbs < 2 ^ n) : Qz n (RB.mq t b) := Qz.of hb (mq_mul hb) ht hb'
theorem den_ne (x y : Rat) : (x.den : Int) * (y.den : Int) ≠ 0 := Int.mul_ne_zero (by have := q_pos x; omega) (by have := q_pos y; omega)
theorem mq_of {x : Rat} {t b : Int} (hb : b ≠ 0) (h : x * (b : Rat) = (t : Rat)) : mq t b = x := by
  have := mq_mul (t := t) hb
  have h3 := cast_ne hb
  have h4 : (mq t b - x) * (b : Rat) = 0 := by grind
  rcases Rat.mul_eq_zero.mp h4 with h | h
  · grind
  · exact absurd h h3
/-! order -/
theorem cast_lt {a b : Int} : (a : Rat) < (b : Rat) ↔ a < b := Rat.intCast_lt_intCast
theorem cross_lt {x y : Rat} {a b c d : Int} (hb : 0 < b) (hd : 0 < d) (hx : x * (b : Rat) = (a : Rat)) (hy : y * (d : Rat) = (c : Rat)) : a * d < c * b ↔ x < y := by
  have pb := cast_pos hb
  have pd := cast_pos hd
  have bd := Rat.mul_pos pb pd
  have e1 : ((a * d : Int) : Rat) = x * ((b : Rat) * (d : Rat)) := by rw [Rat.intCast_mul, ← hx]; grind
  have e2 : ((c * b : Int) : Rat) = y * ((b : Rat) * (d : Rat)) := by rw [Rat.intCast_mul, ← hy]; grind
  rw [← cast_lt, e1, e2]
  constructor
  · intro h
    apply Classical.byContradiction
    intro hn
    have := Rat.mul_le_mul_of_nonneg_right (show y ≤ x by grind) (show 0 ≤ (b : Rat) * (d : Rat) by grind)
    grind
  · intro h
    exact Rat.mul_lt_mul_of_pos_right h bd
theorem ordI_q {x y : Rat} {a b c d : Int} (hb : 0 < b) (hd : 0 < d) (hx : x * (b : Rat) = (a : Rat)) (hy : y * (d : Rat) = (c : Rat)) : ordI (a * d) (c * b) = ST.sgR (x - y) := by
  have h1 := cross_lt hb hd hx hy
  have h2 := cross_lt hd hb hy hx
  unfold ordI
  rcases ST.sgR_cases (x - y) with ⟨a, e⟩ | ⟨a, e⟩ | ⟨a, e⟩ <;> rw [e]
  · rw [if_pos (h1.mpr (by grind))]
  · rw [if_neg (fun z => by have := h1.mp z; grind), if_neg (fun z => by have := h2.mp z; grind)]
  · rw [if_neg (fun z => by have := h1.mp z; grind), if_pos (h2.mpr (by grind))]
theorem ordI_qq (x y : Rat) : ordI (x.num * (y.den : Int)) (y.num * (x.den : Int)) = ST.sgR (x - y) := ordI_q (q_pos x) (q_pos y) (q_den x) (q_den y)
theorem ordI_zero (z : Int) : ordI z 0 = ST.sgR (z : Rat) := by
  unfold ordI
  rcases ST.sgR_cases (z : Rat) with ⟨a, e⟩ | ⟨a, e⟩ | ⟨a, e⟩ <;> rw [e]
  · have : z < 0 := cast_lt.mp a
    rw [if_pos this]
  · have : z = 0 := cast_inj a
    rw [this]; rfl
  · have : 0 < z := cast_lt.mp a
    rw [if_neg (by omega), if_pos this]
theorem sgR_scale {x c : Rat} (h : 0 < c) : ST.sgR (x * c) = ST.sgR x := by rw [ST.sgR_mul, ST.sgR_pos h, Int.mul_one]
/-! values -/
theorem hs_ev {t b : Int} {x : Rat} (hx : x * (b : Rat) = (t : Rat)) : ∀ P : List Int, ((MH.hs t b P).1 : Rat) * (b : Rat) = ST.ev P x * ((MH.hs t b P).2 : Rat) ∧ ((MH.hs t b P).2 : Rat) = (b : Rat) ^ P.length
  | [] => by
    constructor
    · show ((0 : Int) : Rat) * _ = (0 : Rat) * _
      have : ((0 : Int) : Rat) = 0 := rfl
      rw [this]; grind
    · show ((1 : Int) : Rat) = (b : Rat) ^ 0
      have : ((1 : Int) : Rat) = 1 := rfl
      rw [this]; grind
  | c :: r => by
    obtain ⟨h1, h2⟩ := hs_ev hx r
    rw [MH.hs_cons]
    constructor
    · show (((MH.hs t b r).1 * t + c * (MH.hs t b r).2 : Int) : Rat) * (b : Rat) = ((c : Rat) + x * ST.ev r x) * (((MH.hs t b r).2 * b : Int) : Rat)
      rw [Rat.intCast_add, Rat.intCast_mul, Rat.intCast_mul, Rat.intCast_mul, ← hx]
      generalize ((MH.hs t b r).1 : Rat) = A at *
      generalize ((MH.hs t b r).2 : Rat) = B at *
      generalize ST.ev r x = e at *
      grind
    · show (((MH.hs t b r).2 * b : Int) : Rat) = (b : Rat) ^ (r.length + 1)
      rw [Rat.intCast_mul, h2]
      grind
theorem rpow_pos {b : Rat} (h : 0 < b) : ∀ n : Nat, 0 < b ^ n
  | 0 => by rw [show b ^ 0 = 1 by grind]; decide
  | n + 1 => by rw [show b ^ (n + 1) = b ^ n * b by grind]; exact Rat.mul_pos (rpow_pos h n) h
/-- the sign of a polynomial at a fraction -/
theorem sign_ev {t b : Int} {x : Rat} (hb : 0 < b) (hx : x * (b : Rat) = (t : Rat)) (P : List Int) : ordI (MH.topL P t b) 0 = ST.sgR (ST.ev P x) := by
  obtain ⟨h1, h2⟩ := hs_ev hx P
  have pb := cast_pos hb
  have pp := rpow_pos pb P.length
  rw [← h2] at pp
  rw [ordI_zero]
  show ST.sgR ((MH.hs t b P).1 : Rat) = _
  rw [← sgR_scale pb, h1, sgR_scale pp]
theorem sign_q (P : List Int) (x : Rat) : ordI (MH.topL P x.num (x.den : Int)) 0 = ST.sgR (ST.ev P x) := sign_ev (q_pos x) (q_den x) P
end RB

set_option linter.all false
set_option maxRecDepth 100000
set_option maxHeartbeats 1000000
namespace ST
open ML
/-! ### a chain of functions -/
def Far (e v : Rat) : Prop := v ≤ -e ∨ e ≤ v
def Lnk (B : Rat) (f g h : Rat → Rat) : Prop := ∃ (a b : Rat) (q : Rat → Rat), 0 < a ∧ 0 < b ∧ Tame B q ∧ ∀ x, a * f x = q x * g x - b * h x
inductive Chain (B : Rat) : List (Rat → Rat) → Prop where
  | one {f} : (∃ c : Rat, c ≠ 0 ∧ ∀ x, f x = c) → Chain B [f]
  | two {f g} : Tame B f → Chain B [g] → Chain B [f, g]
  | more {f g h r} : Tame B f → Lnk B f g h → Chain B (g :: h :: r) → Chain B (f :: g :: h :: r)
theorem Chain.tame {B : Rat} {f : Rat → Rat} {r} (h : Chain B (f :: r)) : Tame B f := by
  cases h with
  | one h => obtain ⟨c, _, e⟩ := h; have : f = fun _ => c := funext e; rw [this]; exact tame_const B c
  | two h _ => exact h
  | more h _ _ => exact h
theorem far_const {c : Rat} (h : c ≠ 0) : ∃ e, 0 < e ∧ Far e c := by
  by_cases h2 : 0 < c
  · exact ⟨c, h2, .inr (by grind)⟩
  · exact ⟨-c, by grind, .inl (by grind)⟩
theorem Far.mono {a b v : Rat} (h : Far b v) (hab : a ≤ b) : Far a v := by unfold Far at *; grind
theorem rmin (a b : Rat) (ha : 0 < a) (hb : 0 < b) : ∃ c, 0 < c ∧ c ≤ a ∧ c ≤ b := by
  rcases Rat.le_total (a := a) (b := b) with h | h
  · exact ⟨a, ha, by grind, h⟩
  · exact ⟨b, hb, h, by grind⟩
theorem rdiv {a b : Rat} (ha : 0 < a) (hb : 0 < b) : ∃ c, 0 < c ∧ b * c = a := by
  refine ⟨a * b⁻¹, Rat.mul_pos ha (Rat.inv_pos.mpr hb), ?_⟩
  grind
theorem chain_sep {B : Rat} : ∀ {l : List (Rat → Rat)}, Chain B l → ∀ f g r, l = f :: g :: r → ∃ e, 0 < e ∧ ∀ x, In B x → Far e (f x) ∨ Far e (g x) := by
  intro l hl
  induction hl with
  | one h => intro f g r e; cases e
  | two h1 h2 _ =>
    intro f g r e; cases e
    cases h2 with
    | one h =>
      obtain ⟨c, c0, hc⟩ := h
      obtain ⟨e, e0, he⟩ := far_const c0
      exact ⟨e, e0, fun x _ => .inr (by rw [hc]; exact he)⟩
  | @more f g h r hf hl hc ih =>
    intro f' g' r' e; cases e
    obtain ⟨e, e0, he⟩ := ih g h r rfl
    obtain ⟨a, b, q, a0, b0, ⟨M, m0, hM, _⟩, eq⟩ := hl
    -- where g is small h is far, so f is far
    obtain ⟨d, d0, hd⟩ := rdiv (Rat.mul_pos b0 e0) (show 0 < 2 * M by grind)
    obtain ⟨c, c0, hc⟩ := rdiv (Rat.mul_pos b0 e0) (show 0 < 2 * a by grind)
    obtain ⟨z, z0, z1, z2⟩ := rmin d c d0 c0
    obtain ⟨w, w0, w1, w2⟩ := rmin z e z0 e0
    refine ⟨w, w0, fun x hx => ?_⟩
    by_cases hg : Far w (g x)
    · exact .inr hg
    · refine .inl ?_
      have hgs : In w (g x) := by unfold Far at hg; unfold In; grind
      have hh : Far e (h x) := by
        rcases he x hx with h | h
        · exact absurd (h.mono w2) hg
        · exact h
      have k1 := (hM x hx).mul hgs
      have k2 := eq x
      have k3 : M * w ≤ M * d := Rat.mul_le_mul_of_nonneg_left (by grind) (by grind)
      have k4 : a * w ≤ a * c := Rat.mul_le_mul_of_nonneg_left (by grind) (by grind)
      unfold In at k1
      rcases hh with hh | hh
      · have k5 := Rat.mul_le_mul_of_nonneg_left hh (show 0 ≤ b by grind)
        right
        apply Classical.byContradiction
        intro hn
        have := Rat.mul_lt_mul_of_pos_left (show f x < w by grind) a0
        grind
      · have k5 := Rat.mul_le_mul_of_nonneg_left hh (show 0 ≤ b by grind)
        left
        apply Classical.byContradiction
        intro hn
        have := Rat.mul_lt_mul_of_pos_left (show -w < f x by grind) a0
        grind
theorem not_st {u v d : Rat} (h : ¬ St (sgR u, sgR v)) (hd : In d (v - u)) : In d u ∧ In d v := by
  unfold St at h
  unfold In at *
  rcases sgR_cases u with ⟨a, b⟩ | ⟨a, b⟩ | ⟨a, b⟩ <;> rcases sgR_cases v with ⟨c, e⟩ | ⟨c, e⟩ | ⟨c, e⟩ <;> rw [b, e] at h <;> first | (exfalso; apply h; decide) | (constructor <;> constructor <;> grind)
theorem far_st {u v e d : Rat} (he : 0 < e) (hu : Far e u) (hd : In d (v - u)) (hde : d < e) : St (sgR u, sgR v) := by
  unfold Far at hu; unfold In at hd; unfold St
  rcases hu with hu | hu
  · rw [sgR_neg (show u < 0 by grind), sgR_neg (show v < 0 by grind)]; decide
  · rw [sgR_pos (show 0 < u by grind), sgR_pos (show 0 < v by grind)]; decide
def pr (x y : Rat) (f : Rat → Rat) : Int × Int := (sgR (f x), sgR (f y))
theorem small_le {M d e : Rat} (hM : 0 < M) (hd : M * d < e) (h : Rat) (hh : h ≤ d) : M * h < e := by
  have := Rat.mul_le_mul_of_nonneg_left hh (show 0 ≤ M by grind)
  grind
theorem rsmall {M e : Rat} (hM : 0 < M) (he : 0 < e) : ∃ d, 0 < d ∧ M * d < e := by
  obtain ⟨c, c0, hc⟩ := rdiv he (show 0 < 2 * M by grind)
  refine ⟨c, c0, ?_⟩
  have := Rat.mul_pos hM c0
  grind
theorem chain_near {B : Rat} : ∀ {l : List (Rat → Rat)}, Chain B l → ∃ d, 0 < d ∧ ∀ x y, In B x → In B y → x ≤ y → y - x ≤ d →
    (∀ f r, l = f :: r → St (pr x y f) → Chn (l.map (pr x y))) ∧ (∀ f g r, l = f :: g :: r → St (pr x y g) → Chn ((g :: r).map (pr x y))) := by
  intro l hl
  induction hl with
  | one h => exact ⟨1, by decide, fun x y _ _ _ _ => ⟨fun f r e hs => by cases e; exact .one hs, fun f g r e => by cases e⟩⟩
  | two h1 h2 ih =>
    obtain ⟨d, d0, hd⟩ := ih
    refine ⟨d, d0, fun x y hx hy hxy hle => ?_⟩
    obtain ⟨i1, _⟩ := hd x y hx hy hxy hle
    cases h2 with
    | one h =>
      obtain ⟨c, c0, hc⟩ := h
      have hs : ∀ g : Rat → Rat, (∀ x, g x = c) → St (pr x y g) := fun g hg => by
        unfold pr; rw [hg, hg]
        refine ⟨rfl, ?_⟩
        rcases sgR_cases c with ⟨a, b⟩ | ⟨a, b⟩ | ⟨a, b⟩
        · exact .inr b
        · exact absurd a c0
        · exact .inl b
      refine ⟨fun f r e hf => ?_, fun f g r e hg => ?_⟩
      · cases e
        exact .st hf (.one (hs _ hc))
      · cases e
        exact .one hg
  | @more f g h r hf hl hc ih =>
    obtain ⟨d, d0, hd⟩ := ih
    have hC : Chain B (f :: g :: h :: r) := .more hf hl hc
    obtain ⟨e1, e10, he1⟩ := chain_sep hC f g (h :: r) rfl
    obtain ⟨e2, e20, he2⟩ := chain_sep hc g h r rfl
    obtain ⟨a, b, q, a0, b0, ⟨Q, q0, hQ, _⟩, eq⟩ := hl
    obtain ⟨M, m0, _, hM⟩ := hc.tame
    have htail : Chain B (h :: r) := by cases hc with
      | two _ h => exact h
      | more _ _ h => exact h
    obtain ⟨N, n0, _, hN⟩ := htail.tame
    obtain ⟨e, e0, ee1, ee2⟩ := rmin e1 e2 e10 e20
    obtain ⟨u1, u10, hu1⟩ := rsmall m0 e0
    obtain ⟨u2, u20, hu2⟩ := rsmall n0 e0
    obtain ⟨u3, u30, hu3⟩ := rsmall (Rat.mul_pos q0 m0) (Rat.mul_pos a0 e0)
    obtain ⟨v1, v10, v11, v12⟩ := rmin u1 u2 u10 u20
    obtain ⟨v2, v20, v21, v22⟩ := rmin v1 u3 v10 u30
    obtain ⟨w, w0, w1, w2⟩ := rmin v2 d v20 d0
    refine ⟨w, w0, fun x y hx hy hxy hle => ?_⟩
    obtain ⟨i1, i2⟩ := hd x y hx hy hxy (by grind)
    have D0 : 0 ≤ y - x := by grind
    have k1 : M * (y - x) < e := small_le m0 hu1 _ (by grind)
    have k2 : N * (y - x) < e := small_le n0 hu2 _ (by grind)
    have k3 : Q * M * (y - x) < a * e := small_le (Rat.mul_pos q0 m0) hu3 _ (by grind)
    refine ⟨fun f' r' eq' hf' => ?_, fun f' g' r' eq' hg' => ?_⟩
    · cases eq'
      by_cases hg : St (pr x y g)
      · exact .st hf' (i1 g (h :: r) rfl hg)
      · obtain ⟨gx, gy⟩ := not_st hg (hM x y hx hy hxy)
        have nf : ∀ v, In (M * (y - x)) v → ¬ Far e v := fun v hv hf => by unfold In at hv; unfold Far at hf; grind
        have ff : Far e (f x) := by
          rcases he1 x hx with z | z
          · exact z.mono ee1
          · exact absurd (z.mono ee1) (nf _ gx)
        have fh : Far e (h x) := by
          rcases he2 x hx with z | z
          · exact absurd (z.mono ee2) (nf _ gx)
          · exact z.mono ee2
        have sh : St (pr x y h) := far_st e0 fh (hN x y hx hy hxy) k2
        have op : (pr x y f).1 = 0 - (pr x y h).1 := by
          show sgR (f x) = 0 - sgR (h x)
          have t1 := (hQ x hx).mul gx
          have t2 := eq x
          have t3 : Q * (M * (y - x)) < a * e := by grind
          unfold In at t1
          unfold Far at ff fh
          rcases ff with ff | ff
          · have t4 := Rat.mul_le_mul_of_nonneg_left ff (show 0 ≤ a by grind)
            have t5 : 0 < b * h x := by grind
            have t6 : 0 < h x := by
              apply Classical.byContradiction
              intro hn
              have := Rat.mul_le_mul_of_nonneg_left (show h x ≤ 0 by grind) (show 0 ≤ b by grind)
              grind
            rw [sgR_neg (by grind), sgR_pos t6]; rfl
          · have t4 := Rat.mul_le_mul_of_nonneg_left ff (show 0 ≤ a by grind)
            have t5 : b * h x < 0 := by grind
            have t6 : h x < 0 := by
              apply Classical.byContradiction
              intro hn
              have := Rat.mul_le_mul_of_nonneg_left (show 0 ≤ h x by grind) (show 0 ≤ b by grind)
              grind
            rw [sgR_pos (by grind), sgR_neg t6]; rfl
        exact .sk hf' (sgR_sg _) (sgR_sg _) op (i2 g h r rfl sh)
    · cases eq'
      exact i1 g (h :: r) rfl hg'
/-- the changes at a place -/
def vr (l : List (Rat → Rat)) (x : Rat) : Int := var (l.map fun f => sgR (f x))
theorem fst_pr (l : List (Rat → Rat)) (x y : Rat) : (l.map (pr x y)).map Prod.fst = l.map fun f => sgR (f x) := by rw [List.map_map]; rfl
theorem snd_pr (l : List (Rat → Rat)) (x y : Rat) : (l.map (pr x y)).map Prod.snd = l.map fun f => sgR (f y) := by rw [List.map_map]; rfl
/-- a row whose second one is the first one's slope -/
theorem cell {B : Rat} {P P1 : List Int} {m : Rat} {r : List (Rat → Rat)} (hB : 0 < B) (hc : Chain B (ev P :: ev P1 :: r)) (m0 : 0 < m) (hm : ∀ x, dv P x = m * ev P1 x) :
    ∃ d, 0 < d ∧ ∀ x y, In B x → In B y → x < y → y - x ≤ d → (Tn (pr x y (ev P)) ∧ vr (ev P :: ev P1 :: r) x = vr (ev P :: ev P1 :: r) y + 1) ∨ (¬ Tn (pr x y (ev P)) ∧ vr (ev P :: ev P1 :: r) x = vr (ev P :: ev P1 :: r) y) := by
  obtain ⟨d, d0, hd⟩ := chain_near hc
  obtain ⟨e, e0, he⟩ := chain_sep hc (ev P) (ev P1) r rfl
  obtain ⟨M, M0, _, hM⟩ := tame_ev hB P
  have htail : Chain B (ev P1 :: r) := by cases hc with
    | two _ h => exact h
    | more _ _ h => exact h
  obtain ⟨N, N0, _, hN⟩ := htail.tame
  obtain ⟨T, T0, hT⟩ := taylor hB P
  obtain ⟨u1, u10, hu1⟩ := rsmall M0 e0
  obtain ⟨u2, u20, hu2⟩ := rsmall N0 e0
  obtain ⟨u3, u30, hu3⟩ := rsmall T0 (Rat.mul_pos m0 e0)
  obtain ⟨v1, v10, v11, v12⟩ := rmin u1 u2 u10 u20
  obtain ⟨v2, v20, v21, v22⟩ := rmin v1 u3 v10 u30
  obtain ⟨w, w0, w1, w2⟩ := rmin v2 d v20 d0
  refine ⟨w, w0, fun x y hx hy hxy hle => ?_⟩
  obtain ⟨i1, i2⟩ := hd x y hx hy (by grind) (by grind)
  have k1 : M * (y - x) < e := small_le M0 hu1 _ (by grind)
  have k2 : N * (y - x) < e := small_le N0 hu2 _ (by grind)
  have k3 : T * (y - x) < m * e := small_le T0 hu3 _ (by grind)
  unfold vr
  rw [← fst_pr _ x y, ← snd_pr _ x y]
  by_cases hs : St (pr x y (ev P))
  · refine .inr ⟨fun z => ?_, var_same (i1 _ _ rfl hs)⟩
    unfold Tn at z; unfold St at hs; omega
  · obtain ⟨gx, gy⟩ := not_st hs (hM x y hx hy (by grind))
    have f1 : Far e (ev P1 x) := by
      rcases he x hx with z | z
      · unfold In at gx; unfold Far at z; grind
      · exact z
    have s1 : St (pr x y (ev P1)) := far_st e0 f1 (hN x y hx hy (by grind)) k2
    refine var_up (i2 _ _ _ rfl s1) ⟨sgR_sg _, sgR_sg _, ?_⟩
    obtain ⟨z, hz, ez⟩ := hT x y hx hy
    rw [hm] at ez
    have dp : 0 < y - x := by grind
    have t1 : In (T * (y - x)) ((y - x) * z) := by
      have := (show In (y - x) (y - x) by unfold In; grind).mul hz
      exact this.mono (by grind)
    unfold In at t1
    show (sgR (ev P1 x) = 1 ∧ sgR (ev P x) < sgR (ev P y)) ∨ (sgR (ev P1 x) = -1 ∧ sgR (ev P y) < sgR (ev P x))
    have ns : ¬ (sgR (ev P x) = sgR (ev P y) ∧ (sgR (ev P x) = 1 ∨ sgR (ev P x) = -1)) := hs
    unfold Far at f1
    rcases f1 with f1 | f1
    · right
      have t2 := Rat.mul_le_mul_of_nonneg_left f1 (show 0 ≤ m by grind)
      have t3 : 0 < -(m * ev P1 x + (y - x) * z) := by grind
      have t4 := Rat.mul_pos dp t3
      refine ⟨sgR_neg (by grind), ?_⟩
      rcases sgR_cases (ev P x) with ⟨a, b⟩ | ⟨a, b⟩ | ⟨a, b⟩ <;> rcases sgR_cases (ev P y) with ⟨c, f⟩ | ⟨c, f⟩ | ⟨c, f⟩ <;> rw [b, f] at ns ⊢ <;> first | decide | (exfalso; apply ns; decide) | (exfalso; grind)
    · left
      have t2 := Rat.mul_le_mul_of_nonneg_left f1 (show 0 ≤ m by grind)
      have t3 : 0 < m * ev P1 x + (y - x) * z := by grind
      have t4 := Rat.mul_pos dp t3
      refine ⟨sgR_pos (by grind), ?_⟩
      rcases sgR_cases (ev P x) with ⟨a, b⟩ | ⟨a, b⟩ | ⟨a, b⟩ <;> rcases sgR_cases (ev P y) with ⟨c, f⟩ | ⟨c, f⟩ | ⟨c, f⟩ <;> rw [b, f] at ns ⊢ <;> first | decide | (exfalso; apply ns; decide) | (exfalso; grind)
end ST

set_option linter.all false
set_option maxRecDepth 100000
set_option maxHeartbeats 1000000
namespace ST
open ML
/-! ### spots: where a number is, told at each fraction: 1 above it, 0 there, -1 below -/
structure Spot (s : Rat → Int) : Prop where
  vals : ∀ x, Sg (s x)
  dn : ∀ x y, x < y → s x ≤ 0 → s y = -1
  op : ∀ x, s x = 1 → ∃ y, x < y ∧ s y = 1
  oq : ∀ x, s x = -1 → ∃ y, y < x ∧ s y = -1
theorem Spot.up {s : Rat → Int} (h : Spot s) {x y : Rat} (hxy : x ≤ y) (hy : s y = 1) : s x = 1 := by
  rcases h.vals x with e | e | e
  · exact e
  · by_cases hh : x = y
    · rw [hh]; exact hy
    · have := h.dn x y (by grind) (by omega); omega
  · by_cases hh : x = y
    · rw [hh]; exact hy
    · have := h.dn x y (by grind) (by omega); omega
def Sep (s t : Rat → Int) : Prop := ∃ c d : Rat, c < d ∧ ((s c ≤ 0 ∧ 0 ≤ t d) ∨ (t c ≤ 0 ∧ 0 ≤ s d))
theorem sep_of_ne {s t : Rat → Int} (hs : Spot s) (ht : Spot t) {x : Rat} (h : s x ≠ t x) : Sep s t := by
  have key : ∀ {s t : Rat → Int}, Spot s → Spot t → s x < t x → Sep s t := fun {s t} hs ht h => by
    rcases hs.vals x with e | e | e
    · rcases ht.vals x with f | f | f <;> omega
    · rcases ht.vals x with f | f | f
      · obtain ⟨d, h1, h2⟩ := ht.op x f
        exact ⟨x, d, h1, .inl ⟨by omega, by omega⟩⟩
      · omega
      · omega
    · obtain ⟨c, h1, h2⟩ := hs.oq x e
      rcases ht.vals x with f | f | f
      · exact ⟨c, x, h1, .inl ⟨by omega, by omega⟩⟩
      · exact ⟨c, x, h1, .inl ⟨by omega, by omega⟩⟩
      · omega
  by_cases hlt : s x < t x
  · exact key hs ht hlt
  · obtain ⟨c, d, h1, h2⟩ := key ht hs (by omega)
    exact ⟨c, d, h1, h2.symm⟩
def Inn (x y : Rat) (s : Rat → Int) : Prop := 0 ≤ s x ∧ s y ≤ 0
theorem sep_far {s t : Rat → Int} (hs : Spot s) (ht : Spot t) (h : Sep s t) : ∃ d, 0 < d ∧ ∀ x y, x ≤ y → y - x < d → ¬ (Inn x y s ∧ Inn x y t) := by
  have key : ∀ {s t : Rat → Int}, Spot s → Spot t → ∀ {c d x y : Rat}, c < d → s c ≤ 0 → 0 ≤ t d → Inn x y s → Inn x y t → d - c ≤ y - x := fun {s t} hs ht c d x y hcd h1 h2 ⟨a1, a2⟩ ⟨b1, b2⟩ => by
    have k1 : x ≤ c := by
      apply Classical.byContradiction
      intro hn
      have := hs.dn c x (by grind) h1
      omega
    have k2 : d ≤ y := by
      apply Classical.byContradiction
      intro hn
      have := ht.dn y d (by grind) b2
      omega
    grind
  obtain ⟨c, d, hcd, h⟩ := h
  refine ⟨d - c, by grind, fun x y hxy hlt ⟨a, b⟩ => ?_⟩
  rcases h with ⟨h1, h2⟩ | ⟨h1, h2⟩
  · have := key hs ht hcd h1 h2 a b; grind
  · have := key ht hs hcd h1 h2 b a; grind
/-- how many spots are above x and not above y -/
def cnt (S : List (Rat → Int)) (x y : Rat) : Nat := S.countP fun s => decide (s x = 1 ∧ s y ≤ 0)
/-- the product of the opposite sides -/
def pS : List (Rat → Int) → Rat → Int
  | [], _ => 1
  | s :: S, x => (0 - s x) * pS S x
theorem cnt_cons (s : Rat → Int) (S : List (Rat → Int)) (x y : Rat) : cnt (s :: S) x y = cnt S x y + (if s x = 1 ∧ s y ≤ 0 then 1 else 0) := by
  unfold cnt
  rw [List.countP_cons]
  simp
theorem cnt_add {S : List (Rat → Int)} (hS : ∀ s ∈ S, Spot s) {x m y : Rat} (h1 : x ≤ m) (h2 : m ≤ y) : cnt S x y = cnt S x m + cnt S m y := by
  induction S with
  | nil => rfl
  | cons s S ih =>
    rw [cnt_cons, cnt_cons, cnt_cons, ih fun t h => hS t (List.mem_cons_of_mem _ h)]
    have hs := hS s (List.mem_cons_self ..)
    have k1 : s m = 1 → s x = 1 := hs.up h1
    have k2 : s y = 1 → s m = 1 := hs.up h2
    have v1 := hs.vals x
    have v2 := hs.vals m
    have v3 := hs.vals y
    unfold Sg at v1 v2 v3
    split <;> split <;> split <;> omega
theorem far_all {S : List (Rat → Int)} {x y : Rat} (hxy : x < y) (hS : ∀ s ∈ S, Spot s) (h : ∀ s ∈ S, ¬ Inn x y s) : cnt S x y = 0 ∧ pS S x = pS S y ∧ (pS S x = 1 ∨ pS S x = -1) := by
  induction S with
  | nil => exact ⟨rfl, rfl, .inl rfl⟩
  | cons s S ih =>
    obtain ⟨i1, i2, i3⟩ := ih (fun t h => hS t (List.mem_cons_of_mem _ h)) fun t ht => h t (List.mem_cons_of_mem _ ht)
    have hs := hS s (List.mem_cons_self ..)
    have hn := h s (List.mem_cons_self ..)
    have v1 := hs.vals x
    have v2 := hs.vals y
    have v3 := hs.dn x y hxy
    have v4 := hs.up (show x ≤ y by grind)
    unfold Sg at v1 v2
    unfold Inn at hn
    rw [cnt_cons, i1]
    show 0 + _ = 0 ∧ (0 - s x) * pS S x = (0 - s y) * pS S y ∧ ((0 - s x) * pS S x = 1 ∨ (0 - s x) * pS S x = -1)
    rw [← i2]
    rcases v1 with e | e | e <;> rcases v2 with f | f | f <;> first | omega | (rw [e, f]; refine ⟨by simp, rfl, ?_⟩; rcases i3 with g | g <;> rw [g] <;> decide)
def Apart (x y : Rat) (S : List (Rat → Int)) : Prop := S.Pairwise fun s t => ¬ (Inn x y s ∧ Inn x y t)
theorem apart_cell {S : List (Rat → Int)} {x y : Rat} (hxy : x < y) (hS : ∀ s ∈ S, Spot s) (h : Apart x y S) :
    (cnt S x y = 0 ∧ (pS S x = 0 ∨ (pS S x = pS S y ∧ (pS S x = 1 ∨ pS S x = -1)))) ∨ (cnt S x y = 1 ∧ (pS S x = 1 ∨ pS S x = -1) ∧ (pS S y = 0 ∨ pS S y = 0 - pS S x)) := by
  induction S with
  | nil => exact .inl ⟨rfl, .inr ⟨rfl, .inl rfl⟩⟩
  | cons s S ih =>
    obtain ⟨h1, h2⟩ := List.pairwise_cons.mp h
    have hS' : ∀ t ∈ S, Spot t := fun t h => hS t (List.mem_cons_of_mem _ h)
    have hs := hS s (List.mem_cons_self ..)
    have v1 := hs.vals x
    have v2 := hs.vals y
    have v3 := hs.dn x y hxy
    have v4 := hs.up (show x ≤ y by grind)
    unfold Sg at v1 v2
    rw [cnt_cons]
    show (_ ∧ ((0 - s x) * pS S x = 0 ∨ (0 - s x) * pS S x = (0 - s y) * pS S y ∧ ((0 - s x) * pS S x = 1 ∨ (0 - s x) * pS S x = -1))) ∨ (_ ∧ ((0 - s x) * pS S x = 1 ∨ (0 - s x) * pS S x = -1) ∧ ((0 - s y) * pS S y = 0 ∨ (0 - s y) * pS S y = 0 - (0 - s x) * pS S x))
    by_cases hi : Inn x y s
    · obtain ⟨i1, i2, i3⟩ := far_all hxy hS' fun t ht z => h1 t ht ⟨hi, z⟩
      rw [i1, ← i2]
      unfold Inn at hi
      rcases v1 with e | e | e <;> rcases v2 with f | f | f <;> first | omega | (rw [e, f]; rcases i3 with g | g <;> rw [g] <;> decide)
    · have i := ih hS' h2
      unfold Inn at hi
      rcases v1 with e | e | e <;> rcases v2 with f | f | f <;> first | omega | skip
      · rw [e, f, if_neg (by decide), Nat.add_zero]
        rcases i with ⟨i1, i2⟩ | ⟨i1, i2, i3⟩
        · refine .inl ⟨i1, ?_⟩
          rcases i2 with g | ⟨g, g2⟩
          · exact .inl (by omega)
          · exact .inr ⟨by omega, by omega⟩
        · exact .inr ⟨i1, by omega, by omega⟩
      · rw [e, f, if_neg (by decide), Nat.add_zero]
        rcases i with ⟨i1, i2⟩ | ⟨i1, i2, i3⟩
        · refine .inl ⟨i1, ?_⟩
          rcases i2 with g | ⟨g, g2⟩
          · exact .inl (by omega)
          · exact .inr ⟨by omega, by omega⟩
        · exact .inr ⟨i1, by omega, by omega⟩
theorem apart_near {S : List (Rat → Int)} (hS : ∀ s ∈ S, Spot s) (hp : S.Pairwise Sep) : ∃ d, 0 < d ∧ ∀ x y, x ≤ y → y - x < d → Apart x y S := by
  induction S with
  | nil => exact ⟨1, by decide, fun _ _ _ _ => .nil⟩
  | cons s S ih =>
    obtain ⟨h1, h2⟩ := List.pairwise_cons.mp hp
    have hS' : ∀ t ∈ S, Spot t := fun t h => hS t (List.mem_cons_of_mem _ h)
    have hs := hS s (List.mem_cons_self ..)
    obtain ⟨d, d0, hd⟩ := ih hS' h2
    have : ∀ T : List (Rat → Int), (∀ t ∈ T, Spot t ∧ Sep s t) → ∃ e, 0 < e ∧ ∀ x y, x ≤ y → y - x < e → ∀ t ∈ T, ¬ (Inn x y s ∧ Inn x y t) := by
      intro T
      induction T with
      | nil => exact fun _ => ⟨1, by decide, fun _ _ _ _ t ht => by cases ht⟩
      | cons t T iT =>
        intro hT
        obtain ⟨e, e0, he⟩ := iT fun u hu => hT u (List.mem_cons_of_mem _ hu)
        obtain ⟨ht, hst⟩ := hT t (List.mem_cons_self ..)
        obtain ⟨f, f0, hf⟩ := sep_far hs ht hst
        obtain ⟨g, g0, g1, g2⟩ := rmin e f e0 f0
        refine ⟨g, g0, fun x y hxy hlt u hu => ?_⟩
        rcases List.mem_cons.mp hu with rfl | hu
        · exact hf x y hxy (by grind)
        · exact he x y hxy (by grind) u hu
    obtain ⟨e, e0, he⟩ := this S fun t ht => ⟨hS' t ht, h1 t ht⟩
    obtain ⟨g, g0, g1, g2⟩ := rmin d e d0 e0
    exact ⟨g, g0, fun x y hxy hlt => List.pairwise_cons.mpr ⟨he x y hxy (by grind), hd x y hxy (by grind)⟩⟩
/-- Sturm's count -/
theorem sturm_B {B : Rat} {P P1 : List Int} {m : Rat} {r : List (Rat → Rat)} {S : List (Rat → Int)} {g : Int} (hB : 0 < B) (hc : Chain B (ev P :: ev P1 :: r)) (m0 : 0 < m) (hm : ∀ x, dv P x = m * ev P1 x)
    (hS : ∀ s ∈ S, Spot s) (hp : S.Pairwise Sep) (hg : g = 1 ∨ g = -1) (hsg : ∀ x, sgR (ev P x) = g * pS S x) :
    ∀ a b, In B a → In B b → a ≤ b → vr (ev P :: ev P1 :: r) a - vr (ev P :: ev P1 :: r) b = (cnt S a b : Int) := by
  obtain ⟨d1, d10, h1⟩ := cell hB hc m0 hm
  obtain ⟨d2, d20, h2⟩ := apart_near hS hp
  obtain ⟨d3, d30, w1, w2⟩ := rmin d1 d2 d10 d20
  obtain ⟨d, d0, hd⟩ := rdiv d30 (show (0 : Rat) < 2 by decide)
  have cellD : ∀ x y, In B x → In B y → x < y → y - x ≤ d → vr (ev P :: ev P1 :: r) x - vr (ev P :: ev P1 :: r) y = (cnt S x y : Int) := fun x y hx hy hxy hle => by
    have k1 := h1 x y hx hy hxy (by grind)
    have k2 := apart_cell hxy hS (h2 x y (by grind) (by grind))
    unfold Tn pr at k1
    simp only [hsg] at k1
    generalize pS S x = px at *
    generalize pS S y = py at *
    rcases hg with rfl | rfl <;> rcases k1 with ⟨k, k'⟩ | ⟨k, k'⟩ <;> rcases k2 with ⟨j, j'⟩ | ⟨j, j', j''⟩ <;> omega
  have step : ∀ (n : Nat) a b, In B a → In B b → a ≤ b → b - a ≤ (n : Rat) * d → vr (ev P :: ev P1 :: r) a - vr (ev P :: ev P1 :: r) b = (cnt S a b : Int) := by
    intro n
    induction n with
    | zero =>
      intro a b ha hb hab hle
      have : a = b := by grind
      subst this
      have : cnt S a a = 0 := by
        unfold cnt
        rw [List.countP_eq_zero]
        intro s _
        simp
        intro h; omega
      omega
    | succ n ih =>
      intro a b ha hb hab hle
      by_cases hd : b - a ≤ d
      · by_cases he : a = b
        · subst he
          refine ih a a ha ha (by grind) ?_
          have : (0 : Rat) ≤ (n : Rat) := by exact_mod_cast Nat.zero_le n
          have := Rat.mul_nonneg this (show 0 ≤ d by grind)
          grind
        · exact cellD a b ha hb (by grind) hd
      · have hm : In B (a + d) := by unfold In at *; grind
        have e1 := cellD a (a + d) ha hm (by grind) (by grind)
        have e2 := ih (a + d) b hm hb (by grind) (by
          have : ((n + 1 : Nat) : Rat) = (n : Rat) + 1 := by grind
          rw [this] at hle
          grind)
        have e3 := cnt_add hS (x := a) (m := a + d) (y := b) (by grind) (by grind)
        omega
  intro a b ha hb hab
  obtain ⟨n, hn⟩ : ∃ n : Nat, b - a ≤ (n : Rat) * d := by
    refine ⟨((b - a) / d).ceil.toNat, ?_⟩
    have h1 : (b - a) / d ≤ (((b - a) / d).ceil : Rat) := Rat.le_ceil
    have h2 : (((b - a) / d).ceil : Rat) ≤ ((((b - a) / d).ceil.toNat : Nat) : Rat) := by
      have : ((b - a) / d).ceil ≤ ((((b - a) / d).ceil.toNat : Nat) : Int) := by omega
      have := Rat.intCast_le_intCast.mpr this
      rw [Rat.intCast_natCast] at this
      exact this
    have h3 := Rat.mul_le_mul_of_nonneg_right (show (b - a) / d ≤ ((((b - a) / d).ceil.toNat : Nat) : Rat) by grind) (show 0 ≤ d by grind)
    rw [Rat.div_mul_cancel (show d ≠ 0 by grind)] at h3
    exact h3
  exact step n a b ha hb hab hn
end ST

set_option linter.all false
set_option maxRecDepth 100000
/-! Spans halved towards a spot. -/
namespace ST
/-- the first half of a half that isn't wider than w, at most k steps -/
def nar (s : Rat → Int) (w : Rat) : Nat → Rat → Rat → Rat × Rat
  | 0, x, y => (x, y)
  | k + 1, x, y => if y - x > w then (if s ((x + y) / 2) ≤ 0 then nar s w k x ((x + y) / 2) else nar s w k ((x + y) / 2) y) else (x, y)
theorem half_eq (x y : Rat) : (x + y) / 2 - x = (y - x) / 2 ∧ y - (x + y) / 2 = (y - x) / 2 := by constructor <;> grind
theorem nar_stop {s : Rat → Int} {w : Rat} {k : Nat} {x y : Rat} (h : ¬ y - x > w) : nar s w k x y = (x, y) := by
  cases k with
  | zero => rfl
  | succ k => exact if_neg h
theorem nar_lo {s : Rat → Int} {w : Rat} {k : Nat} {x y : Rat} (h : y - x > w) (hs : s ((x + y) / 2) ≤ 0) : nar s w (k + 1) x y = nar s w k x ((x + y) / 2) := by
  show (if _ then _ else _) = _
  rw [if_pos h, if_pos hs]
theorem nar_hi {s : Rat → Int} {w : Rat} {k : Nat} {x y : Rat} (h : y - x > w) (hs : ¬ s ((x + y) / 2) ≤ 0) : nar s w (k + 1) x y = nar s w k ((x + y) / 2) y := by
  show (if _ then _ else _) = _
  rw [if_pos h, if_neg hs]
/-- a fraction over D times 2 ^ j -/
def Grd (D : Int) (j : Nat) (x : Rat) : Prop := ∃ A : Int, x * (((D * 2 ^ j : Int)) : Rat) = (A : Rat)
theorem Grd.up {D : Int} {j : Nat} {x : Rat} (h : Grd D j x) : Grd D (j + 1) x := by
  obtain ⟨A, hA⟩ := h
  refine ⟨2 * A, ?_⟩
  rw [show D * 2 ^ (j + 1) = D * 2 ^ j * 2 by rw [Int.pow_succ]; grind, Rat.intCast_mul (D * 2 ^ j), Rat.intCast_mul 2 A, ← hA]
  have : ((2 : Int) : Rat) = 2 := rfl
  rw [this]; grind
theorem Grd.half {D : Int} {j : Nat} {x y : Rat} (h : Grd D j x) (h' : Grd D j y) : Grd D (j + 1) ((x + y) / 2) := by
  obtain ⟨A, hA⟩ := h
  obtain ⟨B, hB⟩ := h'
  refine ⟨A + B, ?_⟩
  rw [show D * 2 ^ (j + 1) = D * 2 ^ j * 2 by rw [Int.pow_succ]; grind, Rat.intCast_mul (D * 2 ^ j), Rat.intCast_add A B, ← hA, ← hB]
  have : ((2 : Int) : Rat) = 2 := rfl
  rw [this]; grind
theorem grd_of (x y : Rat) : Grd ((x.den : Int) * (y.den : Int)) 0 x ∧ Grd ((x.den : Int) * (y.den : Int)) 0 y := by
  have e1 := RB.q_den x
  have e2 := RB.q_den y
  have one : (2 : Int) ^ 0 = 1 := rfl
  constructor
  · refine ⟨x.num * (y.den : Int), ?_⟩
    rw [one, Int.mul_one, Rat.intCast_mul, Rat.intCast_mul, ← e1]; grind
  · refine ⟨y.num * (x.den : Int), ?_⟩
    rw [one, Int.mul_one, Rat.intCast_mul, Rat.intCast_mul, ← e2]; grind
theorem abs_q {n : Nat} {x : Rat} (h : RB.Qz n x) : In ((2 ^ n : Int) : Rat) x := by
  have e := RB.q_den x
  have hd := RB.cast_pos (RB.q_pos x)
  have h1 : (1 : Rat) ≤ ((x.den : Int) : Rat) := by
    have : (1 : Int) ≤ (x.den : Int) := by have := RB.q_pos x; omega
    have := Rat.intCast_le_intCast.mpr this
    exact this
  have hb : (x.num.natAbs : Int) < 2 ^ n := by exact_mod_cast h.1
  have a1 : (x.num : Rat) ≤ ((2 ^ n : Int) : Rat) := Rat.intCast_le_intCast.mpr (by omega)
  have a2 : ((-(2 ^ n) : Int) : Rat) ≤ (x.num : Rat) := Rat.intCast_le_intCast.mpr (by omega)
  rw [Rat.intCast_neg] at a2
  have p0 : (0 : Rat) < ((2 ^ n : Int) : Rat) := RB.cast_pos (Int.pow_pos (by decide))
  generalize ((2 ^ n : Int) : Rat) = N at *
  have a3 := Rat.mul_le_mul_of_nonneg_left h1 (show 0 ≤ N by grind)
  unfold In
  constructor
  · apply Classical.byContradiction
    intro hn
    have := Rat.mul_lt_mul_of_pos_right (show x < -N by grind) hd
    grind
  · apply Classical.byContradiction
    intro hn
    have := Rat.mul_lt_mul_of_pos_right (show N < x by grind) hd
    grind
/-- the size of a fraction on the grid -/
theorem Grd.sz {D : Int} {j n m : Nat} {x : Rat} (h : Grd D j x) (hD : 0 < D) (hd : D.natAbs < 2 ^ m) (hx : In ((2 ^ n : Int) : Rat) x) : RB.Qz (n + m + j) x := by
  obtain ⟨A, hA⟩ := h
  have p2 : (0 : Int) < 2 ^ j := Int.pow_pos (by decide)
  have Dp : 0 < D * 2 ^ j := Int.mul_pos hD p2
  have Dq := RB.cast_pos Dp
  have nd : (D * 2 ^ j).natAbs < 2 ^ (m + j) := by
    rw [Int.natAbs_mul, Nat.pow_add]
    have : ((2 : Int) ^ j).natAbs = 2 ^ j := by rw [Int.natAbs_pow]; rfl
    rw [this]
    exact Nat.mul_lt_mul_of_pos_right hd (Nat.two_pow_pos _)
  refine RB.Qz.of (t := A) (b := D * 2 ^ j) (by omega) hA ?_ (Nat.lt_of_lt_of_le nd (Nat.pow_le_pow_right (by decide) (by omega)))
  have k1 : (A : Rat) ≤ ((2 ^ n * (D * 2 ^ j) : Int) : Rat) := by
    rw [← hA, Rat.intCast_mul (2 ^ n) (D * 2 ^ j)]
    exact Rat.mul_le_mul_of_nonneg_right hx.2 (Rat.le_of_lt Dq)
  have k2 : ((-(2 ^ n * (D * 2 ^ j)) : Int) : Rat) ≤ (A : Rat) := by
    rw [← hA, Rat.intCast_neg, Rat.intCast_mul (2 ^ n) (D * 2 ^ j), show ∀ a b : Rat, -(a * b) = (-a) * b by intros; grind]
    exact Rat.mul_le_mul_of_nonneg_right hx.1 (Rat.le_of_lt Dq)
  have k1' := Rat.intCast_le_intCast.mp k1
  have k2' := Rat.intCast_le_intCast.mp k2
  have k3 : A.natAbs ≤ 2 ^ n * (D * 2 ^ j).natAbs := by
    have : ((2 ^ n * (D * 2 ^ j).natAbs : Nat) : Int) = 2 ^ n * (D * 2 ^ j) := by
      rw [Int.natCast_mul]
      have : (((D * 2 ^ j).natAbs : Nat) : Int) = D * 2 ^ j := by omega
      rw [this]; norm_cast
    omega
  refine Nat.lt_of_le_of_lt k3 ?_
  rw [show n + m + j = n + (m + j) by omega, Nat.pow_add]
  exact Nat.mul_lt_mul_of_pos_left nd (Nat.two_pow_pos _)
theorem pS_append (A B : List (Rat → Int)) (x : Rat) : pS (A ++ B) x = pS A x * pS B x := by
  induction A with
  | nil => show pS B x = 1 * _; rw [Int.one_mul]
  | cons a A ih => show (0 - a x) * pS (A ++ B) x = (0 - a x) * pS A x * _; rw [ih]; grind
/-- spots that do not lie in a span: their sides stay -/
theorem others {S : List (Rat → Int)} {l h : Rat} (hS : ∀ s ∈ S, Spot s) (hn : ∀ s ∈ S, ¬ (s l = 1 ∧ s h ≤ 0)) : ∃ c : Int, (c = 1 ∨ c = -1) ∧ ∀ z, l < z → z ≤ h → pS S z = c := by
  induction S with
  | nil => exact ⟨1, .inl rfl, fun z _ _ => rfl⟩
  | cons s S ih =>
    obtain ⟨c, hc, ih⟩ := ih (fun t h => hS t (List.mem_cons_of_mem _ h)) fun t ht => hn t (List.mem_cons_of_mem _ ht)
    have hs := hS s (List.mem_cons_self ..)
    have hnn := hn s (List.mem_cons_self ..)
    rcases hs.vals h with v | v | v
    · refine ⟨-c, by omega, fun z h1 h2 => ?_⟩
      show (0 - s z) * pS S z = -c
      rw [ih z h1 h2, hs.up h2 v]; omega
    all_goals
      have hl : s l ≤ 0 := by
        rcases hs.vals l with w | w | w
        · exact absurd ⟨w, by omega⟩ hnn
        · omega
        · omega
      refine ⟨c, hc, fun z h1 h2 => ?_⟩
      show (0 - s z) * pS S z = c
      rw [ih z h1 h2, hs.dn l z h1 hl]; omega
/-- just one spot in a span: the product goes along with it -/
theorem alone {S : List (Rat → Int)} {A B : List (Rat → Int)} {s : Rat → Int} {l h : Rat} (e : S = A ++ s :: B) (hS : ∀ s ∈ S, Spot s) (hA : ∀ t ∈ A, ¬ (t l = 1 ∧ t h ≤ 0)) (hB : ∀ t ∈ B, ¬ (t l = 1 ∧ t h ≤ 0)) : ∃ c : Int, (c = 1 ∨ c = -1) ∧ ∀ z, l < z → z ≤ h → pS S z = c * s z := by
  subst e
  obtain ⟨c1, h1, k1⟩ := others (fun t ht => hS t (List.mem_append_left _ ht)) hA
  obtain ⟨c2, h2, k2⟩ := others (fun t ht => hS t (List.mem_append_right _ (List.mem_cons_of_mem _ ht))) hB
  refine ⟨-(c1 * c2), by rcases h1 with rfl | rfl <;> rcases h2 with rfl | rfl <;> decide, fun z a b => ?_⟩
  rw [pS_append, k1 z a b]
  show c1 * ((0 - s z) * pS B z) = _
  rw [k2 z a b]; grind
end ST

set_option linter.all false
/-! Products of linear factors, at fractions. -/
namespace MH
open ML MR
/-- times b * x - a, the coefficient ahead given -/
def linM (a b : Int) : List Int → Int → List Int
  | [], p => [b * p]
  | x :: r, p => (b * p - a * x) :: linM a b r x
theorem linM_len (a b : Int) : ∀ (P : List Int) (p : Int), (linM a b P p).length = P.length + 1
  | [], _ => rfl
  | x :: r, p => by
    show (linM a b r x).length + 1 = _
    rw [linM_len a b r x]; rfl
theorem cf_linM (a b : Int) : ∀ (P : List Int) (p : Int) (k : Nat), cf (linM a b P p) k = b * (if k = 0 then p else cf P (k - 1)) - a * cf P k
  | [], p, 0 => by
    show b * p = _
    rw [if_pos rfl, cf_nil, Int.mul_zero, Int.sub_zero]
  | [], p, k + 1 => by
    rw [if_neg (by omega), cf_nil, cf_nil, Int.mul_zero, Int.mul_zero, Int.sub_zero]
    exact cf_beyond (by show 1 ≤ k + 1; omega)
  | x :: r, p, 0 => by
    show b * p - a * x = _
    rw [if_pos rfl, cf_zero]
  | x :: r, p, k + 1 => by
    have h := cf_linM a b r x k
    show cf ((b * p - a * x) :: linM a b r x) (k + 1) = _
    rw [cf_succ, h, cf_succ, if_neg (Nat.succ_ne_zero k), Nat.add_sub_cancel]
    cases k with
    | zero => rw [if_pos rfl, cf_zero]
    | succ k => rw [if_neg (Nat.succ_ne_zero k), cf_succ, Nat.add_sub_cancel]
theorem hs_linM (a b t u : Int) : ∀ (P : List Int) (p : Int), hs t u (linM a b P p) = ((hs t u P).1 * (b * t - a * u) + b * p * (hs t u P).2, (hs t u P).2 * u)
  | [], p => by
    show ((0 : Int) * t + b * p * 1, (1 : Int) * u) = (0 * (b * t - a * u) + b * p * 1, 1 * u)
    rw [Int.zero_mul, Int.zero_mul]
  | x :: r, p => by
    have h := hs_linM a b t u r x
    show ((hs t u (linM a b r x)).1 * t + (b * p - a * x) * (hs t u (linM a b r x)).2, (hs t u (linM a b r x)).2 * u) = (((hs t u r).1 * t + x * (hs t u r).2) * (b * t - a * u) + b * p * ((hs t u r).2 * u), (hs t u r).2 * u * u)
    rw [h]
    refine Prod.ext ?_ rfl
    show ((hs t u r).1 * (b * t - a * u) + b * x * (hs t u r).2) * t + (b * p - a * x) * ((hs t u r).2 * u) = ((hs t u r).1 * t + x * (hs t u r).2) * (b * t - a * u) + b * p * ((hs t u r).2 * u)
    grind
theorem topL_linM (a b t u : Int) (P : List Int) : topL (linM a b P 0) t u = topL P t u * (b * t - a * u) := by
  unfold topL
  rw [hs_linM, Int.mul_zero, Int.zero_mul, Int.add_zero]
theorem cv_lin (a b : Int) (P : List Int) (k : Nat) : cv P [a, b] k = (if k = 0 then 0 else cf P (k - 1) * b) + cf P k * a := by
  have h2 : ∀ j, 2 ≤ j → cf [a, b] j = 0 := fun j hj => cf_beyond (by show 2 ≤ j; exact hj)
  unfold cv
  cases k with
  | zero =>
    rw [if_pos rfl]
    show 0 + cf P 0 * cf [a, b] 0 = _
    rfl
  | succ k =>
    rw [if_neg (by omega), sm_succ, sm_succ]
    have z : sm k (fun i => cf P i * cf [a, b] (k + 1 - i)) = 0 := sm_zero fun i hi => by rw [h2 _ (by omega), Int.mul_zero]
    rw [z, show k + 1 - k = 1 by omega, Nat.sub_self, Nat.add_sub_cancel, Int.zero_add]
    rfl
theorem mul_lin {a b : Int} {P : List Int} (hT : Trim P) (h0 : P ≠ []) (hb : b ≠ 0) : mulL P [-a, b] = linM a b P 0 := by
  have hl := MD.len_pos h0
  refine trim_ext (trim_mulL _ _) (.inr ?_) fun k => ?_
  · rw [linM_len, Nat.add_sub_cancel, cf_linM, if_neg (by omega), cf_beyond (P := P) (Nat.le_refl _), Int.mul_zero, Int.sub_zero]
    exact Int.mul_ne_zero hb (MD.lc_ne hT h0)
  · rw [cf_mulL, cv_lin, cf_linM]
    cases k with
    | zero => rw [if_pos rfl, if_pos rfl, Int.mul_zero, Int.zero_add, Int.zero_sub, Int.mul_neg, Int.mul_comm]
    | succ k => rw [if_neg (by omega), if_neg (by omega), Int.mul_neg, Int.mul_comm b, Int.mul_comm a]; rfl
/-- the product of the factors b * t - a * u -/
def prodF (ab : List (Int × Int)) (t u : Int) : Int := ab.foldl (fun s q => s * (q.2 * t - q.1 * u)) 1
theorem prodF_take {ab : List (Int × Int)} {t u : Int} {i : Nat} {q : Int × Int} (h : ab[i]? = some q) : prodF (ab.take (i + 1)) t u = prodF (ab.take i) t u * (q.2 * t - q.1 * u) := by
  unfold prodF
  rw [List.take_add_one, h]
  simp [List.foldl_append]
theorem prodF_zero {ab : List (Int × Int)} {t u : Int} {q : Int × Int} (h : q ∈ ab) (hz : q.2 * t - q.1 * u = 0) : prodF ab t u = 0 := by
  have gen : ∀ (ab : List (Int × Int)) (s : Int), (s = 0 ∨ q ∈ ab) → ab.foldl (fun s q => s * (q.2 * t - q.1 * u)) s = 0 := by
    intro ab
    induction ab with
    | nil => intro s hs; exact hs.elim id (fun h => by cases h)
    | cons x r ih =>
      intro s hs
      rw [List.foldl_cons]
      apply ih
      rcases hs with hs | hs
      · left; rw [hs, Int.zero_mul]
      · rcases List.mem_cons.mp hs with e | e
        · left; rw [← e, hz, Int.mul_zero]
        · exact .inr e
  exact gen ab 1 (.inr h)
end MH

set_option linter.all false
/-! The bound of the roots. -/
namespace MB
open ML MR MH
/-- at K / M, K far from 0, a polynomial is not small -/
theorem cauchy {K M B l : Int} (hM : 0 < M) (hB : 1 ≤ B) (hK : B * M ≤ (K.natAbs : Int)) : ∀ (r : List Int), (∀ c ∈ r, (c.natAbs : Int) ≤ (B - 1) * (l.natAbs : Int)) → ((l.natAbs : Int) * M ^ r.length ≤ (((hs K M (r ++ [l])).1).natAbs : Int)) ∧ (hs K M (r ++ [l])).2 = M ^ (r.length + 1)
  | [], _ => by
    show (l.natAbs : Int) * M ^ 0 ≤ ((0 * K + l * 1).natAbs : Int) ∧ 1 * M = M ^ (0 + 1)
    constructor
    · have : 0 * K + l * 1 = l := by omega
      rw [this, Int.pow_zero]; omega
    · rw [Int.pow_succ, Int.pow_zero]
  | x :: r, h => by
    obtain ⟨h1, h2⟩ := cauchy hM hB hK r fun c hc => h c (List.mem_cons_of_mem _ hc)
    have hx := h x (List.mem_cons_self ..)
    rw [List.cons_append, hs_cons, h2, List.length_cons]
    generalize (hs K M (r ++ [l])).1 = v at h1
    refine ⟨?_, (Int.pow_succ M (r.length + 1)).symm⟩
    show (l.natAbs : Int) * M ^ (r.length + 1) ≤ ((v * K + x * M ^ (r.length + 1)).natAbs : Int)
    have hP : (0 : Int) < M ^ r.length := Int.pow_pos hM
    have e : M ^ (r.length + 1) = M ^ r.length * M := Int.pow_succ _ _
    rw [e]
    generalize M ^ r.length = p at *
    have hL : (0 : Int) ≤ (l.natAbs : Int) := by omega
    -- |v K| is at least l p B M
    have a1 : (l.natAbs : Int) * p * (B * M) ≤ (v.natAbs : Int) * (K.natAbs : Int) := Int.mul_le_mul h1 hK (Int.mul_nonneg (by omega) (by omega)) (by omega)
    have a2 : ((v * K).natAbs : Int) = (v.natAbs : Int) * (K.natAbs : Int) := by rw [Int.natAbs_mul]; omega
    have pM : 0 < p * M := Int.mul_pos hP hM
    have a3 : ((x * (p * M)).natAbs : Int) ≤ (B - 1) * (l.natAbs : Int) * (p * M) := by
      have : ((x * (p * M)).natAbs : Int) = (x.natAbs : Int) * (p * M) := by
        rw [Int.natAbs_mul]
        have : ((p * M).natAbs : Int) = p * M := by omega
        rw [Int.natCast_mul, this]
      rw [this]
      exact Int.mul_le_mul_of_nonneg_right hx (by omega)
    have a4 : (l.natAbs : Int) * p * (B * M) = (B - 1) * (l.natAbs : Int) * (p * M) + (l.natAbs : Int) * (p * M) := by grind
    omega
/-- the value of a product -/
theorem cv_cons_right (S : List Int) (x : Int) (r : List Int) (k : Nat) : cv S (x :: r) k = cf S k * x + (if k = 0 then 0 else cv S r (k - 1)) := by
  cases k with
  | zero =>
    show sm 1 _ = _
    simp [sm, cf_zero]
  | succ k =>
    rw [if_neg (by omega), Nat.add_sub_cancel]
    show sm (k + 1 + 1) (fun i => cf S i * cf (x :: r) (k + 1 - i)) = _
    rw [sm_succ, Nat.sub_self, cf_zero]
    have e : sm (k + 1) (fun i => cf S i * cf (x :: r) (k + 1 - i)) = cv S r k := sm_congr fun i hi => by
      rw [show k + 1 - i = (k - i) + 1 by omega, cf_succ]
    rw [e]; omega
theorem pair {S : List Int} {c : Int} : ∀ (R : List Int) (g h : Nat → Int) (N : Nat), S.length + R.length ≤ N → (∀ i, i < R.length → sm S.length (fun j => cf S j * g (i + j)) = c * h i) → sm N (fun k => cv S R k * g k) = c * sm R.length (fun i => cf R i * h i)
  | [], g, h, N, _, _ => by
    show _ = c * 0
    rw [Int.mul_zero]
    exact sm_zero fun i _ => by
      have : cv S [] i = 0 := sm_zero fun j _ => by rw [cf_nil, Int.mul_zero]
      rw [this, Int.zero_mul]
  | x :: r, g, h, N, hN, hr => by
    obtain ⟨N', rfl⟩ : ∃ N', N = N' + 1 := ⟨N - 1, by rw [List.length_cons] at hN; omega⟩
    rw [List.length_cons] at hN hr
    have ih := pair (S := S) (c := c) r (fun k => g (k + 1)) (fun i => h (i + 1)) N' (by omega) fun i hi => by
      have := hr (i + 1) (by omega)
      rw [← this]
      exact sm_congr fun j _ => by
        show cf S j * g (i + j + 1) = cf S j * g (i + 1 + j)
        rw [show i + j + 1 = i + 1 + j by omega]
    have e1 : sm (N' + 1) (fun k => cv S (x :: r) k * g k) = sm (N' + 1) (fun k => cf S k * g k * x) + sm (N' + 1) (fun k => (if k = 0 then 0 else cv S r (k - 1)) * g k) := by
      rw [← sm_add]
      exact sm_congr fun k _ => by rw [cv_cons_right]; grind
    have e2 : sm (N' + 1) (fun k => (if k = 0 then 0 else cv S r (k - 1)) * g k) = sm N' (fun k => cv S r k * g (k + 1)) := by
      rw [sm_shift]
      have : sm N' (fun i => (if i + 1 = 0 then 0 else cv S r (i + 1 - 1)) * g (i + 1)) = sm N' (fun k => cv S r k * g (k + 1)) := sm_congr fun i _ => by rw [if_neg (by omega), Nat.add_sub_cancel]
      rw [this]
      simp
    have e3 : sm (N' + 1) (fun k => cf S k * g k) = c * h 0 := by
      rw [← hr 0 (by omega), sm_ext (n := S.length) (by omega) fun i h1 _ => by rw [cf_beyond h1, Int.zero_mul]]
      exact sm_congr fun j _ => by rw [Nat.zero_add]
    rw [e1, sm_mul_r, e2, e3, ih, List.length_cons, sm_shift]
    have e4 : sm r.length (fun i => cf (x :: r) (i + 1) * h (i + 1)) = sm r.length (fun i => cf r i * h (i + 1)) := sm_congr fun i _ => by rw [cf_succ]
    rw [e4, cf_zero]
    grind
/-- Horner's value as a sum -/
theorem hs_sm (K M : Int) : ∀ P : List Int, (hs K M P).1 = sm P.length (fun k => cf P k * (K ^ k * M ^ (P.length - 1 - k))) ∧ (hs K M P).2 = M ^ P.length
  | [] => ⟨rfl, by simp [hs]⟩
  | x :: r => by
    obtain ⟨h1, h2⟩ := hs_sm K M r
    rw [hs_cons, h1, h2, List.length_cons]
    refine ⟨?_, by rw [Int.pow_succ]⟩
    show sm r.length _ * K + x * M ^ r.length = _
    rw [sm_shift, cf_zero, Int.pow_zero, Int.one_mul, Nat.add_sub_cancel, Nat.sub_zero, Int.add_comm, ← sm_mul_r]
    congr 1
    exact sm_congr fun i hi => by
      rw [cf_succ, Int.pow_succ, show r.length - (i + 1) = r.length - 1 - i by omega]
      grind
theorem top_sm (P : List Int) (K M : Int) : topL P K M = sm P.length (fun k => cf P k * (K ^ k * M ^ (P.length - 1 - k))) := (hs_sm K M P).1
/-- the value of a product is the product of the values -/
theorem top_prod {P S R : List Int} (hS : S ≠ []) (hR : R ≠ []) (hl : P.length = S.length + R.length - 1) (h : ∀ k, cf P k = cv S R k) (K M : Int) : topL P K M = topL S K M * topL R K M := by
  have lS := List.length_pos_iff.mpr hS
  have lR := List.length_pos_iff.mpr hR
  rw [top_sm P, top_sm R]
  have e1 : sm P.length (fun k => cf P k * (K ^ k * M ^ (P.length - 1 - k))) = sm (S.length + R.length) (fun k => cv S R k * (K ^ k * M ^ (P.length - 1 - k))) := by
    rw [sm_ext (n := P.length) (m := S.length + R.length) (by omega) fun i h1 _ => by rw [← h, cf_beyond h1, Int.zero_mul]]
    exact sm_congr fun i _ => by rw [h]
  rw [e1]
  refine pair R _ (fun i => K ^ i * M ^ (R.length - 1 - i)) _ (Nat.le_refl _) fun i hi => ?_
  rw [top_sm S, ← sm_mul_r]
  exact sm_congr fun j hj => by
    rw [Int.pow_add, show P.length - 1 - (i + j) = (S.length - 1 - j) + (R.length - 1 - i) by omega, Int.pow_add]
    grind
/-- how great a value can be -/
theorem top_le {K M A : Int} (hM : 0 < M) (hA : 0 ≤ A) (hK : (K.natAbs : Int) ≤ A * M) : ∀ R : List Int, ((topL R K M).natAbs : Int) * M ≤ topL (R.map fun c => (c.natAbs : Int)) A 1 * M ^ R.length
  | [] => by
    show ((0 : Int).natAbs : Int) * M ≤ 0 * M ^ 0
    simp
  | x :: r => by
    have ih := top_le hM hA hK r
    have h2 := (hs_sm K M r).2
    have h3 := (hs_sm A 1 (r.map fun c => (c.natAbs : Int))).2
    unfold topL at ih ⊢
    rw [List.map_cons, hs_cons, hs_cons, h2, h3, Int.one_pow, List.length_cons, Int.pow_succ]
    show ((((hs K M r).1 * K + x * M ^ r.length).natAbs : Nat) : Int) * M ≤ ((hs A 1 (r.map fun c => (c.natAbs : Int))).1 * A + (x.natAbs : Int) * 1) * (M ^ r.length * M)
    have hp : (0 : Int) < M ^ r.length := Int.pow_pos hM
    generalize (hs K M r).1 = v at *
    generalize (hs A 1 (r.map fun c => (c.natAbs : Int))).1 = y at *
    generalize M ^ r.length = p at *
    have a1 : ((v * K + x * p).natAbs : Int) ≤ (v.natAbs : Int) * (K.natAbs : Int) + (x.natAbs : Int) * p := by
      have b1 : ((v * K).natAbs : Int) = (v.natAbs : Int) * (K.natAbs : Int) := by rw [Int.natAbs_mul]; omega
      have b2 : ((x * p).natAbs : Int) = (x.natAbs : Int) * p := by
        rw [Int.natAbs_mul, Int.natCast_mul]
        have : ((p.natAbs : Nat) : Int) = p := by omega
        rw [this]
      omega
    have a2 : (v.natAbs : Int) * (K.natAbs : Int) ≤ (v.natAbs : Int) * (A * M) := Int.mul_le_mul_of_nonneg_left hK (by omega)
    have a3 : (v.natAbs : Int) * (A * M) ≤ A * (y * p) := by
      have := Int.mul_le_mul_of_nonneg_left ih hA
      have e : (v.natAbs : Int) * (A * M) = A * ((v.natAbs : Int) * M) := by grind
      rw [e]; exact this
    have a4 : ((v * K + x * p).natAbs : Int) ≤ (y * A + (x.natAbs : Int) * 1) * p := by
      have e : (y * A + (x.natAbs : Int) * 1) * p = A * (y * p) + (x.natAbs : Int) * p := by grind
      rw [e]; omega
    have := Int.mul_le_mul_of_nonneg_right a4 (show (0 : Int) ≤ M by omega)
    have e : (y * A + (x.natAbs : Int) * 1) * p * M = (y * A + (x.natAbs : Int) * 1) * (p * M) := by grind
    omega
theorem least_ (p : Nat → Prop) (h : ∃ n, p n) : ∃ n, p n ∧ ∀ m, m < n → ¬ p m := by
  obtain ⟨n, hn⟩ := h
  induction n using Nat.strongRecOn with
  | _ n ih =>
    by_cases hm : ∃ m, m < n ∧ p m
    · obtain ⟨m, h1, h2⟩ := hm
      exact ih m h1 h2
    · exact ⟨n, hn, fun m h1 h2 => hm ⟨m, h1, h2⟩⟩
end MB
namespace MB
open ML MR MH MP
/-- the polynomial of a factor -/
def shp (u e b : Int) : List Int := if e = 0 then plainL [0 - u, b] else plainL [u * u - e, -2 * b * u, b * b]
theorem top_scale {A S : List Int} {a : Int} (hl : A.length = S.length) (h : ∀ k, cf A k = a * cf S k) (K M : Int) : topL A K M = a * topL S K M := by
  rw [top_sm A, top_sm S, ← sm_mul, hl]
  exact sm_congr fun k _ => by rw [h]; grind
theorem shp_lin {u b : Int} (hb : b ≠ 0) : ∃ a : Int, a ≠ 0 ∧ (shp u 0 b).length = 2 ∧ ∀ K M, a * topL (shp u 0 b) K M = b * K - u * M := by
  unfold shp
  rw [if_pos rfl]
  obtain ⟨a, h1, h2⟩ := MQ.plain_mul [0 - u, b]
  refine ⟨a, h1 (by simp) (.inr hb), plainL_len _, fun K M => ?_⟩
  rw [← top_scale (plainL_len _).symm h2]
  show (0 * K + b * 1) * K + (0 - u) * (1 * M) = _
  grind
theorem shp_sq {u e b : Int} (he : e ≠ 0) (hb : b ≠ 0) : ∃ a : Int, a ≠ 0 ∧ (shp u e b).length = 3 ∧ ∀ K M, a * topL (shp u e b) K M = (b * K - u * M) * (b * K - u * M) - e * (M * M) := by
  unfold shp
  rw [if_neg he]
  obtain ⟨a, h1, h2⟩ := MQ.plain_mul [u * u - e, -2 * b * u, b * b]
  refine ⟨a, h1 (by simp) (.inr (Int.mul_ne_zero hb hb)), plainL_len _, fun K M => ?_⟩
  rw [← top_scale (plainL_len _).symm h2]
  show ((0 * K + b * b * 1) * K + -2 * b * u * (1 * M)) * K + (u * u - e) * (1 * M * M) = _
  grind
theorem sq_le {x y : Int} (hx : 0 ≤ x) (h : x ≤ y) : x * x ≤ y * y := Int.mul_le_mul h h hx (by omega)
theorem sq_lt {x y : Int} (hx : 0 ≤ x) (h : x < y) : x * x < y * y := by
  have h1 : x * x ≤ x * y := Int.mul_le_mul_of_nonneg_left (by omega) hx
  have h2 : x * y < y * y := Int.mul_lt_mul_of_pos_right h (by omega)
  omega
/-- what the bound is above -/
theorem below {r R : List Int} {l u e b B : Int} (hl : l ≠ 0) (hB : 1 ≤ B) (hb : 1 ≤ b) (he : 0 ≤ e) (hbd : ∀ c ∈ r, (c.natAbs : Int) ≤ (B - 1) * (l.natAbs : Int))
    (hR : R ≠ []) (hlen : (r ++ [l]).length = (shp u e b).length + R.length - 1) (hcf : ∀ k, cf (r ++ [l]) k = cv (shp u e b) R k) : (u.natAbs : Int) < b * B ∧ e < (b * B - (u.natAbs : Int)) * (b * B - (u.natAbs : Int)) := by
  have lR := List.length_pos_iff.mpr hR
  by_cases e0 : e = 0
  · subst e0
    obtain ⟨a, a0, hs, ht⟩ := shp_lin (u := u) (b := b) (by omega)
    have hS : shp u 0 b ≠ [] := fun z => by rw [z] at hs; simp at hs
    have key : (u.natAbs : Int) < b * B := by
      apply Classical.byContradiction
      intro hn
      have hK : B * b ≤ (u.natAbs : Int) := by rw [Int.mul_comm]; omega
      have c := (cauchy (l := l) (K := u) (M := b) (by omega) hB hK r hbd).1
      have z : topL (shp u 0 b) u b = 0 := by
        have := ht u b
        rw [Int.mul_comm b u, Int.sub_self] at this
        exact (Int.mul_eq_zero.mp this).resolve_left a0
      have p := top_prod hS hR hlen hcf u b
      rw [z, Int.zero_mul] at p
      unfold topL at p
      rw [p] at c
      have : 0 < (l.natAbs : Int) * b ^ r.length := Int.mul_pos (by omega) (Int.pow_pos (by omega))
      have : ((0 : Int).natAbs : Int) = 0 := rfl
      omega
    refine ⟨key, ?_⟩
    have := Int.mul_pos (show 0 < b * B - (u.natAbs : Int) by omega) (show 0 < b * B - (u.natAbs : Int) by omega)
    omega
  · obtain ⟨a, a0, hs, ht⟩ := shp_sq (u := u) (e := e) (b := b) e0 (by omega)
    have hS : shp u e b ≠ [] := fun z => by rw [z] at hs; simp at hs
    apply Classical.byContradiction
    intro hn
    generalize hv : (u.natAbs : Int) = v at hn
    have v0 : 0 ≤ v := by omega
    -- the sizes
    have hA : 0 ≤ v + e + 1 := by omega
    generalize hC : topL (R.map fun c => (c.natAbs : Int)) (v + e + 1) 1 = C
    generalize hC1 : b * b * (2 * (v + e + 1) + 1) = C1
    have bb : 0 < b * b := Int.mul_pos (by omega) (by omega)
    have C1p : 0 < C1 := by rw [← hC1]; exact Int.mul_pos bb (by omega)
    have Cn : 0 ≤ C := by
      have := top_le (K := 0) (M := 1) (A := v + e + 1) (by decide) hA (by omega) R
      rw [hC, Int.one_pow] at this
      omega
    have CC : 0 ≤ C1 * C := Int.mul_nonneg (by omega) Cn
    obtain ⟨M, hM⟩ : ∃ M : Int, M = C1 * C + 1 := ⟨_, rfl⟩
    have M0 : 0 < M := by omega
    have MM : 0 < M * M := Int.mul_pos M0 M0
    obtain ⟨k, ⟨hk1, hk2⟩, hmin⟩ := least_ (fun k => 0 ≤ b * (k : Int) - v * M ∧ e * (M * M) ≤ (b * (k : Int) - v * M) * (b * (k : Int) - v * M)) ⟨((v + e + 1) * M).toNat, by
      have h0 : 0 ≤ (v + e + 1) * M := Int.mul_nonneg hA (by omega)
      rw [Int.toNat_of_nonneg h0]
      have h1 : (v + e + 1) * M ≤ b * ((v + e + 1) * M) := by
        have := Int.mul_le_mul_of_nonneg_right hb h0
        omega
      have h2 : (e + 1) * M ≤ b * ((v + e + 1) * M) - v * M := by
        have : (v + e + 1) * M = v * M + (e + 1) * M := by grind
        omega
      have h3 : 0 ≤ (e + 1) * M := Int.mul_nonneg (by omega) (by omega)
      refine ⟨by omega, ?_⟩
      have h4 := sq_le h3 h2
      have h5 : (e + 1) * M * ((e + 1) * M) = e * (M * M) + (e * e + e + 1) * (M * M) := by grind
      have h6 : 0 ≤ (e * e + e + 1) * (M * M) := Int.mul_nonneg (by have := Int.mul_nonneg he he; omega) (by omega)
      omega⟩
    have hkA : (k : Int) ≤ (v + e + 1) * M := by
      have h0 : 0 ≤ (v + e + 1) * M := Int.mul_nonneg hA (by omega)
      apply Classical.byContradiction
      intro hh
      refine hmin ((v + e + 1) * M).toNat (by omega) ?_
      rw [Int.toNat_of_nonneg h0]
      have h1 : (v + e + 1) * M ≤ b * ((v + e + 1) * M) := by
        have := Int.mul_le_mul_of_nonneg_right hb h0
        omega
      have h2 : (e + 1) * M ≤ b * ((v + e + 1) * M) - v * M := by
        have : (v + e + 1) * M = v * M + (e + 1) * M := by grind
        omega
      have h3 : 0 ≤ (e + 1) * M := Int.mul_nonneg (by omega) (by omega)
      refine ⟨by omega, ?_⟩
      have h4 := sq_le h3 h2
      have h5 : (e + 1) * M * ((e + 1) * M) = e * (M * M) + (e * e + e + 1) * (M * M) := by grind
      have h6 : 0 ≤ (e * e + e + 1) * (M * M) := Int.mul_nonneg (by have := Int.mul_nonneg he he; omega) (by omega)
      omega
    have eM : 0 < e * (M * M) := Int.mul_pos (by omega) MM
    have hk0 : 0 < k := by
      apply Classical.byContradiction
      intro hh
      have : k = 0 := by omega
      subst this
      have hvM : 0 ≤ v * M := Int.mul_nonneg v0 (by omega)
      have z : b * ((0 : Nat) : Int) - v * M = 0 := by
        have : b * ((0 : Nat) : Int) = 0 := by simp
        omega
      rw [z] at hk2
      omega
    -- far enough
    have hKB : B * M ≤ (k : Int) := by
      apply Classical.byContradiction
      intro hh
      have h1 : b * (k : Int) - v * M < (b * B - v) * M := by
        have h3 : b * (k : Int) < b * (B * M) := Int.mul_lt_mul_of_pos_left (by omega) (by omega)
        have h4 : (b * B - v) * M = b * (B * M) - v * M := by grind
        omega
      by_cases hbv : v < b * B
      · have h5 : (b * B - v) * (b * B - v) ≤ e := by
          apply Classical.byContradiction
          intro h6
          exact hn ⟨hbv, by omega⟩
        have h6 := sq_lt hk1 h1
        have h7 : (b * B - v) * M * ((b * B - v) * M) = (b * B - v) * (b * B - v) * (M * M) := by grind
        have h8 : (b * B - v) * (b * B - v) * (M * M) ≤ e * (M * M) := Int.mul_le_mul_of_nonneg_right h5 (by omega)
        omega
      · have h9 : (b * B - v) * M ≤ 0 := Int.mul_nonpos_of_nonpos_of_nonneg (by omega) (by omega)
        omega
    -- near enough
    have hq : (b * (k : Int) - v * M) * (b * (k : Int) - v * M) - e * (M * M) ≤ C1 * M := by
      have hp := hmin (k - 1) (by omega)
      have ek : ((k - 1 : Nat) : Int) = (k : Int) - 1 := by omega
      have et : b * ((k : Int) - 1) - v * M = (b * (k : Int) - v * M) - b := by rw [Int.mul_sub]; omega
      rw [ek, et] at hp
      have htA : b * (k : Int) - v * M ≤ b * ((v + e + 1) * M) := by
        have h1 : b * (k : Int) ≤ b * ((v + e + 1) * M) := Int.mul_le_mul_of_nonneg_left hkA (by omega)
        have h2 : 0 ≤ v * M := Int.mul_nonneg v0 (by omega)
        omega
      generalize b * (k : Int) - v * M = t at *
      have hC1M : C1 * M = 2 * (b * (b * ((v + e + 1) * M))) + b * b * M := by rw [← hC1]; grind
      have hbbM : b * b ≤ b * b * M := by
        have := Int.mul_le_mul_of_nonneg_left (show 1 ≤ M by omega) (show 0 ≤ b * b by omega)
        omega
      have hnn : 0 ≤ b * (b * ((v + e + 1) * M)) := Int.mul_nonneg (by omega) (Int.mul_nonneg (by omega) (Int.mul_nonneg hA (by omega)))
      by_cases htb : t < b
      · have := sq_lt hk1 htb
        omega
      · have h1 : (t - b) * (t - b) < e * (M * M) := by
          apply Classical.byContradiction
          intro h2
          exact hp ⟨by omega, by omega⟩
        have h2 : (t - b) * (t - b) = t * t - 2 * (b * t) + b * b := by grind
        have h3 : b * t ≤ b * (b * ((v + e + 1) * M)) := Int.mul_le_mul_of_nonneg_left htA (by omega)
        omega
    -- the place
    obtain ⟨K, hK1, hK2⟩ : ∃ K : Int, (K.natAbs : Int) = k ∧ (b * K - u * M) * (b * K - u * M) = (b * (k : Int) - v * M) * (b * (k : Int) - v * M) := by
      by_cases hu : u < 0
      · refine ⟨-(k : Int), by omega, ?_⟩
        have : u = -v := by omega
        rw [this]; grind
      · refine ⟨(k : Int), by omega, ?_⟩
        have : u = v := by omega
        rw [this]
    have c := (cauchy (l := l) (K := K) (M := M) M0 hB (by omega) r hbd).1
    have p := top_prod hS hR hlen hcf K M
    have t1 := ht K M
    rw [hK2] at t1
    have t2 := top_le (K := K) (M := M) M0 hA (by omega) R
    rw [hC] at t2
    unfold topL at p
    rw [p] at c
    have hlr : r.length = R.length + 1 := by
      rw [List.length_append, List.length_singleton, hs] at hlen
      omega
    change (l.natAbs : Int) * M ^ r.length ≤ ((topL (shp u e b) K M * topL R K M).natAbs : Int) at c
    generalize topL (shp u e b) K M = x at *
    generalize topL R K M = y at *
    have hx : (x.natAbs : Int) ≤ C1 * M := by
      have h1 : ((a * x).natAbs : Int) = (a.natAbs : Int) * (x.natAbs : Int) := by rw [Int.natAbs_mul]; omega
      have h2 : (x.natAbs : Int) ≤ (a.natAbs : Int) * (x.natAbs : Int) := by
        have := Int.mul_le_mul_of_nonneg_right (show 1 ≤ (a.natAbs : Int) by omega) (show 0 ≤ (x.natAbs : Int) by omega)
        omega
      omega
    have hxy : ((x * y).natAbs : Int) * M ≤ C1 * M * (C * M ^ R.length) := by
      have h1 : ((x * y).natAbs : Int) * M = (x.natAbs : Int) * ((y.natAbs : Int) * M) := by rw [Int.natAbs_mul, Int.natCast_mul]; grind
      rw [h1]
      exact Int.mul_le_mul hx t2 (Int.mul_nonneg (by omega) (by omega)) (Int.mul_nonneg (by omega) (by omega))
    have c2 := Int.mul_le_mul_of_nonneg_right c (show 0 ≤ M by omega)
    rw [hlr] at c2
    have hp : 0 < M ^ R.length := Int.pow_pos M0
    rw [Int.pow_succ] at c2
    generalize M ^ R.length = q at *
    have f1 : (l.natAbs : Int) * (q * M) * M = (l.natAbs : Int) * M * (q * M) := by grind
    have f2 : C1 * M * (C * q) = (C1 * C) * (q * M) := by grind
    have qM : 0 < q * M := Int.mul_pos hp M0
    have f3 : (l.natAbs : Int) * M * (q * M) ≤ (C1 * C) * (q * M) := by omega
    have f4 := Int.le_of_mul_le_mul_right f3 qM
    have f5 : M ≤ (l.natAbs : Int) * M := by
      have := Int.mul_le_mul_of_nonneg_right (show 1 ≤ (l.natAbs : Int) by omega) (show 0 ≤ M by omega)
      omega
    omega
end MB

set_option linter.all false
/-! Spots: the fractions and the roots (u ± sqrt e) / b, told by squares. -/
namespace MJ
open ML MR MH MP MB
def sureV (s d : Int) : Int := if d < 0 ∨ s > d * d then 1 else 0 - (if s < d * d then 1 else 0)
/-- where a spot is, by b * t - u * m and e * m * m: 1 above, 0 there, -1 below -/
def sd (s d E : Int) : Int := if s > 0 then sureV E d else 0 - sureV E (0 - d)
def sideV (u e b s t m : Int) : Int := sd s (b * t - u * m) (e * m * m)
theorem sure_cases (E d : Int) : (sureV E d = 1 ∧ (d < 0 ∨ d * d < E)) ∨ (sureV E d = 0 ∧ 0 ≤ d ∧ E = d * d) ∨ (sureV E d = -1 ∧ 0 ≤ d ∧ E < d * d) := by
  unfold sureV
  by_cases h : d < 0 ∨ E > d * d
  · rw [if_pos h]; exact .inl ⟨rfl, h⟩
  · rw [if_neg h]
    by_cases h2 : E < d * d
    · rw [if_pos h2]; exact .inr (.inr ⟨rfl, by omega, h2⟩)
    · rw [if_neg h2]; exact .inr (.inl ⟨rfl, by omega, by omega⟩)
theorem neg_sq (d : Int) : (0 - d) * (0 - d) = d * d := by grind
theorem sd_vals (s d E : Int) : sd s d E = 1 ∨ sd s d E = 0 ∨ sd s d E = -1 := by
  unfold sd
  split
  · rcases sure_cases E d with h | h | h
    · exact .inl h.1
    · exact .inr (.inl h.1)
    · exact .inr (.inr h.1)
  · rcases sure_cases E (0 - d) with h | h | h
    · rw [h.1]; exact .inr (.inr rfl)
    · rw [h.1]; exact .inr (.inl rfl)
    · rw [h.1]; exact .inl rfl
/-- the root is above -/
theorem sd_pos {s d E : Int} (hs : s = 1 ∨ s = -1) : 0 < sd s d E ↔ ((s = 1 ∧ (d < 0 ∨ d * d < E)) ∨ (s = -1 ∧ d ≤ 0 ∧ E < d * d)) := by
  unfold sd
  rcases hs with rfl | rfl
  · rw [if_pos (by decide)]
    rcases sure_cases E d with h | h | h <;> rw [h.1] <;> constructor <;> intro x <;> omega
  · rw [if_neg (by decide)]
    have := sure_cases E (0 - d)
    rw [neg_sq] at this
    rcases this with h | h | h <;> rw [h.1] <;> constructor <;> intro x <;> omega
theorem sd_neg {s d E : Int} (hs : s = 1 ∨ s = -1) : sd s d E < 0 ↔ ((s = 1 ∧ 0 ≤ d ∧ E < d * d) ∨ (s = -1 ∧ (0 < d ∨ d * d < E))) := by
  unfold sd
  rcases hs with rfl | rfl
  · rw [if_pos (by decide)]
    rcases sure_cases E d with h | h | h <;> rw [h.1] <;> constructor <;> intro x <;> omega
  · rw [if_neg (by decide)]
    have := sure_cases E (0 - d)
    rw [neg_sq] at this
    rcases this with h | h | h <;> rw [h.1] <;> constructor <;> intro x <;> omega
theorem sq_mono {x y : Int} (hx : 0 ≤ x) (h : x ≤ y) : x * x ≤ y * y := MB.sq_le hx h
theorem sq_anti {x y : Int} (hx : x ≤ 0) (h : y ≤ x) : x * x ≤ y * y := by
  have := MB.sq_le (x := 0 - x) (y := 0 - y) (by omega) (by omega)
  rw [neg_sq, neg_sq] at this
  exact this
theorem sq_mono' {x y : Int} (hx : 0 ≤ x) (h : x < y) : x * x < y * y := MB.sq_lt hx h
theorem sq_anti' {x y : Int} (hx : x ≤ 0) (h : y < x) : x * x < y * y := by
  have := MB.sq_lt (x := 0 - x) (y := 0 - y) (by omega) (by omega)
  rw [neg_sq, neg_sq] at this
  exact this
/-- to the left of a place that is left of the spot -/
theorem sd_left {s d d' E : Int} (hs : s = 1 ∨ s = -1) (h : d ≤ d') (h' : 0 < sd s d' E) : 0 < sd s d E := by
  rw [sd_pos hs] at h' ⊢
  rcases h' with ⟨e, h1⟩ | ⟨e, h1, h2⟩
  · refine .inl ⟨e, ?_⟩
    by_cases hd : d < 0
    · exact .inl hd
    · right
      have := sq_mono (x := d) (y := d') (by omega) h
      omega
  · refine .inr ⟨e, by omega, ?_⟩
    have := sq_anti (x := d') (y := d) h1 h
    omega
/-- right of a place that is not left of the spot -/
theorem sd_right {s d d' E : Int} (hs : s = 1 ∨ s = -1) (h : d < d') (h' : sd s d E ≤ 0) : sd s d' E < 0 := by
  have hn : ¬ 0 < sd s d E := by omega
  rw [sd_pos hs] at hn
  rw [sd_neg hs]
  rcases hs with rfl | rfl
  · left
    have hd : 0 ≤ d := by omega
    have hE : E ≤ d * d := by omega
    have := sq_mono' hd h
    omega
  · right
    refine ⟨rfl, ?_⟩
    by_cases hd : 0 < d'
    · exact .inl hd
    · right
      have hE : d * d ≤ E := by omega
      have := sq_anti' (x := d') (y := d) (by omega) h
      omega
/-- told by greater numbers -/
theorem sd_scale {s d E k : Int} (hs : s = 1 ∨ s = -1) (hk : 0 < k) : sd s (k * d) (k * k * E) = sd s d E := by
  have kk : 0 < k * k := Int.mul_pos hk hk
  have e1 : k * d * (k * d) = k * k * (d * d) := by grind
  have m1 : ∀ x : Int, k * x < 0 ↔ x < 0 := fun x => by
    constructor
    · intro h
      apply Classical.byContradiction
      intro hh
      have := Int.mul_nonneg (Int.le_of_lt hk) (show 0 ≤ x by omega)
      omega
    · intro h
      exact Int.mul_neg_of_pos_of_neg hk h
  have m2 : ∀ x y : Int, k * k * x < k * k * y ↔ x < y := fun x y => ⟨fun h => Int.lt_of_mul_lt_mul_left h (Int.le_of_lt kk), fun h => Int.mul_lt_mul_of_pos_left h kk⟩
  have key : ∀ d : Int, sureV (k * k * E) (k * d) = sureV E d := fun d => by
    have e1 : k * d * (k * d) = k * k * (d * d) := by grind
    unfold sureV
    rw [e1]
    have p1 := m1 d
    have p2 := m2 (d * d) E
    have p3 := m2 E (d * d)
    by_cases h1 : d < 0 ∨ E > d * d
    · rw [if_pos h1, if_pos (h1.imp p1.mpr p2.mpr)]
    · rw [if_neg h1, if_neg (fun z => h1 (z.imp p1.mp p2.mp))]
      by_cases h2 : E < d * d
      · rw [if_pos h2, if_pos (p3.mpr h2)]
      · rw [if_neg h2, if_neg (fun z => h2 (p3.mp z))]
  unfold sd
  rw [key, show 0 - k * d = k * (0 - d) by grind, key]
theorem side_scale {u e b s t m k : Int} (hs : s = 1 ∨ s = -1) (hk : 0 < k) : sideV u e b s (k * t) (k * m) = sideV u e b s t m := by
  unfold sideV
  rw [← sd_scale (d := b * t - u * m) (E := e * m * m) hs hk]
  congr 1 <;> grind
theorem side_left {u e b s t m t' m' : Int} (hs : s = 1 ∨ s = -1) (hb : 0 < b) (hm : 0 < m) (hm' : 0 < m') (h : t * m' ≤ t' * m) (h' : 0 < sideV u e b s t' m') : 0 < sideV u e b s t m := by
  rw [← side_scale (k := m') hs hm']
  rw [← side_scale (k := m) hs hm] at h'
  unfold sideV at h' ⊢
  rw [show m * m' = m' * m from Int.mul_comm ..] at h'
  refine sd_left hs ?_ h'
  have : b * (m' * t) ≤ b * (m * t') := Int.mul_le_mul_of_nonneg_left (by rw [Int.mul_comm m', Int.mul_comm m]; exact h) (by omega)
  omega
theorem side_right {u e b s t m t' m' : Int} (hs : s = 1 ∨ s = -1) (hb : 0 < b) (hm : 0 < m) (hm' : 0 < m') (h : t * m' < t' * m) (h' : sideV u e b s t m ≤ 0) : sideV u e b s t' m' < 0 := by
  rw [← side_scale (k := m') hs hm'] at h'
  rw [← side_scale (k := m) hs hm]
  unfold sideV at h' ⊢
  rw [show m * m' = m' * m from Int.mul_comm ..]
  refine sd_right hs ?_ h'
  have : b * (m' * t) < b * (m * t') := Int.mul_lt_mul_of_pos_left (by rw [Int.mul_comm m', Int.mul_comm m]; exact h) hb
  omega
theorem side_vals (u e b s t m : Int) : sideV u e b s t m = 1 ∨ sideV u e b s t m = 0 ∨ sideV u e b s t m = -1 := sd_vals ..
/-! ## the signs of the polynomials -/
def sg (x : Int) : Int := if x < 0 then -1 else if x = 0 then 0 else 1
theorem sg_mul (x y : Int) : sg (x * y) = sg x * sg y := by
  have c : ∀ z : Int, (z < 0 ∧ sg z = -1) ∨ (z = 0 ∧ sg z = 0) ∨ (0 < z ∧ sg z = 1) := fun z => by
    unfold sg
    by_cases h : z < 0
    · rw [if_pos h]; exact .inl ⟨h, rfl⟩
    · rw [if_neg h]
      by_cases h2 : z = 0
      · rw [if_pos h2]; exact .inr (.inl ⟨h2, rfl⟩)
      · rw [if_neg h2]; exact .inr (.inr ⟨by omega, rfl⟩)
  rcases c x with ⟨hx, ex⟩ | ⟨hx, ex⟩ | ⟨hx, ex⟩ <;> rcases c y with ⟨hy, ey⟩ | ⟨hy, ey⟩ | ⟨hy, ey⟩ <;> rw [ex, ey] <;> rcases c (x * y) with ⟨h, e⟩ | ⟨h, e⟩ | ⟨h, e⟩ <;> rw [e] <;> first | rfl | (exfalso; first | (have := Int.mul_pos hx hy; omega) | (have := Int.mul_pos_of_neg_of_neg hx hy; omega) | (have := Int.mul_neg_of_neg_of_pos hx hy; omega) | (have := Int.mul_neg_of_pos_of_neg hx hy; omega) | (rw [hx, Int.zero_mul] at h; omega) | (rw [hy, Int.mul_zero] at h; omega))
theorem sg_pos {x : Int} (h : 0 < x) : sg x = 1 := by unfold sg; rw [if_neg (by omega), if_neg (by omega)]
theorem sg_neg {x : Int} (h : x < 0) : sg x = -1 := by unfold sg; rw [if_pos h]
theorem sg_zero : sg 0 = 0 := rfl
/-- the spots of a factor -/
def rts : Int → Int → Int → List (List Int) := fun u e b => (if e ≥ 0 then [[u, e, b, 1]] else []) ++ (if e > 0 then [[u, e, b, -1]] else [])
def sideR (R : List Int) (t m : Int) : Int := match R with
  | [u, e, b, s] => sideV u e b s t m
  | _ => 0
/-- the product of the opposite sides -/
def pS (RS : List (List Int)) (t m : Int) : Int := RS.foldl (fun x R => x * (0 - sideR R t m)) 1
theorem pS_fold (RS : List (List Int)) (t m x : Int) : RS.foldl (fun x R => x * (0 - sideR R t m)) x = x * pS RS t m := by
  unfold pS
  induction RS generalizing x with
  | nil => simp
  | cons R RS ih =>
    rw [List.foldl_cons, List.foldl_cons, ih, ih (1 * (0 - sideR R t m)), Int.one_mul, Int.mul_assoc]
theorem pS_append (A B : List (List Int)) (t m : Int) : pS (A ++ B) t m = pS A t m * pS B t m := by
  unfold pS
  rw [List.foldl_append, pS_fold]; rfl
theorem pS_one (R : List Int) (t m : Int) : pS [R] t m = 0 - sideR R t m := by
  show 1 * (0 - sideR R t m) = _
  omega
theorem pS_nil (t m : Int) : pS [] t m = 1 := rfl
/-- the value's sign -/
theorem val_sign {u e b t m : Int} (hb : 0 < b) (hm : 0 < m) : sg (if e = 0 then b * t - u * m else (b * t - u * m) * (b * t - u * m) - e * (m * m)) = pS (rts u e b) t m := by
  have mm : 0 < m * m := Int.mul_pos hm hm
  generalize hd : b * t - u * m = d
  have em : e * m * m = e * (m * m) := Int.mul_assoc ..
  have s1 : sideR [u, e, b, 1] t m = sd 1 d (e * (m * m)) := by show sideV _ _ _ _ _ _ = _; unfold sideV; rw [hd, em]
  have s2 : sideR [u, e, b, -1] t m = sd (-1) d (e * (m * m)) := by show sideV _ _ _ _ _ _ = _; unfold sideV; rw [hd, em]
  have hd0 : 0 ≤ d * d := by
    by_cases h : 0 ≤ d
    · exact Int.mul_nonneg h h
    · have := Int.mul_pos_of_neg_of_neg (show d < 0 by omega) (show d < 0 by omega); omega
  unfold rts
  by_cases e0 : e = 0
  · subst e0
    rw [if_pos rfl, if_pos (by decide), if_neg (by decide), List.append_nil, pS_one, s1, Int.zero_mul]
    unfold sd
    rw [if_pos (by decide)]
    rcases sure_cases 0 d with ⟨h, h2⟩ | ⟨h, h2, h3⟩ | ⟨h, h2, h3⟩
    · rw [h]
      have : d < 0 := by omega
      rw [sg_neg this]; rfl
    · rw [h]
      have : d = 0 := by
        have := Int.mul_eq_zero.mp h3.symm
        omega
      rw [this]; rfl
    · rw [h]
      have : d ≠ 0 := fun z => by rw [z] at h3; omega
      rw [sg_pos (by omega)]; rfl
  · rw [if_neg e0]
    by_cases ep : 0 < e
    · rw [if_pos (by omega), if_pos ep, pS_append, pS_one, pS_one, s1, s2]
      have Ep : 0 < e * (m * m) := Int.mul_pos ep mm
      generalize e * (m * m) = E at *
      unfold sd
      rw [if_pos (by decide), if_neg (by decide)]
      have c1 := sure_cases E d
      have c2 := sure_cases E (0 - d)
      rw [neg_sq] at c2
      by_cases h1 : d * d < E
      · rw [sg_neg (by omega)]
        rcases c1 with ⟨h, _⟩ | ⟨h, x, y⟩ | ⟨h, x, y⟩
        · rcases c2 with ⟨h', _⟩ | ⟨h', x, y⟩ | ⟨h', x, y⟩
          · rw [h, h']; rfl
          · omega
          · omega
        · omega
        · omega
      · by_cases h2 : d * d = E
        · rw [h2, Int.sub_self, sg_zero]
          by_cases hdp : 0 ≤ d
          · rcases c1 with ⟨h, x⟩ | ⟨h, x, y⟩ | ⟨h, x, y⟩
            · omega
            · rw [h]; grind
            · omega
          · rcases c2 with ⟨h, x⟩ | ⟨h, x, y⟩ | ⟨h, x, y⟩
            · omega
            · rw [h]; grind
            · omega
        · rw [sg_pos (by omega)]
          by_cases hdp : 0 ≤ d
          · have dz : d ≠ 0 := fun z => by rw [z] at h1; omega
            rcases c1 with ⟨h, x⟩ | ⟨h, x, y⟩ | ⟨h, x, y⟩
            · omega
            · omega
            · rcases c2 with ⟨h', _⟩ | ⟨h', x, y⟩ | ⟨h', x, y⟩
              · rw [h, h']; rfl
              · omega
              · omega
          · rcases c1 with ⟨h, x⟩ | ⟨h, x, y⟩ | ⟨h, x, y⟩
            · rcases c2 with ⟨h', x⟩ | ⟨h', x, y⟩ | ⟨h', x, y⟩
              · omega
              · omega
              · rw [h, h']; rfl
            · omega
            · omega
    · rw [if_neg (by omega), if_neg (by omega), List.append_nil, pS_nil]
      have : e * (m * m) < 0 := Int.mul_neg_of_neg_of_pos (by omega) mm
      rw [sg_pos (by omega)]
/-- a polynomial of the law, by its row of three -/
def shpF : List Int → List Int
  | [u, e, b] => shp u e b
  | _ => []
def rtsF : List Int → List (List Int)
  | [u, e, b] => rts u e b
  | _ => []
theorem plain_fac_pos {A : List Int} (t : Trim A) (n : A ≠ []) (hl : 0 < cf A (A.length - 1)) : ∃ a : Int, 0 < a ∧ ∀ k, cf A k = a * cf (plainL A) k := by
  obtain ⟨a, ha, e⟩ := MQ.plain_mul A
  refine ⟨a, ?_, e⟩
  have h1 := e (A.length - 1)
  have h2 := plainL_last t n
  rw [plainL_len] at h2
  have a0 := ha n t
  apply Classical.byContradiction
  intro hh
  have := Int.mul_neg_of_neg_of_pos (show a < 0 by omega) h2
  omega
theorem shp_sign {u e b t m : Int} (hb : 0 < b) (hm : 0 < m) : sg (topL (shp u e b) t m) = pS (rts u e b) t m := by
  rw [← val_sign hb hm]
  by_cases e0 : e = 0
  · rw [if_pos e0]
    obtain ⟨a, a0, ea⟩ := plain_fac_pos (A := [0 - u, b]) (.inr (by show b ≠ 0; omega)) (by simp) hb
    have h1 : a * topL (shp u e b) t m = b * t - u * m := by
      unfold shp
      rw [if_pos e0, ← top_scale (plainL_len _).symm ea]
      show (0 * t + b * 1) * t + (0 - u) * (1 * m) = _
      grind
    rw [← h1, sg_mul, sg_pos a0, Int.one_mul]
  · rw [if_neg e0]
    obtain ⟨a, a0, ea⟩ := plain_fac_pos (A := [u * u - e, -2 * b * u, b * b]) (.inr (by show b * b ≠ 0; exact Int.mul_ne_zero (by omega) (by omega))) (by simp) (Int.mul_pos hb hb)
    have h1 : a * topL (shp u e b) t m = (b * t - u * m) * (b * t - u * m) - e * (m * m) := by
      unfold shp
      rw [if_neg e0, ← top_scale (plainL_len _).symm ea]
      show ((0 * t + b * b * 1) * t + -2 * b * u * (1 * m)) * t + (u * u - e) * (1 * m * m) = _
      grind
    rw [← h1, sg_mul, sg_pos a0, Int.one_mul]
end MJ

set_option linter.all false
/-! Spots apart: two of them do not come near each other. -/
namespace MJ
open ML MR MH MP MB
/-- no square between two squares that follow each other -/
theorem irr {k e : Int} (k0 : 0 ≤ k) (h1 : k * k < e) (h2 : e < (k + 1) * (k + 1)) : ∀ (n : Nat) (x y : Int), 0 ≤ y → y.toNat ≤ n → x * x = e * (y * y) → y = 0
  | 0, x, y, y0, hn, _ => by omega
  | n + 1, x, y, y0, hn, h => by
    apply Classical.byContradiction
    intro hy
    have yp : 0 < y := by omega
    obtain ⟨X, X0, hX⟩ : ∃ X : Int, 0 ≤ X ∧ X * X = x * x := by
      by_cases hx : 0 ≤ x
      · exact ⟨x, hx, rfl⟩
      · exact ⟨0 - x, by omega, neg_sq x⟩
    rw [← hX] at h
    have yy : 0 < y * y := Int.mul_pos yp yp
    have lo : k * y < X := by
      apply Classical.byContradiction
      intro hh
      have a1 := sq_mono X0 (show X ≤ k * y by omega)
      have a2 : k * y * (k * y) = k * k * (y * y) := by grind
      have a3 := Int.mul_lt_mul_of_pos_right h1 yy
      omega
    have hi : X < (k + 1) * y := by
      apply Classical.byContradiction
      intro hh
      have kp : 0 ≤ (k + 1) * y := Int.mul_nonneg (by omega) y0
      have a1 := sq_mono kp (show (k + 1) * y ≤ X by omega)
      have a2 : (k + 1) * y * ((k + 1) * y) = (k + 1) * (k + 1) * (y * y) := by grind
      have a3 := Int.mul_lt_mul_of_pos_right h2 yy
      omega
    have e1 : (k + 1) * y = k * y + y := by grind
    have := irr k0 h1 h2 n (e * y - k * X) (X - k * y) (by omega) (by omega) (by
      have : (e * y - k * X) * (e * y - k * X) - e * ((X - k * y) * (X - k * y)) = (e * (y * y) - X * X) * (e - k * k) := by grind
      rw [h, Int.sub_self, Int.zero_mul] at this
      omega)
    omega
theorem irr' {k e x y : Int} (k0 : 0 ≤ k) (h1 : k * k < e) (h2 : e < (k + 1) * (k + 1)) (h : x * x = e * (y * y)) : y = 0 := by
  by_cases hy : 0 ≤ y
  · exact irr k0 h1 h2 y.toNat x y hy (Nat.le_refl _) h
  · have := irr k0 h1 h2 (0 - y).toNat x (0 - y) (by omega) (Nat.le_refl _) (by rw [neg_sq]; exact h)
    omega
/-- a spot of the law, and a span of halves -/
structure Spt (u e b s : Int) : Prop where
  hs : s = 1 ∨ s = -1
  b1 : 1 ≤ b
  b3 : b ≤ 3
  su : u.natAbs ≤ 11
  sq : (e = 0 ∧ s = 1) ∨ ∃ k, 0 ≤ k ∧ k * k < e ∧ e < (k + 1) * (k + 1) ∧ e ≤ 36
structure Spn2 (l h q : Int) : Prop where
  q0 : 0 < q
  lh : l < h
  sl : l.natAbs ≤ 64 * q.natAbs
  sh : h.natAbs ≤ 64 * q.natAbs
def Amid (u e b s l h q : Int) : Prop := 0 < sideV u e b s l q ∧ sideV u e b s h q ≤ 0
theorem mul_abs {x y : Int} {A B : Nat} (hx : x.natAbs ≤ A) (hy : y.natAbs ≤ B) : (x * y).natAbs ≤ A * B := by
  rw [Int.natAbs_mul]; exact Nat.mul_le_mul hx hy
theorem dist_abs {u b t q : Int} (b1 : 1 ≤ b) (b3 : b ≤ 3) (su : u.natAbs ≤ 11) (st : t.natAbs ≤ 64 * q.natAbs) : (b * t - u * q).natAbs ≤ 203 * q.natAbs := by
  have h1 := mul_abs (show b.natAbs ≤ 3 by omega) st
  have h2 := mul_abs su (Nat.le_refl q.natAbs)
  omega
/-- near the high end the value is small -/
theorem near {s dl dh E de : Int} {D : Nat} (hs : s = 1 ∨ s = -1) (E0 : 0 ≤ E) (hd : dh = dl + de) (d0 : 0 < de) (bl : dl.natAbs ≤ D) (bh : dh.natAbs ≤ D) (h1 : 0 < sd s dl E) (h2 : sd s dh E ≤ 0) : (dh * dh - E).natAbs ≤ 2 * D * de.natAbs := by
  have hn : ¬ 0 < sd s dh E := by omega
  rw [sd_pos hs] at h1 hn
  have k1 : dh * dh - dl * dl = de * (dh + dl) := by rw [hd]; grind
  have k2 : (de * (dh + dl)).natAbs ≤ de.natAbs * (D + D) := mul_abs (Nat.le_refl _) (by omega)
  have k3 : de.natAbs * (D + D) = 2 * D * de.natAbs := by rw [Nat.mul_comm]; congr 1; omega
  have sqn : ∀ x : Int, 0 ≤ x * x := fun x => by
    by_cases h : 0 ≤ x
    · exact Int.mul_nonneg h h
    · have := Int.mul_pos_of_neg_of_neg (show x < 0 by omega) (show x < 0 by omega); omega
  have sm1 : ∀ x : Int, x.natAbs ≤ D → x.natAbs ≤ de.natAbs → (x * x).natAbs ≤ D * de.natAbs := fun x a b => mul_abs a b
  have k4 : D * de.natAbs ≤ 2 * D * de.natAbs := Nat.mul_le_mul_right _ (by omega)
  have q1 := sqn dl
  have q2 := sqn dh
  rcases hs with rfl | rfl
  · by_cases hl : 0 ≤ dl
    · omega
    · have := sm1 dh bh (by omega)
      omega
  · by_cases hh : dh ≤ 0
    · omega
    · have a1 := sm1 dh bh (by omega)
      have a2 := sm1 dl bl (by omega)
      omega
theorem near_lin {dl dh de : Int} (hd : dh = dl + de) (h1 : 0 < sd 1 dl 0) (h2 : sd 1 dh 0 ≤ 0) : dl < 0 ∧ 0 ≤ dh := by
  have hn : ¬ 0 < sd 1 dh 0 := by omega
  rw [sd_pos (.inl rfl)] at h1 hn
  have sqn : ∀ x : Int, 0 ≤ x * x := fun x => by
    by_cases h : 0 ≤ x
    · exact Int.mul_nonneg h h
    · have := Int.mul_pos_of_neg_of_neg (show x < 0 by omega) (show x < 0 by omega); omega
  have := sqn dl
  omega
theorem amid_val {u e b s l h q : Int} (S : Spt u e b s) (P : Spn2 l h q) (he : 0 < e) (A : Amid u e b s l h q) : ((b * h - u * q) * (b * h - u * q) - e * q * q).natAbs ≤ 1218 * (q.natAbs * (h - l).natAbs) := by
  obtain ⟨a1, a2⟩ := A
  have b1 := S.b1
  have b3 := S.b3
  have lh := P.lh
  have q0 := P.q0
  have E0 : 0 ≤ e * q * q := Int.mul_nonneg (Int.mul_nonneg (by omega) (by omega)) (by omega)
  have dp : 0 < b * (h - l) := Int.mul_pos (by omega) (by omega)
  have hd : b * h - u * q = b * l - u * q + b * (h - l) := by grind
  have k := near (D := 203 * q.natAbs) S.hs E0 hd dp (dist_abs b1 b3 S.su P.sl) (dist_abs b1 b3 S.su P.sh) a1 a2
  refine Nat.le_trans k ?_
  have : (b * (h - l)).natAbs ≤ 3 * (h - l).natAbs := mul_abs (by omega) (Nat.le_refl _)
  calc 2 * (203 * q.natAbs) * (b * (h - l)).natAbs ≤ 2 * (203 * q.natAbs) * (3 * (h - l).natAbs) := Nat.mul_le_mul_left _ this
    _ = 1218 * (q.natAbs * (h - l).natAbs) := by grind
theorem amid_lin {u b l h q : Int} (b1 : 1 ≤ b) (b3 : b ≤ 3) (P : Spn2 l h q) (A : Amid u 0 b 1 l h q) : (b * h - u * q).natAbs ≤ 3 * (h - l).natAbs := by
  obtain ⟨a1, a2⟩ := A
  unfold sideV at a1 a2
  rw [Int.zero_mul, Int.zero_mul] at a1 a2
  have lh := P.lh
  have hd : b * h - u * q = b * l - u * q + b * (h - l) := by grind
  have k := near_lin hd a1 a2
  have : (b * (h - l)).natAbs ≤ 3 * (h - l).natAbs := mul_abs (by omega) (Nat.le_refl _)
  omega
theorem sep_ll {u b u' b' l h q : Int} (b1 : 1 ≤ b) (b3 : b ≤ 3) (b1' : 1 ≤ b') (b3' : b' ≤ 3) (P : Spn2 l h q) (A : Amid u 0 b 1 l h q) (A' : Amid u' 0 b' 1 l h q) (ne : u * b' ≠ u' * b) : q.natAbs ≤ 18 * (h - l).natAbs := by
  have k1 := amid_lin b1 b3 P A
  have k2 := amid_lin b1' b3' P A'
  have e : b' * (b * h - u * q) - b * (b' * h - u' * q) = q * (u' * b - u * b') := by grind
  have m1 := mul_abs (show b'.natAbs ≤ 3 by omega) k1
  have m2 := mul_abs (show b.natAbs ≤ 3 by omega) k2
  have m3 : q.natAbs * 1 ≤ (q * (u' * b - u * b')).natAbs := by
    rw [Int.natAbs_mul]; exact Nat.mul_le_mul_left _ (by omega)
  rw [← e] at m3
  omega
theorem cancel_q {Q W c : Nat} (hQ : 0 < Q) (h : Q * Q ≤ c * (Q * W)) : Q ≤ c * W := by
  have : Q * Q ≤ Q * (c * W) := by rw [Nat.mul_left_comm]; exact h
  exact Nat.le_of_mul_le_mul_left this hQ
theorem sep_lq {u b u' e' b' s' l h q : Int} (b1 : 1 ≤ b) (b3 : b ≤ 3) (su : u.natAbs ≤ 11) (S' : Spt u' e' b' s') (he : 0 < e') (P : Spn2 l h q) (A : Amid u 0 b 1 l h q) (A' : Amid u' e' b' s' l h q) : q.natAbs ≤ 25000 * (h - l).natAbs := by
  have k1 := amid_lin b1 b3 P A
  have k2 := amid_val S' P he A'
  have b1' := S'.b1
  have b3' := S'.b3
  have su' := S'.su
  have q0 := P.q0
  obtain ⟨kk, kk0, kk1, kk2, _⟩ : ∃ k, 0 ≤ k ∧ k * k < e' ∧ e' < (k + 1) * (k + 1) ∧ e' ≤ 36 := by
    rcases S'.sq with h | h
    · omega
    · exact h
  have kd := dist_abs b1 b3 su P.sh
  have N0 : (b' * u - b * u') * (b' * u - b * u') - b * b * e' ≠ 0 := fun z => by
    have := irr' kk0 kk1 kk2 (x := b' * u - b * u') (y := b) (by rw [Int.mul_comm e']; omega)
    omega
  generalize hdh : b * h - u * q = dh at *
  generalize hV : (b' * h - u' * q) * (b' * h - u' * q) - e' * q * q = V at *
  have e1 : b * b * V - b' * dh * (b' * dh + 2 * q * (b' * u - b * u')) = q * q * ((b' * u - b * u') * (b' * u - b * u') - b * b * e') := by
    rw [← hV, ← hdh]; grind
  generalize (b' * u - b * u') * (b' * u - b * u') - b * b * e' = N at *
  have m0 : (b' * u - b * u').natAbs ≤ 66 := by
    have x1 := mul_abs (show b'.natAbs ≤ 3 by omega) su
    have x2 := mul_abs (show b.natAbs ≤ 3 by omega) su'
    omega
  generalize b' * u - b * u' = k at *
  have m1 : (b * b * V).natAbs ≤ 9 * (1218 * (q.natAbs * (h - l).natAbs)) := mul_abs (Nat.le_trans (mul_abs (show b.natAbs ≤ 3 by omega) (show b.natAbs ≤ 3 by omega)) (by decide)) k2
  have m2 : (b' * dh).natAbs ≤ 3 * (3 * (h - l).natAbs) := mul_abs (by omega) k1
  have m3 : (b' * dh).natAbs ≤ 3 * (203 * q.natAbs) := mul_abs (by omega) kd
  have m4 : (2 * q * k).natAbs ≤ 2 * q.natAbs * 66 := mul_abs (mul_abs (Nat.le_refl _) (Nat.le_refl _)) m0
  have m5 : (b' * dh * (b' * dh + 2 * q * k)).natAbs ≤ 3 * (3 * (h - l).natAbs) * (741 * q.natAbs) := mul_abs m2 (by omega)
  have m6 : q.natAbs * q.natAbs * 1 ≤ (q * q * N).natAbs := by
    rw [Int.natAbs_mul, Int.natAbs_mul]; exact Nat.mul_le_mul_left _ (by omega)
  rw [← e1] at m6
  have m7 : 3 * (3 * (h - l).natAbs) * (741 * q.natAbs) = 6669 * (q.natAbs * (h - l).natAbs) := by grind
  rw [m7] at m5
  refine cancel_q (by omega) ?_
  omega
theorem coef_le {x y z D1 D2 h q : Int} (hx : x.natAbs ≤ 9) (d1 : D1.natAbs ≤ 1188) (sh : h.natAbs ≤ 64 * q.natAbs) (d2 : D2.natAbs ≤ 2826) (hy : y.natAbs ≤ 9) (hz : z.natAbs ≤ 66) : (x * D1 * h + (D2 * y - D1 * z) * q).natAbs ≤ 788130 * q.natAbs := by
  have x1 : (x * D1 * h).natAbs ≤ 9 * 1188 * (64 * q.natAbs) := mul_abs (mul_abs hx d1) sh
  have x2 : (D2 * y).natAbs ≤ 2826 * 9 := mul_abs d2 hy
  have x3 : (D1 * z).natAbs ≤ 1188 * 66 := mul_abs d1 hz
  generalize D2 * y = a at *
  generalize D1 * z = b at *
  have x4 : ((a - b) * q).natAbs ≤ 103842 * q.natAbs := mul_abs (by omega) (Nat.le_refl _)
  generalize (a - b) * q = c at *
  generalize x * D1 * h = d at *
  omega
theorem res_ne {p r1 r0 p' r1' r0' : Int} (disc : ∀ x y : Int, p * (x * x) + r1 * (x * y) + r0 * (y * y) = 0 → y = 0) (pp : p ≠ 0) (ne : ¬ (p * r1' = p' * r1 ∧ p * r0' = p' * r0)) :
    (p * r0' - p' * r0) * (p * r0' - p' * r0) - (p * r1' - p' * r1) * (r1 * r0' - r1' * r0) ≠ 0 := fun z => by
  by_cases h1 : p * r1' - p' * r1 = 0
  · have h2 : p * r0' - p' * r0 = 0 := by
      rw [h1, Int.zero_mul, Int.sub_zero] at z
      exact (Int.mul_eq_zero.mp z).elim id id
    exact ne ⟨by omega, by omega⟩
  · refine h1 (disc (-(p * r0' - p' * r0)) _ ?_)
    have : p * (-(p * r0' - p' * r0) * -(p * r0' - p' * r0)) + r1 * (-(p * r0' - p' * r0) * (p * r1' - p' * r1)) + r0 * ((p * r1' - p' * r1) * (p * r1' - p' * r1)) = p * ((p * r0' - p' * r0) * (p * r0' - p' * r0) - (p * r1' - p' * r1) * (r1 * r0' - r1' * r0)) := by grind
    rw [this, z, Int.mul_zero]
theorem sep_fin (Q W X Y Z : Nat) (hQ : 0 < Q) (hX : X ≤ 788130 * Q * (1218 * (Q * W))) (hY : Y ≤ 788130 * Q * (1218 * (Q * W))) (hZ : Z ≤ X + Y) (h3 : Q * Q * Q ≤ Z) : Q ≤ 4294967296 * W := by
  have z1 : 788130 * Q * (1218 * (Q * W)) = 959942340 * (Q * Q * W) := by
    have : 788130 * Q * (1218 * (Q * W)) = 788130 * 1218 * (Q * Q * W) := by grind
    exact this
  rw [z1] at hX hY
  have h4 : Q * Q * Q ≤ Q * Q * (1919884680 * W) := by
    have : Q * Q * (1919884680 * W) = 1919884680 * (Q * Q * W) := by rw [Nat.mul_left_comm]
    rw [this]
    omega
  have h5 := Nat.le_of_mul_le_mul_left h4 (Nat.mul_pos hQ hQ)
  omega
theorem sep_alg {p r1 r0 p' r1' r0' D1 D2 D3 h q : Int} (hD1 : p * r1' - p' * r1 = D1) (hD2 : p * r0' - p' * r0 = D2) (hD3 : r1 * r0' - r1' * r0 = D3) :
    (-p' * D1 * h + (D2 * p' - D1 * r1') * q) * (p * (h * h) + r1 * (h * q) + r0 * (q * q)) + (p * D1 * h + (D1 * r1 - D2 * p) * q) * (p' * (h * h) + r1' * (h * q) + r0' * (q * q)) = -((D2 * D2 - D1 * D3) * (q * q * q)) := by
  subst hD1; subst hD2; subst hD3
  grind
theorem sep_core {p r1 r0 p' r1' r0' h q : Int} {W : Nat} (hq : 0 < q) (sh : h.natAbs ≤ 64 * q.natAbs) (bp : p.natAbs ≤ 9) (bp' : p'.natAbs ≤ 9) (br : r1.natAbs ≤ 66) (br' : r1'.natAbs ≤ 66) (bz : r0.natAbs ≤ 157) (bz' : r0'.natAbs ≤ 157)
    (k1 : (p * (h * h) + r1 * (h * q) + r0 * (q * q)).natAbs ≤ 1218 * (q.natAbs * W)) (k2 : (p' * (h * h) + r1' * (h * q) + r0' * (q * q)).natAbs ≤ 1218 * (q.natAbs * W))
    (disc : ∀ x y : Int, p * (x * x) + r1 * (x * y) + r0 * (y * y) = 0 → y = 0) (pp : p ≠ 0) (ne : ¬ (p * r1' = p' * r1 ∧ p * r0' = p' * r0)) : q.natAbs ≤ 4294967296 * W := by
  have res := res_ne disc pp ne
  have d1 : (p * r1' - p' * r1).natAbs ≤ 1188 := by
    have x1 := mul_abs bp br'
    have x2 := mul_abs bp' br
    omega
  have d2 : (p * r0' - p' * r0).natAbs ≤ 2826 := by
    have x1 := mul_abs bp bz'
    have x2 := mul_abs bp' bz
    omega
  obtain ⟨D1, hD1⟩ : ∃ D, p * r1' - p' * r1 = D := ⟨_, rfl⟩
  obtain ⟨D2, hD2⟩ : ∃ D, p * r0' - p' * r0 = D := ⟨_, rfl⟩
  obtain ⟨D3, hD3⟩ : ∃ D, r1 * r0' - r1' * r0 = D := ⟨_, rfl⟩
  have key := sep_alg (h := h) (q := q) hD1 hD2 hD3
  rw [hD1, hD2, hD3] at res
  rw [hD1] at d1
  rw [hD2] at d2
  clear hD1 hD2 hD3 disc ne pp
  have c1 : (-p' * D1 * h + (D2 * p' - D1 * r1') * q).natAbs ≤ 788130 * q.natAbs := coef_le (by rw [Int.natAbs_neg]; exact bp') d1 sh d2 bp' br'
  have c2 : (p * D1 * h + (D1 * r1 - D2 * p) * q).natAbs ≤ 788130 * q.natAbs := by
    have := coef_le (x := p) (y := -p) (z := -r1) bp d1 sh d2 (by rw [Int.natAbs_neg]; exact bp) (by rw [Int.natAbs_neg]; exact br)
    rw [show D2 * -p - D1 * -r1 = D1 * r1 - D2 * p by rw [Int.mul_neg, Int.mul_neg]; omega] at this
    exact this
  have y1 := mul_abs c1 k1
  have y2 := mul_abs c2 k2
  have y3 : q.natAbs * q.natAbs * q.natAbs ≤ (-((D2 * D2 - D1 * D3) * (q * q * q))).natAbs := by
    rw [Int.natAbs_neg, Int.natAbs_mul, Int.natAbs_mul, Int.natAbs_mul]
    have : 1 * (q.natAbs * q.natAbs * q.natAbs) ≤ (D2 * D2 - D1 * D3).natAbs * (q.natAbs * q.natAbs * q.natAbs) := Nat.mul_le_mul_right _ (Int.natAbs_pos.mpr res)
    rw [Nat.one_mul] at this
    exact this
  rw [← key] at y3
  exact sep_fin q.natAbs W _ _ _ (Int.natAbs_pos.mpr (by omega)) y1 y2 (Int.natAbs_add_le _ _) y3
theorem sep_qq {u e b s u' e' b' s' l h q : Int} (S : Spt u e b s) (S' : Spt u' e' b' s') (he : 0 < e) (he' : 0 < e') (P : Spn2 l h q) (A : Amid u e b s l h q) (A' : Amid u' e' b' s' l h q) (ne : ¬ (b * b * (-2 * b' * u') = b' * b' * (-2 * b * u) ∧ b * b * (u' * u' - e') = b' * b' * (u * u - e))) : q.natAbs ≤ 4294967296 * (h - l).natAbs := by
  have k1 := amid_val S P he A
  have k2 := amid_val S' P he' A'
  have b1 := S.b1
  have b3 := S.b3
  have su := S.su
  have b1' := S'.b1
  have b3' := S'.b3
  have su' := S'.su
  obtain ⟨kk, kk0, kk1, kk2, e36⟩ : ∃ k, 0 ≤ k ∧ k * k < e ∧ e < (k + 1) * (k + 1) ∧ e ≤ 36 := by
    rcases S.sq with h | h
    · omega
    · exact h
  obtain ⟨_, _, _, _, e36'⟩ : ∃ k, 0 ≤ k ∧ k * k < e' ∧ e' < (k + 1) * (k + 1) ∧ e' ≤ 36 := by
    rcases S'.sq with h | h
    · omega
    · exact h
  have uu : (u * u).natAbs ≤ 121 := mul_abs su su
  have uu' : (u' * u').natAbs ≤ 121 := mul_abs su' su'
  have hV : (b * h - u * q) * (b * h - u * q) - e * q * q = b * b * (h * h) + -2 * b * u * (h * q) + (u * u - e) * (q * q) := by grind
  have hV' : (b' * h - u' * q) * (b' * h - u' * q) - e' * q * q = b' * b' * (h * h) + -2 * b' * u' * (h * q) + (u' * u' - e') * (q * q) := by grind
  rw [hV] at k1
  rw [hV'] at k2
  have disc : ∀ x y : Int, b * b * (x * x) + -2 * b * u * (x * y) + (u * u - e) * (y * y) = 0 → y = 0 := fun x y hz => by
    refine irr' kk0 kk1 kk2 (x := b * x - u * y) (y := y) ?_
    have : (b * x - u * y) * (b * x - u * y) - e * (y * y) = b * b * (x * x) + -2 * b * u * (x * y) + (u * u - e) * (y * y) := by grind
    omega
  exact sep_core P.q0 P.sh (mul_abs (show b.natAbs ≤ 3 by omega) (show b.natAbs ≤ 3 by omega)) (mul_abs (show b'.natAbs ≤ 3 by omega) (show b'.natAbs ≤ 3 by omega))
    (mul_abs (A := 6) (B := 11) (by omega) su) (mul_abs (A := 6) (B := 11) (by omega) su') (by omega) (by omega) k1 k2 disc (Int.mul_ne_zero (by omega) (by omega)) ne
theorem sep_same {u e b l h q : Int} (b1 : 1 ≤ b) (b3 : b ≤ 3) (he : 0 < e) (P : Spn2 l h q) (A : Amid u e b 1 l h q) (A' : Amid u e b (-1) l h q) : q.natAbs ≤ 3 * (h - l).natAbs := by
  have q0 := P.q0
  have lh := P.lh
  have a1 : ¬ 0 < sd 1 (b * h - u * q) (e * q * q) := by have := A.2; unfold sideV at this; omega
  have a2 : 0 < sd (-1) (b * l - u * q) (e * q * q) := A'.1
  rw [sd_pos (.inl rfl)] at a1
  rw [sd_pos (.inr rfl)] at a2
  have hd : b * h - u * q = b * l - u * q + b * (h - l) := by grind
  have E1 : q * q ≤ e * q * q := by
    rw [Int.mul_assoc]
    have := Int.mul_le_mul_of_nonneg_right (show 1 ≤ e by omega) (Int.le_of_lt (Int.mul_pos q0 q0))
    omega
  have g : q ≤ b * h - u * q := by
    apply Classical.byContradiction
    intro hh
    have := sq_mono' (x := b * h - u * q) (y := q) (by omega) (by omega)
    omega
  have : (b * (h - l)).natAbs ≤ 3 * (h - l).natAbs := mul_abs (by omega) (Nat.le_refl _)
  omega
end MJ

set_option linter.all false
set_option maxRecDepth 100000
/-! Values of sums, products and slopes. -/
namespace ST
open ML MR
theorem ev_zero {P : List Int} (h : ∀ k, cf P k = 0) (x : Rat) : ev P x = 0 := by
  induction P with
  | nil => rfl
  | cons c r ih =>
    have h0 : c = 0 := h 0
    show (c : Rat) + x * ev r x = 0
    rw [ih fun k => by have := h (k + 1); rw [cf_succ] at this; exact this, h0]
    show (0 : Rat) + x * 0 = 0
    grind
theorem ev_ext {P Q : List Int} (h : ∀ k, cf P k = cf Q k) (x : Rat) : ev P x = ev Q x := by
  induction P generalizing Q with
  | nil => exact (ev_zero (fun k => by rw [← h, cf_nil]) x).symm
  | cons c r ih =>
    cases Q with
    | nil => exact ev_zero (fun k => by rw [h, cf_nil]) x
    | cons d s =>
      have h0 : c = d := h 0
      show (c : Rat) + x * ev r x = (d : Rat) + x * ev s x
      rw [h0, ih (Q := s) fun k => (by have := h (k + 1); rw [cf_succ, cf_succ] at this; exact this)]
def pd : List Int → List Int → List Int
  | [], Q => Q
  | P, [] => P
  | a :: p, b :: q => (a + b) :: pd p q
theorem cf_pd : ∀ (P Q : List Int) (k : Nat), cf (pd P Q) k = cf P k + cf Q k
  | [], Q, k => by show cf Q k = _; rw [cf_nil]; omega
  | a :: p, [], k => by show cf (a :: p) k = _; rw [cf_nil]; omega
  | a :: p, b :: q, 0 => rfl
  | a :: p, b :: q, k + 1 => by show cf ((a + b) :: pd p q) (k + 1) = _; rw [cf_succ, cf_succ, cf_succ, cf_pd p q k]
theorem ev_pd : ∀ (P Q : List Int) (x : Rat), ev (pd P Q) x = ev P x + ev Q x
  | [], Q, x => by show ev Q x = 0 + _; grind
  | a :: p, [], x => by show ev (a :: p) x = _ + 0; grind
  | a :: p, b :: q, x => by
    show ((a + b : Int) : Rat) + x * ev (pd p q) x = ((a : Rat) + x * ev p x) + ((b : Rat) + x * ev q x)
    rw [ev_pd p q x, Rat.intCast_add]; grind
theorem ev_scl (c : Int) : ∀ (P : List Int) (x : Rat), ev (sclL c P) x = (c : Rat) * ev P x
  | [], x => by show (0 : Rat) = _ * 0; grind
  | a :: p, x => by
    show ((c * a : Int) : Rat) + x * ev (sclL c p) x = (c : Rat) * ((a : Rat) + x * ev p x)
    rw [ev_scl c p x, Rat.intCast_mul]; grind
def pml : List Int → List Int → List Int
  | [], _ => []
  | a :: p, Q => pd (sclL a Q) (0 :: pml p Q)
theorem cf_pml : ∀ (P Q : List Int) (k : Nat), cf (pml P Q) k = cv P Q k
  | [], Q, k => by
    rw [MD.cv_zero_left fun i => cf_nil i]; exact cf_nil k
  | a :: p, Q, k => by
    show cf (pd (sclL a Q) (0 :: pml p Q)) k = _
    rw [cf_pd, cf_sclL, cv_comm, MB.cv_cons_right]
    cases k with
    | zero => rw [cf_zero, if_pos rfl]; grind
    | succ k => rw [cf_succ, if_neg (by omega), Nat.add_sub_cancel, cf_pml p Q k, cv_comm]; grind
theorem ev_pml : ∀ (P Q : List Int) (x : Rat), ev (pml P Q) x = ev P x * ev Q x
  | [], Q, x => by show (0 : Rat) = 0 * _; grind
  | a :: p, Q, x => by
    show ev (pd (sclL a Q) (0 :: pml p Q)) x = ((a : Rat) + x * ev p x) * ev Q x
    rw [ev_pd, ev_scl]
    show _ + (((0 : Int) : Rat) + x * ev (pml p Q) x) = _
    rw [ev_pml p Q x]
    have : ((0 : Int) : Rat) = 0 := rfl
    rw [this]; grind
/-- the value of a product -/
theorem ev_cv {R P Q : List Int} (h : ∀ k, cf R k = cv P Q k) (x : Rat) : ev R x = ev P x * ev Q x := by
  rw [← ev_pml]
  exact ev_ext (fun k => by rw [h, cf_pml]) x
/-- a link of a row -/
theorem ev_link {A B C Q : List Int} {a b : Int} (h : ∀ k, a * cf A k = cv Q B k - b * cf C k) (x : Rat) : (a : Rat) * ev A x = ev Q x * ev B x - (b : Rat) * ev C x := by
  have h1 : ∀ k, cf (sclL a A) k = cf (pd (pml Q B) (sclL (-b) C)) k := fun k => by
    rw [cf_sclL, cf_pd, cf_pml, cf_sclL, h]; grind
  have := ev_ext h1 x
  rw [ev_scl, ev_pd, ev_pml, ev_scl, Rat.intCast_neg] at this
  grind
theorem ev_prop {A B : List Int} {a b : Int} (h : ∀ k, a * cf A k = b * cf B k) (x : Rat) : (a : Rat) * ev A x = (b : Rat) * ev B x := by
  have := ev_ext (P := sclL a A) (Q := sclL b B) (fun k => by rw [cf_sclL, cf_sclL, h]) x
  rw [ev_scl, ev_scl] at this
  exact this
theorem dv_ev : ∀ (P : List Int) (x : Rat), dv P x = ev (slopeL P) x
  | [], x => rfl
  | c :: r, x => by
    show ev r x + x * dv r x = _
    rw [dv_ev r x]
    have h : ∀ k, cf (slopeL (c :: r)) k = cf (pd r (0 :: slopeL r)) k := fun k => by
      rw [cf_slopeL, cf_pd, cf_succ]
      cases k with
      | zero => rw [cf_zero]; show ((0 : Int) + 1) * _ = _; grind
      | succ k => rw [cf_succ, cf_slopeL]; grind
    rw [ev_ext h, ev_pd]
    show _ = _ + (((0 : Int) : Rat) + x * ev (slopeL r) x)
    have : ((0 : Int) : Rat) = 0 := rfl
    rw [this]; grind
end ST

set_option linter.all false
set_option maxRecDepth 100000
/-! The spots of the laws (fractions, roots of degree two) as places among the fractions. -/
namespace SP
open ST MJ RB
def spQ (u e b s : Int) (x : Rat) : Int := sideV u e b s x.num (x.den : Int)
theorem side_q {u e b s t m : Int} {x : Rat} (hs : s = 1 ∨ s = -1) (hm : 0 < m) (h : x * (m : Rat) = (t : Rat)) : sideV u e b s t m = spQ u e b s x := by
  unfold spQ
  have e := q_eq h
  rw [← side_scale (k := (x.den : Int)) (t := t) (m := m) hs (q_pos x), ← side_scale (k := m) (t := x.num) hs hm, Int.mul_comm _ t, ← e, Int.mul_comm x.num, Int.mul_comm (x.den : Int) m]
theorem sq_nn (x : Rat) : 0 ≤ x * x := by
  rcases Rat.le_total (a := 0) (b := x) with h | h
  · exact Rat.mul_nonneg h h
  · have := Rat.mul_nonneg (show 0 ≤ -x by grind) (show 0 ≤ -x by grind); grind
/-- where a spot is, by fractions -/
def Ab (s : Int) (D e : Rat) : Prop := (s = 1 ∧ (D < 0 ∨ D * D < e)) ∨ (s = -1 ∧ D ≤ 0 ∧ e < D * D)
def Bl (s : Int) (D e : Rat) : Prop := (s = 1 ∧ 0 ≤ D ∧ e < D * D) ∨ (s = -1 ∧ (0 < D ∨ D * D < e))
theorem spQ_facts (u e b s : Int) (x : Rat) (hs : s = 1 ∨ s = -1) : (0 < spQ u e b s x ↔ Ab s ((b : Rat) * x - (u : Rat)) (e : Rat)) ∧ (spQ u e b s x < 0 ↔ Bl s ((b : Rat) * x - (u : Rat)) (e : Rat)) := by
  unfold spQ sideV
  rw [sd_pos hs, sd_neg hs]
  have hq := q_den x
  have hp := cast_pos (q_pos x)
  have hp2 := Rat.mul_pos hp hp
  have e1 : ((b * x.num - u * (x.den : Int) : Int) : Rat) = ((b : Rat) * x - (u : Rat)) * ((x.den : Int) : Rat) := by
    rw [Rat.intCast_sub, Rat.intCast_mul, Rat.intCast_mul, ← hq]; grind
  have e2 : ((e * (x.den : Int) * (x.den : Int) : Int) : Rat) = (e : Rat) * (((x.den : Int) : Rat) * ((x.den : Int) : Rat)) := by
    rw [Rat.intCast_mul, Rat.intCast_mul]; grind
  have e3 : (((b * x.num - u * (x.den : Int)) * (b * x.num - u * (x.den : Int)) : Int) : Rat) = (((b : Rat) * x - (u : Rat)) * ((b : Rat) * x - (u : Rat))) * (((x.den : Int) : Rat) * ((x.den : Int) : Rat)) := by
    rw [Rat.intCast_mul, e1]; grind
  generalize b * x.num - u * (x.den : Int) = d at *
  generalize e * (x.den : Int) * (x.den : Int) = E at *
  generalize (b : Rat) * x - (u : Rat) = D at *
  generalize ((x.den : Int) : Rat) = m at *
  generalize (e : Rat) = f at *
  have mono : ∀ {y z : Rat} {m : Rat}, 0 < m → (y * m < z * m ↔ y < z) := fun {y z m} hm => by
    constructor
    · intro h
      apply Classical.byContradiction
      intro hn
      have := Rat.mul_le_mul_of_nonneg_right (show z ≤ y by grind) (show 0 ≤ m by grind)
      grind
    · intro h; exact Rat.mul_lt_mul_of_pos_right h hm
  have z0 : ((0 : Int) : Rat) = 0 := rfl
  have c1 : d < 0 ↔ D < 0 := by rw [← cast_lt, e1, z0, show (0 : Rat) = 0 * m by grind, mono hp]; grind
  have c2 : 0 < d ↔ 0 < D := by rw [← cast_lt, e1, z0, show (0 : Rat) = 0 * m by grind, mono hp]; grind
  have c3 : d * d < E ↔ D * D < f := by rw [← cast_lt, e2, e3, mono hp2]
  have c4 : E < d * d ↔ f < D * D := by rw [← cast_lt, e2, e3, mono hp2]
  have c5 : d ≤ 0 ↔ D ≤ 0 := by
    rw [← Int.not_lt, c2]; grind
  have c6 : 0 ≤ d ↔ 0 ≤ D := by
    rw [← Int.not_lt, c1]; grind
  unfold Ab Bl
  rw [c1, c2, c3, c4, c5, c6]
  exact ⟨Iff.rfl, Iff.rfl⟩
theorem small_sq {D e : Rat} (hD : 0 ≤ D) (h : D * D < e) : ∃ d, 0 < d ∧ (D + d) * (D + d) < e := by
  obtain ⟨c, c0, hc⟩ := rsmall (M := 2 * D + 1) (e := e - D * D) (by grind) (by grind)
  obtain ⟨w, w0, w1, w2⟩ := rmin c 1 c0 (by decide)
  refine ⟨w, w0, ?_⟩
  have k1 := Rat.mul_le_mul_of_nonneg_left w1 (show 0 ≤ 2 * D + 1 by grind)
  have k2 := Rat.mul_le_mul_of_nonneg_left w2 (show 0 ≤ w by grind)
  grind
theorem small_sq' {D e : Rat} (hD : D < 0) (he : 0 ≤ e) (h : e < D * D) : ∃ d, 0 < d ∧ d ≤ -D ∧ e < (D + d) * (D + d) := by
  obtain ⟨c, c0, hc⟩ := rsmall (M := -2 * D) (e := D * D - e) (by grind) (by grind)
  obtain ⟨w, w0, w1, w2⟩ := rmin c (-D) c0 (by grind)
  refine ⟨w, w0, w2, ?_⟩
  have k1 := Rat.mul_le_mul_of_nonneg_left w1 (show 0 ≤ -2 * D by grind)
  have k2 := sq_nn w
  grind
/-- every spot is one -/
theorem spot {u e b s : Int} (hs : s = 1 ∨ s = -1) (hb : 0 < b) (he : 0 ≤ e) : Spot (spQ u e b s) := by
  have hbq := cast_pos hb
  have heq : (0 : Rat) ≤ (e : Rat) := Rat.intCast_le_intCast.mpr he
  have vals : ∀ x, Sg (spQ u e b s x) := fun x => by
    unfold spQ; have := side_vals u e b s x.num (x.den : Int); unfold Sg; omega
  have stepU : ∀ (x d : Rat), 0 < d → ∃ y, x < y ∧ (b : Rat) * y - (u : Rat) = (b : Rat) * x - (u : Rat) + d := fun x d hd => by
    obtain ⟨c, c0, hc⟩ := rdiv hd hbq
    exact ⟨x + c, by grind, by grind⟩
  have stepD : ∀ (x d : Rat), 0 < d → ∃ y, y < x ∧ (b : Rat) * y - (u : Rat) = (b : Rat) * x - (u : Rat) - d := fun x d hd => by
    obtain ⟨c, c0, hc⟩ := rdiv hd hbq
    exact ⟨x - c, by grind, by grind⟩
  refine ⟨vals, fun x y hxy h => ?_, fun x h => ?_, fun x h => ?_⟩
  · have f1 := (spQ_facts u e b s x hs).1
    have f2 := (spQ_facts u e b s y hs).2
    have hn : ¬ Ab s ((b : Rat) * x - (u : Rat)) (e : Rat) := fun z => by have := f1.mpr z; omega
    have hD := Rat.mul_lt_mul_of_pos_left hxy hbq
    suffices hh : Bl s ((b : Rat) * y - (u : Rat)) (e : Rat) by
      have := f2.mpr hh
      rcases vals y with v | v | v <;> omega
    have hlt : (b : Rat) * x - (u : Rat) < (b : Rat) * y - (u : Rat) := by grind
    generalize (b : Rat) * x - (u : Rat) = D at *
    generalize (b : Rat) * y - (u : Rat) = D' at *
    unfold Ab at hn
    unfold Bl
    rcases hs with rfl | rfl
    · left
      have d0 : 0 ≤ D := by
        apply Classical.byContradiction; intro z; exact hn (.inl ⟨rfl, .inl (by grind)⟩)
      have d1 : (e : Rat) ≤ D * D := by
        apply Classical.byContradiction; intro z; exact hn (.inl ⟨rfl, .inr (by grind)⟩)
      have k1 := Rat.mul_lt_mul_of_pos_left hlt (show 0 < D' by grind)
      have k2 := Rat.mul_le_mul_of_nonneg_right (show D ≤ D' by grind) d0
      exact ⟨rfl, by grind, by grind⟩
    · right
      refine ⟨rfl, ?_⟩
      by_cases hd : 0 < D'
      · exact .inl hd
      · right
        have d1 : D * D ≤ (e : Rat) := by
          apply Classical.byContradiction; intro z; exact hn (.inr ⟨rfl, by grind, by grind⟩)
        have k1 := Rat.mul_pos (show 0 < -D + D' by grind) (show 0 < -D by grind)
        have k2 := Rat.mul_nonneg (show 0 ≤ -D + D' by grind) (show 0 ≤ -D' by grind)
        grind
  · have f1 := (spQ_facts u e b s x hs).1.mp (by omega)
    have fin : ∀ {y : Rat}, Ab s ((b : Rat) * y - (u : Rat)) (e : Rat) → spQ u e b s y = 1 := fun {y} z => by
      have := (spQ_facts u e b s y hs).1.mpr z
      rcases vals y with v | v | v <;> omega
    rcases f1 with ⟨rfl, f | f⟩ | ⟨rfl, f1, f2⟩
    · obtain ⟨c, c0, c1⟩ := rdiv (show 0 < -((b : Rat) * x - (u : Rat)) by grind) (show (0 : Rat) < 2 by decide)
      obtain ⟨y, hy, ey⟩ := stepU x c c0
      exact ⟨y, hy, fin (.inl ⟨rfl, .inl (by grind)⟩)⟩
    · by_cases hd : 0 ≤ (b : Rat) * x - (u : Rat)
      · obtain ⟨d, d0, h⟩ := small_sq hd f
        obtain ⟨y, hy, ey⟩ := stepU x d d0
        exact ⟨y, hy, fin (.inl ⟨rfl, .inr (by rw [ey]; exact h)⟩)⟩
      · obtain ⟨c, c0, c1⟩ := rdiv (show 0 < -((b : Rat) * x - (u : Rat)) by grind) (show (0 : Rat) < 2 by decide)
        obtain ⟨y, hy, ey⟩ := stepU x c c0
        exact ⟨y, hy, fin (.inl ⟨rfl, .inl (by grind)⟩)⟩
    · have dn : (b : Rat) * x - (u : Rat) < 0 := by
        apply Classical.byContradiction
        intro z
        have : (b : Rat) * x - (u : Rat) = 0 := by grind
        rw [this] at f2; grind
      obtain ⟨d, d0, d1, h⟩ := small_sq' dn heq f2
      obtain ⟨y, hy, ey⟩ := stepU x d d0
      exact ⟨y, hy, fin (.inr ⟨rfl, by grind, by rw [ey]; exact h⟩)⟩
  · have f1 := (spQ_facts u e b s x hs).2.mp (by omega)
    have fin : ∀ {y : Rat}, Bl s ((b : Rat) * y - (u : Rat)) (e : Rat) → spQ u e b s y = -1 := fun {y} z => by
      have := (spQ_facts u e b s y hs).2.mpr z
      rcases vals y with v | v | v <;> omega
    rcases f1 with ⟨rfl, f1, f2⟩ | ⟨rfl, f | f⟩
    · have dn : 0 < (b : Rat) * x - (u : Rat) := by
        apply Classical.byContradiction
        intro z
        have : (b : Rat) * x - (u : Rat) = 0 := by grind
        rw [this] at f2; grind
      obtain ⟨d, d0, d1, h⟩ := small_sq' (D := -((b : Rat) * x - (u : Rat))) (by grind) heq (by grind)
      obtain ⟨y, hy, ey⟩ := stepD x d d0
      exact ⟨y, hy, fin (.inl ⟨rfl, by grind, by rw [ey]; grind⟩)⟩
    · obtain ⟨c, c0, c1⟩ := rdiv f (show (0 : Rat) < 2 by decide)
      obtain ⟨y, hy, ey⟩ := stepD x c c0
      exact ⟨y, hy, fin (.inr ⟨rfl, .inl (by grind)⟩)⟩
    · by_cases hd : 0 < (b : Rat) * x - (u : Rat)
      · obtain ⟨c, c0, c1⟩ := rdiv hd (show (0 : Rat) < 2 by decide)
        obtain ⟨y, hy, ey⟩ := stepD x c c0
        exact ⟨y, hy, fin (.inr ⟨rfl, .inl (by grind)⟩)⟩
      · obtain ⟨d, d0, h⟩ := small_sq (D := -((b : Rat) * x - (u : Rat))) (e := (e : Rat)) (by grind) (by grind)
        obtain ⟨y, hy, ey⟩ := stepD x d d0
        exact ⟨y, hy, fin (.inr ⟨rfl, .inr (by rw [ey]; grind)⟩)⟩
end SP

set_option linter.all false
set_option maxRecDepth 100000
/-! Lists of lists of ints. -/
namespace RB
open PySem PySem.Spec PyProof.Rows L2
open Evl (Ex rLenS rListS rMax2 tCut pss_cut)
def Rws (H : Hp) : List Addr → List (List Int) → Prop
  | [], [] => True
  | p :: ps, R :: Rs => H p = some (.lst (R.map V.int)) ∧ Rws H ps Rs
  | _, _ => False
theorem Rws.len {H : Hp} : ∀ {ps : List Addr} {Rs : List (List Int)}, Rws H ps Rs → ps.length = Rs.length
  | [], [], _ => rfl
  | p :: ps, R :: Rs, h => by rw [List.length_cons, List.length_cons, Rws.len h.2]
theorem Rws.ex {H H' : Hp} (e : Ex H H') : ∀ {ps : List Addr} {Rs : List (List Int)}, Rws H ps Rs → Rws H' ps Rs
  | [], [], _ => trivial
  | p :: ps, R :: Rs, h => ⟨e _ _ h.1, Rws.ex e h.2⟩
theorem Rws.exb {l : Addr} {H H' : Hp} (e : Exb l H H') : ∀ {ps : List Addr} {Rs : List (List Int)}, l ∉ ps → Rws H ps Rs → Rws H' ps Rs
  | [], [], _, _ => trivial
  | p :: ps, R :: Rs, hn, h => ⟨e _ (fun x => hn (by rw [x]; exact List.mem_cons_self ..)) _ h.1, Rws.exb e (fun x => hn (List.mem_cons_of_mem _ x)) h.2⟩
theorem Rws.append {H : Hp} : ∀ {ps qs : List Addr} {Rs Ss : List (List Int)}, Rws H ps Rs → Rws H qs Ss → Rws H (ps ++ qs) (Rs ++ Ss)
  | [], _, [], _, _, h => h
  | p :: ps, _, R :: Rs, _, h, h' => ⟨h.1, Rws.append h.2 h'⟩
theorem Rws.get {H : Hp} : ∀ {ps : List Addr} {Rs : List (List Int)} {i : Nat} {p : Addr}, Rws H ps Rs → ps[i]? = some p → ∃ R, Rs[i]? = some R ∧ H p = some (.lst (R.map V.int))
  | p :: ps, R :: Rs, 0, q, h, e => by
    simp only [List.getElem?_cons_zero, Option.some.injEq] at e
    exact ⟨R, rfl, by rw [← e]; exact h.1⟩
  | p :: ps, R :: Rs, i + 1, q, h, e => by
    simp only [List.getElem?_cons_succ] at e
    obtain ⟨S, h1, h2⟩ := Rws.get (i := i) h.2 e
    exact ⟨S, by simpa using h1, h2⟩
theorem dp_rows {K : PySem.W.Frag} {H : Hp} : ∀ {ps : List Addr} {Rs : List (List Int)}, Rws H ps Rs → DpAll K H (ps.map V.ref) (Rs.map dI)
  | [], [], _ => .nil
  | p :: ps, R :: Rs, h => .cons (dp_listI (SqL.inj h.1)) (dp_rows h.2)
theorem canLay_rows : ∀ Rs : List (List Int), PyData.canLayAll0 (Rs.map dI) = true
  | [] => by simp [PyData.canLayAll0]
  | n :: r => by
    rw [List.map_cons, PyData.canLayAll0, canLay_rows r]
    show (PyData.canLay0 (dI n) && true) = true
    unfold dI
    rw [PyData.canLay0, canLay_ints]; rfl
theorem depth_dI (n : List Int) : PyData.depth (dI n) ≤ 2 := by
  have := depth_ints n
  unfold dI
  rw [PyData.depth]
  omega
theorem depth_rows : ∀ Rs : List (List Int), PyData.depthAll (Rs.map dI) ≤ 2
  | [] => by simp [PyData.depthAll]
  | n :: r => by
    have h1 := depth_rows r
    have h2 := depth_dI n
    rw [List.map_cons, PyData.depthAll]
    omega
def dR (Rs : List (List Int)) : PyData := .list (Rs.map dI)
theorem shaped_dR (Rs : List (List Int)) : SeqAt.shaped (dR Rs) = true := by
  have h1 := canLay_rows Rs
  have h2 := depth_rows Rs
  unfold SeqAt.shaped dR
  rw [Bool.and_eq_true, PyData.canLay0, PyData.depth]
  exact ⟨h1, decide_eq_true (by omega)⟩
theorem eqvAll_rows : ∀ Rs Ss : List (List Int), PyData.eqvAll (Rs.map dI) (Ss.map dI) = decide (Rs = Ss)
  | [], [] => by simp [PyData.eqvAll]
  | [], m :: r => by simp [PyData.eqvAll]
  | n :: r, [] => by simp [PyData.eqvAll]
  | n :: r, m :: s => by
    rw [List.map_cons, List.map_cons, PyData.eqvAll, eqvAll_rows r s, eqv_dI]
    simp
theorem eqv_dR (Rs Ss : List (List Int)) : PyData.eqv (dR Rs) (dR Ss) = decide (Rs = Ss) := by
  unfold dR
  rw [PyData.eqv, eqvAll_rows]
def RowsK (K : PySem.W.Frag) (H : Hp) (a : Addr) (Rs : List (List Int)) : Prop := ∃ ps, SqL K H a (ps.map V.ref) ∧ Rws H ps Rs
theorem dp_listR {K : PySem.W.Frag} {H : Hp} {a : Addr} {ps : List Addr} {Rs : List (List Int)} (h : SqL K H a (ps.map V.ref)) (h' : Rws H ps Rs) : Dp K H (.ref a) (dR Rs) := .lst h (dp_rows h')
theorem r_eqRows {K : PySem.W.Frag} {H : Hp} {Q : VK} {a b : Addr} {ps qs : List Addr} {Rs Ss : List (List Int)} (h1 : SqL K H a (ps.map V.ref)) (h1' : Rws H ps Rs) (h2 : SqL K H b (qs.map V.ref)) (h2' : Rws H qs Ss) (q : Q (.bl (decide (Rs = Ss))) H) : rEqD K (.ref a) (.ref b) H Q :=
  ⟨_, _, dp_listR h1 h1', dp_listR h2 h2', shaped_dR Rs, shaped_dR Ss, by rw [eqv_dR]; exact q⟩
/-- what a row tells: new lists -/
def RetRow (Rs : List (List Int)) (H : Hp) (Q : VK) : Prop := ∀ (a : Addr) (ps : List Addr) (H' : Hp), H a = none → (∀ p ∈ ps, H p = none) → a ∉ ps → Ex H H' → H' a = some (.lst (ps.map V.ref)) → Rws H' ps Rs → Q (.ref a) H'
/-- the last two items -/
theorem r_ix2 {K : PySem.W.Frag} {H : Hp} {Q : VK} {p : Addr} {xs : List V} {x y : V} (h : SqL K H p (xs ++ [x, y])) (q : Q x H) : rIxL K (.ref p) (.int (-2)) H Q :=
  r_ixL h (by
    unfold atI
    have e : ixN (xs ++ [x, y]).length (-2) = some xs.length := by
      unfold ixN
      rw [if_neg (by decide), if_pos (by simp; omega)]
      simp
      omega
    rw [e]; simp) q
theorem r_ix1 {K : PySem.W.Frag} {H : Hp} {Q : VK} {p : Addr} {xs : List V} {x y : V} (h : SqL K H p (xs ++ [x, y])) (q : Q y H) : rIxL K (.ref p) (.int (-1)) H Q :=
  r_ixL h (by
    have : xs ++ [x, y] = (xs ++ [x]) ++ [y] := by simp
    rw [this]; exact atI_last _ _) q
end RB
namespace RB
open PySem PySem.Spec PyProof.Rows L2
open Evl (Ex)
theorem Rws.take {H : Hp} : ∀ (n : Nat) {ps : List Addr} {Rs : List (List Int)}, Rws H ps Rs → Rws H (ps.take n) (Rs.take n)
  | 0, _, _, _ => by rw [List.take_zero, List.take_zero]; trivial
  | n + 1, [], [], _ => trivial
  | n + 1, p :: ps, R :: Rs, h => ⟨h.1, Rws.take n h.2⟩
theorem Rws.flat {H : Hp} {ps : List Addr} {Rs : List (List Int)} (h : Rws H ps Rs) : ∀ n : Nat, Rws H (List.replicate n ps).flatten (List.replicate n Rs).flatten
  | 0 => trivial
  | n + 1 => by
    rw [List.replicate_succ, List.replicate_succ, List.flatten_cons, List.flatten_cons]
    exact Rws.append h (Rws.flat h n)
theorem flat_map {α β : Type} (f : α → β) (xs : List α) : ∀ n : Nat, (List.replicate n (xs.map f)).flatten = ((List.replicate n xs).flatten).map f
  | 0 => rfl
  | n + 1 => by rw [List.replicate_succ, List.replicate_succ, List.flatten_cons, List.flatten_cons, flat_map f xs n, List.map_append]
theorem flat_len {α : Type} (xs : List α) : ∀ n : Nat, ((List.replicate n xs).flatten).length = n * xs.length
  | 0 => by simp
  | n + 1 => by rw [List.replicate_succ, List.flatten_cons, List.length_append, flat_len xs n, Nat.add_mul]; omega
theorem flat_mem {α : Type} {xs : List α} {x : α} : ∀ {n : Nat}, x ∈ (List.replicate n xs).flatten → x ∈ xs
  | 0, h => by cases h
  | n + 1, h => by
    rw [List.replicate_succ, List.flatten_cons, List.mem_append] at h
    exact h.elim id flat_mem
/-- a list of lists times a number -/
theorem r_repR {H : Hp} {Q : VK} {l : Addr} {ps : List Addr} {k : Int} (h1 : H l = some (.lst (ps.map V.ref))) (hk : k < 2 ^ 63) (z : ps.length * k.toNat ≤ 16777216) (q : ∀ p H', H p = none → Ex H H' → H' p = some (.lst (((List.replicate k.toNat ps).flatten).map V.ref)) → Q (.ref p) H') (h0 : -(2 ^ 63) ≤ k := by omega) : rRep (.ref l) (.int k) H Q :=
  ⟨l, k, ps.map V.ref, rfl, rfl, h1, h0, hk, by rw [List.length_map]; exact small_le z, newL fun p H' hp e h => q p H' hp e (by rw [← flat_map]; exact h)⟩
theorem cutV_to {xs : List V} {n : Int} (h0 : 0 ≤ n) : cutV xs none (some n) = xs.take n.toNat := by
  obtain ⟨k, rfl⟩ : ∃ k : Nat, n = (k : Int) := ⟨n.toNat, by omega⟩
  unfold cutV
  rw [HT.sIx_none, HT.sIx_nat, List.drop_zero, Int.toNat_natCast, Nat.sub_zero]
  by_cases h : k ≤ xs.length
  · rw [Nat.min_eq_left h]
  · rw [Nat.min_eq_right (by omega), List.take_length, List.take_of_length_le (by omega)]
/-- over a list of lists, each giving a new list -/
theorem lc_rowsN {K : PySem.W.Frag} {σ : L2.St} {H : Hp} {te : TE} {Q : VK} {a : Addr} {ps : List Addr} {Rs : List (List Int)} {j : Nat} (f : List Int → List Int) (hx : SqL K H a (ps.map V.ref)) (hW : Rws H ps Rs) (hz : ps.length < 1000000)
    (he : ∀ p R H1, R ∈ Rs → H1 p = some (.lst (R.map V.int)) → Ex H H1 → ∀ Q' : VK, (∀ q H2, H1 q = none → Ex H1 H2 → H2 q = some (.lst ((f R).map V.int)) → Q' (.ref q) H2) → te (σ.set j (some (.ref p))) H1 Q')
    (q : ∀ D H' qs, H D = none → Ex H H' → H' D = some (.lst (qs.map V.ref)) → Rws H' qs (Rs.map f) → D ∉ qs → Q (.ref D) H') : Lc (Itl K a) (gName j) tYes te [j] σ H Q := fun D hD =>
  lc_list (xs := ps.map V.ref) (fun i H' => Ex H H' ∧ ∃ qs : List Addr, H' D = some (.lst (qs.map V.ref)) ∧ Rws H' qs ((Rs.take i).map f) ∧ D ∉ qs ∧ qs.length ≤ i) ⟨Evl.Ex.new hD, [], upd_same, trivial, (fun h => by cases h), Nat.le_refl _⟩ (fun i H' _ p => p.1.l hx)
    (fun i x H' hi p => ⟨by show ((σ.set j none).set j (some x)).set j none = σ.set j none; rw [set_set, set_set], by
      show te ((σ.set j none).set j (some x)) H' _
      rw [set_set]
      rw [List.getElem?_map] at hi
      obtain ⟨p', hp', rfl⟩ := Option.map_eq_some_iff.mp hi
      obtain ⟨e, qs, hq, hR, hn, hl⟩ := p
      obtain ⟨R, hRm, hpR⟩ := hW.get hp'
      have hlt : i < ps.length := (List.getElem?_eq_some_iff.mp hp').1
      refine he p' R H' (List.mem_of_getElem? hRm) (e _ _ hpR) e _ fun r H2 hr e2 hr2 => ⟨_, e2 D _ hq, ?_, Evl.Ex.mut (e.trans e2) hD, qs ++ [r], ?_, ?_, ?_, ?_⟩
      · rw [List.length_map]; exact small_lt (by omega)
      · rw [upd_same, List.map_append]; rfl
      · rw [List.take_add_one, hRm, List.map_append]
        have nD : r ≠ D := fun z => by rw [z, hq] at hr; cases hr
        refine Rws.append ?_ ⟨by rw [upd_ne nD]; exact hr2, trivial⟩
        exact (hR.ex e2).exb (l := D) (fun c n o h => by rw [upd_ne n]; exact h) hn
      · intro h
        rcases List.mem_append.mp h with h | h
        · exact hn h
        · rw [List.mem_singleton] at h
          rw [← h, hq] at hr
          cases hr
      · rw [List.length_append]; simp; omega⟩)
    (fun H' p => by
      obtain ⟨e, qs, hq, hR, hn, hl⟩ := p
      rw [List.length_map, hW.len, List.take_length] at hR
      exact q D H' qs hD e hq hR hn)
theorem lc_rows {K : PySem.W.Frag} {σ : L2.St} {H : Hp} {te : TE} {Q : VK} {a : Addr} {ps : List Addr} {Rs : List (List Int)} {j : Nat} (f : List Int → List Int) (hx : SqL K H a (ps.map V.ref)) (hW : Rws H ps Rs) (hz : ps.length < 1000000)
    (he : ∀ p R H1, R ∈ Rs → H1 p = some (.lst (R.map V.int)) → Ex H H1 → ∀ Q' : VK, (∀ q H2, H1 q = none → Ex H1 H2 → H2 q = some (.lst ((f R).map V.int)) → Q' (.ref q) H2) → te (σ.set j (some (.ref p))) H1 Q')
    (q : ∀ D H' qs, H D = none → Ex H H' → H' D = some (.lst (qs.map V.ref)) → Rws H' qs (Rs.map f) → Q (.ref D) H') : Lc (Itl K a) (gName j) tYes te [j] σ H Q := lc_rowsN f hx hW hz he fun D H' qs h1 h2 h3 h4 _ => q D H' qs h1 h2 h3 h4
theorem Rws.set {H : Hp} {p : Addr} {R : List Int} (hp : H p = some (.lst (R.map V.int))) : ∀ {ps : List Addr} {Rs : List (List Int)} (i : Nat), Rws H ps Rs → Rws H (ps.set i p) (Rs.set i R)
  | [], [], _, _ => trivial
  | _ :: _, _ :: _, 0, h => ⟨hp, h.2⟩
  | _ :: ps, _ :: Rs, i + 1, h => ⟨h.1, Rws.set hp i h.2⟩
end RB
namespace RB
open PySem PySem.Spec PyProof.Rows L2
theorem Rws.notin {H : Hp} {p : Addr} (hp : H p = none) : ∀ {ps : List Addr} {Rs : List (List Int)}, Rws H ps Rs → p ∉ ps
  | [], [], _ => fun h => by cases h
  | r :: ps, R :: Rs, h => fun hm => by
    rcases List.mem_cons.mp hm with e | e
    · have := h.1
      rw [← e, hp] at this
      cases this
    · exact Rws.notin hp h.2 e
end RB
namespace RB
open PySem PySem.Spec PyProof.Rows L2
theorem r_neRows {K : PySem.W.Frag} {H : Hp} {Q : VK} {a b : Addr} {ps qs : List Addr} {Rs Ss : List (List Int)} (h1 : SqL K H a (ps.map V.ref)) (h1' : Rws H ps Rs) (h2 : SqL K H b (qs.map V.ref)) (h2' : Rws H qs Ss) (q : Q (.bl (!decide (Rs = Ss))) H) : rNeD K (.ref a) (.ref b) H Q :=
  ⟨_, _, dp_listR h1 h1', dp_listR h2 h2', shaped_dR Rs, shaped_dR Ss, by rw [eqv_dR]; exact q⟩
end RB
namespace RB
open PySem PySem.Spec PyProof.Rows L2
/-- two pairs of lists of ints, alike -/
theorem r_neT2 {K : PySem.W.Frag} {H : Hp} {Q : VK} {p q a b c d : Addr} {ns ms : List Int} (h1 : SqT K H p [.ref a, .ref b]) (ha : SqL K H a (ns.map V.int)) (hb : SqL K H b (ms.map V.int)) (h2 : SqT K H q [.ref c, .ref d]) (hc : SqL K H c (ns.map V.int)) (hd : SqL K H d (ms.map V.int)) (k : Q (.bl false) H) : rNeD K (.ref p) (.ref q) H Q := by
  have sh : SeqAt.shaped (PyData.tuple [dI ns, dI ms]) = true := by
    have h1 := depth_dI ns
    have h2 := depth_dI ms
    have l1 : PyData.canLay0 (dI ns) = true := by unfold dI; rw [PyData.canLay0, canLay_ints]
    have l2 : PyData.canLay0 (dI ms) = true := by unfold dI; rw [PyData.canLay0, canLay_ints]
    unfold SeqAt.shaped
    rw [Bool.and_eq_true]
    refine ⟨?_, ?_⟩
    · simp [PyData.canLay0, PyData.canLayAll0, l1, l2]
    · refine decide_eq_true ?_
      simp only [PyData.depth, PyData.depthAll]
      omega
  refine ⟨_, _, .tup h1 (.cons (dp_listI ha) (.cons (dp_listI hb) .nil)), .tup h2 (.cons (dp_listI hc) (.cons (dp_listI hd) .nil)), sh, sh, ?_⟩
  have e : PyData.eqv (.tuple [dI ns, dI ms]) (.tuple [dI ns, dI ms]) = true := by
    simp [PyData.eqv, PyData.eqvAll, eqv_dI]
  show Q (.bl (!PyData.eqv (.tuple [dI ns, dI ms]) (.tuple [dI ns, dI ms]))) H
  rw [e]; exact k
end RB

set_option linter.all false
set_option maxRecDepth 100000
/-! Lists of tuples of ints. -/
namespace RB
open PySem PySem.Spec PyProof.Rows L2
open Evl (Ex)
theorem units1 {k : Nat} {A : Around} (r : Room k A) : A.units + 65 < cLine := by have := r.un; omega
def Tws (H : Hp) : List Addr → List (List Int) → Prop
  | [], [] => True
  | p :: ps, R :: Rs => H p = some (.tup (R.map V.int)) ∧ Tws H ps Rs
  | _, _ => False
theorem Tws.len {H : Hp} : ∀ {ps : List Addr} {Rs : List (List Int)}, Tws H ps Rs → ps.length = Rs.length
  | [], [], _ => rfl
  | p :: ps, R :: Rs, h => by rw [List.length_cons, List.length_cons, Tws.len h.2]
theorem Tws.ex {H H' : Hp} (e : Ex H H') : ∀ {ps : List Addr} {Rs : List (List Int)}, Tws H ps Rs → Tws H' ps Rs
  | [], [], _ => trivial
  | p :: ps, R :: Rs, h => ⟨e _ _ h.1, Tws.ex e h.2⟩
theorem Tws.exb {l : Addr} {H H' : Hp} (e : Exb l H H') : ∀ {ps : List Addr} {Rs : List (List Int)}, l ∉ ps → Tws H ps Rs → Tws H' ps Rs
  | [], [], _, _ => trivial
  | p :: ps, R :: Rs, hn, h => ⟨e _ (fun x => hn (by rw [x]; exact List.mem_cons_self ..)) _ h.1, Tws.exb e (fun x => hn (List.mem_cons_of_mem _ x)) h.2⟩
theorem Tws.append {H : Hp} : ∀ {ps qs : List Addr} {Rs Ss : List (List Int)}, Tws H ps Rs → Tws H qs Ss → Tws H (ps ++ qs) (Rs ++ Ss)
  | [], _, [], _, _, h => h
  | p :: ps, _, R :: Rs, _, h, h' => ⟨h.1, Tws.append h.2 h'⟩
theorem Tws.get {H : Hp} : ∀ {ps : List Addr} {Rs : List (List Int)} {i : Nat} {p : Addr}, Tws H ps Rs → ps[i]? = some p → ∃ R, Rs[i]? = some R ∧ H p = some (.tup (R.map V.int))
  | p :: ps, R :: Rs, 0, q, h, e => by
    simp only [List.getElem?_cons_zero, Option.some.injEq] at e
    exact ⟨R, rfl, by rw [← e]; exact h.1⟩
  | p :: ps, R :: Rs, i + 1, q, h, e => by
    simp only [List.getElem?_cons_succ] at e
    obtain ⟨S, h1, h2⟩ := Tws.get (i := i) h.2 e
    exact ⟨S, by simpa using h1, h2⟩
/-- x not in a list of lists: whichever -/
theorem r_notInR {K : PySem.W.Frag} {H : Hp} {Q : VK} {a b : Addr} {ns : List Int} {qs : List Addr} {Ss : List (List Int)} (h1 : SqL K H a (ns.map V.int)) (h2 : SqL K H b (qs.map V.ref)) (h2' : Rws H qs Ss) (q : ∀ c, Q (.bl c) H) : rNotInD K (.ref a) (.ref b) H Q :=
  ⟨_, _, dp_listI h1, dp_listR h2 h2', shaped_dI ns, shaped_dR Ss, q _⟩
/-- an item of a tuple of ints -/
theorem r_ixT' {K : PySem.W.Frag} {H : Hp} {Q : VK} {p : Addr} {i : Nat} {ns : List Int} {x : Int} (h : H p = some (.tup (ns.map V.int))) (hi : ns[i]? = some x) (q : Q (.int x) H) : rIxT K (.ref p) (.int (i : Int)) H Q :=
  r_ixT (.inl (.inl h)) (atI_nat (j := i) (by rw [List.getElem?_map, hi]; rfl)) q
end RB

set_option linter.all false
set_option maxRecDepth 100000
/-! The factors that the laws draw. -/
namespace RB
open PySem PySem.Spec PyProof.Rows L2
/-- a factor as it is drawn, u of at most m -/
structure Fac (m u e b : Int) : Prop where
  su : (u.natAbs : Int) ≤ m
  m9 : m ≤ 1000000000
  se : e.natAbs ≤ 36
  sq : e = 0 ∨ ∃ k : Int, 0 ≤ k ∧ k * k < e.natAbs ∧ (e.natAbs : Int) < (k + 1) * (k + 1)
  b1 : 1 ≤ b
  b3 : b ≤ 3
/-- the factor in a row of three -/
def isF (m : Int) (F : List Int) : Prop := ∃ u e b, F = [u, e, b] ∧ Fac m u e b
/-- the degree that a factor brings -/
def dgF : List Int → Nat
  | [u, e, b] => (MB.shp u e b).length - 1
  | _ => 0
def dgs (FS : List (List Int)) : Nat := (FS.map dgF).sum
def shpF : List Int → List Int
  | [u, e, b] => MB.shp u e b
  | _ => []
/-- the product of the factors' polynomials -/
def prodS (M : List Int) (FS : List (List Int)) : List Int := FS.foldl (fun M F => ML.mulU M (shpF F)) M
theorem Fac.su' {m u e b : Int} (f : Fac m u e b) : u.natAbs ≤ 1000000000 := by have := f.su; have := f.m9; omega
theorem shp_len {m u e b : Int} (f : Fac m u e b) : (MB.shp u e b).length = 2 ∨ (MB.shp u e b).length = 3 := by
  have b1 := f.b1
  by_cases e0 : e = 0
  · subst e0
    obtain ⟨a, _, h, _⟩ := MB.shp_lin (u := u) (b := b) (by omega)
    exact .inl h
  · obtain ⟨a, _, h, _⟩ := MB.shp_sq (u := u) (e := e) (b := b) e0 (by omega)
    exact .inr h
theorem mulU_length {P Q : List Int} (hP : P ≠ []) (hQ : Q ≠ []) : (ML.mulU P Q).length = P.length + Q.length - 1 := by
  unfold ML.mulU
  rw [if_neg fun z => z.elim hP hQ, List.length_map, List.length_range]
theorem shp_ne {m u e b : Int} (f : Fac m u e b) : MB.shp u e b ≠ [] := fun z => by
  have := shp_len f
  rw [z] at this
  simp at this
theorem lin_sz {u b : Int} (hu : u.natAbs ≤ 1000000000) (b1 : 1 ≤ b) (b3 : b ≤ 3) : ML.Sz 62 [0 - u, b] := fun x hx => by
  simp only [List.mem_cons, List.not_mem_nil, or_false] at hx
  rcases hx with rfl | rfl <;> omega
theorem sq_sz {u e b : Int} (hu : u.natAbs ≤ 1000000000) (he : e.natAbs ≤ 36) (b1 : 1 ≤ b) (b3 : b ≤ 3) : ML.Sz 62 [u * u - e, -2 * b * u, b * b] := fun x hx => by
  have h1 : (u * u).natAbs < 2 ^ (30 + 30) := wide_lt (show u.natAbs < 2 ^ 30 by omega) (show u.natAbs < 2 ^ 30 by omega)
  have h2 : (-2 * b * u).natAbs < 2 ^ (4 + 30) := wide_lt (show (-2 * b).natAbs < 2 ^ 4 by omega) (show u.natAbs < 2 ^ 30 by omega)
  have h3 : (b * b).natAbs < 2 ^ (2 + 2) := wide_lt (show b.natAbs < 2 ^ 2 by omega) (show b.natAbs < 2 ^ 2 by omega)
  simp only [List.mem_cons, List.not_mem_nil, or_false] at hx
  rcases hx with rfl | rfl | rfl <;> omega
theorem plain_log {P : List Int} (hT : ML.Trim P) (hs : ML.Sz 62 P) : P ≠ [] → MG.gcdL P ≠ 0 ∧ (MG.gcdL P).natAbs.log2 < 9000 := fun h0 => by
  have h1 := MP.gcdL_trim_pos hT h0
  have h2 := MP.gcdL_log (by decide) hs hT h0
  exact ⟨by omega, Nat.lt_of_lt_of_le (PySem.Flt.log2_lt_of (by decide) h2) (by decide)⟩
theorem shp_sz {m u e b : Int} (f : Fac m u e b) : ML.Sz 62 (MB.shp u e b) := by
  unfold MB.shp
  split
  · exact MP.Sz.plainL (lin_sz f.su' f.b1 f.b3)
  · exact MP.Sz.plainL (sq_sz f.su' f.se f.b1 f.b3)
/-- the product so far -/
structure Prd (M : List Int) (d n : Nat) : Prop where
  ln : M.length = d + 1
  sz : ML.Sz (n + 80 * d) M
theorem Prd.step {M : List Int} {d n : Nat} (h : Prd M d n) {m u e b : Int} (f : Fac m u e b) (hd : d ≤ 15) : Prd (ML.mulU M (MB.shp u e b)) (d + ((MB.shp u e b).length - 1)) n := by
  have ln := h.ln
  have ls := shp_len f
  have nM : M ≠ [] := fun z => by rw [z] at ln; simp at ln
  refine ⟨by rw [mulU_length nM (shp_ne f)]; omega, (ML.Sz.mulU h.sz (shp_sz f)).mono ?_⟩
  rw [ln]
  rcases ls with e | e <;> rw [e] <;> omega
theorem dgs_take {FS : List (List Int)} {i : Nat} {F : List Int} (h : FS[i]? = some F) : dgs (FS.take (i + 1)) = dgs (FS.take i) + dgF F := by
  unfold dgs
  rw [List.take_add_one, h, List.map_append, List.sum_append]; simp
theorem dgs_le (FS : List (List Int)) (i : Nat) : dgs (FS.take i) ≤ dgs FS := by
  unfold dgs
  conv => rhs; rw [← List.take_append_drop i FS, List.map_append, List.sum_append]
  omega
theorem prodS_take {FS : List (List Int)} {i : Nat} {F : List Int} (M : List Int) (h : FS[i]? = some F) : prodS M (FS.take (i + 1)) = ML.mulU (prodS M (FS.take i)) (shpF F) := by
  unfold prodS
  rw [List.take_add_one, h, List.foldl_append]; rfl
theorem prodS_len {m : Int} : ∀ (FS : List (List Int)) (M : List Int), (∀ F ∈ FS, isF m F) → M ≠ [] → (prodS M FS).length = M.length + dgs FS
  | [], M, _, _ => by show M.length = M.length + 0; omega
  | F :: FS, M, hF, hM => by
    obtain ⟨u, e, b, rfl, f⟩ := hF F (List.mem_cons_self ..)
    have hs := shp_ne f
    have ls := shp_len f
    have h1 := mulU_length hM hs
    have hMs : ML.mulU M (MB.shp u e b) ≠ [] := fun z => by
      rw [z] at h1
      simp at h1
      have := List.length_pos_iff.mpr hM
      omega
    have := prodS_len FS (ML.mulU M (MB.shp u e b)) (fun G hG => hF G (List.mem_cons_of_mem _ hG)) hMs
    show (prodS (ML.mulU M (MB.shp u e b)) FS).length = M.length + dgs ([u, e, b] :: FS)
    have e2 : dgs ([u, e, b] :: FS) = ((MB.shp u e b).length - 1) + dgs FS := rfl
    rw [this, h1, e2]; omega
theorem prodS_prd {m : Int} : ∀ (FS : List (List Int)) (M : List Int) (d n : Nat), (∀ F ∈ FS, isF m F) → d + dgs FS ≤ 15 → Prd M d n → Prd (prodS M FS) (d + dgs FS) n
  | [], M, d, n, _, _, h => h
  | F :: FS, M, d, n, hF, hd, h => by
    obtain ⟨u, e, b, rfl, f⟩ := hF F (List.mem_cons_self ..)
    have e2 : dgs ([u, e, b] :: FS) = ((MB.shp u e b).length - 1) + dgs FS := rfl
    rw [e2] at hd
    have := prodS_prd FS (ML.mulU M (MB.shp u e b)) (d + ((MB.shp u e b).length - 1)) n (fun G hG => hF G (List.mem_cons_of_mem _ hG)) (by omega) (h.step f (by omega))
    rw [e2, show d + ((MB.shp u e b).length - 1 + dgs FS) = d + ((MB.shp u e b).length - 1) + dgs FS by omega]
    exact this
theorem shp_lc {m u e b : Int} (f : Fac m u e b) : 0 < ML.cf (MB.shp u e b) ((MB.shp u e b).length - 1) := by
  have b1 := f.b1
  unfold MB.shp
  split
  · have hT : ML.Trim [0 - u, b] := .inr (show b ≠ 0 by omega)
    exact MP.plainL_last hT (by simp)
  · have hT : ML.Trim [u * u - e, -2 * b * u, b * b] := .inr (show b * b ≠ 0 from Int.mul_ne_zero (by omega) (by omega))
    exact MP.plainL_last hT (by simp)
theorem prodS_lc {m : Int} : ∀ (FS : List (List Int)) (M : List Int), (∀ F ∈ FS, isF m F) → M ≠ [] → ML.cf M (M.length - 1) ≠ 0 → ML.cf (prodS M FS) ((prodS M FS).length - 1) ≠ 0
  | [], M, _, _, h => h
  | F :: FS, M, hF, hM, h => by
    obtain ⟨u, e, b, rfl, f⟩ := hF F (List.mem_cons_self ..)
    have hs := shp_ne f
    have lM := List.length_pos_iff.mpr hM
    have ls := List.length_pos_iff.mpr hs
    have h1 := mulU_length hM hs
    refine prodS_lc FS (ML.mulU M (MB.shp u e b)) (fun G hG => hF G (List.mem_cons_of_mem _ hG)) (fun z => ?_) ?_
    · rw [z] at h1
      simp at h1
      omega
    · rw [h1, ML.cf_mulU, show M.length + (MB.shp u e b).length - 1 - 1 = (M.length - 1) + ((MB.shp u e b).length - 1) by omega, MR.cv_top (fun i hi => ML.cf_beyond (by omega)) (fun i hi => ML.cf_beyond (by omega))]
      have := shp_lc f
      exact Int.mul_ne_zero h (by omega)
theorem len_dgs {m : Int} : ∀ FS : List (List Int), (∀ F ∈ FS, isF m F) → FS.length ≤ dgs FS
  | [], _ => Nat.zero_le _
  | F :: FS, hF => by
    obtain ⟨u, e, b, rfl, f⟩ := hF F (List.mem_cons_self ..)
    have ls := shp_len f
    have ih := len_dgs FS fun G hG => hF G (List.mem_cons_of_mem _ hG)
    have e2 : dgs ([u, e, b] :: FS) = ((MB.shp u e b).length - 1) + dgs FS := rfl
    rw [e2, List.length_cons]; omega
/-! ### spots of factors -/
/-- the spots of factors, rows of four -/
def rtsS (FS : List (List Int)) : List (List Int) := FS.flatMap MJ.rtsF
/-- a spot of a factor with u of at most m -/
def isS (m : Int) (R : List Int) : Prop := ∃ u e b s, R = [u, e, b, s] ∧ Fac m u e b ∧ 0 ≤ e ∧ (s = 1 ∨ s = -1) ∧ (e = 0 → s = 1)
def spR : List Int → Rat → Int
  | [u, e, b, s] => SP.spQ u e b s
  | _ => fun _ => 0
theorem rts_isS {m u e b : Int} (f : Fac m u e b) {R : List Int} (h : R ∈ MJ.rts u e b) : isS m R := by
  unfold MJ.rts at h
  rcases List.mem_append.mp h with h | h
  · split at h
    · rw [List.mem_singleton.mp h]; exact ⟨u, e, b, 1, rfl, f, by omega, .inl rfl, fun _ => rfl⟩
    · cases h
  · split at h
    · rw [List.mem_singleton.mp h]; exact ⟨u, e, b, -1, rfl, f, by omega, .inr rfl, fun _ => by omega⟩
    · cases h
theorem rtsS_isS {m : Int} {FS : List (List Int)} (hF : ∀ F ∈ FS, isF m F) : ∀ R ∈ rtsS FS, isS m R := fun R hR => by
  obtain ⟨F, hF1, hF2⟩ := List.mem_flatMap.mp hR
  obtain ⟨u, e, b, rfl, f⟩ := hF F hF1
  exact rts_isS f hF2
theorem isS.spot {m : Int} {R : List Int} (h : isS m R) : ST.Spot (spR R) := by
  obtain ⟨u, e, b, s, rfl, f, e0, hs, _⟩ := h
  exact SP.spot hs (by have := f.b1; omega) e0
/-- the product of the opposite sides, both ways -/
theorem pS_q {m : Int} {RS : List (List Int)} (h : ∀ R ∈ RS, isS m R) (x : Rat) : MJ.pS RS x.num (x.den : Int) = ST.pS (RS.map spR) x := by
  induction RS with
  | nil => rfl
  | cons R RS ih =>
    rw [show R :: RS = [R] ++ RS from rfl, MJ.pS_append, MJ.pS_one, ih fun S hS => h S (List.mem_cons_of_mem _ hS)]
    obtain ⟨u, e, b, s, rfl, _⟩ := h R (List.mem_cons_self ..)
    rfl
theorem rsgn (x : Rat) (z : Int) : MJ.sg z = ST.sgR (z : Rat) := by
  rw [← ordI_zero]
  unfold MJ.sg ordI
  split
  · rfl
  · split
    · next h => rw [h]; rfl
    · rw [if_pos (by omega)]
/-- the sign of a product of factors -/
theorem prod_sign {m : Int} : ∀ (FS : List (List Int)) (M : List Int), (∀ F ∈ FS, isF m F) → ∀ x : Rat, ST.sgR (ST.ev (prodS M FS) x) = ST.sgR (ST.ev M x) * ST.pS ((rtsS FS).map spR) x
  | [], M, _, x => by show ST.sgR (ST.ev M x) = _ * 1; omega
  | F :: FS, M, hF, x => by
    obtain ⟨u, e, b, rfl, f⟩ := hF F (List.mem_cons_self ..)
    have hF' : ∀ G ∈ FS, isF m G := fun G hG => hF G (List.mem_cons_of_mem _ hG)
    have ih := prod_sign FS (ML.mulU M (MB.shp u e b)) hF' x
    show ST.sgR (ST.ev (prodS (ML.mulU M (MB.shp u e b)) FS) x) = _
    rw [ih, ST.ev_cv (fun k => ML.cf_mulU M (MB.shp u e b) k), ST.sgR_mul]
    have h1 : ST.sgR (ST.ev (MB.shp u e b) x) = ST.pS ((MJ.rts u e b).map spR) x := by
      rw [← sign_q, ← pS_q (m := m) (fun R hR => rts_isS f hR), ← MJ.shp_sign (by have := f.b1; omega) (q_pos x), rsgn x, ordI_zero]
    rw [h1]
    have h2 : ∀ A B : List (Rat → Int), ST.pS (A ++ B) x = ST.pS A x * ST.pS B x := fun A B => by
      induction A with
      | nil => show ST.pS B x = 1 * _; rw [Int.one_mul]
      | cons a A ih => show (0 - a x) * ST.pS (A ++ B) x = (0 - a x) * ST.pS A x * _; rw [ih]; grind
    show _ = _ * ST.pS ((MJ.rtsF [u, e, b] ++ rtsS FS).map spR) x
    rw [List.map_append, h2, ← Int.mul_assoc]
    rfl
/-! ### spots that differ -/
theorem shp_same {u e b u' e' b' : Int} (hb : 1 ≤ b) (hb' : 1 ≤ b') (h : (e = 0 ∧ e' = 0 ∧ u * b' = u' * b) ∨ (e ≠ 0 ∧ e' ≠ 0 ∧ b * b * (-2 * b' * u') = b' * b' * (-2 * b * u) ∧ b * b * (u' * u' - e') = b' * b' * (u * u - e))) : MB.shp u e b = MB.shp u' e' b' := by
  unfold MB.shp
  rcases h with ⟨rfl, rfl, h⟩ | ⟨h0, h0', h1, h2⟩
  · rw [if_pos rfl, if_pos rfl]
    refine MQ.plain_prop (x := b') (y := b) (.inr (show b ≠ 0 by omega)) (.inr (show b' ≠ 0 by omega)) (by omega) (by omega) fun k => ?_
    match k with
    | 0 => show b' * (0 - u) = b * (0 - u'); grind
    | 1 => show b' * b = b * b'; grind
    | k + 2 => rw [ML.cf_beyond (by simp), ML.cf_beyond (by simp)]; omega
  · rw [if_neg h0, if_neg h0']
    refine MQ.plain_prop (x := b' * b') (y := b * b) (.inr (show b * b ≠ 0 from Int.mul_ne_zero (by omega) (by omega))) (.inr (show b' * b' ≠ 0 from Int.mul_ne_zero (by omega) (by omega))) (Int.mul_ne_zero (by omega) (by omega)) (Int.mul_ne_zero (by omega) (by omega)) fun k => ?_
    match k with
    | 0 => show b' * b' * (u * u - e) = b * b * (u' * u' - e'); exact h2.symm
    | 1 => show b' * b' * (-2 * b * u) = b * b * (-2 * b' * u'); exact h1.symm
    | 2 => show b' * b' * (b * b) = b * b * (b' * b'); grind
    | k + 3 => rw [ML.cf_beyond (by simp), ML.cf_beyond (by simp)]; omega
/-- a spot amid a span -/
def amidR (R : List Int) (l h q : Int) : Bool := decide (0 < MJ.sideR R l q ∧ MJ.sideR R h q ≤ 0)
theorem amid_iff {u e b s l h q : Int} : amidR [u, e, b, s] l h q = true ↔ MJ.Amid u e b s l h q := by
  unfold amidR MJ.Amid
  rw [decide_eq_true_iff]
  exact Iff.rfl
def Difs (R R' : List Int) : Prop := ∀ u e b s u' e' b' s', R = [u, e, b, s] → R' = [u', e', b', s'] → (MB.shp u e b ≠ MB.shp u' e' b') ∨ (u = u' ∧ e = e' ∧ b = b' ∧ s = 1 ∧ s' = -1 ∧ 0 < e)
theorem rts_pair {FS : List (List Int)} {m : Int} (hF : ∀ F ∈ FS, isF m F) (hp : FS.Pairwise fun F G => shpF F ≠ shpF G) : (rtsS FS).Pairwise Difs := by
  unfold rtsS
  rw [List.pairwise_flatMap]
  refine ⟨fun F hF1 => ?_, hp.imp_of_mem fun {F G} hF1 hG1 hne R hR R' hR' => ?_⟩
  · obtain ⟨u, e, b, rfl, f⟩ := hF F hF1
    show (MJ.rts u e b).Pairwise Difs
    unfold MJ.rts
    by_cases h1 : e ≥ 0
    · by_cases h2 : e > 0
      · rw [if_pos h1, if_pos h2]
        refine List.pairwise_cons.mpr ⟨fun R hR => ?_, List.pairwise_singleton ..⟩
        intro u1 e1 b1 s1 u2 e2 b2 s2 q1 q2
        rw [List.mem_singleton.mp hR] at q2
        simp only [List.cons.injEq, and_true] at q1 q2
        obtain ⟨rfl, rfl, rfl, rfl⟩ := q1
        obtain ⟨rfl, rfl, rfl, rfl⟩ := q2
        exact .inr ⟨rfl, rfl, rfl, rfl, rfl, h2⟩
      · rw [if_pos h1, if_neg h2, List.append_nil]; exact List.pairwise_singleton ..
    · rw [if_neg h1, if_neg (by omega)]; exact .nil
  · obtain ⟨u, e, b, rfl, f⟩ := hF F hF1
    obtain ⟨u', e', b', rfl, f'⟩ := hF G hG1
    have mem : ∀ {u e b : Int} {R : List Int}, R ∈ MJ.rts u e b → ∃ s, R = [u, e, b, s] := fun {u e b R} hR => by
      unfold MJ.rts at hR
      rcases List.mem_append.mp hR with h | h <;> split at h <;> first | exact ⟨_, List.mem_singleton.mp h⟩ | cases h
    obtain ⟨s, rfl⟩ := mem hR
    obtain ⟨s', rfl⟩ := mem hR'
    intro u1 e1 b1 s1 u2 e2 b2 s2 q1 q2
    simp only [List.cons.injEq, and_true] at q1 q2
    obtain ⟨rfl, rfl, rfl, rfl⟩ := q1
    obtain ⟨rfl, rfl, rfl, rfl⟩ := q2
    exact .inl hne
theorem Fac.spt {u e b s : Int} (f : Fac 11 u e b) (e0 : 0 ≤ e) (hs : s = 1 ∨ s = -1) (h1 : e = 0 → s = 1) : MJ.Spt u e b s :=
  ⟨hs, f.b1, f.b3, by have := f.su; omega, by
    rcases f.sq with h | ⟨k, k0, k1, k2⟩
    · exact .inl ⟨h, h1 h⟩
    · by_cases h : e = 0
      · exact .inl ⟨h, h1 h⟩
      · have := f.se
        have ea : (e.natAbs : Int) = e := by omega
        rw [ea] at k1 k2
        exact .inr ⟨k, k0, k1, k2, by omega⟩⟩
/-- two of them amid a span: it is not too short -/
theorem sep_any {R R' : List Int} {l h q : Int} (hR : isS 11 R) (hR' : isS 11 R') (hd : Difs R R') (P : MJ.Spn2 l h q) (A : amidR R l h q = true) (A' : amidR R' l h q = true) : q.natAbs ≤ 4294967296 * (h - l).natAbs := by
  obtain ⟨u, e, b, s, rfl, f, e0, hs, es⟩ := hR
  obtain ⟨u', e', b', s', rfl, f', e0', hs', es'⟩ := hR'
  rw [amid_iff] at A A'
  have lh := P.lh
  have S := f.spt e0 hs es
  have S' := f'.spt e0' hs' es'
  rcases hd u e b s u' e' b' s' rfl rfl with hne | ⟨rfl, rfl, rfl, rfl, rfl, hp⟩
  · by_cases h1 : e = 0
    · have s1 := es h1
      subst h1; subst s1
      by_cases h2 : e' = 0
      · have s2 := es' h2
        subst h2; subst s2
        have := MJ.sep_ll S.b1 S.b3 S'.b1 S'.b3 P A A' fun z => hne (shp_same S.b1 S'.b1 (.inl ⟨rfl, rfl, z⟩))
        omega
      · have := MJ.sep_lq S.b1 S.b3 S.su S' (by omega) P A A'
        omega
    · by_cases h2 : e' = 0
      · have s2 := es' h2
        subst h2; subst s2
        have := MJ.sep_lq S'.b1 S'.b3 S'.su S (by omega) P A' A
        omega
      · exact MJ.sep_qq S S' (by omega) (by omega) P A A' fun z => hne (shp_same S.b1 S'.b1 (.inr ⟨h1, h2, z.1, z.2⟩))
  · have := MJ.sep_same S.b1 S.b3 hp P A A'
    omega
end RB
namespace RB
open PySem PySem.Spec PyProof.Rows L2
theorem any_rows (Ss : List (List Int)) (ns : List Int) : ((Ss.map dI).any fun z => PyData.eqv z (dI ns)) = decide (ns ∈ Ss) := by
  induction Ss with
  | nil => rfl
  | cons S Ss ih =>
    rw [List.map_cons, List.any_cons, ih, eqv_dI]
    by_cases h : S = ns
    · subst h; simp
    · have : ¬ ns = S := fun z => h z.symm
      simp [h, this]
/-- x not in a list of lists -/
theorem r_notInRow {K : PySem.W.Frag} {H : Hp} {Q : VK} {a b : Addr} {ns : List Int} {qs : List Addr} {Ss : List (List Int)} (h1 : SqL K H a (ns.map V.int)) (h2 : SqL K H b (qs.map V.ref)) (h2' : Rws H qs Ss) (q : Q (.bl (!decide (ns ∈ Ss))) H) : rNotInD K (.ref a) (.ref b) H Q :=
  ⟨_, _, dp_listI h1, dp_listR h2 h2', shaped_dI ns, shaped_dR Ss, by rw [show ((Ss.map dI).any fun z => PyData.eqv z (.list (ns.map PyData.int))) = decide (ns ∈ Ss) from any_rows Ss ns]; exact q⟩
theorem r_inRow {K : PySem.W.Frag} {H : Hp} {Q : VK} {a b : Addr} {ns : List Int} {qs : List Addr} {Ss : List (List Int)} (h1 : SqL K H a (ns.map V.int)) (h2 : SqL K H b (qs.map V.ref)) (h2' : Rws H qs Ss) (q : Q (.bl (decide (ns ∈ Ss))) H) : rInD K (.ref a) (.ref b) H Q :=
  ⟨_, _, dp_listI h1, dp_listR h2 h2', shaped_dI ns, shaped_dR Ss, by rw [show ((Ss.map dI).any fun z => PyData.eqv z (.list (ns.map PyData.int))) = decide (ns ∈ Ss) from any_rows Ss ns]; exact q⟩
end RB
namespace RB
open PySem PySem.Spec PyProof.Rows L2
open Evl (Ex)
theorem Tws.take {H : Hp} : ∀ (n : Nat) {ps : List Addr} {Rs : List (List Int)}, Tws H ps Rs → Tws H (ps.take n) (Rs.take n)
  | 0, _, _, _ => by rw [List.take_zero, List.take_zero]; trivial
  | n + 1, [], [], _ => trivial
  | n + 1, p :: ps, R :: Rs, h => ⟨h.1, Tws.take n h.2⟩
/-- over a list of tuples of ints, each giving a new list -/
theorem lc_twsN {K : PySem.W.Frag} {σ : L2.St} {H : Hp} {te : TE} {Q : VK} {a : Addr} {ps : List Addr} {Rs : List (List Int)} {j : Nat} (f : List Int → List Int) (hx : SqL K H a (ps.map V.ref)) (hW : Tws H ps Rs) (hz : ps.length < 1000000)
    (he : ∀ p R H1, R ∈ Rs → H1 p = some (.tup (R.map V.int)) → Ex H H1 → ∀ Q' : VK, (∀ q H2, H1 q = none → Ex H1 H2 → H2 q = some (.lst ((f R).map V.int)) → Q' (.ref q) H2) → te (σ.set j (some (.ref p))) H1 Q')
    (q : ∀ D H' qs, H D = none → Ex H H' → H' D = some (.lst (qs.map V.ref)) → Rws H' qs (Rs.map f) → D ∉ qs → Q (.ref D) H') : Lc (Itl K a) (gName j) tYes te [j] σ H Q := fun D hD =>
  lc_list (xs := ps.map V.ref) (fun i H' => Ex H H' ∧ ∃ qs : List Addr, H' D = some (.lst (qs.map V.ref)) ∧ Rws H' qs ((Rs.take i).map f) ∧ D ∉ qs ∧ qs.length ≤ i) ⟨Evl.Ex.new hD, [], upd_same, trivial, (fun h => by cases h), Nat.le_refl _⟩ (fun i H' _ p => p.1.l hx)
    (fun i x H' hi p => ⟨by show ((σ.set j none).set j (some x)).set j none = σ.set j none; rw [set_set, set_set], by
      show te ((σ.set j none).set j (some x)) H' _
      rw [set_set]
      rw [List.getElem?_map] at hi
      obtain ⟨p', hp', rfl⟩ := Option.map_eq_some_iff.mp hi
      obtain ⟨e, qs, hq, hR, hn, hl⟩ := p
      obtain ⟨R, hRm, hpR⟩ := hW.get hp'
      have hlt : i < ps.length := (List.getElem?_eq_some_iff.mp hp').1
      refine he p' R H' (List.mem_of_getElem? hRm) (e _ _ hpR) e _ fun r H2 hr e2 hr2 => ⟨_, e2 D _ hq, ?_, Evl.Ex.mut (e.trans e2) hD, qs ++ [r], ?_, ?_, ?_, ?_⟩
      · rw [List.length_map]; exact small_lt (by omega)
      · rw [upd_same, List.map_append]; rfl
      · rw [List.take_add_one, hRm, List.map_append]
        have nD : r ≠ D := fun z => by rw [z, hq] at hr; cases hr
        refine Rws.append ?_ ⟨by rw [upd_ne nD]; exact hr2, trivial⟩
        exact (hR.ex e2).exb (l := D) (fun c n o h => by rw [upd_ne n]; exact h) hn
      · intro h
        rcases List.mem_append.mp h with h | h
        · exact hn h
        · rw [List.mem_singleton] at h
          rw [← h, hq] at hr
          cases hr
      · rw [List.length_append]; simp; omega⟩)
    (fun H' p => by
      obtain ⟨e, qs, hq, hR, hn, hl⟩ := p
      rw [List.length_map, hW.len, List.take_length] at hR
      exact q D H' qs hD e hq hR hn)
/-- those of a list of tuples of ints for which a test holds -/
theorem lc_filt {K : PySem.W.Frag} {σ : L2.St} {H : Hp} {tt : TT} {Q : VK} {a : Addr} {ps : List Addr} {Rs : List (List Int)} {j : Nat} (f : List Int → Bool) (hj : j < σ.length) (hx : SqL K H a (ps.map V.ref)) (hW : Tws H ps Rs) (hz : ps.length < 1000000)
    (he : ∀ p R H1, R ∈ Rs → H1 p = some (.tup (R.map V.int)) → Ex H H1 → ∀ Q' : Bool → Hp → Prop, Q' (f R) H1 → tt (σ.set j (some (.ref p))) H1 Q')
    (q : ∀ D H' qs, H D = none → Ex H H' → H' D = some (.lst (qs.map V.ref)) → Tws H' qs (Rs.filter f) → D ∉ qs → Q (.ref D) H') : Lc (Itl K a) (gName j) tt (tVar j) [j] σ H Q := fun D hD =>
  lc_list (xs := ps.map V.ref) (fun i H' => Ex H H' ∧ ∃ qs : List Addr, H' D = some (.lst (qs.map V.ref)) ∧ Tws H' qs ((Rs.take i).filter f) ∧ D ∉ qs ∧ qs.length ≤ i) ⟨Evl.Ex.new hD, [], upd_same, trivial, (fun h => by cases h), Nat.le_refl _⟩ (fun i H' _ p => p.1.l hx)
    (fun i x H' hi p => ⟨by show ((σ.set j none).set j (some x)).set j none = σ.set j none; rw [set_set, set_set], by
      show tt ((σ.set j none).set j (some x)) H' _
      rw [set_set]
      rw [List.getElem?_map] at hi
      obtain ⟨p', hp', rfl⟩ := Option.map_eq_some_iff.mp hi
      obtain ⟨e, qs, hq, hR, hn, hl⟩ := p
      obtain ⟨R, hRm, hpR⟩ := hW.get hp'
      have hlt : i < ps.length := (List.getElem?_eq_some_iff.mp hp').1
      refine he p' R H' (List.mem_of_getElem? hRm) (e _ _ hpR) e _ ?_
      by_cases hf : f R = true
      · rw [if_pos hf]
        refine ⟨.ref p', (by show ((σ.set j none).set j (some (V.ref p')))[j]? = _; rw [set_set, List.getElem?_set_self hj]), _, hq, ?_, Evl.Ex.mut e hD, qs ++ [p'], ?_, ?_, ?_, ?_⟩
        · rw [List.length_map]; exact small_lt (by omega)
        · rw [upd_same, List.map_append]; rfl
        · have nD : p' ≠ D := fun z => by rw [z, hD] at hpR; cases hpR
          rw [List.take_add_one, hRm, List.filter_append]
          refine Tws.append (hR.exb (l := D) (fun c n o h => by rw [upd_ne n]; exact h) hn) ?_
          rw [show (some R).toList.filter f = [R] by simp [hf]]
          exact ⟨by rw [upd_ne nD]; exact e _ _ hpR, trivial⟩
        · intro h
          rcases List.mem_append.mp h with h | h
          · exact hn h
          · rw [List.mem_singleton] at h
            rw [← h, hD] at hpR
            cases hpR
        · rw [List.length_append]; simp; omega
      · rw [if_neg hf]
        refine ⟨e, qs, hq, ?_, hn, by omega⟩
        rw [List.take_add_one, hRm, List.filter_append, show (some R).toList.filter f = [] by simp [hf], List.append_nil]
        exact hR⟩)
    (fun H' p => by
      obtain ⟨e, qs, hq, hR, hn, hl⟩ := p
      rw [List.length_map, hW.len, List.take_length] at hR
      exact q D H' qs hD e hq hR hn)
/-- an and of which the false ways go on alike -/
theorem and_go {t1 t2 : TT} {σ : L2.St} {H : Hp} {Q : Bool → Hp → Prop} (P : Hp → Prop) (go : ∀ H', P H' → Q false H') (h : (∀ H', P H' → Q false H') → t1 σ H fun c H1 => if c = true then t2 σ H1 Q else Q false H1) : tAnd t1 t2 σ H Q := h go
/-- the half of a span in which a spot is -/
def halfS (R : List Int) (l h q : Int) : List Int := if MJ.sideR R (l + h) (2 * q) ≤ 0 then [2 * l, l + h, 2 * q] else [l + h, 2 * h, 2 * q]
end RB

set_option linter.all false
set_option maxRecDepth 100000
set_option maxHeartbeats 4000000
set_option exponentiation.threshold 100000
namespace RP
open PySem PySem.Spec PyProof.Rows L2 RB
open Evl (Ex rLenS rListS rMax2 tCut pss_cut)
local macro_rules | `(tactic| walk_at "ir") => `(tactic| first
  | assumption
  | exact IsR.ex (by assumption) (by walk_at "ir"))
local macro_rules | `(tactic| walk_at "hp") => `(tactic| first
  | assumption
  | exact hx_e (by assumption) (by walk_at "hp")
  | exact hx_b (by assumption) (by walk_at "ne") (by walk_at "hp"))
local macro_rules | `(tactic| walk_at "ne") => `(tactic| first
  | assumption
  | exact Ne.symm (by assumption)
  | exact ne_1 (by assumption) (by walk_at "hp")
  | exact ne_2 (by assumption) (by walk_at "hp"))
local macro_rules | `(tactic| walk_at "sq") => `(tactic| first
  | assumption
  | exact Fx.l (by assumption) (by assumption)
  | exact Evl.Ex.l (by assumption) (by assumption)
  | exact SqL.inj (by walk_at "hp"))
local macro_rules | `(tactic| walk_at "rd") => `(tactic| repeat (first
  | with_reducible refine r_seq ?_
  | with_reducible refine r_asg ?_
  | with_reducible refine r_gn ?_
  | ((with_reducible refine' r_var ?h ?_); (case h => exact rfl))
  | with_reducible refine r_c ?_
  | with_reducible refine r_op ?_
  | with_reducible refine r_un ?_
  | with_reducible refine r_add ?_
  | with_reducible refine r_sub ?_
  | ((with_reducible refine' r_pow ?h ?_); (case h => exact ⟨by decide, by decide, by decide⟩))
  | ((with_reducible refine' r_mod ?h ?_); (case h => first | decide | omega))
  | ((with_reducible refine' r_div ?h ?_); (case h => exact ⟨by decide, by decide⟩))
  | with_reducible refine r_lc ?_
  | ((with_reducible refine' r_cListA ?h ?_); (case h => walk_at "sq"))
  | with_reducible refine r_lt ?_
  | with_reducible refine r_le ?_
  | with_reducible refine r_gt ?_
  | with_reducible refine r_ge ?_
  | with_reducible refine r_eqI ?_
  | with_reducible refine r_neI ?_
  | with_reducible refine r_eqB ?_
  | with_reducible refine r_eqS ?_
  | with_reducible refine r_neg ?_
  | with_reducible refine r_ret ?_
  | with_reducible refine r_ifS ?_
  | with_reducible refine r_test ?_
  | with_reducible refine r_B ?_
  | with_reducible refine r_bl ?_
  | with_reducible refine r_int ?_
  | with_reducible refine r_cb ?_
  | with_reducible refine r_cons ?_
  | with_reducible refine r_nil ?_
  | with_reducible refine r_abs ?_
  | with_reducible refine r_max2 ?_
  | with_reducible refine r_min2 ?_
  | ((with_reducible refine' r_lenI ?h ?_); (case h => walk_at "sq"))
  | ((with_reducible refine' r_len ?h ?_); (case h => walk_at "sq"))
  | with_reducible refine r_tru ?_
  | with_reducible refine r_rev ?_
  | with_reducible refine r_iRng3 ?_
  | ((with_reducible refine' r_ixL ?h ?a ?_); (case h => walk_at "sq"); (case a => assumption))
  | ((with_reducible refine' r_ixT ?h ?a ?_); (case h => walk_at "sq"); (case a => assumption))
  | with_reducible refine r_intI ?_
  | with_reducible refine r_intB ?_
  | with_reducible refine r_call ?_
  | with_reducible refine r_lst ?_
  | with_reducible refine r_tup ?_
  | with_reducible refine r_drop ?_
  | with_reducible refine r_and ?_
  | with_reducible refine r_or ?_
  | with_reducible refine r_not ?_
  | with_reducible refine r_andV ?_
  | with_reducible refine r_orV ?_
  | with_reducible refine r_notV ?_
  | with_reducible refine r_if ?_
  | with_reducible refine r_bm ?_
  | with_reducible refine r_bm0 ?_
  | with_reducible refine r_sub_ ?_
  | with_reducible refine r_sl ?_
  | with_reducible refine r_part ?_
  | with_reducible refine r_nopart ?_
  | with_reducible refine r_par ?_
  | with_reducible refine r_par2 ?_
  | with_reducible refine r_for ?_
  | with_reducible refine r_iList ?_
  | ((with_reducible refine' r_iListA ?h ?_); (case h => walk_at "sq"))
  | with_reducible refine r_iTup ?_
  | ((with_reducible refine' r_iTupA ?h ?_); (case h => walk_at "sq"))
  | with_reducible refine r_iRng1 ?_
  | with_reducible refine r_iRng2 ?_
  | with_reducible refine r_iRev ?_
  | ((with_reducible refine' r_iRevA ?h ?_); (case h => walk_at "sq"))
  | with_reducible refine r_iEnum ?_
  | ((with_reducible refine' r_iEnumA ?h ?_); (case h => walk_at "sq"))
  | with_reducible refine r_iRevR ?_
  | with_reducible refine r_rg1 ?_
  | with_reducible refine r_make ?_
  | with_reducible refine r_fld ?_
  | with_reducible refine r_sfld ?_
  | with_reducible refine r_meth ?_
  | ((with_reducible refine' r_top ?c ?n ?h ?_); (case c => assumption); (case n => assumption); (case h => walk_at "ir"))
  | ((with_reducible refine' r_bottom ?c ?n ?h ?_); (case c => assumption); (case n => assumption); (case h => walk_at "ir"))
  | ((with_reducible refine' r_methR ?h ?h1 ?h2 ?_); (case h => walk_at "ir"); (case h1 => decide +kernel); (case h2 => decide +kernel))
  | with_reducible refine r_next ?_
  | ((with_reducible refine' r_ty ?h ?_); (case h => exact tyL (by walk_at "hp")))
  | with_reducible refine i_t ?_
  | with_reducible refine i_f ?_
  | with_reducible refine i_nt ?_
  | with_reducible refine i_nf ?_
  | walk_at "call"))
structure ExT (K : PySem.W.Frag) (Cof : String → Addr) : Prop where
  cl_Ratio : Cls K (Cof "Ratio")
  is_Ratio : InsC K (Cof "Ratio")
  n_Ratio_bottom : NoAttr K (Cof "Ratio") "bottom"
  n_Ratio_top : NoAttr K (Cof "Ratio") "top"

/-! #### shared -/
--USE MG
def sp_shared (K : PySem.W.Frag) (Cof : String → Addr) : Sp := fun vs H Q _ => ∃ (a : Addr) (ns : List Int), vs = [.ref a] ∧ SqL K H a (ns.map V.int) ∧ Q (.int (MG.gcdL ns)) H
def t_shared (K : PySem.W.Frag) (Cof : String → Addr) (E : XK) : TS :=
  tSeq (tAsg (tC (.int 0)) (gName 1))
  (tSeq (tFor (iList K (tVar 0)) (gName 2) (tWhile (tTest (tOp rNe (tVar 2) (tC (.int 0)))) (tSeq (tAsg (tOp rMod (tVar 1) (tVar 2)) (gName 3))
  (tSeq (tAsg (tVar 2) (gName 1))
  (tAsg (tVar 3) (gName 2))))))
  (tRet (tCB rAbs (tCons (tVar 1) (tNil)))))

section
variable {K : PySem.W.Frag} {Cof : String → Addr} {vs : List V} {H : Hp} {Q : VK} {E : XK}
theorem len_shared (h : sp_shared K Cof vs H Q E) : vs.length = 1 := by
  obtain ⟨a, ns, rfl, _⟩ := h; rfl
theorem rd_shared (h : sp_shared K Cof vs H Q E) : t_shared K Cof E { nx := fun _ H' => Q .non H', rt := Q } (start ["row", "found", "one", "rest"] vs) H := by
  obtain ⟨a, ns, rfl, hS, q⟩ := h
  unfold t_shared
  walk_at "rd"
  refine loop_ints (ns := ns) (fun i σ' H' => ∃ (f : Int) (u r : Option V), σ' = [some (.ref a), some (.int f), u, r] ∧ H' = H ∧ f.natAbs = MG.gcdN (ns.take i)) ⟨0, none, none, rfl, rfl, rfl⟩ (fun i σ' H' _ hp => ?_) (fun i x σ' H' hx hp => ?_) (fun σ' H' hp => ?_)
  · obtain ⟨f, u, r, rfl, rfl, _⟩ := hp; exact hS
  · obtain ⟨f, u, r, rfl, rfl, hf⟩ := hp
    refine r_while (fun m σ2 H2 => ∃ (f o : Int) (r : Option V), σ2 = [some (.ref a), some (.int f), some (.int o), r] ∧ H2 = H' ∧ m = o.natAbs ∧ Int.gcd f o = MG.gcdN (ns.take (i + 1))) x.natAbs ⟨f, x, r, rfl, rfl, rfl, ?_⟩ (fun m σ2 H2 hw => ?_)
    · rw [MG.gcdN_take hx, ← hf]; rfl
    · obtain ⟨f, o, r, rfl, rfl, rfl, hg⟩ := hw
      walk_at "rd"
      refine ite_nd (fun h => wh_in ?_) (fun h => ?_)
      · walk_at "rd"
        exact ⟨_, MG.fmod_lt h, o, f.fmod o, _, rfl, rfl, rfl, by rw [MG.gcd_fmod]; exact hg⟩
      · refine ⟨f, _, _, rfl, rfl, ?_⟩
        rw [← hg, h, Int.gcd_zero_right]
  · obtain ⟨f, u, r, rfl, rfl, hf⟩ := hp
    walk_at "rd"
    rw [List.take_length] at hf
    have e : (if f < 0 then -f else f) = MG.gcdL ns := by
      unfold MG.gcdL
      rw [← hf]
      split <;> omega
    rw [e]
    exact q
end
theorem c_shared {K : PySem.W.Frag} {Cof : String → Addr} {H : Hp} {Q : VK} {E : XK} {a : Addr} {ns : List Int} (h : SqL K H a (ns.map V.int)) (q : Q (.int (MG.gcdL ns)) H) : sp_shared K Cof [.ref a] H Q E := ⟨a, ns, rfl, h, q⟩
local macro_rules | `(tactic| walk_at "call") => `(tactic| ((with_reducible refine' c_shared ?h ?_); (case h => walk_at "sq")))

/-! #### told_order -/
--USE MF
def sp_told_order (K : PySem.W.Frag) (Cof : String → Addr) : Sp := fun vs H Q _ => ∃ l r : Int, vs = [.int l, .int r] ∧ Q (.int (ordI l r)) H
def t_told_order (K : PySem.W.Frag) (Cof : String → Addr) (E : XK) : TS :=
  tSeq (tIfS (tTest (tOp rLt (tVar 0) (tVar 1))) (tRet (tUn rNeg (tC (.int 1)))) (tNext))
  (tRet (tCB rInt1 (tCons (tOp rGt (tVar 0) (tVar 1)) (tNil))))

section
variable {K : PySem.W.Frag} {Cof : String → Addr} {vs : List V} {H : Hp} {Q : VK} {E : XK}
theorem len_told_order (h : sp_told_order K Cof vs H Q E) : vs.length = 2 := by
  obtain ⟨l, r, rfl, _⟩ := h; rfl
theorem rd_told_order (h : sp_told_order K Cof vs H Q E) : t_told_order K Cof E { nx := fun _ H' => Q .non H', rt := Q } (start ["left", "right"] vs) H := by
  obtain ⟨l, r, rfl, q⟩ := h
  unfold t_told_order
  unfold ordI at q
  walk_at "rd"
  refine ite_d (fun h => ?_) (fun h => ?_)
  · walk_at "rd"
    rw [if_pos h] at q
    exact q
  · walk_at "rd"
    rw [if_neg h] at q
    by_cases h2 : r < l
    · rw [if_pos h2] at q
      rw [decide_eq_true h2]; exact q
    · rw [if_neg h2] at q
      rw [decide_eq_false h2]; exact q
theorem c_told_order {l r : Int} (q : Q (.int (ordI l r)) H) : sp_told_order K Cof [.int l, .int r] H Q E := ⟨l, r, rfl, q⟩
end
local macro_rules | `(tactic| walk_at "call") => `(tactic| with_reducible refine c_told_order ?_)

/-! #### Ratio.__init__ -/
--USE RC
def sp_Ratio___init__ (K : PySem.W.Frag) (Cof : String → Addr) : Sp := fun vs H Q _ => ∃ (x dx : Addr) (t b : Int) (n : Nat), vs = [.ref x, .int t, .int b] ∧ H x = some (.ins (Cof "Ratio") dx []) ∧ b ≠ 0 ∧ (b.natAbs < 2 ^ n ∧ 0 < n ∧ n ≤ 9000) ∧ ∀ H', Exb x H H' → H' x = some (.ins (Cof "Ratio") dx (rF (rT t b) (rB t b))) → Q .non H'
def t_Ratio___init__ (K : PySem.W.Frag) (Cof : String → Addr) (E : XK) : TS :=
  tSeq (tIfS (tTest (tOp rEq (tVar 2) (tC (.int 0)))) (tNever) (tNext))
  (tSeq (tAsg (tCall (sp_shared K Cof) [] E0 (tCons (tLst (tCons (tVar 1) (tCons (tVar 2) (tNil)))) (tNil))) (gName 3))
  (tCut (tIfS (tTest (tOp rLt (tVar 2) (tC (.int 0)))) (tAsg (tUn rNeg (tVar 3)) (gName 3)) (tNext))
  (tSeq (sFld K (tVar 0) (tOp rDiv (tVar 1) (tVar 3)) "top")
  (sFld K (tVar 0) (tOp rDiv (tVar 2) (tVar 3)) "bottom"))))

section
variable {K : PySem.W.Frag} {Cof : String → Addr} {vs : List V} {H : Hp} {Q : VK} {E : XK}
theorem len_Ratio___init__ (h : sp_Ratio___init__ K Cof vs H Q E) : vs.length = 3 := by
  obtain ⟨x, dx, t, b, n, rfl, _⟩ := h; rfl
theorem rd_Ratio___init__ (X : ExT K Cof) (h : sp_Ratio___init__ K Cof vs H Q E) : t_Ratio___init__ K Cof E { nx := fun _ H' => Q .non H', rt := Q } (start ["self", "top", "bottom", "part"] vs) H := by
  obtain ⟨x, dx, t, b, n, rfl, hx, hb, ⟨bn, n0, n9⟩, q⟩ := h
  unfold t_Ratio___init__
  walk_at "rd"
  refine ite_d (fun h => absurd h hb) (fun _ => ?_)
  walk_at "rd"
  refine r_lstK fun p1 H1 hp1 e1 h1 => ?_
  walk_at "rd"
  refine c_shared (ns := [t, b]) (SqL.inj h1) ?_
  walk_at "rd"
  refine ⟨fun σ' H' => σ' = [some (.ref x), some (.int t), some (.int b), some (.int (rG t b))] ∧ H' = H1, ?_, fun σ' H' hM => ?_⟩
  · walk_at "rd"
    unfold rG
    refine ite_d (fun h => ?_) (fun h => ?_)
    · walk_at "rd"
      rw [if_pos h]
      exact ⟨rfl, rfl⟩
    · walk_at "rd"
      rw [if_neg h]
      exact ⟨rfl, rfl⟩
  obtain ⟨rfl, rfl⟩ := hM
  have hd : CDivA t (rG t b) := ⟨rG_ne hb, Nat.lt_of_lt_of_le (rG_log hb n0 bn) n9⟩
  walk_at "rd"
  refine r_div hd ?_
  walk_at "rd"
  refine ⟨x, Cof "Ratio", dx, [], rfl, e1 _ _ hx, X.cl_Ratio, X.n_Ratio_top, (by show 0 < 1000; decide), ?_⟩
  walk_at "rd"
  refine r_div hd ?_
  walk_at "rd"
  refine ⟨x, Cof "Ratio", dx, _, rfl, upd_same, X.cl_Ratio, X.n_Ratio_bottom, (by show 1 < 1000; decide), ?_⟩
  refine q _ (fun a n o h => ?_) ?_
  · rw [upd_ne n, upd_ne n]
    exact e1 _ _ h
  · rw [upd_same]
    rfl
end
theorem c_Ratio {K : PySem.W.Frag} {Cof : String → Addr} {H : Hp} {Q : VK} {E : XK} {t b : Int} (n : Nat) (hb : b ≠ 0) (bn : b.natAbs < 2 ^ n) (n0 : 0 < n) (n9 : n ≤ 9000) (q : RetR (Cof "Ratio") (rT t b) (rB t b) H Q) : MakeK (Cof "Ratio") (sp_Ratio___init__ K Cof) [] E Q [.int t, .int b] H := fun x dx hx hdx hne =>
  ⟨x, dx, t, b, n, rfl, upd_same, hb, ⟨bn, n0, n9⟩, fun H' e h => ⟨rfl, q x H' hx (fun a o ha => e a (ne_of_none ha hx) o (by
    rw [upd_ne (ne_of_none ha hx), upd_ne (ne_of_none ha hdx)]
    exact ha)) ⟨dx, h⟩⟩⟩
theorem c_Ratio1 {K : PySem.W.Frag} {Cof : String → Addr} {H : Hp} {Q : VK} {E : XK} {t : Int} (q : RetR (Cof "Ratio") (rT t 1) (rB t 1) H Q) : MakeK (Cof "Ratio") (sp_Ratio___init__ K Cof) [.int 1] E Q [.int t] H := fun x dx hx hdx hne =>
  ⟨x, dx, t, 1, 1, rfl, upd_same, by decide, ⟨by decide, by decide, by decide⟩, fun H' e h => ⟨rfl, q x H' hx (fun a o ha => e a (ne_of_none ha hx) o (by
    rw [upd_ne (ne_of_none ha hx), upd_ne (ne_of_none ha hdx)]
    exact ha)) ⟨dx, h⟩⟩⟩
/-- two fractions that a deed can take -/
structure RSz (n : Nat) (t b u v : Int) : Prop where
  st : t.natAbs < 2 ^ n
  sb : b.natAbs < 2 ^ n
  su : u.natAbs < 2 ^ n
  sv : v.natAbs < 2 ^ n
  n0 : 0 < n
  n9 : n ≤ 4400
  b0 : b ≠ 0
  v0 : v ≠ 0

--USE QR
section
variable {K : PySem.W.Frag} {Cof : String → Addr} {H : Hp} {Q : VK} {E : XK}
theorem c_RatioQ {t b : Int} {x : Rat} (n : Nat) (hb : b ≠ 0) (e : mq t b = x) (bn : b.natAbs < 2 ^ n) (n0 : 0 < n) (n9 : n ≤ 9000) (q : RetQ (Cof "Ratio") x H Q) : MakeK (Cof "Ratio") (sp_Ratio___init__ K Cof) [] E Q [.int t, .int b] H :=
  c_Ratio n hb bn n0 n9 (q.toR hb e)
theorem mq_one (t : Int) : mq t 1 = (t : Rat) := mq_of (by decide) (by
  have : ((1 : Int) : Rat) = 1 := rfl
  rw [this]; grind)
theorem c_Ratio1Q {t : Int} (q : RetQ (Cof "Ratio") (t : Rat) H Q) : MakeK (Cof "Ratio") (sp_Ratio___init__ K Cof) [.int 1] E Q [.int t] H :=
  c_Ratio1 (q.toR (by decide) (mq_one t))
end

/-! #### Ratio.plus -/
def sp_Ratio_plus (K : PySem.W.Frag) (Cof : String → Addr) : Sp := fun vs H Q _ => ∃ (a c : Addr) (t b u v : Int) (n : Nat), vs = [.ref a, .ref c] ∧ IsR (Cof "Ratio") H a t b ∧ IsR (Cof "Ratio") H c u v ∧ RSz n t b u v ∧ RetR (Cof "Ratio") (rT (t * v + u * b) (b * v)) (rB (t * v + u * b) (b * v)) H Q
def t_Ratio_plus (K : PySem.W.Frag) (Cof : String → Addr) (E : XK) : TS :=
  tRet (tMake (Cof "Ratio") (sp_Ratio___init__ K Cof) [] E0 (tCons (tOp rIAdd (tOp rMul (tFld K (tVar 0) "top") (tFld K (tVar 1) "bottom")) (tOp rMul (tFld K (tVar 1) "top") (tFld K (tVar 0) "bottom"))) (tCons (tOp rMul (tFld K (tVar 0) "bottom") (tFld K (tVar 1) "bottom")) (tNil))))

section
variable {K : PySem.W.Frag} {Cof : String → Addr} {vs : List V} {H : Hp} {Q : VK} {E : XK}
theorem len_Ratio_plus (h : sp_Ratio_plus K Cof vs H Q E) : vs.length = 2 := by
  obtain ⟨a, c, t, b, u, v, n, rfl, _⟩ := h; rfl
theorem rd_Ratio_plus (X : ExT K Cof) (h : sp_Ratio_plus K Cof vs H Q E) : t_Ratio_plus K Cof E { nx := fun _ H' => Q .non H', rt := Q } (start ["self", "other"] vs) H := by
  obtain ⟨a, c, t, b, u, v, n, rfl, hA, hC, s, q⟩ := h
  have cl := X.cl_Ratio
  have nt := X.n_Ratio_top
  have nb := X.n_Ratio_bottom
  have n0 := s.n0
  have n9 := s.n9
  unfold t_Ratio_plus
  walk_at "rd"
  refine r_mul (wide_mul s.st s.sv n0 n0 (by omega)) ?_
  walk_at "rd"
  refine r_mul (wide_mul s.su s.sb n0 n0 (by omega)) ?_
  walk_at "rd"
  refine r_mul (wide_mul s.sb s.sv n0 n0 (by omega)) ?_
  walk_at "rd"
  exact c_Ratio (n + n) (Int.mul_ne_zero s.b0 s.v0) (wide_lt s.sb s.sv) (by omega) (by omega) q
theorem c_Ratio_plus {a c : Addr} {t b u v : Int} (n : Nat) (hA : IsR (Cof "Ratio") H a t b) (hC : IsR (Cof "Ratio") H c u v) (s : RSz n t b u v) (q : RetR (Cof "Ratio") (rT (t * v + u * b) (b * v)) (rB (t * v + u * b) (b * v)) H Q) : sp_Ratio_plus K Cof [.ref a, .ref c] H Q E := ⟨a, c, t, b, u, v, n, rfl, hA, hC, s, q⟩
end

--USE QR
section
variable {K : PySem.W.Frag} {Cof : String → Addr} {vs : List V} {H : Hp} {Q : VK} {E : XK}
theorem _root_.RB.Qz.sz2p {n : Nat} {x y : Rat} (hx : Qz n x) (hy : Qz n y) (n0 : 0 < n) (n9 : n ≤ 4400) : RSz n x.num (x.den : Int) y.num (y.den : Int) :=
  ⟨hx.1, hx.den', hy.1, hy.den', n0, n9, by have := q_pos x; omega, by have := q_pos y; omega⟩
theorem c_Ratio_plusQ {a c : Addr} {x y : Rat} (n : Nat) (hA : IsQ (Cof "Ratio") H a x) (hC : IsQ (Cof "Ratio") H c y) (sx : Qz n x) (sy : Qz n y) (q : RetQ (Cof "Ratio") (x + y) H Q) (n0 : 0 < n := by omega) (n9 : n ≤ 4400 := by omega) : sp_Ratio_plus K Cof [.ref a, .ref c] H Q E :=
  c_Ratio_plus n hA hC (sx.sz2p sy n0 n9) (q.toR (den_ne x y) (mq_of (den_ne x y) (by
    have e1 := q_den x
    have e2 := q_den y
    rw [Rat.intCast_add, Rat.intCast_mul, Rat.intCast_mul, Rat.intCast_mul, ← e1, ← e2]; grind)))
end

/-! #### Ratio.minus -/
def sp_Ratio_minus (K : PySem.W.Frag) (Cof : String → Addr) : Sp := fun vs H Q _ => ∃ (a c : Addr) (t b u v : Int) (n : Nat), vs = [.ref a, .ref c] ∧ IsR (Cof "Ratio") H a t b ∧ IsR (Cof "Ratio") H c u v ∧ RSz n t b u v ∧ RetR (Cof "Ratio") (rT (t * v - u * b) (b * v)) (rB (t * v - u * b) (b * v)) H Q
def t_Ratio_minus (K : PySem.W.Frag) (Cof : String → Addr) (E : XK) : TS :=
  tRet (tMake (Cof "Ratio") (sp_Ratio___init__ K Cof) [] E0 (tCons (tOp rISub (tOp rMul (tFld K (tVar 0) "top") (tFld K (tVar 1) "bottom")) (tOp rMul (tFld K (tVar 1) "top") (tFld K (tVar 0) "bottom"))) (tCons (tOp rMul (tFld K (tVar 0) "bottom") (tFld K (tVar 1) "bottom")) (tNil))))

section
variable {K : PySem.W.Frag} {Cof : String → Addr} {vs : List V} {H : Hp} {Q : VK} {E : XK}
theorem len_Ratio_minus (h : sp_Ratio_minus K Cof vs H Q E) : vs.length = 2 := by
  obtain ⟨a, c, t, b, u, v, n, rfl, _⟩ := h; rfl
theorem rd_Ratio_minus (X : ExT K Cof) (h : sp_Ratio_minus K Cof vs H Q E) : t_Ratio_minus K Cof E { nx := fun _ H' => Q .non H', rt := Q } (start ["self", "other"] vs) H := by
  obtain ⟨a, c, t, b, u, v, n, rfl, hA, hC, s, q⟩ := h
  have cl := X.cl_Ratio
  have nt := X.n_Ratio_top
  have nb := X.n_Ratio_bottom
  have n0 := s.n0
  have n9 := s.n9
  unfold t_Ratio_minus
  walk_at "rd"
  refine r_mul (wide_mul s.st s.sv n0 n0 (by omega)) ?_
  walk_at "rd"
  refine r_mul (wide_mul s.su s.sb n0 n0 (by omega)) ?_
  walk_at "rd"
  refine r_mul (wide_mul s.sb s.sv n0 n0 (by omega)) ?_
  walk_at "rd"
  exact c_Ratio (n + n) (Int.mul_ne_zero s.b0 s.v0) (wide_lt s.sb s.sv) (by omega) (by omega) q
theorem c_Ratio_minus {a c : Addr} {t b u v : Int} (n : Nat) (hA : IsR (Cof "Ratio") H a t b) (hC : IsR (Cof "Ratio") H c u v) (s : RSz n t b u v) (q : RetR (Cof "Ratio") (rT (t * v - u * b) (b * v)) (rB (t * v - u * b) (b * v)) H Q) : sp_Ratio_minus K Cof [.ref a, .ref c] H Q E := ⟨a, c, t, b, u, v, n, rfl, hA, hC, s, q⟩
end

--USE QR
section
variable {K : PySem.W.Frag} {Cof : String → Addr} {vs : List V} {H : Hp} {Q : VK} {E : XK}
theorem _root_.RB.Qz.sz2m {n : Nat} {x y : Rat} (hx : Qz n x) (hy : Qz n y) (n0 : 0 < n) (n9 : n ≤ 4400) : RSz n x.num (x.den : Int) y.num (y.den : Int) :=
  ⟨hx.1, hx.den', hy.1, hy.den', n0, n9, by have := q_pos x; omega, by have := q_pos y; omega⟩
theorem c_Ratio_minusQ {a c : Addr} {x y : Rat} (n : Nat) (hA : IsQ (Cof "Ratio") H a x) (hC : IsQ (Cof "Ratio") H c y) (sx : Qz n x) (sy : Qz n y) (q : RetQ (Cof "Ratio") (x - y) H Q) (n0 : 0 < n := by omega) (n9 : n ≤ 4400 := by omega) : sp_Ratio_minus K Cof [.ref a, .ref c] H Q E :=
  c_Ratio_minus n hA hC (sx.sz2m sy n0 n9) (q.toR (den_ne x y) (mq_of (den_ne x y) (by
    have e1 := q_den x
    have e2 := q_den y
    rw [Rat.intCast_sub, Rat.intCast_mul, Rat.intCast_mul, Rat.intCast_mul, ← e1, ← e2]; grind)))
end

/-! #### Ratio.over -/
--USE MF
def sp_Ratio_over (K : PySem.W.Frag) (Cof : String → Addr) : Sp := fun vs H Q _ => ∃ (a c : Addr) (t b u v : Int) (n : Nat), vs = [.ref a, .ref c] ∧ IsR (Cof "Ratio") H a t b ∧ IsR (Cof "Ratio") H c u v ∧ RSz n t b u v ∧ u ≠ 0 ∧ RetR (Cof "Ratio") (rT (t * v) (b * u)) (rB (t * v) (b * u)) H Q
def t_Ratio_over (K : PySem.W.Frag) (Cof : String → Addr) (E : XK) : TS :=
  tSeq (tIfS (tTest (tOp rEq (tFld K (tVar 1) "top") (tC (.int 0)))) (tNever) (tNext))
  (tRet (tMake (Cof "Ratio") (sp_Ratio___init__ K Cof) [] E0 (tCons (tOp rMul (tFld K (tVar 0) "top") (tFld K (tVar 1) "bottom")) (tCons (tOp rMul (tFld K (tVar 0) "bottom") (tFld K (tVar 1) "top")) (tNil)))))

section
variable {K : PySem.W.Frag} {Cof : String → Addr} {vs : List V} {H : Hp} {Q : VK} {E : XK}
theorem len_Ratio_over (h : sp_Ratio_over K Cof vs H Q E) : vs.length = 2 := by
  obtain ⟨a, c, t, b, u, v, n, rfl, _⟩ := h; rfl
theorem rd_Ratio_over (X : ExT K Cof) (h : sp_Ratio_over K Cof vs H Q E) : t_Ratio_over K Cof E { nx := fun _ H' => Q .non H', rt := Q } (start ["self", "other"] vs) H := by
  obtain ⟨a, c, t, b, u, v, n, rfl, hA, hC, s, u0, q⟩ := h
  have cl := X.cl_Ratio
  have nt := X.n_Ratio_top
  have nb := X.n_Ratio_bottom
  have n0 := s.n0
  have n9 := s.n9
  unfold t_Ratio_over
  walk_at "rd"
  refine ite_d (fun h => absurd h u0) (fun _ => ?_)
  walk_at "rd"
  refine r_mul (wide_mul s.st s.sv n0 n0 (by omega)) ?_
  walk_at "rd"
  refine r_mul (wide_mul s.sb s.su n0 n0 (by omega)) ?_
  walk_at "rd"
  exact c_Ratio (n + n) (Int.mul_ne_zero s.b0 u0) (wide_lt s.sb s.su) (by omega) (by omega) q
theorem c_Ratio_over {a c : Addr} {t b u v : Int} (n : Nat) (hA : IsR (Cof "Ratio") H a t b) (hC : IsR (Cof "Ratio") H c u v) (s : RSz n t b u v) (u0 : u ≠ 0) (q : RetR (Cof "Ratio") (rT (t * v) (b * u)) (rB (t * v) (b * u)) H Q) : sp_Ratio_over K Cof [.ref a, .ref c] H Q E := ⟨a, c, t, b, u, v, n, rfl, hA, hC, s, u0, q⟩
end

--USE QR
section
variable {K : PySem.W.Frag} {Cof : String → Addr} {vs : List V} {H : Hp} {Q : VK} {E : XK}
theorem _root_.RB.Qz.sz2o {n : Nat} {x y : Rat} (hx : Qz n x) (hy : Qz n y) (n0 : 0 < n) (n9 : n ≤ 4400) : RSz n x.num (x.den : Int) y.num (y.den : Int) :=
  ⟨hx.1, hx.den', hy.1, hy.den', n0, n9, by have := q_pos x; omega, by have := q_pos y; omega⟩
theorem c_Ratio_overQ {a c : Addr} {x y : Rat} (n : Nat) (hA : IsQ (Cof "Ratio") H a x) (hC : IsQ (Cof "Ratio") H c y) (sx : Qz n x) (sy : Qz n y) (hy0 : y ≠ 0) (q : RetQ (Cof "Ratio") (x / y) H Q) (n0 : 0 < n := by omega) (n9 : n ≤ 4400 := by omega) : sp_Ratio_over K Cof [.ref a, .ref c] H Q E :=
  have hn : y.num ≠ 0 := fun z => hy0 (by
    have e := q_den y
    rw [z] at e
    have hd := cast_ne (show (y.den : Int) ≠ 0 by have := q_pos y; omega)
    rcases Rat.mul_eq_zero.mp (show y * ((y.den : Int) : Rat) = 0 from e) with h | h
    · exact h
    · exact absurd h hd)
  have hd : (x.den : Int) * y.num ≠ 0 := Int.mul_ne_zero (by have := q_pos x; omega) hn
  c_Ratio_over n hA hC (sx.sz2o sy n0 n9) hn (q.toR hd (mq_of (hd) (by
    have e1 := q_den x
    have e2 := q_den y
    rw [Rat.intCast_mul, Rat.intCast_mul, ← e1, ← e2]; grind)))
end

/-! #### Ratio.against -/
--USE MF
def sp_Ratio_against (K : PySem.W.Frag) (Cof : String → Addr) : Sp := fun vs H Q _ => ∃ (a c : Addr) (t b u v : Int) (n : Nat), vs = [.ref a, .ref c] ∧ IsR (Cof "Ratio") H a t b ∧ IsR (Cof "Ratio") H c u v ∧ RSz n t b u v ∧ Q (.int (ordI (t * v) (u * b))) H
def t_Ratio_against (K : PySem.W.Frag) (Cof : String → Addr) (E : XK) : TS :=
  tRet (tCall (sp_told_order K Cof) [] E0 (tCons (tOp rMul (tFld K (tVar 0) "top") (tFld K (tVar 1) "bottom")) (tCons (tOp rMul (tFld K (tVar 1) "top") (tFld K (tVar 0) "bottom")) (tNil))))

section
variable {K : PySem.W.Frag} {Cof : String → Addr} {vs : List V} {H : Hp} {Q : VK} {E : XK}
theorem len_Ratio_against (h : sp_Ratio_against K Cof vs H Q E) : vs.length = 2 := by
  obtain ⟨a, c, t, b, u, v, n, rfl, _⟩ := h; rfl
theorem rd_Ratio_against (X : ExT K Cof) (h : sp_Ratio_against K Cof vs H Q E) : t_Ratio_against K Cof E { nx := fun _ H' => Q .non H', rt := Q } (start ["self", "other"] vs) H := by
  obtain ⟨a, c, t, b, u, v, n, rfl, hA, hC, s, q⟩ := h
  have cl := X.cl_Ratio
  have nt := X.n_Ratio_top
  have nb := X.n_Ratio_bottom
  have n0 := s.n0
  have n9 := s.n9
  unfold t_Ratio_against
  walk_at "rd"
  refine r_mul (wide_mul s.st s.sv n0 n0 (by omega)) ?_
  walk_at "rd"
  refine r_mul (wide_mul s.su s.sb n0 n0 (by omega)) ?_
  walk_at "rd"
  exact q
theorem c_Ratio_against {a c : Addr} {t b u v : Int} (n : Nat) (hA : IsR (Cof "Ratio") H a t b) (hC : IsR (Cof "Ratio") H c u v) (s : RSz n t b u v) (q : Q (.int (ordI (t * v) (u * b))) H) : sp_Ratio_against K Cof [.ref a, .ref c] H Q E := ⟨a, c, t, b, u, v, n, rfl, hA, hC, s, q⟩
end

--USE QR
section
variable {K : PySem.W.Frag} {Cof : String → Addr} {vs : List V} {H : Hp} {Q : VK} {E : XK}
theorem _root_.RB.Qz.sz2a {n : Nat} {x y : Rat} (hx : Qz n x) (hy : Qz n y) (n0 : 0 < n) (n9 : n ≤ 4400) : RSz n x.num (x.den : Int) y.num (y.den : Int) :=
  ⟨hx.1, hx.den', hy.1, hy.den', n0, n9, by have := q_pos x; omega, by have := q_pos y; omega⟩
theorem c_Ratio_againstQ {a c : Addr} {x y : Rat} (n : Nat) (hA : IsQ (Cof "Ratio") H a x) (hC : IsQ (Cof "Ratio") H c y) (sx : Qz n x) (sy : Qz n y) (q : Q (.int (ST.sgR (x - y))) H) (n0 : 0 < n := by omega) (n9 : n ≤ 4400 := by omega) : sp_Ratio_against K Cof [.ref a, .ref c] H Q E :=
  c_Ratio_against n hA hC (sx.sz2a sy n0 n9) (by rw [ordI_qq]; exact q)
end

/-! #### top_at -/
--USE MH
/-- sizes that a value at a fraction can take -/
def sp_top_at (K : PySem.W.Frag) (Cof : String → Addr) : Sp := fun vs H Q _ => ∃ (a r : Addr) (P : List Int) (t b : Int) (n m : Nat), vs = [.ref a, .ref r] ∧ SqL K H a (P.map V.int) ∧ IsR (Cof "Ratio") H r t b ∧ HSz n m P t b ∧ Q (.int (MH.topL P t b)) H
def t_top_at (K : PySem.W.Frag) (Cof : String → Addr) (E : XK) : TS :=
  tSeq (tAsg (tC (.int 0)) (gName 2))
  (tSeq (tAsg (tC (.int 1)) (gName 3))
  (tSeq (tFor (iRev K (tCons (tVar 0) (tNil))) (gName 4) (tSeq (tAsg (tOp rIAdd (tOp rMul (tVar 2) (tFld K (tVar 1) "top")) (tOp rMul (tVar 4) (tVar 3))) (gName 2))
  (tAsg (tOp rMul (tVar 3) (tFld K (tVar 1) "bottom")) (gName 3))))
  (tRet (tVar 2))))

section
variable {K : PySem.W.Frag} {Cof : String → Addr} {vs : List V} {H : Hp} {Q : VK} {E : XK}
theorem len_top_at (h : sp_top_at K Cof vs H Q E) : vs.length = 2 := by
  obtain ⟨a, r, P, t, b, n, m, rfl, _⟩ := h; rfl
theorem rd_top_at (X : ExT K Cof) (h : sp_top_at K Cof vs H Q E) : t_top_at K Cof E { nx := fun _ H' => Q .non H', rt := Q } (start ["P", "r", "total", "scale", "one"] vs) H := by
  obtain ⟨a, r, P, t, b, n, m, rfl, hA, hR, s, q⟩ := h
  have cl := X.cl_Ratio
  have nt := X.n_Ratio_top
  have nb := X.n_Ratio_bottom
  have n0 := s.n0
  have m0 := s.m0
  have le := s.le
  have e1 : (m + 1) * (P.length + 1) = m * P.length + P.length + m + 1 := by rw [Nat.mul_add, Nat.add_mul]; omega
  have e2 : (m + 1) * P.length = m * P.length + P.length := by rw [Nat.add_mul, Nat.one_mul]
  unfold t_top_at
  walk_at "rd"
  refine loop_rev (xs := P.map V.int) (fun i σ' H' => ∃ u, σ' = [some (.ref a), some (.ref r), some (.int (MH.hs t b (P.drop (P.length - i))).1), some (.int (MH.hs t b (P.drop (P.length - i))).2), u] ∧ H' = H) ⟨none, by rw [Nat.sub_zero, List.drop_length]; rfl, rfl⟩ (fun i σ' H' _ hp => ?_) (fun i x σ' H' hx hi hp => ?_) (fun σ' H' hp => ?_)
  · obtain ⟨u, rfl, rfl⟩ := hp
    exact hA
  · obtain ⟨u, rfl, rfl⟩ := hp
    rw [List.length_map] at hx hi
    rw [List.getElem?_map] at hx
    obtain ⟨c, hc, rfl⟩ := Option.map_eq_some_iff.mp hx
    have hd := MH.hs_drop (t := t) (b := b) hc
    have e3 : P.length - 1 - i + 1 = P.length - i := by omega
    have e4 : P.length - (i + 1) = P.length - 1 - i := by omega
    rw [e3] at hd
    obtain ⟨s1, s2⟩ := s.steps (P.length - i)
    have sc := s.sP c (List.mem_of_getElem? hc)
    rw [e4, hd]
    generalize (MH.hs t b (P.drop (P.length - i))).1 = tot at s1 ⊢
    generalize (MH.hs t b (P.drop (P.length - i))).2 = sca at s2 ⊢
    walk_at "rd"
    refine r_mul (wide_mul s1 s.st (by omega) m0 (by omega)) ?_
    walk_at "rd"
    refine r_mul (wide_mul sc s2 n0 (by omega) (by omega)) ?_
    walk_at "rd"
    refine r_mul (wide_mul s2 s.sb (by omega) m0 (by omega)) ?_
    walk_at "rd"
    exact ⟨_, rfl, rfl⟩
  · obtain ⟨u, rfl, rfl⟩ := hp
    rw [List.length_map, Nat.sub_self, List.drop_zero]
    walk_at "rd"
    exact q
theorem c_top_at {a r : Addr} {P : List Int} {t b : Int} (n m : Nat) (hA : SqL K H a (P.map V.int)) (hR : IsR (Cof "Ratio") H r t b) (s : HSz n m P t b) (q : Q (.int (MH.topL P t b)) H) : sp_top_at K Cof [.ref a, .ref r] H Q E := ⟨a, r, P, t, b, n, m, rfl, hA, hR, s, q⟩
end

/-! #### sign_at -/
def sp_sign_at (K : PySem.W.Frag) (Cof : String → Addr) : Sp := fun vs H Q _ => ∃ (a r : Addr) (P : List Int) (t b : Int) (n m : Nat), vs = [.ref a, .ref r] ∧ SqL K H a (P.map V.int) ∧ IsR (Cof "Ratio") H r t b ∧ HSz n m P t b ∧ Q (.int (ordI (MH.topL P t b) 0)) H
def t_sign_at (K : PySem.W.Frag) (Cof : String → Addr) (E : XK) : TS :=
  tRet (tCall (sp_told_order K Cof) [] E0 (tCons (tCall (sp_top_at K Cof) [] E0 (tCons (tVar 0) (tCons (tVar 1) (tNil)))) (tCons (tC (.int 0)) (tNil))))

section
variable {K : PySem.W.Frag} {Cof : String → Addr} {vs : List V} {H : Hp} {Q : VK} {E : XK}
theorem len_sign_at (h : sp_sign_at K Cof vs H Q E) : vs.length = 2 := by
  obtain ⟨a, r, P, t, b, n, m, rfl, _⟩ := h; rfl
theorem rd_sign_at (h : sp_sign_at K Cof vs H Q E) : t_sign_at K Cof E { nx := fun _ H' => Q .non H', rt := Q } (start ["P", "r"] vs) H := by
  obtain ⟨a, r, P, t, b, n, m, rfl, hA, hR, s, q⟩ := h
  unfold t_sign_at
  walk_at "rd"
  refine c_top_at n m hA hR s ?_
  walk_at "rd"
  exact q
theorem c_sign_at {a r : Addr} {P : List Int} {t b : Int} (n m : Nat) (hA : SqL K H a (P.map V.int)) (hR : IsR (Cof "Ratio") H r t b) (s : HSz n m P t b) (q : Q (.int (ordI (MH.topL P t b) 0)) H) : sp_sign_at K Cof [.ref a, .ref r] H Q E := ⟨a, r, P, t, b, n, m, rfl, hA, hR, s, q⟩
end

--USE QR
section
variable {K : PySem.W.Frag} {Cof : String → Addr} {H : Hp} {Q : VK} {E : XK}
theorem c_sign_atQ {a r : Addr} {P : List Int} {x : Rat} (n m : Nat) (hA : SqL K H a (P.map V.int)) (hR : IsQ (Cof "Ratio") H r x) (sP : ML.Sz n P) (sx : Qz m x) (q : Q (.int (ST.sgR (ST.ev P x))) H) (n0 : 0 < n := by omega) (m0 : 0 < m := by omega) (le : n + (m + 1) * (P.length + 1) ≤ 900000 := by omega) : sp_sign_at K Cof [.ref a, .ref r] H Q E :=
  c_sign_at n m hA hR ⟨sP, sx.1, sx.den', n0, m0, le⟩ (by rw [sign_q]; exact q)
end

/-! #### halfway -/
--USE QR
def sp_halfway (K : PySem.W.Frag) (Cof : String → Addr) : Sp := fun vs H Q _ => ∃ (a c : Addr) (x y : Rat) (n : Nat), vs = [.ref a, .ref c] ∧ IsQ (Cof "Ratio") H a x ∧ IsQ (Cof "Ratio") H c y ∧ Qz n x ∧ Qz n y ∧ (0 < n ∧ n ≤ 2000) ∧ RetQ (Cof "Ratio") ((x + y) / 2) H Q
def t_halfway (K : PySem.W.Frag) (Cof : String → Addr) (E : XK) : TS :=
  tRet (tMeth (Cof "Ratio") "over" (sp_Ratio_over K Cof) [] E0 (tMeth (Cof "Ratio") "plus" (sp_Ratio_plus K Cof) [] E0 (tVar 0) (tCons (tVar 1) (tNil))) (tCons (tMake (Cof "Ratio") (sp_Ratio___init__ K Cof) [.int 1] E0 (tCons (tC (.int 2)) (tNil))) (tNil)))

section
variable {K : PySem.W.Frag} {Cof : String → Addr} {vs : List V} {H : Hp} {Q : VK} {E : XK}
theorem len_halfway (h : sp_halfway K Cof vs H Q E) : vs.length = 2 := by
  obtain ⟨a, c, x, y, n, rfl, _⟩ := h; rfl
theorem _root_.RB.Qz.add {n : Nat} {x y : Rat} (hx : Qz n x) (hy : Qz n y) : Qz (n + n + 1) (x + y) := by
  refine Qz.of (t := x.num * (y.den : Int) + y.num * (x.den : Int)) (den_ne x y) ?_ ?_ ?_
  · have e1 := q_den x
    have e2 := q_den y
    rw [Rat.intCast_add, Rat.intCast_mul, Rat.intCast_mul, Rat.intCast_mul, ← e1, ← e2]; grind
  · have a1 := wide_lt hx.1 hy.den'
    have a2 := wide_lt hy.1 hx.den'
    rw [Nat.pow_succ]
    generalize (2 : Nat) ^ (n + n) = t at a1 a2
    omega
  · exact Nat.lt_of_lt_of_le (wide_lt hx.den' hy.den') (Nat.pow_le_pow_right (by decide) (by omega))
theorem rd_halfway (h : sp_halfway K Cof vs H Q E) : t_halfway K Cof E { nx := fun _ H' => Q .non H', rt := Q } (start ["low", "high"] vs) H := by
  obtain ⟨a, c, x, y, n, rfl, hA, hB, sx, sy, ⟨n0, n9⟩, q⟩ := h
  unfold t_halfway
  walk_at "rd"
  refine c_Ratio_plusQ n hA hB sx sy fun p1 H1 hp1 e1 h1 => ?_
  walk_at "rd"
  refine c_Ratio1Q fun p2 H2 hp2 e2 h2 => ?_
  walk_at "rd"
  refine c_Ratio_overQ (n + n + 1) (h1.ex e2) h2 (sx.add sy) ⟨?_, ?_⟩ (by decide) fun p3 H3 hp3 e3 h3 => ?_
  · have : 2 ^ 1 < 2 ^ (n + n + 1) := Nat.pow_lt_pow_right (by decide) (by omega)
    exact this
  · exact Nat.one_lt_two_pow (by omega)
  exact q p3 H3 (Evl.fresh_back (e1.trans e2) hp3) ((e1.trans e2).trans e3) h3
theorem c_halfway {a c : Addr} {x y : Rat} (n : Nat) (hA : IsQ (Cof "Ratio") H a x) (hB : IsQ (Cof "Ratio") H c y) (sx : Qz n x) (sy : Qz n y) (q : RetQ (Cof "Ratio") ((x + y) / 2) H Q) (n0 : 0 < n := by omega) (n9 : n ≤ 2000 := by omega) : sp_halfway K Cof [.ref a, .ref c] H Q E := ⟨a, c, x, y, n, rfl, hA, hB, sx, sy, ⟨n0, n9⟩, q⟩
end

/-! #### narrowed -/
--USE QR QN
/-- the sign of P along a span, told by a spot in it -/
structure Alg (P : List Int) (s : Rat → Int) (c : Int) (x y : Rat) : Prop where
  sp : ST.Spot s
  hc : c = 1 ∨ c = -1
  sg : ∀ z, x < z → z ≤ y → ST.sgR (ST.ev P z) = c * s z
  ye : s y ≤ 0
  xy : x < y
def sp_narrowed (K : PySem.W.Frag) (Cof : String → Addr) : Sp := fun vs H Q _ => ∃ (l lo hi w : Addr) (P : List Int) (x y wd : Rat) (s : Rat → Int) (c : Int) (n k N : Nat), vs = [.ref l, .ref lo, .ref hi, .ref w] ∧ SqL K H l (P.map V.int) ∧ IsQ (Cof "Ratio") H lo x ∧ IsQ (Cof "Ratio") H hi y ∧ IsQ (Cof "Ratio") H w wd ∧ Alg P s c x y ∧ Qz n x ∧ Qz n y ∧ Qz n wd ∧ y - x ≤ wd * ((2 ^ k : Int) : Rat) ∧ ML.Sz N P ∧ (0 < n ∧ 3 * n + k ≤ 1000 ∧ 0 < N ∧ N + (3 * n + k + 1) * (P.length + 1) ≤ 900000) ∧
  ∀ (tp a b : Addr) (H' : Hp), H tp = none → Ex H H' → H' tp = some (.tup [.ref a, .ref b]) → IsQ (Cof "Ratio") H' a (ST.nar s wd k x y).1 → IsQ (Cof "Ratio") H' b (ST.nar s wd k x y).2 → Q (.ref tp) H'
def t_narrowed (K : PySem.W.Frag) (Cof : String → Addr) (E : XK) : TS :=
  tSeq (tAsg (tCall (sp_sign_at K Cof) [] E0 (tCons (tVar 0) (tCons (tVar 2) (tNil)))) (gName 4))
  (tSeq (tWhile (tTest (tOp rGt (tMeth (Cof "Ratio") "against" (sp_Ratio_against K Cof) [] E0 (tMeth (Cof "Ratio") "minus" (sp_Ratio_minus K Cof) [] E0 (tVar 2) (tCons (tVar 1) (tNil))) (tCons (tVar 3) (tNil))) (tC (.int 0)))) (tSeq (tAsg (tCall (sp_halfway K Cof) [] E0 (tCons (tVar 1) (tCons (tVar 2) (tNil)))) (gName 5))
  (tSeq (tAsg (tCall (sp_sign_at K Cof) [] E0 (tCons (tVar 0) (tCons (tVar 5) (tNil)))) (gName 6))
  (tIfS (tAnd (tTest (tOp rNe (tVar 4) (tC (.int 0)))) (tTest (tOp rNe (tVar 6) (tOp rISub (tC (.int 0)) (tVar 4))))) (tSeq (tAsg (tVar 5) (gName 2))
  (tAsg (tVar 6) (gName 4))) (tAsg (tVar 5) (gName 1))))))
  (tRet (tTup (tCons (tVar 1) (tCons (tVar 2) (tNil))))))

section
variable {K : PySem.W.Frag} {Cof : String → Addr} {vs : List V} {H : Hp} {Q : VK} {E : XK}
theorem len_narrowed (h : sp_narrowed K Cof vs H Q E) : vs.length = 4 := by
  obtain ⟨l, lo, hi, w, P, x, y, wd, s, c, n, k, N, rfl, _⟩ := h; rfl
theorem sg_gt0 {z : Rat} : ST.sgR z > 0 ↔ 0 < z := by
  rcases ST.sgR_cases z with ⟨a, e⟩ | ⟨a, e⟩ | ⟨a, e⟩ <;> rw [e] <;> constructor <;> intro h <;> first | grind | omega
theorem two_cast (k : Nat) : ((2 ^ (k + 1) : Int) : Rat) = 2 * ((2 ^ k : Int) : Rat) := by
  rw [Int.pow_succ, Rat.intCast_mul]
  have : ((2 : Int) : Rat) = 2 := rfl
  rw [this]; grind
theorem rd_narrowed (X : ExT K Cof) (h : sp_narrowed K Cof vs H Q E) : t_narrowed K Cof E { nx := fun _ H' => Q .non H', rt := Q } (start ["P", "low", "high", "width", "last", "middle", "here"] vs) H := by
  obtain ⟨l, lo, hi, w, P, x, y, wd, s, c, n, k, N, rfl, hl, hlo, hhi, hw, al, sx, sy, sw, hk, sP, ⟨n0, nk, N0, le⟩, q⟩ := h
  have hsp := al.sp
  have hc := al.hc
  have D0 : (0 : Int) < (x.den : Int) * (y.den : Int) := Int.mul_pos (q_pos x) (q_pos y)
  have Dn : ((x.den : Int) * (y.den : Int)).natAbs < 2 ^ (n + n) := wide_lt sx.den' sy.den'
  have ix := ST.abs_q sx
  have iy := ST.abs_q sy
  obtain ⟨g1, g2⟩ := ST.grd_of x y
  generalize (x.den : Int) * (y.den : Int) = D at *
  have szs : ∀ {z : Rat} {j : Nat}, ST.Grd D j z → x ≤ z → z ≤ y → j ≤ k → Qz (3 * n + k) z := fun {z j} hg h1 h2 hj => by
    have : ST.In ((2 ^ n : Int) : Rat) z := by unfold ST.In at *; grind
    exact (hg.sz D0 Dn this).mono (by omega)
  have xy := al.xy
  unfold t_narrowed
  walk_at "rd"
  refine c_sign_atQ (P := P) N (3 * n + k) hl hhi sP (sy.mono (by omega)) ?_
  rw [al.sg y (by grind) (by grind)]
  walk_at "rd"
  refine r_while (fun z σ' H' => ∃ (a b : Addr) (x' y' : Rat) (u5 u6 : Option V), σ' = [some (.ref l), some (.ref a), some (.ref b), some (.ref w), some (.int (c * s y')), u5, u6] ∧ Ex H H' ∧ IsQ (Cof "Ratio") H' a x' ∧ IsQ (Cof "Ratio") H' b y' ∧ x ≤ x' ∧ x' < y' ∧ y' ≤ y ∧ s y' ≤ 0 ∧ z ≤ k ∧ ST.Grd D (k - z) x' ∧ ST.Grd D (k - z) y' ∧ y' - x' ≤ wd * ((2 ^ z : Int) : Rat) ∧ ST.nar s wd k x y = ST.nar s wd z x' y') k ⟨lo, hi, x, y, none, none, rfl, Evl.Ex.refl _, hlo, hhi, by grind, xy, by grind, al.ye, Nat.le_refl _, by rw [Nat.sub_self]; exact g1, by rw [Nat.sub_self]; exact g2, hk, rfl⟩ (fun z σ' H' hw' => ?_)
  obtain ⟨a, b, x', y', u5, u6, rfl, e1, ha, hb, i1, i2, i3, i4, zk, gx, gy, wz, en⟩ := hw'
  have sx' := szs gx i1 (by grind) (by omega)
  have sy' := szs gy (by grind) i3 (by omega)
  walk_at "rd"
  refine c_Ratio_minusQ (3 * n + k) hb ha sy' sx' fun p1 H1 hp1 e2 h1 => ?_
  have sd : Qz (3 * n + k + (3 * n + k) + 1) (y' - x') := by
    refine Qz.of (t := y'.num * (x'.den : Int) - x'.num * (y'.den : Int)) (den_ne y' x') ?_ ?_ ?_
    · have e1 := q_den x'
      have e2 := q_den y'
      rw [Rat.intCast_sub, Rat.intCast_mul, Rat.intCast_mul, Rat.intCast_mul, ← e1, ← e2]; grind
    · have a1 := wide_lt sy'.1 sx'.den'
      have a2 := wide_lt sx'.1 sy'.den'
      rw [Nat.pow_succ]
      generalize (2 : Nat) ^ (3 * n + k + (3 * n + k)) = t at a1 a2
      omega
    · exact Nat.lt_of_lt_of_le (wide_lt sy'.den' sx'.den') (Nat.pow_le_pow_right (by decide) (by omega))
  walk_at "rd"
  refine c_Ratio_againstQ (3 * n + k + (3 * n + k) + 1) h1 (hw.ex (e1.trans e2)) sd (sw.mono (by omega)) ?_
  walk_at "rd"
  have ha2 := ha.ex e2
  have hb2 := hb.ex e2
  refine ite_d (fun hgt => ?_) (fun hle => ?_)
  · have hlt : y' - x' > wd := by have := sg_gt0.mp hgt; grind
    obtain ⟨z', rfl⟩ : ∃ z', z = z' + 1 := by
      refine ⟨z - 1, ?_⟩
      by_cases h0 : z = 0
      · subst h0
        have one : ((2 ^ 0 : Int) : Rat) = 1 := rfl
        rw [one] at wz
        grind
      · omega
    refine wh_in ?_
    walk_at "rd"
    refine c_halfway (3 * n + k) ha2 hb2 sx' sy' fun p2 H2 hp2 e3 h2 => ?_
    have e13 := (e1.trans e2).trans e3
    obtain ⟨m1, m2⟩ := ST.half_eq x' y'
    have gm := gx.half gy
    have gx2 := gx.up
    have gy2 := gy.up
    have ek : k - (z' + 1) + 1 = k - z' := by omega
    rw [ek] at gm gx2 gy2
    rw [two_cast] at wz
    have sm := szs gm (by grind) (by grind) (by omega)
    have hs1 := hsp.dn ((x' + y') / 2) y' (by grind)
    have hv := hsp.vals ((x' + y') / 2)
    have hvy := hsp.vals y'
    walk_at "rd"
    refine c_sign_atQ (P := P) N (3 * n + k) (e13.l hl) h2 sP sm ?_
    rw [al.sg _ (by grind) (by grind)]
    have nl := ST.nar_lo (s := s) (w := wd) (k := z') hlt
    have nh := ST.nar_hi (s := s) (w := wd) (k := z') hlt
    generalize (x' + y') / 2 = m at *
    unfold ST.Sg at hv hvy
    walk_at "rd"
    refine ite_nd (fun hne => ?_) (fun heq => ?_)
    · have hy1 : s y' = -1 := by
        rcases hvy with v | v | v
        · omega
        · rw [v] at hne; omega
        · exact v
      rw [hy1]
      walk_at "rd"
      refine ite_nd (fun hne2 => ?_) (fun heq2 => ?_)
      · walk_at "rd"
        have hm : s m ≤ 0 := by
          rcases hc with rfl | rfl <;> rcases hv with v | v | v <;> rw [v] at hne2 <;> omega
        exact ⟨z', by omega, a, p2, x', m, _, _, rfl, e13, ha2.ex e3, h2, i1, by grind, by grind, hm, by omega, gx2, gm, by grind, by rw [en, nl hm]⟩
      · walk_at "rd"
        have hm : ¬ s m ≤ 0 := by
          rcases hc with rfl | rfl <;> rcases hv with v | v | v <;> rw [v] at heq2 <;> omega
        exact ⟨z', by omega, p2, b, m, y', some (.ref p2), some (.int (c * s m)), by rw [hy1]; rfl, e13, h2, hb2.ex e3, by grind, by grind, i3, i4, by omega, gm, gy2, by grind, by rw [en, nh hm]⟩
    · walk_at "rd"
      have hy1 : s y' = 0 := by
        rcases hc with rfl | rfl <;> omega
      have hm : ¬ s m ≤ 0 := fun z => by have := hs1 z; omega
      exact ⟨z', by omega, p2, b, m, y', some (.ref p2), some (.int (c * s m)), rfl, e13, h2, hb2.ex e3, by grind, by grind, i3, i4, by omega, gm, gy2, by grind, by rw [en, nh hm]⟩
  · walk_at "rd"
    have hge : ¬ y' - x' > wd := fun z => hle (sg_gt0.mpr (by grind))
    rw [en, ST.nar_stop hge] at q
    refine r_tupK fun tp H3 htp e3 h3 => ?_
    exact q tp a b H3 (Evl.fresh_back (e1.trans e2) htp) ((e1.trans e2).trans e3) h3 (ha2.ex e3) (hb2.ex e3)
theorem c_narrowed {l lo hi w : Addr} {P : List Int} {x y wd : Rat} {s : Rat → Int} {c : Int} (n k N : Nat) (hl : SqL K H l (P.map V.int)) (h1 : IsQ (Cof "Ratio") H lo x) (h2 : IsQ (Cof "Ratio") H hi y) (h3 : IsQ (Cof "Ratio") H w wd) (al : Alg P s c x y) (sx : Qz n x) (sy : Qz n y) (sw : Qz n wd) (hk : y - x ≤ wd * ((2 ^ k : Int) : Rat)) (sP : ML.Sz N P) (hs : 0 < n ∧ 3 * n + k ≤ 1000 ∧ 0 < N ∧ N + (3 * n + k + 1) * (P.length + 1) ≤ 900000)
    (q : ∀ (tp a b : Addr) (H' : Hp), H tp = none → Ex H H' → H' tp = some (.tup [.ref a, .ref b]) → IsQ (Cof "Ratio") H' a (ST.nar s wd k x y).1 → IsQ (Cof "Ratio") H' b (ST.nar s wd k x y).2 → Q (.ref tp) H') : sp_narrowed K Cof [.ref l, .ref lo, .ref hi, .ref w] H Q E := ⟨l, lo, hi, w, P, x, y, wd, s, c, n, k, N, rfl, hl, h1, h2, h3, al, sx, sy, sw, hk, sP, hs, q⟩
end

/-! #### _law_cell_at -/
/-- the k-th cell, 0 beyond the last one -/
def cellOf (ns : List Int) (k : Int) : Int := ns.getD k.toNat 0
def sp__law_cell_at (K : PySem.W.Frag) (Cof : String → Addr) : Sp := fun vs H Q _ => ∃ (a : Addr) (ns : List Int) (k : Int), vs = [.ref a, .int k] ∧ SqL K H a (ns.map V.int) ∧ 0 ≤ k ∧ Q (.int (cellOf ns k)) H
def t__law_cell_at (K : PySem.W.Frag) (Cof : String → Addr) (E : XK) : TS :=
  tSeq (tIfS (tTest (tOp rLt (tVar 1) (tCB (rLenS K) (tCons (tVar 0) (tNil))))) (tRet (tOp (rIxL K) (tVar 0) (tVar 1))) (tNext))
  (tRet (tC (.int 0)))

section
variable {K : PySem.W.Frag} {Cof : String → Addr} {vs : List V} {H : Hp} {Q : VK} {E : XK}
theorem len__law_cell_at (h : sp__law_cell_at K Cof vs H Q E) : vs.length = 2 := by
  obtain ⟨a, ns, k, rfl, _⟩ := h; rfl
theorem rd__law_cell_at (h : sp__law_cell_at K Cof vs H Q E) : t__law_cell_at K Cof E { nx := fun _ H' => Q .non H', rt := Q } (start ["_law_script", "_law_k"] vs) H := by
  obtain ⟨a, ns, k, rfl, hS, h0, q⟩ := h
  obtain ⟨k, rfl⟩ : ∃ n : Nat, k = (n : Int) := ⟨k.toNat, by omega⟩
  unfold t__law_cell_at
  walk_at "rd"
  try rw [List.length_map]
  refine ite_d (fun h => ?_) (fun h => ?_)
  · walk_at "rd"
    have hk : k < ns.length := by omega
    exact r_ixI hS h0 h q
  · walk_at "rd"
    have e : cellOf ns k = 0 := by
      unfold cellOf
      rw [List.getD_eq_getElem?_getD, List.getElem?_eq_none (by omega)]; rfl
    rw [e] at q
    exact q
theorem c__law_cell_at {a : Addr} {ns : List Int} {k : Int} (h : SqL K H a (ns.map V.int)) (h0 : 0 ≤ k) (q : Q (.int (cellOf ns k)) H) : sp__law_cell_at K Cof [.ref a, .int k] H Q E := ⟨a, ns, k, rfl, h, h0, q⟩
end
local macro_rules | `(tactic| walk_at "call") => `(tactic| ((with_reducible refine' c__law_cell_at ?h ?h0 ?_); (case h => walk_at "sq"); (case h0 => first | decide | omega)))

/-! #### _law_whole -/
def sp__law_whole (K : PySem.W.Frag) (Cof : String → Addr) : Sp := fun vs H Q _ => ∃ i : Int, vs = [.int i] ∧ Q (.bl true) H
def t__law_whole (K : PySem.W.Frag) (Cof : String → Addr) (E : XK) : TS :=
  tRet (tAndV (tCB (rIsi K) (tCons (tVar 0) (tCons (tC (.ty "int")) (tNil)))) (tNotV (tCB (rIsi K) (tCons (tVar 0) (tCons (tC (.ty "bool")) (tNil))))))

section
variable {K : PySem.W.Frag} {Cof : String → Addr} {vs : List V} {H : Hp} {Q : VK} {E : XK}
theorem len__law_whole (h : sp__law_whole K Cof vs H Q E) : vs.length = 1 := by
  obtain ⟨i, rfl, _⟩ := h; rfl
theorem rd__law_whole (h : sp__law_whole K Cof vs H Q E) : t__law_whole K Cof E { nx := fun _ H' => Q .non H', rt := Q } (start ["_law_found"] vs) H := by
  obtain ⟨i, rfl, q⟩ := h
  unfold t__law_whole
  walk_at "rd"
  refine r_isi (.base (.int i)) (.ty _) (kit_ty (r := true) (by decide +kernel)) ?_
  walk_at "rd"
  refine r_isi (.base (.int i)) (.ty _) (kit_ty (r := false) (by decide +kernel)) ?_
  walk_at "rd"
  exact q
end
theorem c__law_whole {K : PySem.W.Frag} {Cof : String → Addr} {H : Hp} {Q : VK} {E : XK} {i : Int} (q : Q (.bl true) H) : sp__law_whole K Cof [.int i] H Q E := ⟨i, rfl, q⟩
local macro_rules | `(tactic| walk_at "call") => `(tactic| with_reducible refine c__law_whole ?_)

/-! #### _law_within -/
/-- a number from -s to s -/
def sgn (c s : Int) : Int := c.fmod (2 * s + 1) - s
theorem sgn_ge {c s : Int} (h : 0 ≤ s) : -s ≤ sgn c s := by
  have := Int.fmod_nonneg_of_pos c (show 0 < 2 * s + 1 by omega)
  unfold sgn; omega
theorem sgn_le {c s : Int} (h : 0 ≤ s) : sgn c s ≤ s := by
  have := Int.fmod_lt_of_pos c (show 0 < 2 * s + 1 by omega)
  unfold sgn; omega
theorem sgn_abs {c s : Int} {n : Nat} (h : 0 ≤ s) (hs : s.natAbs < 2 ^ n) : (sgn c s).natAbs < 2 ^ n := by
  have h1 := sgn_ge (c := c) h
  have h2 := sgn_le (c := c) h
  generalize 2 ^ n = m at hs ⊢
  omega
def sp__law_within (K : PySem.W.Frag) (Cof : String → Addr) : Sp := fun vs H Q _ => ∃ c s : Int, vs = [.int c, .int s] ∧ 0 ≤ s ∧ s.natAbs < 2 ^ 4000 ∧ Q (.int (sgn c s)) H
def t__law_within (K : PySem.W.Frag) (Cof : String → Addr) (E : XK) : TS :=
  tRet (tOp rISub (tOp rMod (tVar 0) (tOp rIAdd (tOp rMul (tC (.int 2)) (tVar 1)) (tC (.int 1)))) (tVar 1))

section
variable {K : PySem.W.Frag} {Cof : String → Addr} {vs : List V} {H : Hp} {Q : VK} {E : XK}
theorem len__law_within (h : sp__law_within K Cof vs H Q E) : vs.length = 2 := by
  obtain ⟨c, s, rfl, _⟩ := h; rfl
theorem rd__law_within (h : sp__law_within K Cof vs H Q E) : t__law_within K Cof E { nx := fun _ H' => Q .non H', rt := Q } (start ["_law_cell", "_law_most"] vs) H := by
  obtain ⟨c, s, rfl, h0, hs, q⟩ := h
  unfold t__law_within
  walk_at "rd"
  refine r_mul (wide_mul (a := 2) (by decide) hs (by decide) (by decide) (by decide)) ?_
  walk_at "rd"
  exact q
end
theorem c__law_within {K : PySem.W.Frag} {Cof : String → Addr} {H : Hp} {Q : VK} {E : XK} {c s : Int} (h0 : 0 ≤ s) (h1 : s.natAbs < 2 ^ 4000) (q : Q (.int (sgn c s)) H) : sp__law_within K Cof [.int c, .int s] H Q E := ⟨c, s, rfl, h0, h1, q⟩

/-! #### _law_mul -/
--USE ML
def sp__law_mul (K : PySem.W.Frag) (Cof : String → Addr) : Sp := fun vs H Q _ => ∃ (a b : Addr) (P R : List Int) (n m : Nat), vs = [.ref a, .ref b] ∧ SqL K H a (P.map V.int) ∧ SqL K H b (R.map V.int) ∧ P.length ≤ 100000 ∧ R.length ≤ 100000 ∧ ML.Sz n P ∧ ML.Sz m R ∧ (0 < n ∧ 0 < m ∧ n + m ≤ 1000000) ∧ RetI (ML.mulU P R) H Q
def t__law_mul (K : PySem.W.Frag) (Cof : String → Addr) (E : XK) : TS :=
  tSeq (tIfS (tOr (tTest (tOp rEq (tCB (rLenS K) (tCons (tVar 0) (tNil))) (tC (.int 0)))) (tTest (tOp rEq (tCB (rLenS K) (tCons (tVar 1) (tNil))) (tC (.int 0))))) (tRet (tLst (tNil))) (tNext))
  (tSeq (tAsg (tLc (iRng1 (tCons (tOp rISub (tOp rIAdd (tCB (rLenS K) (tCons (tVar 0) (tNil))) (tCB (rLenS K) (tCons (tVar 1) (tNil)))) (tC (.int 1))) (tNil))) (gName 3) (tYes) (tC (.int 0)) [3]) (gName 2))
  (tSeq (tFor (iEnum K (tCons (tVar 0) (tNil))) (gTup K 2 (gCons (gName 4) (gCons (gName 5) (gNil)))) (tFor (iEnum K (tCons (tVar 1) (tNil))) (gTup K 2 (gCons (gName 6) (gCons (gName 7) (gNil)))) (tAsg (tOp rIAdd (tOp (rIxL K) (tVar 2) (tOp rIAdd (tVar 4) (tVar 6))) (tOp rMul (tVar 5) (tVar 7))) (gSub (tVar 2) (tOp rIAdd (tVar 4) (tVar 6)) rSetL))))
  (tRet (tVar 2))))

section
variable {K : PySem.W.Frag} {Cof : String → Addr} {vs : List V} {H : Hp} {Q : VK} {E : XK}
theorem len__law_mul (h : sp__law_mul K Cof vs H Q E) : vs.length = 2 := by
  obtain ⟨a, b, P, R, n, m, rfl, _⟩ := h; rfl
theorem rd__law_mul (h : sp__law_mul K Cof vs H Q E) : t__law_mul K Cof E { nx := fun _ H' => Q .non H', rt := Q } (start ["_law_kp", "_law_kq", "_law_made", "_law_k", "_law_i", "_law_one", "_law_j", "_law_other"] vs) H := by
  obtain ⟨a, b, P, R, n, m, rfl, hA, hB, lA, lB, sA, sB, ⟨n0, m0, nm⟩, q⟩ := h
  unfold t__law_mul
  have f0 := Fx.refl H
  have nil_ : ∀ {D : Ends} {σ : L2.St}, ML.mulU P R = [] → D.rt = Q → tRet (tLst tNil) D σ H := fun {D σ} e eD => by
    walk_at "rd"
    rw [eD]
    exact r_lstK fun p1 H1 hp1 e1 h1 => q p1 H1 hp1 e1 (by rw [e]; exact h1)
  walk_at "rd"
  refine ite_d (fun h0 => ?_) (fun h0 => ?_)
  · walk_at "rd"
    refine r_lstK fun p1 H1 hp1 e1 h1 => q p1 H1 hp1 e1 ?_
    have : P = [] := List.eq_nil_of_length_eq_zero (by omega)
    unfold ML.mulU
    rw [if_pos (.inl this)]; exact h1
  walk_at "rd"
  refine ite_d (fun h1 => ?_) (fun h1 => ?_)
  · walk_at "rd"
    refine r_lstK fun p1 H1 hp1 e1 hh1 => q p1 H1 hp1 e1 ?_
    have : R = [] := List.eq_nil_of_length_eq_zero (by omega)
    unfold ML.mulU
    rw [if_pos (.inr this)]; exact hh1
  clear nil_
  walk_at "rd"
  refine r_cRng1A (by omega) (by omega) ?_
  have el : ((P.length : Int) + (R.length : Int) - 1).toNat = P.length + R.length - 1 := by omega
  rw [el]
  refine lc_rangeI (fun _ => 0) (by omega) (fun i hi H4 e4 Q' k' => ?_) fun p H1 hp e1 h2 => ?_
  · walk_at "rd"
    exact k' _ (Evl.Ex.refl _)
  have f1 := f0.ex e1
  rw [List.map_const', List.length_range] at h2
  walk_at "rd"
  refine loop_enum (xs := P.map V.int) (fun k σ' H' => ∃ (rs : List Int) (u1 u2 u3 u4 u5 : Option V), σ' = [some (.ref a), some (.ref b), some (.ref p), u1, u2, u3, u4, u5] ∧ Fx H H' ∧ H' p = some (.lst (rs.map V.int)) ∧ rs.length = P.length + R.length - 1 ∧ ∀ j, ML.cf rs j = ML.pcv P R k j)
    ⟨_, _, _, _, _, _, rfl, f1, h2, by rw [List.length_replicate], fun j => by rw [ML.cf_rep0]; rfl⟩ (fun i σ' H' _ hp' => ?_) (fun k x σ' H' H2' hx hp' e2 => ?_) (fun σ' H' hp' => ?_)
  · obtain ⟨rs, u1, u2, u3, u4, u5, rfl, f2, _⟩ := hp'
    exact f2.l hA
  · obtain ⟨rs, u1, u2, u3, u4, u5, rfl, f2, h3, l3, c3⟩ := hp'
    have f2' := f2.ex e2
    obtain ⟨hk, ek⟩ := List.getElem?_eq_some_iff.mp hx
    rw [List.length_map] at hk
    have ex : x = .int (ML.cf P k) := by
      rw [← ek, List.getElem_map, ML.cf_get hk]
    subst ex
    have hB2 := f2'.l hB
    walk_at "rd"
    refine loop_enum (xs := R.map V.int) (fun i σ2 H2 => ∃ (rs : List Int) (u4 u5 : Option V), σ2 = [some (.ref a), some (.ref b), some (.ref p), u1, some (.int (k : Int)), some (.int (ML.cf P k)), u4, u5] ∧ Fx H H2 ∧ H2 p = some (.lst (rs.map V.int)) ∧ rs.length = P.length + R.length - 1 ∧ ∀ j, ML.cf rs j = ML.pcw P R k i j)
      ⟨rs, _, _, rfl, f2', by walk_at "hp", l3, fun j => by rw [ML.pcw_zero]; exact c3 j⟩ (fun i σ2 H2 _ hp2 => ?_) (fun i x σ2 H2 H2' hx hp2 e2 => ?_) (fun σ2 H2 hp2 => ?_)
    · obtain ⟨rs, u4, u5, rfl, f3, _⟩ := hp2
      exact f3.l hB
    · obtain ⟨rs, u4, u5, rfl, f3, h4, l4, c4⟩ := hp2
      have f3' := f3.ex e2
      obtain ⟨hi, ei⟩ := List.getElem?_eq_some_iff.mp hx
      rw [List.length_map] at hi
      have ex : x = .int (ML.cf R i) := by
        rw [← ei, List.getElem_map, ML.cf_get hi]
      subst ex
      have eki : (k : Int) + (i : Int) = ((k + i : Nat) : Int) := by omega
      walk_at "rd"
      rw [eki]
      refine r_ixI (ns := rs) (by walk_at "sq") (by omega) (by omega) ?_
      rw [Int.toNat_natCast]
      walk_at "rd"
      refine r_mul (wide_mul (sA.cf k) (sB.cf i) n0 m0 nm) ?_
      walk_at "rd"
      rw [eki]
      refine r_setL (p := p) (xs := rs.map V.int) (by walk_at "hp") (Evl.ixN_nat (by rw [List.length_map]; omega)) fun H4 b4 h5 => ?_
      refine ⟨rs.set (k + i) (ML.cf rs (k + i) + ML.cf P k * ML.cf R i), _, _, rfl, f3'.mut b4 hp, by rw [List.map_set]; exact h5, by rw [List.length_set]; exact l4, fun j => ?_⟩
      rw [ML.cf_set (by omega), ML.pcw_step, c4]
      by_cases hj : j = k + i
      · rw [if_pos hj, if_pos hj, hj]
      · rw [if_neg hj, if_neg hj, c4]
    · obtain ⟨rs, u4, u5, rfl, f3, h4, l4, c4⟩ := hp2
      exact ⟨rs, _, _, _, _, _, rfl, f3, h4, l4, fun j => by rw [c4, List.length_map, ML.pcw_full]⟩
  · obtain ⟨rs, u1, u2, u3, u4, u5, rfl, f2, h3, l3, c3⟩ := hp'
    walk_at "rd"
    refine q p H' hp f2.to ?_
    have e : rs = ML.mulU P R := by
      have hne : ¬ (P = [] ∨ R = []) := by
        rintro (h | h)
        · subst h; exact h0 rfl
        · subst h; exact h1 rfl
      refine ML.ext (by unfold ML.mulU; rw [if_neg hne]; simpa using l3) fun j _ => ?_
      rw [c3, List.length_map, ML.pcv_full, ML.cf_mulU]
    rw [← e]
    exact h3
theorem c__law_mul {a b : Addr} {P R : List Int} (n m : Nat) (hA : SqL K H a (P.map V.int)) (hB : SqL K H b (R.map V.int)) (lA : P.length ≤ 100000) (lB : R.length ≤ 100000) (sA : ML.Sz n P) (sB : ML.Sz m R) (h0 : 0 < n ∧ 0 < m ∧ n + m ≤ 1000000) (q : ∀ p H', H p = none → Ex H H' → H' p = some (.lst ((ML.mulU P R).map V.int)) → Q (.ref p) H') : sp__law_mul K Cof [.ref a, .ref b] H Q E := ⟨a, b, P, R, n, m, rfl, hA, hB, lA, lB, sA, sB, h0, q⟩
end

/-! #### _law_gcd -/
--USE MG
def sp__law_gcd (K : PySem.W.Frag) (Cof : String → Addr) : Sp := fun vs H Q _ => ∃ x y : Int, vs = [.int x, .int y] ∧ Q (.int (Int.gcd x y)) H
def t__law_gcd (K : PySem.W.Frag) (Cof : String → Addr) (E : XK) : TS :=
  tSeq (tAsg (tCB rAbs (tCons (tVar 0) (tNil))) (gName 0))
  (tSeq (tAsg (tCB rAbs (tCons (tVar 1) (tNil))) (gName 1))
  (tSeq (tWhile (tTest (tOp rGt (tVar 1) (tC (.int 0)))) (tSeq (tAsg (tOp rMod (tVar 0) (tVar 1)) (gName 2))
  (tSeq (tAsg (tVar 1) (gName 0))
  (tAsg (tVar 2) (gName 1)))))
  (tRet (tVar 0))))

section
variable {K : PySem.W.Frag} {Cof : String → Addr} {vs : List V} {H : Hp} {Q : VK} {E : XK}
theorem len__law_gcd (h : sp__law_gcd K Cof vs H Q E) : vs.length = 2 := by
  obtain ⟨x, y, rfl, _⟩ := h; rfl
theorem rd__law_gcd (h : sp__law_gcd K Cof vs H Q E) : t__law_gcd K Cof E { nx := fun _ H' => Q .non H', rt := Q } (start ["_law_a", "_law_b", "_law_rest"] vs) H := by
  obtain ⟨x, y, rfl, q⟩ := h
  unfold t__law_gcd
  walk_at "rd"
  have ex : (if x < 0 then -x else x) = (x.natAbs : Int) := by split <;> omega
  have ey : (if y < 0 then -y else y) = (y.natAbs : Int) := by split <;> omega
  rw [ex, ey]
  refine r_while (fun m σ2 H2 => ∃ (f o : Int) (r : Option V), σ2 = [some (.int f), some (.int o), r] ∧ H2 = H ∧ m = o.natAbs ∧ 0 ≤ f ∧ 0 ≤ o ∧ Int.gcd f o = Int.gcd x y) y.natAbs ⟨_, _, _, rfl, rfl, by omega, by omega, by omega, by unfold Int.gcd; rfl⟩ (fun m σ2 H2 hw => ?_)
  obtain ⟨f, o, r, rfl, rfl, rfl, hf, ho, hg⟩ := hw
  walk_at "rd"
  refine ite_d (fun h => wh_in ?_) (fun h => ?_)
  · walk_at "rd"
    exact ⟨_, MG.fmod_lt (by omega), o, f.fmod o, _, rfl, rfl, rfl, ho, Int.fmod_nonneg_of_pos _ h, by rw [MG.gcd_fmod]; exact hg⟩
  · walk_at "rd"
    have : o = 0 := by omega
    rw [this, Int.gcd_zero_right] at hg
    have e : f = (Int.gcd x y : Int) := by omega
    rw [e]
    exact q
theorem c__law_gcd {x y : Int} (q : Q (.int (Int.gcd x y)) H) : sp__law_gcd K Cof [.int x, .int y] H Q E := ⟨x, y, rfl, q⟩
end
local macro_rules | `(tactic| walk_at "call") => `(tactic| with_reducible refine c__law_gcd ?_)

/-! #### _law_shrunk -/
--USE MP
def sp__law_shrunk (K : PySem.W.Frag) (Cof : String → Addr) : Sp := fun vs H Q _ => ∃ (a : Addr) (P : List Int), vs = [.ref a] ∧ SqL K H a (P.map V.int) ∧ P.length ≤ 100000 ∧ ML.Trim P ∧ (P ≠ [] → MG.gcdL P ≠ 0 ∧ (MG.gcdL P).natAbs.log2 < 9000) ∧ RetI (MP.shrunkL P) H Q
def t__law_shrunk (K : PySem.W.Frag) (Cof : String → Addr) (E : XK) : TS :=
  tSeq (tAsg (tC (.int 0)) (gName 1))
  (tSeq (tFor (iList K (tVar 0)) (gName 2) (tAsg (tCall (sp__law_gcd K Cof) [] E0 (tCons (tVar 1) (tCons (tVar 2) (tNil)))) (gName 1)))
  (tSeq (tIfS (tTest (tOp rEq (tVar 1) (tC (.int 0)))) (tRet (tLst (tNil))) (tNext))
  (tRet (tLc (iList K (tVar 0)) (gName 2) (tYes) (tOp rDiv (tVar 2) (tVar 1)) [2]))))

section
variable {K : PySem.W.Frag} {Cof : String → Addr} {vs : List V} {H : Hp} {Q : VK} {E : XK}
theorem len__law_shrunk (h : sp__law_shrunk K Cof vs H Q E) : vs.length = 1 := by
  obtain ⟨a, P, rfl, _⟩ := h; rfl
theorem rd__law_shrunk (h : sp__law_shrunk K Cof vs H Q E) : t__law_shrunk K Cof E { nx := fun _ H' => Q .non H', rt := Q } (start ["_law_kp", "_law_most", "_law_one"] vs) H := by
  obtain ⟨a, P, rfl, hS, hl, hT, hg, q⟩ := h
  unfold t__law_shrunk
  walk_at "rd"
  refine loop_ints (ns := P) (fun i σ' H' => ∃ u, σ' = [some (.ref a), some (.int (MG.gcdN (P.take i))), u] ∧ H' = H) ⟨_, rfl, rfl⟩ (fun i σ' H' _ hp => ?_) (fun i x σ' H' hx hp => ?_) (fun σ' H' hp => ?_)
  · obtain ⟨u, rfl, rfl⟩ := hp
    exact hS
  · obtain ⟨u, rfl, rfl⟩ := hp
    walk_at "rd"
    exact ⟨_, by rw [MG.gcdN_take hx]; rfl, rfl⟩
  obtain ⟨u, rfl, rfl⟩ := hp
  rw [List.take_length]
  walk_at "rd"
  refine ite_d (fun h0 => ?_) (fun h0 => ?_)
  · walk_at "rd"
    refine r_lstK fun p1 H1 hp1 e1 h1 => q p1 H1 hp1 e1 ?_
    have e : P = [] := by
      apply Classical.byContradiction
      intro hn
      exact (hg hn).1 h0
    rw [e]; exact h1
  · walk_at "rd"
    have hn : P ≠ [] := fun e => h0 (by rw [e]; rfl)
    refine lc_ints (fun x => x.fdiv (MG.gcdL P)) hS (by omega) (fun x hx H1 e1 Q' k' => ?_) (fun p H1 hp e1 h1 => q p H1 hp e1 h1)
    walk_at "rd"
    refine r_div (hg hn) ?_
    exact k' _ (Evl.Ex.refl _)
theorem c__law_shrunk {a : Addr} {P : List Int} (h : SqL K H a (P.map V.int)) (hl : P.length ≤ 100000) (hT : ML.Trim P) (hg : P ≠ [] → MG.gcdL P ≠ 0 ∧ (MG.gcdL P).natAbs.log2 < 9000) (q : ∀ p H', H p = none → Ex H H' → H' p = some (.lst ((MP.shrunkL P).map V.int)) → Q (.ref p) H') : sp__law_shrunk K Cof [.ref a] H Q E := ⟨a, P, rfl, h, hl, hT, hg, q⟩
end

/-! #### _law_plain -/
--USE MP
def sp__law_plain (K : PySem.W.Frag) (Cof : String → Addr) : Sp := fun vs H Q _ => ∃ (a : Addr) (P : List Int), vs = [.ref a] ∧ SqL K H a (P.map V.int) ∧ P.length ≤ 100000 ∧ ML.Trim P ∧ (P ≠ [] → MG.gcdL P ≠ 0 ∧ (MG.gcdL P).natAbs.log2 < 9000) ∧ RetI (MP.plainL P) H Q
def t__law_plain (K : PySem.W.Frag) (Cof : String → Addr) (E : XK) : TS :=
  tSeq (tAsg (tCall (sp__law_shrunk K Cof) [] E0 (tCons (tVar 0) (tNil))) (gName 1))
  (tSeq (tIfS (tAnd (tTest (tOp rGt (tCB (rLenS K) (tCons (tVar 1) (tNil))) (tC (.int 0)))) (tTest (tOp rLt (tOp (rIxL K) (tVar 1) (tUn rNeg (tC (.int 1)))) (tC (.int 0))))) (tRet (tLc (iList K (tVar 1)) (gName 2) (tYes) (tOp rISub (tC (.int 0)) (tVar 2)) [2])) (tNext))
  (tRet (tVar 1)))

section
variable {K : PySem.W.Frag} {Cof : String → Addr} {vs : List V} {H : Hp} {Q : VK} {E : XK}
theorem len__law_plain (h : sp__law_plain K Cof vs H Q E) : vs.length = 1 := by
  obtain ⟨a, P, rfl, _⟩ := h; rfl
theorem rd__law_plain (h : sp__law_plain K Cof vs H Q E) : t__law_plain K Cof E { nx := fun _ H' => Q .non H', rt := Q } (start ["_law_kp", "_law_made", "_law_one"] vs) H := by
  obtain ⟨a, P, rfl, hS, hl, hT, hg, q⟩ := h
  unfold t__law_plain
  walk_at "rd"
  refine c__law_shrunk hS hl hT hg fun p1 H1 hp1 e1 h1 => ?_
  have l1 := MP.shrunkL_len P
  walk_at "rd"
  refine ite_d (fun hn => ?_) (fun hn => ?_)
  · have hn' : MP.shrunkL P ≠ [] := fun e => by rw [e] at hn; simp at hn
    walk_at "rd"
    refine r_ixLast (SqL.inj h1) hn' ?_
    walk_at "rd"
    refine ite_d (fun hneg => ?_) (fun hneg => ?_)
    · walk_at "rd"
      refine lc_ints (fun x => 0 - x) (SqL.inj h1) (by omega) (fun x hx H2 e2 Q' k' => ?_) (fun p2 H2 hp2 e2 h2 => ?_)
      · walk_at "rd"
        exact k' _ (Evl.Ex.refl _)
      · refine q p2 H2 (Evl.fresh_back e1 hp2) (e1.trans e2) ?_
        have e : MP.plainL P = (MP.shrunkL P).map (fun x => 0 - x) := by
          unfold MP.plainL
          rw [if_pos ⟨hn', hneg⟩]
          exact List.map_congr_left fun x _ => by omega
        rw [e]; exact h2
    · walk_at "rd"
      refine q p1 H1 hp1 e1 ?_
      have e : MP.plainL P = MP.shrunkL P := by
        unfold MP.plainL
        rw [if_neg]
        rintro ⟨_, h3⟩
        exact hneg h3
      rw [e]; exact h1
  · walk_at "rd"
    refine q p1 H1 hp1 e1 ?_
    have e : MP.shrunkL P = [] := by
      cases h : MP.shrunkL P with
      | nil => rfl
      | cons x r => rw [h] at hn; exact absurd (by simp) hn
    have e : MP.plainL P = MP.shrunkL P := by
      unfold MP.plainL
      rw [if_neg]
      rintro ⟨h2, _⟩
      exact h2 e
    rw [e]; exact h1
theorem c__law_plain {a : Addr} {P : List Int} (h : SqL K H a (P.map V.int)) (hl : P.length ≤ 100000) (hT : ML.Trim P) (hg : P ≠ [] → MG.gcdL P ≠ 0 ∧ (MG.gcdL P).natAbs.log2 < 9000) (q : ∀ p H', H p = none → Ex H H' → H' p = some (.lst ((MP.plainL P).map V.int)) → Q (.ref p) H') : sp__law_plain K Cof [.ref a] H Q E := ⟨a, P, rfl, h, hl, hT, hg, q⟩
end

/-! #### _law_factor_by -/
--USE FC
def sp__law_factor_by (K : PySem.W.Frag) (Cof : String → Addr) : Sp := fun vs H Q _ => ∃ c m : Int, vs = [.int c, .int m] ∧ (0 < m ∧ m ≤ 1000000000) ∧ ∀ u e b, Fac m u e b → ∀ p H', H p = none → Ex H H' → H' p = some (.tup (([u, e, b] : List Int).map V.int)) → Q (.ref p) H'
def t__law_factor_by (K : PySem.W.Frag) (Cof : String → Addr) (E : XK) : TS :=
  tSeq (tAsg (tOp rISub (tOp rMod (tOp rDiv (tVar 0) (tC (.int 4))) (tOp rIAdd (tOp rMul (tC (.int 2)) (tVar 1)) (tC (.int 1)))) (tVar 1)) (gName 2))
  (tSeq (tAsg (tOp rIAdd (tC (.int 1)) (tOp rMod (tOp rMod (tOp rMul (tVar 0) (tC (.int 48271))) (tC (.int 10007))) (tC (.int 3)))) (gName 3))
  (tSeq (tAsg (tOp rIAdd (tC (.int 1)) (tOp rMod (tOp rMod (tOp rMul (tVar 0) (tC (.int 69621))) (tC (.int 10009))) (tC (.int 5)))) (gName 4))
  (tSeq (tAsg (tOp rIAdd (tOp rIAdd (tOp rMul (tVar 4) (tVar 4)) (tC (.int 1))) (tOp rMod (tOp rMod (tOp rMul (tVar 0) (tC (.int 16807))) (tC (.int 10037))) (tOp rMul (tC (.int 2)) (tVar 4)))) (gName 5))
  (tSeq (tIfS (tTest (tOp rEq (tOp rMod (tVar 0) (tC (.int 4))) (tC (.int 2)))) (tRet (tTup (tCons (tVar 2) (tCons (tVar 5) (tCons (tVar 3) (tNil)))))) (tNext))
  (tSeq (tIfS (tTest (tOp rEq (tOp rMod (tVar 0) (tC (.int 4))) (tC (.int 3)))) (tRet (tTup (tCons (tVar 2) (tCons (tOp rISub (tC (.int 0)) (tVar 5)) (tCons (tVar 3) (tNil)))))) (tNext))
  (tRet (tTup (tCons (tVar 2) (tCons (tC (.int 0)) (tCons (tVar 3) (tNil)))))))))))

section
variable {K : PySem.W.Frag} {Cof : String → Addr} {vs : List V} {H : Hp} {Q : VK} {E : XK}
theorem len__law_factor_by (h : sp__law_factor_by K Cof vs H Q E) : vs.length = 2 := by
  obtain ⟨c, m, rfl, _⟩ := h; rfl
theorem rd__law_factor_by (h : sp__law_factor_by K Cof vs H Q E) : t__law_factor_by K Cof E { nx := fun _ H' => Q .non H', rt := Q } (start ["_law_cell", "_law_most", "_law_u", "_law_b", "_law_n", "_law_e"] vs) H := by
  obtain ⟨c, m, rfl, ⟨m0, m9⟩, q⟩ := h
  unfold t__law_factor_by
  walk_at "rd"
  refine r_mul (wide_mul (a := 2) (b := 40) (by decide) (by omega) (by decide) (by decide) (by decide)) ?_
  walk_at "rd"
  have u0 := Int.fmod_nonneg_of_pos (c.fdiv 4) (show (0 : Int) < 2 * m + 1 by omega)
  have u1 := Int.fmod_lt_of_pos (c.fdiv 4) (show (0 : Int) < 2 * m + 1 by omega)
  obtain ⟨u, eu, hu⟩ : ∃ u : Int, (c.fdiv 4).fmod (2 * m + 1) - m = u ∧ (u.natAbs : Int) ≤ m := ⟨_, rfl, by omega⟩
  rw [eu]
  refine r_mulR (by decide) ?_
  walk_at "rd"
  have b0 := Int.fmod_nonneg_of_pos ((c * 48271).fmod 10007) (show (0 : Int) < 3 by decide)
  have b1 := Int.fmod_lt_of_pos ((c * 48271).fmod 10007) (show (0 : Int) < 3 by decide)
  obtain ⟨b, eb, hb1, hb3⟩ : ∃ b : Int, 1 + ((c * 48271).fmod 10007).fmod 3 = b ∧ 1 ≤ b ∧ b ≤ 3 := ⟨_, rfl, by omega, by omega⟩
  rw [eb]
  refine r_mulR (by decide) ?_
  walk_at "rd"
  have n0 := Int.fmod_nonneg_of_pos ((c * 69621).fmod 10009) (show (0 : Int) < 5 by decide)
  have n1 := Int.fmod_lt_of_pos ((c * 69621).fmod 10009) (show (0 : Int) < 5 by decide)
  obtain ⟨n, en, hn1, hn5⟩ : ∃ n : Int, 1 + ((c * 69621).fmod 10009).fmod 5 = n ∧ 1 ≤ n ∧ n ≤ 5 := ⟨_, rfl, by omega, by omega⟩
  rw [en]
  refine r_mul (wide_mul (a := 4) (b := 4) (by omega) (by omega) (by decide) (by decide) (by decide)) ?_
  walk_at "rd"
  refine r_mulR (by decide) ?_
  walk_at "rd"
  refine r_mul (wide_mul (a := 4) (b := 4) (by decide) (by omega) (by decide) (by decide) (by decide)) ?_
  walk_at "rd"
  have e0 := Int.fmod_nonneg_of_pos ((c * 16807).fmod 10037) (show (0 : Int) < 2 * n by omega)
  have e1 := Int.fmod_lt_of_pos ((c * 16807).fmod 10037) (show (0 : Int) < 2 * n by omega)
  have nn : n * n ≤ 25 := Int.mul_le_mul hn5 hn5 (by omega) (by omega)
  have nn0 : 0 < n * n := Int.mul_pos (by omega) (by omega)
  have sq1 : (n + 1) * (n + 1) = n * n + 2 * n + 1 := by grind
  obtain ⟨e, ee, he0, he1, hk⟩ : ∃ e : Int, n * n + 1 + ((c * 16807).fmod 10037).fmod (2 * n) = e ∧ 0 < e ∧ e ≤ 36 ∧ ∃ k : Int, 0 ≤ k ∧ k * k < e ∧ e < (k + 1) * (k + 1) := ⟨_, rfl, by omega, by omega, n, by omega, by omega, by omega⟩
  rw [ee]
  clear u0 u1 b0 b1 n0 n1 e0 e1 nn nn0 eu eb en ee sq1
  obtain ⟨k, k0, k1, k2⟩ := hk
  refine ite_d (fun _ => ?_) (fun _ => ?_)
  · walk_at "rd"
    exact r_tupK fun p H' hp e' h => q u e b ⟨hu, m9, by omega, .inr ⟨k, k0, by omega, by omega⟩, hb1, hb3⟩ p H' hp e' h
  walk_at "rd"
  refine ite_d (fun _ => ?_) (fun _ => ?_)
  · walk_at "rd"
    exact r_tupK fun p H' hp e' h => q u (0 - e) b ⟨hu, m9, by omega, .inr ⟨k, k0, by omega, by omega⟩, hb1, hb3⟩ p H' hp e' h
  walk_at "rd"
  exact r_tupK fun p H' hp e' h => q u 0 b ⟨hu, m9, by decide, .inl rfl, hb1, hb3⟩ p H' hp e' h
theorem c__law_factor_by {c m : Int} (hm : 0 < m ∧ m ≤ 1000000000) (q : ∀ u e b, Fac m u e b → ∀ p H', H p = none → Ex H H' → H' p = some (.tup (([u, e, b] : List Int).map V.int)) → Q (.ref p) H') : sp__law_factor_by K Cof [.int c, .int m] H Q E := ⟨c, m, rfl, hm, q⟩
end

/-! #### _law_shape -/
--USE FC
def sp__law_shape (K : PySem.W.Frag) (Cof : String → Addr) : Sp := fun vs H Q _ => ∃ (p : Addr) (m u e b : Int), vs = [.ref p] ∧ H p = some (.tup (([u, e, b] : List Int).map V.int)) ∧ Fac m u e b ∧ RetI (MB.shp u e b) H Q
def t__law_shape (K : PySem.W.Frag) (Cof : String → Addr) (E : XK) : TS :=
  tSeq (tAsg (tOp (rIxT K) (tVar 0) (tC (.int 0))) (gName 1))
  (tSeq (tAsg (tOp (rIxT K) (tVar 0) (tC (.int 2))) (gName 2))
  (tSeq (tIfS (tTest (tOp rEq (tOp (rIxT K) (tVar 0) (tC (.int 1))) (tC (.int 0)))) (tRet (tCall (sp__law_plain K Cof) [] E0 (tCons (tLst (tCons (tOp rISub (tC (.int 0)) (tVar 1)) (tCons (tVar 2) (tNil)))) (tNil)))) (tNext))
  (tRet (tCall (sp__law_plain K Cof) [] E0 (tCons (tLst (tCons (tOp rISub (tOp rMul (tVar 1) (tVar 1)) (tOp (rIxT K) (tVar 0) (tC (.int 1)))) (tCons (tOp rMul (tOp rMul (tUn rNeg (tC (.int 2))) (tVar 2)) (tVar 1)) (tCons (tOp rMul (tVar 2) (tVar 2)) (tNil))))) (tNil))))))

section
variable {K : PySem.W.Frag} {Cof : String → Addr} {vs : List V} {H : Hp} {Q : VK} {E : XK}
theorem len__law_shape (h : sp__law_shape K Cof vs H Q E) : vs.length = 1 := by
  obtain ⟨p, m, u, e, b, rfl, _⟩ := h; rfl
theorem rd__law_shape (h : sp__law_shape K Cof vs H Q E) : t__law_shape K Cof E { nx := fun _ H' => Q .non H', rt := Q } (start ["_law_factor", "_law_u", "_law_b"] vs) H := by
  obtain ⟨p, m, u, e, b, rfl, hp, f, q⟩ := h
  have su := f.su'
  have se := f.se
  have b1 := f.b1
  have b3 := f.b3
  unfold t__law_shape
  walk_at "rd"
  refine r_ixT' (i := 0) hp rfl ?_
  walk_at "rd"
  refine r_ixT' (i := 2) hp rfl ?_
  walk_at "rd"
  refine r_ixT' (i := 1) hp rfl ?_
  walk_at "rd"
  unfold MB.shp at q
  refine ite_d (fun e0 => ?_) (fun e0 => ?_)
  · rw [if_pos e0] at q
    walk_at "rd"
    refine r_lstK fun p1 H1 hp1 e1 h1 => ?_
    walk_at "rd"
    have hT : ML.Trim [0 - u, b] := .inr (show b ≠ 0 by omega)
    exact c__law_plain (P := [0 - u, b]) (SqL.inj h1) (by simp) hT (plain_log hT (lin_sz su b1 b3)) fun p2 H2 hp2 e2 h2 => q p2 H2 (Evl.fresh_back e1 hp2) (e1.trans e2) h2
  · rw [if_neg e0] at q
    walk_at "rd"
    refine r_mul (wide_mul (a := 30) (b := 30) (by omega) (by omega) (by decide) (by decide) (by decide)) ?_
    walk_at "rd"
    refine r_ixT' (i := 1) hp rfl ?_
    walk_at "rd"
    refine r_mul (wide_mul (a := 4) (b := 4) (by decide) (by omega) (by decide) (by decide) (by decide)) ?_
    walk_at "rd"
    refine r_mul (wide_mul (a := 8) (b := 30) (by omega) (by omega) (by decide) (by decide) (by decide)) ?_
    walk_at "rd"
    refine r_mul (wide_mul (a := 4) (b := 4) (by omega) (by omega) (by decide) (by decide) (by decide)) ?_
    walk_at "rd"
    refine r_lstK fun p1 H1 hp1 e1 h1 => ?_
    walk_at "rd"
    have hT : ML.Trim [u * u - e, -2 * b * u, b * b] := .inr (show b * b ≠ 0 from Int.mul_ne_zero (by omega) (by omega))
    exact c__law_plain (P := [u * u - e, -2 * b * u, b * b]) (SqL.inj h1) (by simp) hT (plain_log hT (sq_sz su se b1 b3)) fun p2 H2 hp2 e2 h2 => q p2 H2 (Evl.fresh_back e1 hp2) (e1.trans e2) h2
theorem c__law_shape {p : Addr} {m u e b : Int} (hp : H p = some (.tup (([u, e, b] : List Int).map V.int))) (f : Fac m u e b) (q : ∀ p H', H p = none → Ex H H' → H' p = some (.lst ((MB.shp u e b).map V.int)) → Q (.ref p) H') : sp__law_shape K Cof [.ref p] H Q E := ⟨p, m, u, e, b, rfl, hp, f, q⟩
end

/-! #### _law_factors_by -/
--USE FC
def sp__law_factors_by (K : PySem.W.Frag) (Cof : String → Addr) : Sp := fun vs H Q _ => ∃ (a : Addr) (ns : List Int) (m : Int) (room : Nat), vs = [.ref a, .int m, .int (room : Int)] ∧ SqL K H a (ns.map V.int) ∧ ns.length ≤ 1000 ∧ (0 < m ∧ m ≤ 1000000000) ∧ room ≤ 1000 ∧
  ∀ (D : Addr) (H' : Hp) (ps : List Addr) (FS : List (List Int)), H D = none → Ex H H' → H' D = some (.lst (ps.map V.ref)) → Tws H' ps FS → (∀ F ∈ FS, isF m F) → (FS.Pairwise fun F G => shpF F ≠ shpF G) → dgs FS ≤ room → Q (.ref D) H'
def t__law_factors_by (K : PySem.W.Frag) (Cof : String → Addr) (E : XK) : TS :=
  tSeq (tAsg (tLst (tNil)) (gName 3))
  (tSeq (tAsg (tLst (tNil)) (gName 4))
  (tSeq (tFor (iList K (tVar 0)) (gName 5) (tSeq (tAsg (tCall (sp__law_factor_by K Cof) [] E0 (tCons (tVar 5) (tCons (tVar 1) (tNil)))) (gName 6))
  (tSeq (tAsg (tCall (sp__law_shape K Cof) [] E0 (tCons (tVar 6) (tNil))) (gName 7))
  (tIfS (tAnd (tTest (tOp (rNotInD K) (tVar 7) (tVar 4))) (tTest (tOp rLe (tOp rISub (tCB (rLenS K) (tCons (tVar 7) (tNil))) (tC (.int 1))) (tVar 2)))) (tSeq (tDrop (tBM K "list" rAppend (tVar 3) (tCons (tVar 6) (tNil))))
  (tSeq (tDrop (tBM K "list" rAppend (tVar 4) (tCons (tVar 7) (tNil))))
  (tAsg (tOp rIAdd (tOp rISub (tVar 2) (tCB (rLenS K) (tCons (tVar 7) (tNil)))) (tC (.int 1))) (gName 2)))) (tNext)))))
  (tRet (tVar 3))))

section
variable {K : PySem.W.Frag} {Cof : String → Addr} {vs : List V} {H : Hp} {Q : VK} {E : XK}
theorem len__law_factors_by (h : sp__law_factors_by K Cof vs H Q E) : vs.length = 3 := by
  obtain ⟨a, ns, m, room, rfl, _⟩ := h; rfl
theorem rd__law_factors_by (h : sp__law_factors_by K Cof vs H Q E) : t__law_factors_by K Cof E { nx := fun _ H' => Q .non H', rt := Q } (start ["_law_drawn", "_law_most", "_law_room", "_law_made", "_law_shapes", "_law_cell", "_law_one", "_law_shape_here"] vs) H := by
  obtain ⟨a, ns, m, room, rfl, hA, hl, hm, hr, q⟩ := h
  unfold t__law_factors_by
  walk_at "rd"
  refine r_lstK fun D H1 hD e1 h1 => ?_
  walk_at "rd"
  refine r_lstK fun S H2 hS e2 h2 => ?_
  have h1' := e2 _ _ h1
  have hSH : H S = none := Evl.fresh_back e1 hS
  have nDS : D ≠ S := fun z => by rw [← z, h1] at hS; cases hS
  walk_at "rd"
  refine r_iListA (e2.l (e1.l hA)) ?_
  refine loop_ints (ns := ns) (fun i σ' H' => ∃ (ps ss : List Addr) (FS Ss : List (List Int)) (left : Int) (u5 u6 u7 : Option V), σ' = [some (.ref a), some (.int m), some (.int left), some (.ref D), some (.ref S), u5, u6, u7] ∧ Ex H H' ∧ H' D = some (.lst (ps.map V.ref)) ∧ Tws H' ps FS ∧ D ∉ ps ∧ S ∉ ps ∧ H' S = some (.lst (ss.map V.ref)) ∧ Rws H' ss Ss ∧ D ∉ ss ∧ S ∉ ss ∧ (∀ F ∈ FS, isF m F) ∧ (Ss = FS.map shpF ∧ FS.Pairwise fun F G => shpF F ≠ shpF G) ∧ (dgs FS : Int) + left = room ∧ 0 ≤ left ∧ ps.length ≤ i ∧ ss.length ≤ i)
    ⟨[], [], [], [], _, _, _, _, rfl, e1.trans e2, h1', trivial, (fun h => by cases h), (fun h => by cases h), h2, trivial, (fun h => by cases h), (fun h => by cases h), (fun _ h => by cases h), ⟨rfl, .nil⟩, by show ((0 : Nat) : Int) + room = room; omega, by omega, Nat.le_refl _, Nat.le_refl _⟩ (fun i σ' H' _ hp => ?_) (fun i c σ' H' hc hp => ?_) (fun σ' H' hp => ?_)
  · obtain ⟨ps, ss, FS, Ss, left, u5, u6, u7, rfl, x1, _⟩ := hp
    exact x1.l hA
  · obtain ⟨ps, ss, FS, Ss, left, u5, u6, u7, rfl, x1, x2, x3, x4, x5, x6, x7, x8, x9, x10, x10', x11, x12, x13, x14⟩ := hp
    have hi : i < ns.length := (List.getElem?_eq_some_iff.mp hc).1
    walk_at "rd"
    refine c__law_factor_by hm fun u e b f p3 H3 hp3 e3 h3 => ?_
    walk_at "rd"
    refine c__law_shape h3 f fun p4 H4 hp4 e4 h4 => ?_
    have h3' := e4 _ _ h3
    have e34 := e3.trans e4
    have y2 := e34 _ _ x2
    have y6 := e34 _ _ x6
    have n3D : p3 ≠ D := fun z => by rw [z, x2] at hp3; cases hp3
    have n3S : p3 ≠ S := fun z => by rw [z, x6] at hp3; cases hp3
    have hp4' := Evl.fresh_back e3 hp4
    have n4D : p4 ≠ D := fun z => by rw [z, x2] at hp4'; cases hp4'
    have n4S : p4 ≠ S := fun z => by rw [z, x6] at hp4'; cases hp4'
    have lsh := shp_len f
    walk_at "rd"
    refine r_notInRow (SqL.inj h4) (SqL.inj y6) (x7.ex e34) ?_
    obtain ⟨c2, hc2⟩ : ∃ c2, (!decide (MB.shp u e b ∈ Ss)) = c2 := ⟨_, rfl⟩
    rw [hc2]
    walk_at "rd"
    cases c2 with
    | false =>
      refine i_f ?_
      walk_at "rd"
      exact ⟨ps, ss, FS, Ss, left, _, _, _, rfl, x1.trans e34, y2, x3.ex e34, x4, x5, y6, x7.ex e34, x8, x9, x10, x10', x11, x12, by omega, by omega⟩
    | true =>
      refine i_t ?_
      walk_at "rd"
      refine ite_d (fun hle => ?_) (fun _ => ?_)
      · walk_at "rd"
        refine r_append y2 (by rw [List.length_map]; exact small_lt (by omega)) fun H5 b5 h5 => ?_
        walk_at "rd"
        refine r_append (b5 _ (Ne.symm nDS) _ y6) (by rw [List.length_map]; exact small_lt (by omega)) fun H6 b6 h6 => ?_
        have h5' := b6 _ nDS _ h5
        have h46 := b6 _ n4S _ (b5 _ n4D _ h4)
        have h36 := b6 _ n3S _ (b5 _ n3D _ h3')
        have e6 : Ex H H6 := Evl.Ex.mutb (Evl.Ex.mutb (x1.trans e34) b5 hD) b6 hSH
        walk_at "rd"
        try rw [List.length_map]
        refine ⟨ps ++ [p3], ss ++ [p4], FS ++ [[u, e, b]], Ss ++ [MB.shp u e b], _, _, _, _, rfl, e6, by rw [List.map_append]; exact h5', Tws.append (((x3.ex e34).exb b5 x4).exb b6 x5) ⟨h36, trivial⟩, ?_, ?_, by rw [List.map_append]; exact h6, Rws.append (((x7.ex e34).exb b5 x8).exb b6 x9) ⟨h46, trivial⟩, ?_, ?_, ?_, ?_, ?_, ?_, ?_, ?_⟩
        · intro h; rcases List.mem_append.mp h with h | h
          · exact x4 h
          · exact n3D (List.mem_singleton.mp h).symm
        · intro h; rcases List.mem_append.mp h with h | h
          · exact x5 h
          · exact n3S (List.mem_singleton.mp h).symm
        · intro h; rcases List.mem_append.mp h with h | h
          · exact x8 h
          · exact n4D (List.mem_singleton.mp h).symm
        · intro h; rcases List.mem_append.mp h with h | h
          · exact x9 h
          · exact n4S (List.mem_singleton.mp h).symm
        · intro F hF; rcases List.mem_append.mp hF with hF | hF
          · exact x10 F hF
          · rw [List.mem_singleton.mp hF]; exact ⟨u, e, b, rfl, f⟩
        · obtain ⟨y1, y2⟩ := x10'
          have hnm : MB.shp u e b ∉ Ss := by simpa using hc2
          refine ⟨by rw [y1, List.map_append]; rfl, List.pairwise_append.mpr ⟨y2, List.pairwise_singleton .., fun F hF G hG => ?_⟩⟩
          rw [List.mem_singleton.mp hG]
          intro z
          refine hnm ?_
          rw [y1]
          exact List.mem_map.mpr ⟨F, hF, z⟩
        · have : dgs (FS ++ [[u, e, b]]) = dgs FS + ((MB.shp u e b).length - 1) := by
            unfold dgs; rw [List.map_append, List.sum_append]; rfl
          rw [this]; omega
        · omega
        · rw [List.length_append, List.length_singleton]; omega
        · rw [List.length_append, List.length_singleton]; omega
      · walk_at "rd"
        exact ⟨ps, ss, FS, Ss, left, _, _, _, rfl, x1.trans e34, y2, x3.ex e34, x4, x5, y6, x7.ex e34, x8, x9, x10, x10', x11, x12, by omega, by omega⟩
  · obtain ⟨ps, ss, FS, Ss, left, u5, u6, u7, rfl, x1, x2, x3, x4, x5, x6, x7, x8, x9, x10, x10', x11, x12, _⟩ := hp
    walk_at "rd"
    exact q D H' ps FS hD x1 x2 x3 x10 x10'.2 (by omega)
theorem c__law_factors_by {a : Addr} {ns : List Int} {m : Int} {room : Nat} (hA : SqL K H a (ns.map V.int)) (hl : ns.length ≤ 1000) (hm : 0 < m ∧ m ≤ 1000000000) (hr : room ≤ 1000) (q : ∀ (D : Addr) (H' : Hp) (ps : List Addr) (FS : List (List Int)), H D = none → Ex H H' → H' D = some (.lst (ps.map V.ref)) → Tws H' ps FS → (∀ F ∈ FS, isF m F) → (FS.Pairwise fun F G => shpF F ≠ shpF G) → dgs FS ≤ room → Q (.ref D) H') : sp__law_factors_by K Cof [.ref a, .int m, .int (room : Int)] H Q E := ⟨a, ns, m, room, rfl, hA, hl, hm, hr, q⟩
end

/-! #### _law_product -/
--USE FC
def sp__law_product (K : PySem.W.Frag) (Cof : String → Addr) : Sp := fun vs H Q _ => ∃ (a : Addr) (m : Int) (ps : List Addr) (FS : List (List Int)), vs = [.ref a] ∧ SqL K H a (ps.map V.ref) ∧ Tws H ps FS ∧ (∀ F ∈ FS, isF m F) ∧ dgs FS ≤ 15 ∧ RetI (prodS [1] FS) H Q
def t__law_product (K : PySem.W.Frag) (Cof : String → Addr) (E : XK) : TS :=
  tSeq (tAsg (tLst (tCons (tC (.int 1)) (tNil))) (gName 1))
  (tSeq (tFor (iList K (tVar 0)) (gName 2) (tAsg (tCall (sp__law_mul K Cof) [] E0 (tCons (tVar 1) (tCons (tCall (sp__law_shape K Cof) [] E0 (tCons (tVar 2) (tNil))) (tNil)))) (gName 1)))
  (tRet (tVar 1)))

section
variable {K : PySem.W.Frag} {Cof : String → Addr} {vs : List V} {H : Hp} {Q : VK} {E : XK}
theorem len__law_product (h : sp__law_product K Cof vs H Q E) : vs.length = 1 := by
  obtain ⟨a, m, ps, FS, rfl, _⟩ := h; rfl
theorem rd__law_product (h : sp__law_product K Cof vs H Q E) : t__law_product K Cof E { nx := fun _ H' => Q .non H', rt := Q } (start ["_law_factors", "_law_made", "_law_one"] vs) H := by
  obtain ⟨a, m, ps, FS, rfl, hA, hT, hF, hd, q⟩ := h
  unfold t__law_product
  walk_at "rd"
  refine r_lstK fun p1 H1 hp1 e1 h1 => ?_
  walk_at "rd"
  refine loop_list (xs := ps.map V.ref) (fun i σ' H' => ∃ (p : Addr) (u : Option V), σ' = [some (.ref a), some (.ref p), u] ∧ Ex H H' ∧ H p = none ∧ H' p = some (.lst ((prodS [1] (FS.take i)).map V.int)) ∧ Prd (prodS [1] (FS.take i)) (dgs (FS.take i)) 1) ⟨p1, _, rfl, e1, hp1, h1, rfl, fun x hx => by rw [List.mem_singleton.mp hx]; exact Nat.one_lt_two_pow (by omega)⟩ (fun i σ' H' _ hp => ?_) (fun i x σ' H' hx hp => ?_) (fun σ' H' hp => ?_)
  · obtain ⟨p, u, rfl, x1, _⟩ := hp
    exact x1.l hA
  · obtain ⟨p, u, rfl, x1, x2, x3, x4⟩ := hp
    rw [List.getElem?_map] at hx
    obtain ⟨pt, hpt, rfl⟩ := Option.map_eq_some_iff.mp hx
    obtain ⟨F, hFi, hFp⟩ := hT.get hpt
    obtain ⟨u', e, b, rfl, f⟩ := hF F (List.mem_of_getElem? hFi)
    have h9 := dgs_take hFi
    have h8 := dgs_le FS (i + 1)
    rw [prodS_take [1] hFi, h9]
    walk_at "rd"
    refine c__law_shape (x1 _ _ hFp) f fun p4 H4 hp4 e4 h4 => ?_
    have ln := x4.ln
    have ls := shp_len f
    walk_at "rd"
    refine c__law_mul (P := prodS [1] (FS.take i)) (R := MB.shp u' e b) (1 + 80 * dgs (FS.take i)) 62 (SqL.inj (e4 _ _ x3)) (SqL.inj h4) (by omega) (by omega) x4.sz (shp_sz f) ⟨by omega, by decide, by omega⟩ fun p5 H5 hp5 e5 h5 => ?_
    have e45 := e4.trans e5
    exact ⟨p5, _, rfl, x1.trans e45, Evl.fresh_back (x1.trans e4) hp5, h5, x4.step f (by omega)⟩
  · obtain ⟨p, u, rfl, x1, x2, x3, x4⟩ := hp
    rw [List.length_map, hT.len, List.take_length] at x3
    walk_at "rd"
    exact q p H' x2 x1 x3
theorem c__law_product {a : Addr} {m : Int} {ps : List Addr} {FS : List (List Int)} (hA : SqL K H a (ps.map V.ref)) (hT : Tws H ps FS) (hF : ∀ F ∈ FS, isF m F) (hd : dgs FS ≤ 15) (q : ∀ p H', H p = none → Ex H H' → H' p = some (.lst ((prodS [1] FS).map V.int)) → Q (.ref p) H') : sp__law_product K Cof [.ref a] H Q E := ⟨a, m, ps, FS, rfl, hA, hT, hF, hd, q⟩
end

/-! #### _law_sure -/
--USE FC
def sp__law_sure (K : PySem.W.Frag) (Cof : String → Addr) : Sp := fun vs H Q _ => ∃ (s d : Int) (n : Nat), vs = [.int s, .int d] ∧ d.natAbs < 2 ^ n ∧ 0 < n ∧ n ≤ 100000 ∧ Q (.int (MJ.sureV s d)) H
def t__law_sure (K : PySem.W.Frag) (Cof : String → Addr) (E : XK) : TS :=
  tSeq (tIfS (tOr (tTest (tOp rLt (tVar 1) (tC (.int 0)))) (tTest (tOp rGt (tVar 0) (tOp rMul (tVar 1) (tVar 1))))) (tRet (tC (.int 1))) (tNext))
  (tRet (tOp rISub (tC (.int 0)) (tCB rInt1 (tCons (tOp rLt (tVar 0) (tOp rMul (tVar 1) (tVar 1))) (tNil)))))

section
variable {K : PySem.W.Frag} {Cof : String → Addr} {vs : List V} {H : Hp} {Q : VK} {E : XK}
theorem len__law_sure (h : sp__law_sure K Cof vs H Q E) : vs.length = 2 := by
  obtain ⟨s, d, n, rfl, _⟩ := h; rfl
theorem rd__law_sure (h : sp__law_sure K Cof vs H Q E) : t__law_sure K Cof E { nx := fun _ H' => Q .non H', rt := Q } (start ["_law_square", "_law_due"] vs) H := by
  obtain ⟨s, d, n, rfl, hd, n0, n9, q⟩ := h
  unfold t__law_sure
  unfold MJ.sureV at q
  walk_at "rd"
  refine ite_d (fun h => ?_) (fun h => ?_)
  · walk_at "rd"
    rw [if_pos (.inl h)] at q
    exact q
  walk_at "rd"
  refine r_mul (wide_mul hd hd n0 n0 (by omega)) ?_
  walk_at "rd"
  refine ite_d (fun h2 => ?_) (fun h2 => ?_)
  · walk_at "rd"
    rw [if_pos (.inr h2)] at q
    exact q
  walk_at "rd"
  refine r_mul (wide_mul hd hd n0 n0 (by omega)) ?_
  walk_at "rd"
  rw [if_neg (fun z => z.elim h h2)] at q
  by_cases h3 : s < d * d
  · rw [if_pos h3] at q
    simpa [h3] using q
  · rw [if_neg h3] at q
    simpa [h3] using q
theorem c__law_sure {s d : Int} (n : Nat) (hd : d.natAbs < 2 ^ n) (n0 : 0 < n) (n9 : n ≤ 100000) (q : Q (.int (MJ.sureV s d)) H) : sp__law_sure K Cof [.int s, .int d] H Q E := ⟨s, d, n, rfl, hd, n0, n9, q⟩
end

/-! #### _law_side -/
--USE FC
def sp__law_side (K : PySem.W.Frag) (Cof : String → Addr) : Sp := fun vs H Q _ => ∃ (p : Addr) (u e b s t m : Int) (n : Nat), vs = [.ref p, .int t, .int m] ∧ H p = some (.tup (([u, e, b, s] : List Int).map V.int)) ∧ (u.natAbs < 2 ^ n ∧ e.natAbs < 2 ^ n ∧ b.natAbs < 2 ^ n ∧ t.natAbs < 2 ^ n ∧ m.natAbs < 2 ^ n ∧ 0 < n ∧ n ≤ 10000) ∧ Q (.int (MJ.sideV u e b s t m)) H
def t__law_side (K : PySem.W.Frag) (Cof : String → Addr) (E : XK) : TS :=
  tSeq (tAsg (tOp rISub (tOp rMul (tOp (rIxT K) (tVar 0) (tC (.int 2))) (tVar 1)) (tOp rMul (tOp (rIxT K) (tVar 0) (tC (.int 0))) (tVar 2))) (gName 3))
  (tSeq (tAsg (tOp rMul (tOp rMul (tOp (rIxT K) (tVar 0) (tC (.int 1))) (tVar 2)) (tVar 2)) (gName 4))
  (tSeq (tIfS (tTest (tOp rGt (tOp (rIxT K) (tVar 0) (tC (.int 3))) (tC (.int 0)))) (tRet (tCall (sp__law_sure K Cof) [] E0 (tCons (tVar 4) (tCons (tVar 3) (tNil))))) (tNext))
  (tRet (tOp rISub (tC (.int 0)) (tCall (sp__law_sure K Cof) [] E0 (tCons (tVar 4) (tCons (tOp rISub (tC (.int 0)) (tVar 3)) (tNil))))))))

section
variable {K : PySem.W.Frag} {Cof : String → Addr} {vs : List V} {H : Hp} {Q : VK} {E : XK}
theorem len__law_side (h : sp__law_side K Cof vs H Q E) : vs.length = 3 := by
  obtain ⟨p, u, e, b, s, t, m, n, rfl, _⟩ := h; rfl
theorem rd__law_side (h : sp__law_side K Cof vs H Q E) : t__law_side K Cof E { nx := fun _ H' => Q .non H', rt := Q } (start ["_law_spot", "_law_top", "_law_bottom", "_law_due", "_law_square"] vs) H := by
  obtain ⟨p, u, e, b, s, t, m, n, rfl, hp, ⟨su, se, sb, st, sm, n0, n9⟩, q⟩ := h
  unfold t__law_side
  unfold MJ.sideV MJ.sd at q
  walk_at "rd"
  refine r_ixT' (i := 2) hp rfl ?_
  walk_at "rd"
  refine r_mul (wide_mul sb st n0 n0 (by omega)) ?_
  walk_at "rd"
  refine r_ixT' (i := 0) hp rfl ?_
  walk_at "rd"
  refine r_mul (wide_mul su sm n0 n0 (by omega)) ?_
  walk_at "rd"
  refine r_ixT' (i := 1) hp rfl ?_
  walk_at "rd"
  refine r_mul (wide_mul se sm n0 n0 (by omega)) ?_
  have sem := wide_lt se sm
  walk_at "rd"
  refine r_mul (wide_mul sem sm (by omega) n0 (by omega)) ?_
  walk_at "rd"
  refine r_ixT' (i := 3) hp rfl ?_
  walk_at "rd"
  have sd : (b * t - u * m).natAbs < 2 ^ (n + n + 1) := by
    have h1 := wide_lt sb st
    have h2 := wide_lt su sm
    rw [Nat.pow_succ]
    generalize (2 : Nat) ^ (n + n) = B at h1 h2
    omega
  refine ite_d (fun h => ?_) (fun h => ?_)
  · rw [if_pos h] at q
    walk_at "rd"
    exact c__law_sure (n + n + 1) sd (by omega) (by omega) q
  · rw [if_neg h] at q
    walk_at "rd"
    refine c__law_sure (n + n + 1) (by omega) (by omega) (by omega) ?_
    walk_at "rd"
    exact q
theorem c__law_side {p : Addr} {u e b s t m : Int} (n : Nat) (hp : H p = some (.tup (([u, e, b, s] : List Int).map V.int))) (hs : u.natAbs < 2 ^ n ∧ e.natAbs < 2 ^ n ∧ b.natAbs < 2 ^ n ∧ t.natAbs < 2 ^ n ∧ m.natAbs < 2 ^ n ∧ 0 < n ∧ n ≤ 10000) (q : Q (.int (MJ.sideV u e b s t m)) H) : sp__law_side K Cof [.ref p, .int t, .int m] H Q E := ⟨p, u, e, b, s, t, m, n, rfl, hp, hs, q⟩
end

/-! #### _law_roots_of -/
--USE FC
def sp__law_roots_of (K : PySem.W.Frag) (Cof : String → Addr) : Sp := fun vs H Q _ => ∃ (a : Addr) (m : Int) (ps : List Addr) (FS : List (List Int)), vs = [.ref a] ∧ SqL K H a (ps.map V.ref) ∧ Tws H ps FS ∧ (∀ F ∈ FS, isF m F) ∧ FS.length ≤ 1000 ∧
  ∀ (D : Addr) (H' : Hp) (qs : List Addr), H D = none → Ex H H' → H' D = some (.lst (qs.map V.ref)) → Tws H' qs (rtsS FS) → Q (.ref D) H'
def t__law_roots_of (K : PySem.W.Frag) (Cof : String → Addr) (E : XK) : TS :=
  tSeq (tAsg (tLst (tNil)) (gName 1))
  (tSeq (tFor (iList K (tVar 0)) (gName 2) (tCut (tIfS (tTest (tOp rGe (tOp (rIxT K) (tVar 2) (tC (.int 1))) (tC (.int 0)))) (tDrop (tBM K "list" rAppend (tVar 1) (tCons (tTup (tCons (tOp (rIxT K) (tVar 2) (tC (.int 0))) (tCons (tOp (rIxT K) (tVar 2) (tC (.int 1))) (tCons (tOp (rIxT K) (tVar 2) (tC (.int 2))) (tCons (tC (.int 1)) (tNil)))))) (tNil)))) (tNext))
  (tIfS (tTest (tOp rGt (tOp (rIxT K) (tVar 2) (tC (.int 1))) (tC (.int 0)))) (tDrop (tBM K "list" rAppend (tVar 1) (tCons (tTup (tCons (tOp (rIxT K) (tVar 2) (tC (.int 0))) (tCons (tOp (rIxT K) (tVar 2) (tC (.int 1))) (tCons (tOp (rIxT K) (tVar 2) (tC (.int 2))) (tCons (tUn rNeg (tC (.int 1))) (tNil)))))) (tNil)))) (tNext))))
  (tRet (tVar 1)))

section
variable {K : PySem.W.Frag} {Cof : String → Addr} {vs : List V} {H : Hp} {Q : VK} {E : XK}
theorem len__law_roots_of (h : sp__law_roots_of K Cof vs H Q E) : vs.length = 1 := by
  obtain ⟨a, m, ps, FS, rfl, _⟩ := h; rfl
theorem rd__law_roots_of (h : sp__law_roots_of K Cof vs H Q E) : t__law_roots_of K Cof E { nx := fun _ H' => Q .non H', rt := Q } (start ["_law_factors", "_law_made", "_law_one"] vs) H := by
  obtain ⟨a, m, ps, FS, rfl, hA, hT, hF, hl, q⟩ := h
  unfold t__law_roots_of
  walk_at "rd"
  refine r_lstK fun D H1 hD e1 h1 => ?_
  walk_at "rd"
  refine loop_list (xs := ps.map V.ref) (fun i σ' H' => ∃ (qs : List Addr) (RS : List (List Int)) (u : Option V), σ' = [some (.ref a), some (.ref D), u] ∧ Ex H H' ∧ H' D = some (.lst (qs.map V.ref)) ∧ Tws H' qs RS ∧ D ∉ qs ∧ RS = rtsS (FS.take i) ∧ qs.length ≤ 2 * i) ⟨[], [], _, rfl, e1, h1, trivial, (fun h => by cases h), rfl, Nat.le_refl _⟩ (fun i σ' H' _ hp => ?_) (fun i x σ' H' hx hp => ?_) (fun σ' H' hp => ?_)
  · obtain ⟨qs, RS, u, rfl, x1, _⟩ := hp
    exact x1.l hA
  · obtain ⟨qs, RS, u5, rfl, x1, x2, x3, x4, x5, x6⟩ := hp
    rw [List.getElem?_map] at hx
    obtain ⟨pt, hpt, rfl⟩ := Option.map_eq_some_iff.mp hx
    obtain ⟨F, hFi, hFp⟩ := hT.get hpt
    have hFm := List.mem_of_getElem? hFi
    have hi : i < ps.length := (List.getElem?_eq_some_iff.mp hpt).1
    have hlen := hT.len
    obtain ⟨u, e, b, rfl, f⟩ := hF F hFm
    have hFp1 := x1 _ _ hFp
    walk_at "rd"
    refine ⟨fun σ2 H2 => ∃ (qs : List Addr) (RS : List (List Int)), σ2 = [some (.ref a), some (.ref D), some (.ref pt)] ∧ Ex H H2 ∧ H2 D = some (.lst (qs.map V.ref)) ∧ Tws H2 qs RS ∧ D ∉ qs ∧ RS = rtsS (FS.take i) ++ (if e ≥ 0 then [[u, e, b, 1]] else []) ∧ qs.length ≤ 2 * i + 1, ?_, fun σ2 H2 hM => ?_⟩
    · walk_at "rd"
      refine r_ixT' (i := 1) hFp1 rfl ?_
      walk_at "rd"
      refine ite_d (fun he => ?_) (fun _ => ?_)
      · walk_at "rd"
        refine r_ixT' (i := 0) hFp1 rfl ?_
        walk_at "rd"
        refine r_ixT' (i := 1) hFp1 rfl ?_
        walk_at "rd"
        refine r_ixT' (i := 2) hFp1 rfl ?_
        walk_at "rd"
        refine r_tupK fun p3 H3 hp3 e3 h3 => ?_
        have n3D : p3 ≠ D := fun z => by rw [z, x2] at hp3; cases hp3
        walk_at "rd"
        refine r_append (e3 _ _ x2) (by rw [List.length_map]; exact small_lt (by omega)) fun H5 b5 h5 => ?_
        walk_at "rd"
        refine ⟨qs ++ [p3], RS ++ [[u, e, b, 1]], rfl, Evl.Ex.mutb (x1.trans e3) b5 hD, by rw [List.map_append]; exact h5, Tws.append ((x3.ex e3).exb b5 x4) ⟨b5 _ n3D _ h3, trivial⟩, ?_, ?_, by rw [List.length_append, List.length_singleton]; omega⟩
        · intro h; rcases List.mem_append.mp h with h | h
          · exact x4 h
          · exact n3D (List.mem_singleton.mp h).symm
        · rw [x5, if_pos he]
      · walk_at "rd"
        exact ⟨qs, RS, rfl, x1, x2, x3, x4, by rw [x5, if_neg (by omega), List.append_nil], by omega⟩
    clear x1 x2 x3 x4 x5 x6 hFp1
    obtain ⟨qs, RS, rfl, x1, x2, x3, x4, x5, x6⟩ := hM
    have hFp1 := x1 _ _ hFp
    have tk : rtsS (FS.take (i + 1)) = rtsS (FS.take i) ++ MJ.rts u e b := by
      unfold rtsS
      rw [List.take_add_one, hFi, List.flatMap_append]
      show _ ++ (MJ.rts u e b ++ []) = _
      rw [List.append_nil]
    unfold MJ.rts at tk
    rw [← List.append_assoc, ← x5] at tk
    walk_at "rd"
    refine r_ixT' (i := 1) hFp1 rfl ?_
    walk_at "rd"
    refine ite_d (fun he => ?_) (fun _ => ?_)
    · walk_at "rd"
      refine r_ixT' (i := 0) hFp1 rfl ?_
      walk_at "rd"
      refine r_ixT' (i := 1) hFp1 rfl ?_
      walk_at "rd"
      refine r_ixT' (i := 2) hFp1 rfl ?_
      walk_at "rd"
      refine r_tupK fun p3 H3 hp3 e3 h3 => ?_
      have n3D : p3 ≠ D := fun z => by rw [z, x2] at hp3; cases hp3
      walk_at "rd"
      refine r_append (e3 _ _ x2) (by rw [List.length_map]; exact small_lt (by omega)) fun H5 b5 h5 => ?_
      walk_at "rd"
      refine ⟨qs ++ [p3], RS ++ [[u, e, b, -1]], _, rfl, Evl.Ex.mutb (x1.trans e3) b5 hD, by rw [List.map_append]; exact h5, Tws.append ((x3.ex e3).exb b5 x4) ⟨b5 _ n3D _ h3, trivial⟩, ?_, ?_, by rw [List.length_append, List.length_singleton]; omega⟩
      · intro h; rcases List.mem_append.mp h with h | h
        · exact x4 h
        · exact n3D (List.mem_singleton.mp h).symm
      · rw [tk, if_pos he]
    · walk_at "rd"
      exact ⟨qs, RS, _, rfl, x1, x2, x3, x4, by rw [tk, if_neg (by omega), List.append_nil], by omega⟩
  · obtain ⟨qs, RS, u, rfl, x1, x2, x3, x4, x5, x6⟩ := hp
    walk_at "rd"
    rw [List.length_map, hT.len, List.take_length] at x5
    subst x5
    exact q D H' qs hD x1 x2 x3
theorem c__law_roots_of {a : Addr} {m : Int} {ps : List Addr} {FS : List (List Int)} (hA : SqL K H a (ps.map V.ref)) (hT : Tws H ps FS) (hF : ∀ F ∈ FS, isF m F) (hl : FS.length ≤ 1000) (q : ∀ (D : Addr) (H' : Hp) (qs : List Addr), H D = none → Ex H H' → H' D = some (.lst (qs.map V.ref)) → Tws H' qs (rtsS FS) → Q (.ref D) H') : sp__law_roots_of K Cof [.ref a] H Q E := ⟨a, m, ps, FS, rfl, hA, hT, hF, hl, q⟩
end

/-! #### _law_is_ratio -/
--USE QR
def sp__law_is_ratio (K : PySem.W.Frag) (Cof : String → Addr) : Sp := fun vs H Q _ => ∃ (a : Addr) (x : Rat), vs = [.ref a] ∧ IsQ (Cof "Ratio") H a x ∧ Q (.bl true) H
def t__law_is_ratio (K : PySem.W.Frag) (Cof : String → Addr) (E : XK) : TS :=
  tSeq (tIfS (tOr (tNot (tB (tCB (rIsi K) (tCons (tVar 0) (tCons (tC (.ref (Cof "Ratio"))) (tNil)))))) (tOr (tNot (tB (tCall (sp__law_whole K Cof) [] E0 (tCons (tFld K (tVar 0) "top") (tNil))))) (tNot (tB (tCall (sp__law_whole K Cof) [] E0 (tCons (tFld K (tVar 0) "bottom") (tNil))))))) (tRet (tC (.bl false))) (tNext))
  (tRet (tAndV (tOp rGt (tFld K (tVar 0) "bottom") (tC (.int 0))) (tOp rEq (tCall (sp__law_gcd K Cof) [] E0 (tCons (tFld K (tVar 0) "top") (tCons (tFld K (tVar 0) "bottom") (tNil)))) (tC (.int 1)))))

section
variable {K : PySem.W.Frag} {Cof : String → Addr} {vs : List V} {H : Hp} {Q : VK} {E : XK}
theorem len__law_is_ratio (h : sp__law_is_ratio K Cof vs H Q E) : vs.length = 1 := by
  obtain ⟨a, x, rfl, _⟩ := h; rfl
theorem rd__law_is_ratio (X : ExT K Cof) (h : sp__law_is_ratio K Cof vs H Q E) : t__law_is_ratio K Cof E { nx := fun _ H' => Q .non H', rt := Q } (start ["_law_found"] vs) H := by
  obtain ⟨a, x, rfl, hA, q⟩ := h
  have cl := X.cl_Ratio
  have nt := X.n_Ratio_top
  have nb := X.n_Ratio_bottom
  have q0 := q_pos x
  have ql := q_low x
  have hA' : IsR (Cof "Ratio") H a x.num (x.den : Int) := hA
  unfold t__law_is_ratio
  walk_at "rd"
  refine r_isR cl X.is_Ratio hA' ?_
  walk_at "rd"
  rw [decide_eq_true q0]
  refine i_t ?_
  walk_at "rd"
  have eg : decide (((Int.gcd x.num (x.den : Int) : Nat) : Int) = 1) = true := by rw [ql]; rfl
  rw [eg]
  exact q
theorem c__law_is_ratio {a : Addr} {x : Rat} (hA : IsQ (Cof "Ratio") H a x) (q : Q (.bl true) H) : sp__law_is_ratio K Cof [.ref a] H Q E := ⟨a, x, rfl, hA, q⟩
end

/-! #### _law_end -/
--USE FC
def sp__law_end (K : PySem.W.Frag) (Cof : String → Addr) : Sp := fun vs H Q _ => ∃ (a : Addr) (c : Int) (ps : List Addr) (FS : List (List Int)), vs = [.int c, .ref a] ∧ SqL K H a (ps.map V.ref) ∧ Tws H ps FS ∧ (∀ F ∈ FS, isF 11 F) ∧ (∃ u b, [u, 0, b] ∈ FS) ∧ FS.length ≤ 1000 ∧
  ∀ (D : Addr) (H' : Hp) (t b : Int), H D = none → Ex H H' → H' D = some (.tup (([t, b] : List Int).map V.int)) → t.natAbs ≤ 30 → 1 ≤ b → b ≤ 9 → Q (.ref D) H'
def t__law_end (K : PySem.W.Frag) (Cof : String → Addr) (E : XK) : TS :=
  tSeq (tAsg (tLc (iList K (tVar 1)) (gName 3) (tTest (tOp rEq (tOp (rIxT K) (tVar 3) (tC (.int 1))) (tC (.int 0)))) (tVar 3) [3]) (gName 2))
  (tSeq (tIfS (tTest (tOp rLt (tOp rMod (tVar 0) (tC (.int 3))) (tC (.int 2)))) (tSeq (tAsg (tOp (rIxL K) (tVar 2) (tOp rMod (tOp rDiv (tVar 0) (tC (.int 3))) (tCB (rLenS K) (tCons (tVar 2) (tNil))))) (gName 3))
  (tRet (tTup (tCons (tOp (rIxT K) (tVar 3) (tC (.int 0))) (tCons (tOp (rIxT K) (tVar 3) (tC (.int 2))) (tNil)))))) (tNext))
  (tRet (tTup (tCons (tCall (sp__law_within K Cof) [] E0 (tCons (tOp rDiv (tVar 0) (tC (.int 3))) (tCons (tC (.int 30)) (tNil)))) (tCons (tOp rIAdd (tC (.int 1)) (tOp rMod (tOp rMod (tOp rMul (tVar 0) (tC (.int 48271))) (tC (.int 10007))) (tC (.int 9)))) (tNil))))))

section
variable {K : PySem.W.Frag} {Cof : String → Addr} {vs : List V} {H : Hp} {Q : VK} {E : XK}
theorem len__law_end (h : sp__law_end K Cof vs H Q E) : vs.length = 2 := by
  obtain ⟨a, c, ps, FS, rfl, _⟩ := h; rfl
theorem rd__law_end (h : sp__law_end K Cof vs H Q E) : t__law_end K Cof E { nx := fun _ H' => Q .non H', rt := Q } (start ["_law_cell", "_law_factors", "_law_known", "_law_one"] vs) H := by
  obtain ⟨a, c, ps, FS, rfl, hA, hT, hF, ⟨u0, b0, hm⟩, hl, q⟩ := h
  have hlen := hT.len
  unfold t__law_end
  walk_at "rd"
  refine lc_filt (fun F => decide (F.getD 1 1 = 0)) (by show 3 < 4; decide) hA hT (by omega) (fun p R H1 hR hp e1 Q' k => ?_) fun D H1 qs hD e1 h1 hW _ => ?_
  · obtain ⟨u, e, b, rfl, f⟩ := hF R hR
    walk_at "rd"
    refine r_ixT' (i := 1) hp rfl ?_
    walk_at "rd"
    exact k
  walk_at "rd"
  refine ite_d (fun hc => ?_) (fun hc => ?_)
  · have mem : [u0, 0, b0] ∈ FS.filter fun F => decide (F.getD 1 1 = 0) := List.mem_filter.mpr ⟨hm, rfl⟩
    have l0 := List.length_pos_of_mem mem
    have l1 := hW.len
    walk_at "rd"
    rw [List.length_map]
    walk_at "rd"
    have y0 := Int.fmod_nonneg_of_pos (c.fdiv 3) (show (0 : Int) < (qs.length : Int) by omega)
    have y1 := Int.fmod_lt_of_pos (c.fdiv 3) (show (0 : Int) < (qs.length : Int) by omega)
    generalize (c.fdiv 3).fmod (qs.length : Int) = j at *
    obtain ⟨i, rfl⟩ : ∃ i : Nat, j = (i : Int) := ⟨j.toNat, by omega⟩
    have hi : i < qs.length := by omega
    obtain ⟨R, hRi, hRp⟩ := hW.get (List.getElem?_eq_getElem hi)
    obtain ⟨hR1, hR2⟩ := List.mem_filter.mp (List.mem_of_getElem? hRi)
    obtain ⟨u, e, b, rfl, f⟩ := hF R hR1
    refine r_ixL (v := .ref qs[i]) (SqL.inj h1) (atI_nat (j := i) (by rw [List.getElem?_map, List.getElem?_eq_getElem hi]; rfl)) ?_
    walk_at "rd"
    refine r_ixT' (i := 0) hRp rfl ?_
    walk_at "rd"
    refine r_ixT' (i := 2) hRp rfl ?_
    walk_at "rd"
    have f1 := f.su
    have f2 := f.b1
    have f3 := f.b3
    exact r_tupK fun p H' hp e' h => q p H' u b (Evl.fresh_back e1 hp) (e1.trans e') h (by omega) f2 (by omega)
  · walk_at "rd"
    refine c__law_within (by decide) (by decide) ?_
    walk_at "rd"
    refine r_mulR (by decide) ?_
    walk_at "rd"
    have y0 := Int.fmod_nonneg_of_pos ((c * 48271).fmod 10007) (show (0 : Int) < 9 by decide)
    have y1 := Int.fmod_lt_of_pos ((c * 48271).fmod 10007) (show (0 : Int) < 9 by decide)
    have z0 := sgn_ge (c := c.fdiv 3) (show (0 : Int) ≤ 30 by decide)
    have z1 := sgn_le (c := c.fdiv 3) (show (0 : Int) ≤ 30 by decide)
    exact r_tupK fun p H' hp e' h => q p H' _ _ (Evl.fresh_back e1 hp) (e1.trans e') h (by omega) (by omega) (by omega)
theorem c__law_end {a : Addr} {c : Int} {ps : List Addr} {FS : List (List Int)} (hA : SqL K H a (ps.map V.ref)) (hT : Tws H ps FS) (hF : ∀ F ∈ FS, isF 11 F) (hm : ∃ u b, [u, 0, b] ∈ FS) (hl : FS.length ≤ 1000) (q : ∀ (D : Addr) (H' : Hp) (t b : Int), H D = none → Ex H H' → H' D = some (.tup (([t, b] : List Int).map V.int)) → t.natAbs ≤ 30 → 1 ≤ b → b ≤ 9 → Q (.ref D) H') : sp__law_end K Cof [.int c, .ref a] H Q E := ⟨a, c, ps, FS, rfl, hA, hT, hF, hm, hl, q⟩
end

/-! #### _law_amid -/
--USE FC
/-- the sizes with which a span is looked at -/
structure ASz (n : Nat) (RS : List (List Int)) (l h q : Int) : Prop where
  sR : ∀ R ∈ RS, ∃ m, isS m R
  sl : l.natAbs < 2 ^ n
  sh : h.natAbs < 2 ^ n
  sq : q.natAbs < 2 ^ n
  n0 : 30 ≤ n
  n9 : n ≤ 10000
  len : RS.length ≤ 1000
theorem ASz.one {n : Nat} {RS : List (List Int)} {l h q : Int} (s : ASz n RS l h q) {u e b σ : Int} (hm : [u, e, b, σ] ∈ RS) : u.natAbs < 2 ^ n ∧ e.natAbs < 2 ^ n ∧ b.natAbs < 2 ^ n := by
  obtain ⟨m, u', e', b', s', hh, f, _⟩ := s.sR _ hm
  simp only [List.cons.injEq, and_true] at hh
  obtain ⟨rfl, rfl, rfl, rfl⟩ := hh
  have := f.su'
  have := f.se
  have := f.b1
  have := f.b3
  have : (2 : Nat) ^ 30 ≤ 2 ^ n := Nat.pow_le_pow_right (by decide) s.n0
  omega
def sp__law_amid (K : PySem.W.Frag) (Cof : String → Addr) : Sp := fun vs H Q _ => ∃ (a t : Addr) (ps : List Addr) (RS : List (List Int)) (l h q : Int) (n : Nat), vs = [.ref a, .ref t] ∧ SqL K H a (ps.map V.ref) ∧ Tws H ps RS ∧ H t = some (.tup (([l, h, q] : List Int).map V.int)) ∧ ASz n RS l h q ∧
  ∀ (D : Addr) (H' : Hp) (qs : List Addr), H D = none → Ex H H' → H' D = some (.lst (qs.map V.ref)) → Tws H' qs (RS.filter fun R => amidR R l h q) → Q (.ref D) H'
def t__law_amid (K : PySem.W.Frag) (Cof : String → Addr) (E : XK) : TS :=
  tSeq (tAsg (tLst (tNil)) (gName 2))
  (tSeq (tFor (iList K (tVar 0)) (gName 3) (tIfS (tAnd (tTest (tOp rGt (tCall (sp__law_side K Cof) [] E0 (tCons (tVar 3) (tCons (tOp (rIxT K) (tVar 1) (tC (.int 0))) (tCons (tOp (rIxT K) (tVar 1) (tC (.int 2))) (tNil))))) (tC (.int 0)))) (tTest (tOp rLe (tCall (sp__law_side K Cof) [] E0 (tCons (tVar 3) (tCons (tOp (rIxT K) (tVar 1) (tC (.int 1))) (tCons (tOp (rIxT K) (tVar 1) (tC (.int 2))) (tNil))))) (tC (.int 0))))) (tDrop (tBM K "list" rAppend (tVar 2) (tCons (tVar 3) (tNil)))) (tNext)))
  (tRet (tVar 2)))

section
variable {K : PySem.W.Frag} {Cof : String → Addr} {vs : List V} {H : Hp} {Q : VK} {E : XK}
theorem len__law_amid (h : sp__law_amid K Cof vs H Q E) : vs.length = 2 := by
  obtain ⟨a, t, ps, RS, l, h, q, n, rfl, _⟩ := h; rfl
theorem rd__law_amid (h : sp__law_amid K Cof vs H Q E) : t__law_amid K Cof E { nx := fun _ H' => Q .non H', rt := Q } (start ["_law_spots", "_law_span_here", "_law_found", "_law_spot"] vs) H := by
  obtain ⟨a, t, ps, RS, l, h, q, n, rfl, hA, hT, ht, sz, k⟩ := h
  have n0 := sz.n0
  have n9 := sz.n9
  have sl := sz.sl
  have sh := sz.sh
  have sq := sz.sq
  have hlen := sz.len
  have tl := hT.len
  unfold t__law_amid
  walk_at "rd"
  refine r_lstK fun D H1 hD e1 h1 => ?_
  walk_at "rd"
  refine loop_list (xs := ps.map V.ref) (fun i σ' H' => ∃ (qs : List Addr) (u : Option V), σ' = [some (.ref a), some (.ref t), some (.ref D), u] ∧ Ex H H' ∧ H' D = some (.lst (qs.map V.ref)) ∧ Tws H' qs ((RS.take i).filter fun R => amidR R l h q) ∧ D ∉ qs ∧ qs.length ≤ i) ⟨[], _, rfl, e1, h1, trivial, (fun h => by cases h), Nat.le_refl _⟩ (fun i σ' H' _ hp => ?_) (fun i x σ' H' hx hp => ?_) (fun σ' H' hp => ?_)
  · obtain ⟨qs, u, rfl, x1, _⟩ := hp
    exact x1.l hA
  · obtain ⟨qs, u5, rfl, x1, x2, x3, x4, x5⟩ := hp
    rw [List.getElem?_map] at hx
    obtain ⟨pt, hpt, rfl⟩ := Option.map_eq_some_iff.mp hx
    obtain ⟨R, hRi, hRp⟩ := hT.get hpt
    have hRm := List.mem_of_getElem? hRi
    have hi : i < ps.length := (List.getElem?_eq_some_iff.mp hpt).1
    obtain ⟨m, u, e, b, s, rfl, f, e0, hs, _⟩ := sz.sR R hRm
    obtain ⟨z1, z2, z3⟩ := sz.one hRm
    have hRp1 := x1 _ _ hRp
    have ht1 := x1 _ _ ht
    have tk : ∀ c, amidR [u, e, b, s] l h q = c → (RS.take (i + 1)).filter (fun R => amidR R l h q) = (RS.take i).filter (fun R => amidR R l h q) ++ (if c = true then [[u, e, b, s]] else []) := fun c hc => by
      rw [List.take_add_one, hRi, List.filter_append]
      congr 1
      show List.filter _ [[u, e, b, s]] = _
      rw [List.filter_cons, hc]
      rfl
    have am : amidR [u, e, b, s] l h q = decide (0 < MJ.sideV u e b s l q ∧ MJ.sideV u e b s h q ≤ 0) := rfl
    have done : ∀ c, amidR [u, e, b, s] l h q = c → c = false → ∃ (qs : List Addr) (u' : Option V), [some (V.ref a), some (.ref t), some (.ref D), some (.ref pt)] = [some (.ref a), some (.ref t), some (.ref D), u'] ∧ Ex H H' ∧ H' D = some (.lst (qs.map V.ref)) ∧ Tws H' qs ((RS.take (i + 1)).filter fun R => amidR R l h q) ∧ D ∉ qs ∧ qs.length ≤ i + 1 := fun c hc h0 =>
      ⟨qs, _, rfl, x1, x2, by rw [tk c hc, h0, if_neg (by decide), List.append_nil]; exact x3, x4, by omega⟩
    walk_at "rd"
    refine r_ixT' (i := 0) ht1 rfl ?_
    walk_at "rd"
    refine r_ixT' (i := 2) ht1 rfl ?_
    walk_at "rd"
    refine c__law_side n hRp1 ⟨z1, z2, z3, sl, sq, by omega, n9⟩ ?_
    walk_at "rd"
    refine ite_d (fun hg => ?_) (fun hg => ?_)
    · walk_at "rd"
      refine r_ixT' (i := 1) ht1 rfl ?_
      walk_at "rd"
      refine r_ixT' (i := 2) ht1 rfl ?_
      walk_at "rd"
      refine c__law_side n hRp1 ⟨z1, z2, z3, sh, sq, by omega, n9⟩ ?_
      walk_at "rd"
      refine ite_d (fun hl => ?_) (fun hl => ?_)
      · walk_at "rd"
        refine r_append x2 (by rw [List.length_map]; exact small_lt (by omega)) fun H5 b5 h5 => ?_
        have nD : pt ≠ D := fun z => by rw [z, hD] at hRp; cases hRp
        walk_at "rd"
        refine ⟨qs ++ [pt], _, rfl, Evl.Ex.mutb x1 b5 hD, by rw [List.map_append]; exact h5, ?_, ?_, by rw [List.length_append, List.length_singleton]; omega⟩
        · rw [tk true (by rw [am]; exact decide_eq_true ⟨hg, hl⟩), if_pos rfl]
          exact Tws.append (x3.exb b5 x4) ⟨b5 _ nD _ hRp1, trivial⟩
        · intro h; rcases List.mem_append.mp h with h | h
          · exact x4 h
          · exact nD (List.mem_singleton.mp h).symm
      · walk_at "rd"
        exact done false (by rw [am]; exact decide_eq_false fun z => hl z.2) rfl
    · walk_at "rd"
      exact done false (by rw [am]; exact decide_eq_false fun z => hg z.1) rfl
  · obtain ⟨qs, u, rfl, x1, x2, x3, x4, x5⟩ := hp
    rw [List.length_map, tl, List.take_length] at x3
    walk_at "rd"
    exact k D H' qs hD x1 x2 x3
theorem c__law_amid {a t : Addr} {ps : List Addr} {RS : List (List Int)} {l h q : Int} (n : Nat) (hA : SqL K H a (ps.map V.ref)) (hT : Tws H ps RS) (ht : H t = some (.tup (([l, h, q] : List Int).map V.int))) (sz : ASz n RS l h q)
    (k : ∀ (D : Addr) (H' : Hp) (qs : List Addr), H D = none → Ex H H' → H' D = some (.lst (qs.map V.ref)) → Tws H' qs (RS.filter fun R => amidR R l h q) → Q (.ref D) H') : sp__law_amid K Cof [.ref a, .ref t] H Q E := ⟨a, t, ps, RS, l, h, q, n, rfl, hA, hT, ht, sz, k⟩
end

/-! #### _law_half -/
--USE FC
def sp__law_half (K : PySem.W.Frag) (Cof : String → Addr) : Sp := fun vs H Q _ => ∃ (t r : Addr) (R : List Int) (m l h q : Int) (n : Nat), vs = [.ref t, .ref r] ∧ H t = some (.tup (([l, h, q] : List Int).map V.int)) ∧ H r = some (.tup (R.map V.int)) ∧ isS m R ∧ (l.natAbs < 2 ^ n ∧ h.natAbs < 2 ^ n ∧ q.natAbs < 2 ^ n ∧ 30 ≤ n ∧ n ≤ 9000) ∧
  ∀ (D : Addr) (H' : Hp), H D = none → Ex H H' → H' D = some (.tup ((halfS R l h q).map V.int)) → Q (.ref D) H'
def t__law_half (K : PySem.W.Frag) (Cof : String → Addr) (E : XK) : TS :=
  tSeq (tAsg (tOp rIAdd (tOp (rIxT K) (tVar 0) (tC (.int 0))) (tOp (rIxT K) (tVar 0) (tC (.int 1)))) (gName 2))
  (tSeq (tIfS (tTest (tOp rLe (tCall (sp__law_side K Cof) [] E0 (tCons (tVar 1) (tCons (tVar 2) (tCons (tOp rMul (tC (.int 2)) (tOp (rIxT K) (tVar 0) (tC (.int 2)))) (tNil))))) (tC (.int 0)))) (tRet (tTup (tCons (tOp rMul (tC (.int 2)) (tOp (rIxT K) (tVar 0) (tC (.int 0)))) (tCons (tVar 2) (tCons (tOp rMul (tC (.int 2)) (tOp (rIxT K) (tVar 0) (tC (.int 2)))) (tNil)))))) (tNext))
  (tRet (tTup (tCons (tVar 2) (tCons (tOp rMul (tC (.int 2)) (tOp (rIxT K) (tVar 0) (tC (.int 1)))) (tCons (tOp rMul (tC (.int 2)) (tOp (rIxT K) (tVar 0) (tC (.int 2)))) (tNil)))))))

section
variable {K : PySem.W.Frag} {Cof : String → Addr} {vs : List V} {H : Hp} {Q : VK} {E : XK}
theorem len__law_half (h : sp__law_half K Cof vs H Q E) : vs.length = 2 := by
  obtain ⟨t, r, R, m, l, h, q, n, rfl, _⟩ := h; rfl
theorem rd__law_half (h : sp__law_half K Cof vs H Q E) : t__law_half K Cof E { nx := fun _ H' => Q .non H', rt := Q } (start ["_law_span_here", "_law_spot", "_law_middle"] vs) H := by
  obtain ⟨t, r, R, m, l, h, q, n, rfl, ht, hr, ⟨u, e, b, s, rfl, f, e0, hs, _⟩, ⟨sl, sh, sq, n0, n9⟩, k⟩ := h
  have f1 := f.su'
  have f2 := f.se
  have f3 := f.b1
  have f4 := f.b3
  have p30 : (2 : Nat) ^ 30 ≤ 2 ^ (n + 1) := Nat.pow_le_pow_right (by decide) (by omega)
  have pn : (2 : Nat) ^ (n + 1) = 2 * 2 ^ n := by rw [Nat.pow_succ, Nat.mul_comm]
  have sd : MJ.sideR [u, e, b, s] (l + h) (2 * q) = MJ.sideV u e b s (l + h) (2 * q) := rfl
  unfold halfS at k
  rw [sd] at k
  unfold t__law_half
  walk_at "rd"
  refine r_ixT' (i := 0) ht rfl ?_
  walk_at "rd"
  refine r_ixT' (i := 1) ht rfl ?_
  walk_at "rd"
  refine r_ixT' (i := 2) ht rfl ?_
  walk_at "rd"
  refine r_mul (wide_mul (a := 2) (b := n) (by decide) sq (by decide) (by omega) (by omega)) ?_
  walk_at "rd"
  refine c__law_side (n + 1) hr ⟨by omega, by omega, by omega, by omega, by omega, by omega, by omega⟩ ?_
  walk_at "rd"
  refine ite_d (fun hc => ?_) (fun hc => ?_)
  · rw [if_pos hc] at k
    walk_at "rd"
    refine r_ixT' (i := 0) ht rfl ?_
    walk_at "rd"
    refine r_mul (wide_mul (a := 2) (b := n) (by decide) sl (by decide) (by omega) (by omega)) ?_
    walk_at "rd"
    refine r_ixT' (i := 2) ht rfl ?_
    walk_at "rd"
    refine r_mul (wide_mul (a := 2) (b := n) (by decide) sq (by decide) (by omega) (by omega)) ?_
    walk_at "rd"
    exact r_tupK fun p H' hp e' h => k p H' hp e' h
  · rw [if_neg hc] at k
    walk_at "rd"
    refine r_ixT' (i := 1) ht rfl ?_
    walk_at "rd"
    refine r_mul (wide_mul (a := 2) (b := n) (by decide) sh (by decide) (by omega) (by omega)) ?_
    walk_at "rd"
    refine r_ixT' (i := 2) ht rfl ?_
    walk_at "rd"
    refine r_mul (wide_mul (a := 2) (b := n) (by decide) sq (by decide) (by omega) (by omega)) ?_
    walk_at "rd"
    exact r_tupK fun p H' hp e' h => k p H' hp e' h
theorem c__law_half {t r : Addr} {R : List Int} {m l h q : Int} (n : Nat) (ht : H t = some (.tup (([l, h, q] : List Int).map V.int))) (hr : H r = some (.tup (R.map V.int))) (hR : isS m R) (s : l.natAbs < 2 ^ n ∧ h.natAbs < 2 ^ n ∧ q.natAbs < 2 ^ n ∧ 30 ≤ n ∧ n ≤ 9000) (k : ∀ (D : Addr) (H' : Hp), H D = none → Ex H H' → H' D = some (.tup ((halfS R l h q).map V.int)) → Q (.ref D) H') : sp__law_half K Cof [.ref t, .ref r] H Q E := ⟨t, r, R, m, l, h, q, n, rfl, ht, hr, hR, s, k⟩
end

/-! #### _law_span -/
--USE FC
/-- a span with just one of the spots -/
structure SpanOk (RS : List (List Int)) (l h q : Int) : Prop where
  p : MJ.Spn2 l h q
  q50 : q < 2 ^ 50
  one : (RS.filter fun R => amidR R l h q).length = 1
def sp__law_span (K : PySem.W.Frag) (Cof : String → Addr) : Sp := fun vs H Q _ => ∃ (a f r : Addr) (ns : List Int) (ps qs : List Addr) (FS : List (List Int)), vs = [.ref a, .ref f, .ref r] ∧ SqL K H a (ns.map V.int) ∧ SqL K H f (ps.map V.ref) ∧ Tws H ps FS ∧ SqL K H r (qs.map V.ref) ∧ Tws H qs (rtsS FS) ∧ (∀ F ∈ FS, isF 11 F) ∧ (FS.Pairwise fun F G => shpF F ≠ shpF G) ∧ (∃ u b, [u, 0, b] ∈ FS) ∧ FS.length ≤ 400 ∧
  ∀ (D : Addr) (H' : Hp) (l h q : Int), Ex H H' → H' D = some (.tup (([l, h, q] : List Int).map V.int)) → SpanOk (rtsS FS) l h q → Q (.ref D) H'
def t__law_span (K : PySem.W.Frag) (Cof : String → Addr) (E : XK) : TS :=
  tSeq (tAsg (tCall (sp__law_end K Cof) [] E0 (tCons (tCall (sp__law_cell_at K Cof) [] E0 (tCons (tVar 0) (tCons (tC (.int 2)) (tNil)))) (tCons (tVar 1) (tNil)))) (gName 3))
  (tSeq (tAsg (tCall (sp__law_end K Cof) [] E0 (tCons (tCall (sp__law_cell_at K Cof) [] E0 (tCons (tVar 0) (tCons (tC (.int 3)) (tNil)))) (tCons (tVar 1) (tNil)))) (gName 4))
  (tSeq (tAsg (tTup (tCons (tOp rMul (tOp (rIxT K) (tVar 3) (tC (.int 0))) (tOp (rIxT K) (tVar 4) (tC (.int 1)))) (tCons (tOp rMul (tOp (rIxT K) (tVar 4) (tC (.int 0))) (tOp (rIxT K) (tVar 3) (tC (.int 1)))) (tCons (tOp rMul (tOp (rIxT K) (tVar 3) (tC (.int 1))) (tOp (rIxT K) (tVar 4) (tC (.int 1)))) (tNil))))) (gName 5))
  (tSeq (tIfS (tAnd (tTest (tOp rLt (tOp (rIxT K) (tVar 5) (tC (.int 0))) (tOp (rIxT K) (tVar 5) (tC (.int 1))))) (tTest (tOp rEq (tCB (rLenS K) (tCons (tCall (sp__law_amid K Cof) [] E0 (tCons (tVar 2) (tCons (tVar 5) (tNil)))) (tNil))) (tC (.int 1))))) (tRet (tVar 5)) (tNext))
  (tSeq (tAsg (tTup (tCons (tUn rNeg (tC (.int 64))) (tCons (tC (.int 64)) (tCons (tC (.int 1)) (tNil))))) (gName 5))
  (tSeq (tAsg (tOp (rIxL K) (tVar 2) (tOp rMod (tCall (sp__law_cell_at K Cof) [] E0 (tCons (tVar 0) (tCons (tC (.int 4)) (tNil)))) (tCB (rLenS K) (tCons (tVar 2) (tNil))))) (gName 6))
  (tSeq (tWhile (tTest (tOp rNe (tCB (rLenS K) (tCons (tCall (sp__law_amid K Cof) [] E0 (tCons (tVar 2) (tCons (tVar 5) (tNil)))) (tNil))) (tC (.int 1)))) (tAsg (tCall (sp__law_half K Cof) [] E0 (tCons (tVar 5) (tCons (tVar 6) (tNil)))) (gName 5)))
  (tRet (tVar 5))))))))

section
variable {K : PySem.W.Frag} {Cof : String → Addr} {vs : List V} {H : Hp} {Q : VK} {E : XK}
theorem len__law_span (h : sp__law_span K Cof vs H Q E) : vs.length = 3 := by
  obtain ⟨a, f, r, ns, ps, qs, FS, rfl, _⟩ := h; rfl
theorem rts_len (FS : List (List Int)) : (rtsS FS).length ≤ 2 * FS.length := by
  induction FS with
  | nil => exact Nat.le_refl _
  | cons F FS ih =>
    show (MJ.rtsF F ++ rtsS FS).length ≤ _
    rw [List.length_append, List.length_cons]
    have : (MJ.rtsF F).length ≤ 2 := by
      unfold MJ.rtsF
      split
      · unfold MJ.rts
        rw [List.length_append]
        split <;> split <;> simp
      · simp
    omega
/-- two amid: not too short -/
theorem two_amid {RS : List (List Int)} {l h q : Int} (hR : ∀ R ∈ RS, isS 11 R) (hp : RS.Pairwise Difs) (P : MJ.Spn2 l h q) (h2 : 2 ≤ (RS.filter fun R => amidR R l h q).length) : q.natAbs ≤ 4294967296 * (h - l).natAbs := by
  have hpf := hp.filter (fun R => amidR R l h q)
  have hm : ∀ R ∈ RS.filter fun R => amidR R l h q, R ∈ RS ∧ amidR R l h q = true := fun R hR => List.mem_filter.mp hR
  generalize RS.filter (fun R => amidR R l h q) = L at *
  match L, h2, hpf, hm with
  | R :: R' :: L, _, hpf, hm =>
    have m1 := hm R (List.mem_cons_self ..)
    have m2 := hm R' (List.mem_cons_of_mem _ (List.mem_cons_self ..))
    exact sep_any (hR R m1.1) (hR R' m2.1) ((List.pairwise_cons.mp hpf).1 R' (List.mem_cons_self ..)) P m1.2 m2.2
theorem far_amid {R : List Int} (h : isS 11 R) : amidR R (-64) 64 1 = true := by
  obtain ⟨u, e, b, s, rfl, f, e0, hs, _⟩ := h
  have f1 := f.su
  have f2 := f.se
  have f3 := f.b1
  have f4 := f.b3
  rw [amid_iff]
  unfold MJ.Amid MJ.sideV
  have g1 : 53 ≤ b * 64 - u * 1 := by omega
  have g2 : b * -64 - u * 1 ≤ -53 := by omega
  generalize b * 64 - u * 1 = d at *
  generalize b * -64 - u * 1 = c at *
  have k1 := MJ.sq_mono (x := 53) (by decide) g1
  have k2 := MJ.sq_anti (x := -53) (by decide) g2
  have hn : ∀ x : Int, x ≤ 0 ↔ ¬ 0 < x := fun x => by omega
  rw [hn, MJ.sd_pos hs, MJ.sd_pos hs]
  rcases hs with rfl | rfl
  · exact ⟨.inl ⟨rfl, .inl (by omega)⟩, fun z => by omega⟩
  · exact ⟨.inr ⟨rfl, by omega, by omega⟩, fun z => by omega⟩
theorem halfS_eq {R : List Int} {l h q : Int} (hA : amidR R l h q = true) (hR : ∃ m, isS m R) (q0 : 0 < q) : ∃ l' h' q', halfS R l h q = [l', h', q'] ∧ q' = 2 * q ∧ h' - l' = h - l ∧ amidR R l' h' q' = true ∧ ((l' = 2 * l ∧ h' = l + h ∧ MJ.sideR R (l + h) (2 * q) ≤ 0) ∨ (l' = l + h ∧ h' = 2 * h ∧ ¬ MJ.sideR R (l + h) (2 * q) ≤ 0)) := by
  obtain ⟨m, u, e, b, s, rfl, f, e0, hs, _⟩ := hR
  rw [amid_iff] at hA
  obtain ⟨a1, a2⟩ := hA
  have sc : ∀ t, MJ.sideV u e b s (2 * t) (2 * q) = MJ.sideV u e b s t q := fun t => MJ.side_scale hs (by decide)
  unfold halfS
  have sd : MJ.sideR [u, e, b, s] (l + h) (2 * q) = MJ.sideV u e b s (l + h) (2 * q) := rfl
  rw [sd]
  by_cases hc : MJ.sideV u e b s (l + h) (2 * q) ≤ 0
  · rw [if_pos hc]
    exact ⟨_, _, _, rfl, rfl, by omega, amid_iff.mpr ⟨by rw [sc]; exact a1, hc⟩, .inl ⟨rfl, rfl, hc⟩⟩
  · rw [if_neg hc]
    exact ⟨_, _, _, rfl, rfl, by omega, amid_iff.mpr ⟨by omega, by rw [sc]; exact a2⟩, .inr ⟨rfl, rfl, hc⟩⟩
theorem rd__law_span (h : sp__law_span K Cof vs H Q E) : t__law_span K Cof E { nx := fun _ H' => Q .non H', rt := Q } (start ["_law_script", "_law_factors", "_law_spots", "_law_low", "_law_high", "_law_span_here", "_law_spot"] vs) H := by
  obtain ⟨a, f, r, ns, ps, qs, FS, rfl, hA, hf, hT, hr, hT2, hF, hpw, hm, hl, k⟩ := h
  have hIS := rtsS_isS hF
  have hDf := rts_pair hF hpw
  have rl := rts_len FS
  have l2 := hT2.len
  have l0 : 0 < (rtsS FS).length := by
    obtain ⟨u, b, hm⟩ := hm
    refine List.length_pos_of_mem (a := [u, 0, b, 1]) (List.mem_flatMap.mpr ⟨_, hm, ?_⟩)
    show _ ∈ MJ.rts u 0 b
    unfold MJ.rts
    rw [if_pos (by decide), if_neg (by decide)]
    simp
  unfold t__law_span
  walk_at "rd"
  refine c__law_end hf hT hF hm (by omega) fun D1 H1 t1 b1 hD1 e1 h1 c1 c2 c3 => ?_
  walk_at "rd"
  refine c__law_end (e1.l hf) (hT.ex e1) hF hm (by omega) fun D2 H2 t2 b2 hD2 e2 h2 d1 d2 d3 => ?_
  have h1' := e2 _ _ h1
  have e12 := e1.trans e2
  walk_at "rd"
  refine r_ixT' (i := 0) h1' rfl ?_
  walk_at "rd"
  refine r_ixT' (i := 1) h2 rfl ?_
  walk_at "rd"
  refine r_mul (wide_mul (a := 6) (b := 6) (by omega) (by omega) (by decide) (by decide) (by decide)) ?_
  walk_at "rd"
  refine r_ixT' (i := 0) h2 rfl ?_
  walk_at "rd"
  refine r_ixT' (i := 1) h1' rfl ?_
  walk_at "rd"
  refine r_mul (wide_mul (a := 6) (b := 6) (by omega) (by omega) (by decide) (by decide) (by decide)) ?_
  walk_at "rd"
  refine r_ixT' (i := 1) h1' rfl ?_
  walk_at "rd"
  refine r_ixT' (i := 1) h2 rfl ?_
  walk_at "rd"
  refine r_mul (wide_mul (a := 6) (b := 6) (by omega) (by omega) (by decide) (by decide) (by decide)) ?_
  have x1 := MJ.mul_abs c1 (show b2.natAbs ≤ 9 by omega)
  have x2 := MJ.mul_abs d1 (show b1.natAbs ≤ 9 by omega)
  have x3 := MJ.mul_abs (show b1.natAbs ≤ 9 by omega) (show b2.natAbs ≤ 9 by omega)
  have x4 : 0 < b1 * b2 := Int.mul_pos (by omega) (by omega)
  have x5 : (t1 * b2).natAbs ≤ 30 * (b1 * b2).natAbs := by
    rw [Int.natAbs_mul, Int.natAbs_mul, ← Nat.mul_assoc]
    refine Nat.mul_le_mul_right _ ?_
    omega
  have x6 : (t2 * b1).natAbs ≤ 30 * (b1 * b2).natAbs := by
    rw [Int.natAbs_mul, Int.natAbs_mul, Nat.mul_comm b1.natAbs, ← Nat.mul_assoc]
    refine Nat.mul_le_mul_right _ ?_
    omega
  generalize t1 * b2 = l at *
  generalize t2 * b1 = h at *
  generalize b1 * b2 = q at *
  walk_at "rd"
  refine r_tupK fun p3 H3 hp3 e3 h3 => ?_
  have h3 : H3 p3 = some (.tup (([l, h, q] : List Int).map V.int)) := h3
  have e13 := e12.trans e3
  have ends : ∀ (n : Nat) {l h q : Int}, 30 ≤ n → n ≤ 10000 → l.natAbs < 2 ^ n → h.natAbs < 2 ^ n → q.natAbs < 2 ^ n → ASz n (rtsS FS) l h q := fun n {l h q} n0 n9 a b c => ⟨fun R hR => ⟨11, hIS R hR⟩, a, b, c, n0, n9, by omega⟩
  with_reducible refine r_gn ?_
  with_reducible refine r_seq ?_
  with_reducible refine r_ifS ?_
  refine and_go (Ex H) (fun H4 e4 => ?_) (fun go => ?_)
  · refine i_f ?_
    walk_at "rd"
    refine r_tupK fun p5 H5 hp5 e5 h5 => ?_
    have h5 : H5 p5 = some (.tup (([-64, 64, 1] : List Int).map V.int)) := h5
    have e45 := e4.trans e5
    walk_at "rd"
    rw [List.length_map]
    walk_at "rd"
    have y0 := Int.fmod_nonneg_of_pos (cellOf ns 4) (show (0 : Int) < (qs.length : Int) by omega)
    have y1 := Int.fmod_lt_of_pos (cellOf ns 4) (show (0 : Int) < (qs.length : Int) by omega)
    generalize (cellOf ns 4).fmod (qs.length : Int) = j at *
    obtain ⟨i, rfl⟩ : ∃ i : Nat, j = (i : Int) := ⟨j.toNat, by omega⟩
    have hi : i < qs.length := by omega
    obtain ⟨R, hRi, hRp⟩ := hT2.get (List.getElem?_eq_getElem hi)
    have hRm := List.mem_of_getElem? hRi
    have hRs := hIS R hRm
    refine r_ixL (v := .ref qs[i]) (e45.l hr) (atI_nat (j := i) (by rw [List.getElem?_map, List.getElem?_eq_getElem hi]; rfl)) ?_
    generalize qs[i] = pr at *
    walk_at "rd"
    refine r_while (fun z σ' H' => ∃ (p : Addr) (l h : Int) (n : Nat), σ' = [some (.ref a), some (.ref f), some (.ref r), some (.ref D1), some (.ref D2), some (.ref p), some (.ref pr)] ∧ Ex H H' ∧ H' p = some (.tup (([l, h, 2 ^ n] : List Int).map V.int)) ∧ h - l = 128 ∧ l.natAbs ≤ 64 * 2 ^ n ∧ h.natAbs ≤ 64 * 2 ^ n ∧ amidR R l h (2 ^ n) = true ∧ n ≤ 40 ∧ z = 40 - n) 40 ⟨p5, -64, 64, 0, rfl, e45, h5, by decide, by decide, by decide, far_amid hRs, by decide, rfl⟩ (fun z σ' H' hw => ?_)
    obtain ⟨p, l, h, n, rfl, e6, hp, w1, w2, w3, w4, w5, rfl⟩ := hw
    have pn : (2 : Nat) ^ n ≤ 2 ^ 40 := Nat.pow_le_pow_right (by decide) w5
    have p0 : (0 : Int) < 2 ^ n := Int.pow_pos (by decide)
    have pa : ((2 : Int) ^ n).natAbs = 2 ^ n := by rw [Int.natAbs_pow]; rfl
    have P : MJ.Spn2 l h (2 ^ n) := ⟨p0, by omega, by rw [pa]; exact w2, by rw [pa]; exact w3⟩
    have e40 : (2 : Nat) ^ 50 = 1024 * 2 ^ 40 := by decide
    walk_at "rd"
    refine c__law_amid 50 (e6.l hr) (hT2.ex e6) hp (ends 50 (by decide) (by decide) (by omega) (by omega) (by rw [pa]; omega)) fun D H7 q7 hD e7 h7 hW7 => ?_
    walk_at "rd"
    have l7 := hW7.len
    rw [List.length_map, l7]
    refine ite_nd (fun hne => ?_) (fun heq => ?_)
    · have l8 : 1 ≤ ((rtsS FS).filter fun R => amidR R l h (2 ^ n)).length := List.length_pos_of_mem (List.mem_filter.mpr ⟨hRm, w4⟩)
      have hq := two_amid hIS hDf P (by omega)
      rw [pa, show (h - l).natAbs = 128 by omega] at hq
      have hn : n < 40 := by
        apply Classical.byContradiction
        intro hh
        have : n = 40 := by omega
        subst this
        revert hq; decide
      obtain ⟨l', h', q', eh, hq', hw', ha', hc'⟩ := halfS_eq w4 ⟨11, hRs⟩ p0
      have e67 := e6.trans e7
      refine wh_in ?_
      walk_at "rd"
      refine c__law_half (R := R) (m := 11) 50 (e7 _ _ hp) (e67 _ _ hRp) hRs ⟨by omega, by omega, by rw [pa]; omega, by decide, by decide⟩ fun p8 H8 hp8 e8 h8 => ?_
      rw [eh] at h8
      have q2 : q' = 2 ^ (n + 1) := by rw [hq', Int.pow_succ, Int.mul_comm]
      subst q2
      have pn2 : (2 : Nat) ^ (n + 1) = 2 * 2 ^ n := by rw [Nat.pow_succ, Nat.mul_comm]
      walk_at "rd"
      refine ⟨40 - (n + 1), by omega, p8, l', h', n + 1, rfl, e67.trans e8, h8, by omega, ?_, ?_, ha', by omega, rfl⟩
      · rcases hc' with ⟨rfl, rfl, _⟩ | ⟨rfl, rfl, _⟩ <;> omega
      · rcases hc' with ⟨rfl, rfl, _⟩ | ⟨rfl, rfl, _⟩ <;> omega
    · walk_at "rd"
      have q50 : (2 : Int) ^ n < 2 ^ 50 := by omega
      exact k p H7 l h (2 ^ n) (e6.trans e7) (e7 _ _ hp) ⟨P, q50, by omega⟩
  · walk_at "rd"
    refine r_ixT' (i := 0) h3 rfl ?_
    walk_at "rd"
    refine r_ixT' (i := 1) h3 rfl ?_
    walk_at "rd"
    refine ite_d (fun hlt => ?_) (fun _ => go _ e13)
    walk_at "rd"
    refine c__law_amid 50 (e13.l hr) (hT2.ex e13) h3 (ends 50 (by decide) (by decide) (by omega) (by omega) (by omega)) fun D H7 q7 hD e7 h7 hW7 => ?_
    walk_at "rd"
    have l7 := hW7.len
    rw [List.length_map, l7]
    by_cases h1 : (((rtsS FS).filter fun R => amidR R l h q).length : Int) = 1
    · rw [decide_eq_true h1]
      refine i_t ?_
      walk_at "rd"
      exact k p3 H7 l h q (e13.trans e7) (e7 _ _ h3) ⟨⟨x4, hlt, by omega, by omega⟩, by omega, by omega⟩
    · rw [decide_eq_false h1]
      exact go _ (e13.trans e7)
theorem c__law_span {a f r : Addr} {ns : List Int} {ps qs : List Addr} {FS : List (List Int)} (hA : SqL K H a (ns.map V.int)) (hf : SqL K H f (ps.map V.ref)) (hT : Tws H ps FS) (hr : SqL K H r (qs.map V.ref)) (hT2 : Tws H qs (rtsS FS)) (hF : ∀ F ∈ FS, isF 11 F) (hpw : FS.Pairwise fun F G => shpF F ≠ shpF G) (hm : ∃ u b, [u, 0, b] ∈ FS) (hl : FS.length ≤ 400) (k : ∀ (D : Addr) (H' : Hp) (l h q : Int), Ex H H' → H' D = some (.tup (([l, h, q] : List Int).map V.int)) → SpanOk (rtsS FS) l h q → Q (.ref D) H') : sp__law_span K Cof [.ref a, .ref f, .ref r] H Q E := ⟨a, f, r, ns, ps, qs, FS, rfl, hA, hf, hT, hr, hT2, hF, hpw, hm, hl, k⟩
end

/-! #### _law_same -/
--USE QR
def sp__law_same (K : PySem.W.Frag) (Cof : String → Addr) : Sp := fun vs H Q _ => ∃ (a : Addr) (x : Rat) (t b : Int) (n : Nat), vs = [.ref a, .int t, .int b] ∧ IsQ (Cof "Ratio") H a x ∧ x * (b : Rat) = (t : Rat) ∧ (Qz n x ∧ t.natAbs < 2 ^ n ∧ b.natAbs < 2 ^ n ∧ 0 < n ∧ n ≤ 400000) ∧ Q (.bl true) H
def t__law_same (K : PySem.W.Frag) (Cof : String → Addr) (E : XK) : TS :=
  tRet (tAndV (tCall (sp__law_is_ratio K Cof) [] E0 (tCons (tVar 0) (tNil))) (tOp rEq (tOp rMul (tFld K (tVar 0) "top") (tVar 2)) (tOp rMul (tFld K (tVar 0) "bottom") (tVar 1))))

section
variable {K : PySem.W.Frag} {Cof : String → Addr} {vs : List V} {H : Hp} {Q : VK} {E : XK}
theorem len__law_same (h : sp__law_same K Cof vs H Q E) : vs.length = 3 := by
  obtain ⟨a, x, t, b, n, rfl, _⟩ := h; rfl
theorem rd__law_same (X : ExT K Cof) (h : sp__law_same K Cof vs H Q E) : t__law_same K Cof E { nx := fun _ H' => Q .non H', rt := Q } (start ["_law_found", "_law_top", "_law_bottom"] vs) H := by
  obtain ⟨a, x, t, b, n, rfl, hA, hx, ⟨sx, st, sb, n0, n9⟩, q⟩ := h
  have cl := X.cl_Ratio
  have nt := X.n_Ratio_top
  have nb := X.n_Ratio_bottom
  have hA' : IsR (Cof "Ratio") H a x.num (x.den : Int) := hA
  unfold t__law_same
  walk_at "rd"
  refine c__law_is_ratio hA ?_
  walk_at "rd"
  refine r_mul (wide_mul sx.1 sb n0 n0 (by omega)) ?_
  walk_at "rd"
  refine r_mul (wide_mul sx.den' st n0 n0 (by omega)) ?_
  walk_at "rd"
  rw [decide_eq_true (show x.num * b = (x.den : Int) * t by rw [q_eq hx, Int.mul_comm])]
  exact q
theorem c__law_same {a : Addr} {x : Rat} {t b : Int} (n : Nat) (hA : IsQ (Cof "Ratio") H a x) (hx : x * (b : Rat) = (t : Rat)) (s : Qz n x ∧ t.natAbs < 2 ^ n ∧ b.natAbs < 2 ^ n ∧ 0 < n ∧ n ≤ 400000) (q : Q (.bl true) H) : sp__law_same K Cof [.ref a, .int t, .int b] H Q E := ⟨a, x, t, b, n, rfl, hA, hx, s, q⟩
end

/-! #### law -/
--USE FC QN
def sp_law (K : PySem.W.Frag) (Cof : String → Addr) : Sp := fun vs H Q _ => ∃ (a : Addr) (ns : List Int), vs = [.ref a] ∧ SqL K H a (ns.map V.int) ∧ ns.length ≤ 63 ∧ ∀ H', Q (.bl true) H'
def t_law (K : PySem.W.Frag) (Cof : String → Addr) (E : XK) : TS :=
  tSeq (tAsg (tCall (sp__law_factors_by K Cof) [] E0 (tCons (tSl (rSlL K) (tVar 0) (tPart (tC (.int 6))) (tNoPart)) (tCons (tC (.int 11)) (tCons (tOp (rIxL K) (tLst (tCons (tC (.int 5)) (tCons (tC (.int 5)) (tCons (tC (.int 5)) (tCons (tC (.int 10)) (tNil)))))) (tOp rMod (tOp rDiv (tCall (sp__law_cell_at K Cof) [] E0 (tCons (tVar 0) (tCons (tC (.int 0)) (tNil)))) (tC (.int 2))) (tC (.int 4)))) (tNil))))) (gName 1))
  (tCut (tIfS (tTest (tOp (rNotInD K) (tLst (tCons (tUn rNeg (tC (.int 4))) (tCons (tC (.int 1)) (tNil)))) (tLc (iList K (tVar 1)) (gName 2) (tYes) (tCall (sp__law_shape K Cof) [] E0 (tCons (tVar 2) (tNil))) [2]))) (tDrop (tBM K "list" rAppend (tVar 1) (tCons (tTup (tCons (tC (.int 4)) (tCons (tC (.int 0)) (tCons (tC (.int 1)) (tNil))))) (tNil)))) (tNext))
  (tSeq (tAsg (tOp rMul (tOp rIAdd (tC (.int 1)) (tOp rMod (tOp rDiv (tCall (sp__law_cell_at K Cof) [] E0 (tCons (tVar 0) (tCons (tC (.int 0)) (tNil)))) (tC (.int 2))) (tOp rPow (tC (.int 10)) (tC (.int 20))))) (tOp rISub (tC (.int 1)) (tOp rMul (tC (.int 2)) (tOp rMod (tCall (sp__law_cell_at K Cof) [] E0 (tCons (tVar 0) (tCons (tC (.int 0)) (tNil)))) (tC (.int 2)))))) (gName 3))
  (tSeq (tAsg (tCall (sp__law_mul K Cof) [] E0 (tCons (tLst (tCons (tVar 3) (tNil))) (tCons (tCall (sp__law_product K Cof) [] E0 (tCons (tVar 1) (tNil))) (tNil)))) (gName 4))
  (tSeq (tAsg (tCall (sp__law_roots_of K Cof) [] E0 (tCons (tVar 1) (tNil))) (gName 5))
  (tSeq (tAsg (tCall (sp__law_span K Cof) [] E0 (tCons (tVar 0) (tCons (tVar 1) (tCons (tVar 5) (tNil))))) (gName 6))
  (tSeq (tAsg (tOp rIAdd (tC (.int 1)) (tOp rMod (tCall (sp__law_cell_at K Cof) [] E0 (tCons (tVar 0) (tCons (tC (.int 1)) (tNil)))) (tC (.int 9)))) (gName 7))
  (tSeq (tAsg (tOp rIAdd (tC (.int 1)) (tOp rMod (tCall (sp__law_cell_at K Cof) [] E0 (tCons (tVar 0) (tCons (tC (.int 5)) (tNil)))) (tOp rPow (tC (.int 10)) (tC (.int 30))))) (gName 8))
  (tSeq (tAsg (tCB (rListS K) (tCons (tVar 4) (tNil))) (gName 9))
  (tSeq (tAsg (tCall (sp_narrowed K Cof) [] E0 (tCons (tVar 9) (tCons (tMake (Cof "Ratio") (sp_Ratio___init__ K Cof) [] E0 (tCons (tOp (rIxT K) (tVar 6) (tC (.int 0))) (tCons (tOp (rIxT K) (tVar 6) (tC (.int 2))) (tNil)))) (tCons (tMake (Cof "Ratio") (sp_Ratio___init__ K Cof) [] E0 (tCons (tOp (rIxT K) (tVar 6) (tC (.int 1))) (tCons (tOp (rIxT K) (tVar 6) (tC (.int 2))) (tNil)))) (tCons (tMake (Cof "Ratio") (sp_Ratio___init__ K Cof) [] E0 (tCons (tVar 7) (tCons (tVar 8) (tNil)))) (tNil)))))) (gName 10))
  (tSeq (tAsg (tOp (rIxL K) (tCall (sp__law_amid K Cof) [] E0 (tCons (tVar 5) (tCons (tVar 6) (tNil)))) (tC (.int 0))) (gName 11))
  (tSeq (tWhile (tTest (tOp rGt (tOp rMul (tOp rISub (tOp (rIxT K) (tVar 6) (tC (.int 1))) (tOp (rIxT K) (tVar 6) (tC (.int 0)))) (tVar 8)) (tOp rMul (tVar 7) (tOp (rIxT K) (tVar 6) (tC (.int 2)))))) (tAsg (tCall (sp__law_half K Cof) [] E0 (tCons (tVar 6) (tCons (tVar 11) (tNil)))) (gName 6)))
  (tSeq (tIfS (tOr (tNot (tB (tCB (rIsi K) (tCons (tVar 10) (tCons (tC (.ty "tuple")) (tNil)))))) (tOr (tTest (tOp rNe (tCB (rLenS K) (tCons (tVar 10) (tNil))) (tC (.int 2)))) (tTest (tOp (rNeD K) (tVar 9) (tVar 4))))) (tRet (tC (.bl false))) (tNext))
  (tRet (tAndV (tCall (sp__law_same K Cof) [] E0 (tCons (tOp (rIxT K) (tVar 10) (tC (.int 0))) (tCons (tOp (rIxT K) (tVar 6) (tC (.int 0))) (tCons (tOp (rIxT K) (tVar 6) (tC (.int 2))) (tNil))))) (tCall (sp__law_same K Cof) [] E0 (tCons (tOp (rIxT K) (tVar 10) (tC (.int 1))) (tCons (tOp (rIxT K) (tVar 6) (tC (.int 1))) (tCons (tOp (rIxT K) (tVar 6) (tC (.int 2))) (tNil)))))))))))))))))))

section
variable {K : PySem.W.Frag} {Cof : String → Addr} {vs : List V} {H : Hp} {Q : VK} {E : XK}
theorem len_law (h : sp_law K Cof vs H Q E) : vs.length = 1 := by
  obtain ⟨a, ns, rfl, _⟩ := h; rfl
theorem shp4 : MB.shp 4 0 1 = [-4, 1] := by decide +kernel
theorem filter_one {α : Type} {p : α → Bool} : ∀ {L : List α}, (L.filter p).length = 1 → ∃ A x B, L = A ++ x :: B ∧ L.filter p = [x] ∧ p x = true ∧ (∀ y ∈ A, ¬ p y = true) ∧ ∀ y ∈ B, ¬ p y = true
  | [], h => by simp at h
  | y :: L, h => by
    rw [List.filter_cons] at h ⊢
    by_cases hy : p y = true
    · rw [if_pos hy] at h ⊢
      have h0 : L.filter p = [] := List.eq_nil_of_length_eq_zero (by simpa using h)
      refine ⟨[], y, L, rfl, by rw [h0], hy, (fun _ h => by cases h), fun z hz => ?_⟩
      have := List.filter_eq_nil_iff.mp h0 z hz
      exact this
    · rw [if_neg hy] at h ⊢
      obtain ⟨A, x, B, rfl, e, hx, hA, hB⟩ := filter_one h
      refine ⟨y :: A, x, B, rfl, e, hx, fun z hz => ?_, hB⟩
      rcases List.mem_cons.mp hz with rfl | hz
      · exact hy
      · exact hA z hz
/-- a spot amid a span, by fractions -/
theorem amid_q {R : List Int} {m l h q : Int} (hR : isS m R) (q0 : 0 < q) : (amidR R l h q = true ↔ (spR R (mq l q) = 1 ∧ spR R (mq h q) ≤ 0)) ∧ ∀ t, MJ.sideR R t q = spR R (mq t q) := by
  obtain ⟨u, e, b, s, rfl, f, e0, hs, _⟩ := hR
  have key : ∀ t, MJ.sideR [u, e, b, s] t q = spR [u, e, b, s] (mq t q) := fun t => SP.side_q hs q0 (mq_mul (by omega))
  refine ⟨?_, key⟩
  unfold amidR
  rw [decide_eq_true_iff, key, key]
  have sp := (SP.spot (u := u) (e := e) (b := b) hs (by have := f.b1; omega) e0).vals (mq l q)
  unfold ST.Sg at sp
  show (0 < SP.spQ u e b s (mq l q) ∧ _) ↔ (SP.spQ u e b s (mq l q) = 1 ∧ _)
  constructor
  · rintro ⟨a, b⟩; exact ⟨by omega, b⟩
  · rintro ⟨a, b⟩; exact ⟨by omega, b⟩
theorem mq_half (l h q : Int) (q0 : 0 < q) : mq (l + h) (2 * q) = (mq l q + mq h q) / 2 ∧ mq (2 * l) (2 * q) = mq l q := by
  have e1 := mq_mul (t := l) (b := q) (by omega)
  have e2 := mq_mul (t := h) (b := q) (by omega)
  have two : ((2 : Int) : Rat) = 2 := rfl
  constructor
  · refine mq_of (by omega) ?_
    rw [Rat.intCast_mul, Rat.intCast_add, ← e1, ← e2, two]; grind
  · refine mq_of (by omega) ?_
    rw [Rat.intCast_mul, Rat.intCast_mul, ← e1, two]; grind
theorem wide_q {l h q t b : Int} (q0 : 0 < q) (b0 : 0 < b) : (h - l) * b > t * q ↔ mq h q - mq l q > mq t b := by
  have e1 := mq_mul (t := l) (b := q) (by omega)
  have e2 := mq_mul (t := h) (b := q) (by omega)
  have e3 := mq_mul (t := t) (b := b) (by omega)
  have h1 : (mq h q - mq l q) * (q : Rat) = ((h - l : Int) : Rat) := by rw [Rat.intCast_sub, ← e1, ← e2]; grind
  exact cross_lt b0 q0 e3 h1
theorem rd_law (h : sp_law K Cof vs H Q E) : t_law K Cof E { nx := fun _ H' => Q .non H', rt := Q } (start ["_law_script", "_law_factors", "_law_one", "_law_lead", "_law_kp", "_law_spots", "_law_span_here", "_law_top", "_law_bottom", "_law_handed", "_law_found", "_law_spot"] vs) H := by
  obtain ⟨a, ns, rfl, hS, hl, q⟩ := h
  unfold t_law
  have e20 : (10 : Int) ^ (20 : Int).toNat = 100000000000000000000 := by decide
  have e30 : (10 : Int) ^ (30 : Int).toNat = 1000000000000000000000000000000 := by decide
  walk_at "rd"
  refine r_slI hS fun p1 H1 hp1 e1 h1 => ?_
  have hsl := sliceI_len ns (some 6) none
  generalize sliceI ns (some 6) none = cs at h1 hsl
  walk_at "rd"
  refine r_lstK fun p2 H2 hp2 e2 h2 => ?_
  have h2 : H2 p2 = some (.lst (([5, 5, 5, 10] : List Int).map V.int)) := h2
  have e12 := e1.trans e2
  walk_at "rd"
  have y0 := Int.fmod_nonneg_of_pos ((cellOf ns 0).fdiv 2) (show (0 : Int) < 4 by decide)
  have y1 := Int.fmod_lt_of_pos ((cellOf ns 0).fdiv 2) (show (0 : Int) < 4 by decide)
  refine r_ixI (ns := [5, 5, 5, 10]) (SqL.inj h2) y0 (by show _ < (4 : Int); omega) ?_
  obtain ⟨room, er, hr⟩ : ∃ room : Nat, ([5, 5, 5, 10] : List Int).getD (((cellOf ns 0).fdiv 2).fmod 4).toNat 0 = (room : Int) ∧ room ≤ 10 := by
    generalize ((cellOf ns 0).fdiv 2).fmod 4 = j at *
    have : j = 0 ∨ j = 1 ∨ j = 2 ∨ j = 3 := by omega
    rcases this with rfl | rfl | rfl | rfl
    · exact ⟨5, rfl, by omega⟩
    · exact ⟨5, rfl, by omega⟩
    · exact ⟨5, rfl, by omega⟩
    · exact ⟨10, rfl, by omega⟩
  rw [er]
  clear er y0 y1
  walk_at "rd"
  refine c__law_factors_by (m := 11) (room := room) (SqL.inj (e2 _ _ h1)) (by omega) (by decide) (by omega) fun pf H3 ps FS hpf e3 h3 hT hF hpw hd => ?_
  have e13 := e12.trans e3
  have hlen := hT.len
  have hdl := len_dgs FS hF
  walk_at "rd"
  refine ⟨fun σ' H' => ∃ (u : Option V) (ps : List Addr) (FS : List (List Int)), σ' = [some (.ref a), some (.ref pf), u, none, none, none, none, none, none, none, none, none] ∧ Ex H H' ∧ H' pf = some (.lst (ps.map V.ref)) ∧ Tws H' ps FS ∧ (∀ F ∈ FS, isF 11 F) ∧ (FS.Pairwise fun F G => shpF F ≠ shpF G) ∧ (∃ u b, [u, 0, b] ∈ FS) ∧ dgs FS ≤ 11, ?_, fun σ' H' hM => ?_⟩
  · walk_at "rd"
    refine r_lstK fun p4 H4 hp4 e4 h4 => ?_
    have h4 : H4 p4 = some (.lst (([-4, 1] : List Int).map V.int)) := h4
    walk_at "rd"
    refine lc_twsN shpF (SqL.inj (e4 _ _ h3)) (hT.ex e4) (by omega) (fun p R H5 hR hp e5 Q' k => ?_) fun D H5 qs hD e5 h5 hW _ => ?_
    · obtain ⟨u, e, b, rfl, f⟩ := hF R hR
      walk_at "rd"
      exact c__law_shape hp f fun p H' hp' e' h' => k p H' hp' e' h'
    have e45 := e4.trans e5
    walk_at "rd"
    refine r_notInRow (SqL.inj (e5 _ _ h4)) (SqL.inj h5) hW ?_
    walk_at "rd"
    by_cases hc : ([-4, 1] : List Int) ∈ FS.map shpF
    · rw [decide_eq_true hc]
      refine i_f ?_
      walk_at "rd"
      refine ⟨_, ps, FS, rfl, e13.trans e45, e45 _ _ h3, hT.ex e45, hF, hpw, ?_, by omega⟩
      obtain ⟨F, hF1, hF2⟩ := List.mem_map.mp hc
      obtain ⟨u, e, b, rfl, f⟩ := hF F hF1
      have e0 : e = 0 := by
        apply Classical.byContradiction
        intro hne
        obtain ⟨_, _, h, _⟩ := MB.shp_sq (u := u) (e := e) (b := b) hne (by have := f.b1; omega)
        have hF2 : MB.shp u e b = [-4, 1] := hF2
        rw [hF2] at h
        simp at h
      exact ⟨u, b, by rw [← e0]; exact hF1⟩
    · rw [decide_eq_false hc]
      refine i_t ?_
      walk_at "rd"
      refine r_tupK fun p6 H6 hp6 e6 h6 => ?_
      have h6 : H6 p6 = some (.tup (([4, 0, 1] : List Int).map V.int)) := h6
      have e46 := e45.trans e6
      have n6 : p6 ≠ pf := fun z => by rw [z, e45 _ _ h3] at hp6; cases hp6
      have nps : pf ∉ ps := fun z => by
        obtain ⟨i, hi, e⟩ := List.getElem_of_mem z
        obtain ⟨R, _, hR⟩ := hT.get (List.getElem?_eq_getElem hi)
        rw [e, h3] at hR; cases hR
      walk_at "rd"
      refine r_append (e46 _ _ h3) (by rw [List.length_map]; exact small_lt (by omega)) fun H7 b7 h7 => ?_
      walk_at "rd"
      refine ⟨_, ps ++ [p6], FS ++ [[4, 0, 1]], rfl, Evl.Ex.mutb (e13.trans e46) b7 (Evl.fresh_back e12 hpf), by rw [List.map_append]; exact h7, Tws.append ((hT.ex e46).exb b7 nps) ⟨b7 _ n6 _ h6, trivial⟩, ?_, ?_, ⟨4, 1, List.mem_append_right _ (List.mem_singleton.mpr rfl)⟩, ?_⟩
      · intro F hF'; rcases List.mem_append.mp hF' with hF' | hF'
        · exact hF F hF'
        · rw [List.mem_singleton.mp hF']
          exact ⟨4, 0, 1, rfl, by decide, by decide, by decide, .inl rfl, by decide, by decide⟩
      · refine List.pairwise_append.mpr ⟨hpw, List.pairwise_singleton .., fun F hF1 G hG z => ?_⟩
        rw [List.mem_singleton.mp hG] at z
        exact hc (List.mem_map.mpr ⟨F, hF1, by rw [z]; exact shp4⟩)
      · have : dgs (FS ++ [[4, 0, 1]]) = dgs FS + 1 := by
          unfold dgs; rw [List.map_append, List.sum_append]
          show _ + ((MB.shp 4 0 1).length - 1 + 0) = _
          rw [shp4]; rfl
        omega
  clear hT hF hpw hd e1 e2 e3 e12 e13 h1 h2 h3 hp1 hp2 hpf hlen hdl hsl hr
  obtain ⟨u2, ps, FS, rfl, e1, h1, hT, hF, hpw, hm, hd⟩ := hM
  have hlen := hT.len
  have hdl := len_dgs FS hF
  have hIS := rtsS_isS hF
  walk_at "rd"
  have x0 := Int.fmod_nonneg_of_pos ((cellOf ns 0).fdiv 2) (show (0 : Int) < (10 : Int) ^ (20 : Int).toNat by decide)
  have x1 := Int.fmod_lt_of_pos ((cellOf ns 0).fdiv 2) (show (0 : Int) < (10 : Int) ^ (20 : Int).toNat by decide)
  have y0 := Int.fmod_nonneg_of_pos (cellOf ns 0) (show (0 : Int) < 2 by decide)
  have y1 := Int.fmod_lt_of_pos (cellOf ns 0) (show (0 : Int) < 2 by decide)
  rw [e20] at x0 x1 ⊢
  refine r_mul (wide_mul (a := 2) (b := 2) (by decide) (by omega) (by decide) (by decide) (by decide)) ?_
  walk_at "rd"
  generalize ((cellOf ns 0).fdiv 2).fmod 100000000000000000000 = x at x0 x1 ⊢
  generalize (cellOf ns 0).fmod 2 = y at y0 y1 ⊢
  refine r_mul (wide_mul (a := 68) (b := 3) (by omega) (by omega) (by decide) (by decide) (by decide)) ?_
  obtain ⟨l, el, hl0, hls⟩ : ∃ l : Int, (1 + x) * (1 - 2 * y) = l ∧ l ≠ 0 ∧ l.natAbs < 2 ^ 71 := ⟨_, rfl, Int.mul_ne_zero (by omega) (by omega), wide_lt (a := 68) (b := 3) (by omega) (by omega)⟩
  rw [el]
  clear x0 x1 y0 y1 el
  walk_at "rd"
  refine r_lstK fun p2 H2 hp2 e2 h2 => ?_
  have h2 : H2 p2 = some (.lst (([l] : List Int).map V.int)) := h2
  walk_at "rd"
  refine c__law_product (SqL.inj (e2 _ _ h1)) (hT.ex e2) hF (by omega) fun p3 H3 hp3 e3 h3 => ?_
  have one1 : Prd [1] 0 1 := ⟨rfl, fun x hx => by rw [List.mem_singleton.mp hx]; decide⟩
  have pr := prodS_prd FS [1] 0 1 hF (by omega) one1
  rw [Nat.zero_add] at pr
  have ln := pr.ln
  have lc := prodS_lc FS [1] hF (by simp) (by decide)
  have nP : prodS [1] FS ≠ [] := fun z => by rw [z] at ln; simp at ln
  walk_at "rd"
  refine c__law_mul (P := [l]) (R := prodS [1] FS) 71 (1 + 80 * dgs FS) (SqL.inj (e3 _ _ h2)) (SqL.inj h3) (by simp) (by omega) (fun z hz => by rw [List.mem_singleton.mp hz]; exact hls) pr.sz ⟨by decide, by omega, by omega⟩ fun p4 H4 hp4 e4 h4 => ?_
  have lP := mulU_length (P := [l]) (Q := prodS [1] FS) (by simp) nP
  rw [show ([l] : List Int).length = 1 from rfl] at lP
  have sM : ML.Sz 1100 (ML.mulU [l] (prodS [1] FS)) := (ML.Sz.mulU (P := [l]) (n := 71) (fun z hz => by rw [List.mem_singleton.mp hz]; exact hls) pr.sz).mono (by show 71 + (1 + 80 * dgs FS) + 1 + 1 ≤ 1100; omega)
  have sgn : ∀ z : Rat, ST.sgR (ST.ev (ML.mulU [l] (prodS [1] FS)) z) = ST.sgR (l : Rat) * ST.pS ((rtsS FS).map spR) z := fun z => by
    rw [ST.ev_cv (fun k => ML.cf_mulU _ _ k), ST.sgR_mul, prod_sign FS [1] hF z]
    have e1 : ST.ev [l] z = (l : Rat) := by show (l : Rat) + z * 0 = _; grind
    have e2 : ST.ev [1] z = 1 := by show ((1 : Int) : Rat) + z * 0 = 1; have : ((1 : Int) : Rat) = 1 := rfl; rw [this]; grind
    rw [e1, e2, show ST.sgR 1 = 1 from ST.sgR_pos (by decide), Int.one_mul]
  have lsg : ST.sgR (l : Rat) = 1 ∨ ST.sgR (l : Rat) = -1 := by
    rcases ST.sgR_cases (l : Rat) with ⟨_, e⟩ | ⟨z, _⟩ | ⟨_, e⟩
    · exact .inr e
    · exact absurd z (cast_ne hl0)
    · exact .inl e
  generalize ML.mulU [l] (prodS [1] FS) = P at *
  have e24 := (e2.trans e3).trans e4
  have e14 := e1.trans e24
  walk_at "rd"
  refine c__law_roots_of (SqL.inj (e24 _ _ h1)) (hT.ex e24) hF (by omega) fun pr5 H5 qs hpr5 e5 h5 hT5 => ?_
  have e25 := e24.trans e5
  have e15 := e1.trans e25
  walk_at "rd"
  refine c__law_span (e15.l hS) (SqL.inj (e25 _ _ h1)) (hT.ex e25) (SqL.inj h5) hT5 hF hpw hm (by omega) fun D H6 lo hi dn e6 h6 ok => ?_
  have e16 := e15.trans e6
  obtain ⟨⟨q0, lh, sl, sh⟩, q50, one⟩ := ok
  walk_at "rd"
  have t0 := Int.fmod_nonneg_of_pos (cellOf ns 1) (show (0 : Int) < 9 by decide)
  have t1 := Int.fmod_lt_of_pos (cellOf ns 1) (show (0 : Int) < 9 by decide)
  have b0 := Int.fmod_nonneg_of_pos (cellOf ns 5) (show (0 : Int) < (10 : Int) ^ (30 : Int).toNat by decide)
  have b1 := Int.fmod_lt_of_pos (cellOf ns 5) (show (0 : Int) < (10 : Int) ^ (30 : Int).toNat by decide)
  rw [e30] at b0 b1 ⊢
  obtain ⟨tp, et, tp1, tp9⟩ : ∃ tp : Int, 1 + (cellOf ns 1).fmod 9 = tp ∧ 1 ≤ tp ∧ tp ≤ 9 := ⟨_, rfl, by omega, by omega⟩
  obtain ⟨bt, eb, bt1, bt9⟩ : ∃ bt : Int, 1 + (cellOf ns 5).fmod 1000000000000000000000000000000 = bt ∧ 1 ≤ bt ∧ bt ≤ 1000000000000000000000000000000 := ⟨_, rfl, by omega, by omega⟩
  rw [et, eb]
  clear t0 t1 b0 b1 et eb
  have h4' := e6 _ _ (e5 _ _ h4)
  refine r_list (xs := P.map V.int) (SqL.inj h4') fun p7 H7 hp7 e7 h7 => ?_
  walk_at "rd"
  refine r_ixT' (i := 0) (e7 _ _ h6) rfl ?_
  walk_at "rd"
  refine r_ixT' (i := 2) (e7 _ _ h6) rfl ?_
  walk_at "rd"
  have pq : dn.natAbs < 2 ^ 50 := by omega
  have k56 : (64 : Nat) * 2 ^ 50 = 2 ^ 56 := by decide
  have sx : Qz 110 (mq lo dn) := (Qz.mq (n := 57) (by omega) (by omega) (by omega)).mono (by decide)
  have sy : Qz 110 (mq hi dn) := (Qz.mq (n := 57) (by omega) (by omega) (by omega)).mono (by decide)
  have sw : Qz 110 (mq tp bt) := (Qz.mq (n := 101) (by omega) (by omega) (by omega)).mono (by decide)
  refine c_RatioQ 57 (by omega) rfl (by omega) (by decide) (by decide) fun p8 H8 hp8 e8 h8 => ?_
  have e78 := e7.trans e8
  walk_at "rd"
  refine r_ixT' (i := 1) (e78 _ _ h6) rfl ?_
  walk_at "rd"
  refine r_ixT' (i := 2) (e78 _ _ h6) rfl ?_
  walk_at "rd"
  refine c_RatioQ 57 (by omega) rfl (by omega) (by decide) (by decide) fun p9 H9 hp9 e9 h9 => ?_
  walk_at "rd"
  refine c_RatioQ 101 (by omega) rfl (by omega) (by decide) (by decide) fun p10 H10 hp10 e10 h10 => ?_
  have e810 := e9.trans e10
  have e710 := e8.trans e810
  have e610 := e7.trans e710
  walk_at "rd"
  obtain ⟨A, R, B, eRS, eF, am, nA, nB⟩ := filter_one one
  have hRS := hIS R (by rw [eRS]; exact List.mem_append_right _ (List.mem_cons_self ..))
  have eqS : (rtsS FS).map spR = A.map spR ++ spR R :: B.map spR := by rw [eRS, List.map_append]; rfl
  have qam := (amid_q hRS q0).1.mp am
  have xy : mq lo dn < mq hi dn := (cross_lt q0 q0 (mq_mul (by omega)) (mq_mul (by omega))).mp (Int.mul_lt_mul_of_pos_right lh q0)
  have alg : ∃ c, Alg P (spR R) c (mq lo dn) (mq hi dn) := by
    have sps : ∀ s ∈ (rtsS FS).map spR, ST.Spot s := fun s hs => by
      obtain ⟨R', hR', rfl⟩ := List.mem_map.mp hs
      exact (hIS R' hR').spot
    have nn : ∀ (L : List (List Int)), (∀ y ∈ L, y ∈ rtsS FS) → (∀ y ∈ L, ¬ amidR y lo hi dn = true) → ∀ t ∈ L.map spR, ¬ (t (mq lo dn) = 1 ∧ t (mq hi dn) ≤ 0) := fun L hL hn t ht => by
      obtain ⟨R', hR', rfl⟩ := List.mem_map.mp ht
      exact fun z => hn R' hR' ((amid_q (hIS R' (hL R' hR')) q0).1.mpr z)
    obtain ⟨c, hc, hz⟩ := ST.alone eqS sps (nn A (fun y hy => by rw [eRS]; exact List.mem_append_left _ hy) nA) (nn B (fun y hy => by rw [eRS]; exact List.mem_append_right _ (List.mem_cons_of_mem _ hy)) nB)
    refine ⟨ST.sgR (l : Rat) * c, hRS.spot, ?_, fun z h1 h2 => ?_, qam.2, xy⟩
    · rcases lsg with e | e <;> rcases hc with rfl | rfl <;> rw [e] <;> decide
    · rw [sgn, hz z h1 h2, Int.mul_assoc]
  obtain ⟨c, al⟩ := alg
  have hk : mq hi dn - mq lo dn ≤ mq tp bt * ((2 ^ 110 : Int) : Rat) := by
    have e1 := mq_mul (t := hi) (b := dn) (by omega)
    have e2 := mq_mul (t := lo) (b := dn) (by omega)
    have e3 := mq_mul (t := tp) (b := bt) (by omega)
    have dq := cast_pos q0
    have bq := cast_pos (show 0 < bt by omega)
    have k1 : mq hi dn - mq lo dn ≤ 128 := by
      apply Classical.byContradiction
      intro hn
      have h1 := Rat.mul_lt_mul_of_pos_right (show 128 < mq hi dn - mq lo dn by grind) dq
      have h2 : ((128 * dn : Int) : Rat) < ((hi - lo : Int) : Rat) := by
        rw [Rat.intCast_mul, Rat.intCast_sub, ← e1, ← e2]
        have : ((128 : Int) : Rat) = 128 := rfl
        rw [this]; grind
      have := cast_lt.mp h2
      omega
    have k2 : 128 ≤ mq tp bt * ((2 ^ 110 : Int) : Rat) := by
      apply Classical.byContradiction
      intro hn
      have h1 := Rat.mul_lt_mul_of_pos_right (show mq tp bt * ((2 ^ 110 : Int) : Rat) < 128 by grind) bq
      have h2 : ((tp * 2 ^ 110 : Int) : Rat) < ((128 * bt : Int) : Rat) := by
        rw [Rat.intCast_mul, Rat.intCast_mul, ← e3]
        have : ((128 : Int) : Rat) = 128 := rfl
        rw [this]; grind
      have := cast_lt.mp h2
      omega
    grind
  refine c_narrowed 110 110 1100 (SqL.inj (e710 _ _ h7)) (h8.ex e810) (h9.ex e10) h10 al sx sy sw hk sM ⟨by decide, by decide, by decide, by omega⟩ fun p11 pa pb H11 hp11 e11 h11 ha hb => ?_
  have e611 := e610.trans e11
  have e711 := e710.trans e11
  walk_at "rd"
  have szA : ASz 60 (rtsS FS) lo hi dn := ⟨fun R hR => ⟨11, hIS R hR⟩, by omega, by omega, by omega, by decide, by decide, by have := rts_len FS; omega⟩
  refine c__law_amid 60 (SqL.inj (e611 _ _ (e6 _ _ h5))) ((hT5.ex e6).ex e611) (e611 _ _ h6) szA fun p12 H12 q12 hp12 e12 h12 hW12 => ?_
  rw [eF] at hW12
  obtain ⟨pR, rfl, hpR⟩ : ∃ p, q12 = [p] ∧ H12 p = some (.tup (R.map V.int)) := by
    match q12, hW12 with
    | [p], h => exact ⟨p, rfl, h.1⟩
  walk_at "rd"
  refine r_ixL (v := .ref pR) (SqL.inj h12) (atI_nat (j := 0) rfl) ?_
  have e612 := e611.trans e12
  have e712 := e711.trans e12
  have ha12 := ha.ex e12
  have hb12 := hb.ex e12
  have h11' := e12 _ _ h11
  have h6' := e612 _ _ h6
  have hqeq : P.map V.int = P.map V.int := rfl
  walk_at "rd"
  refine r_while (fun z σ' H' => ∃ (p : Addr) (l' h' : Int) (j : Nat), σ' = [some (.ref a), some (.ref pf), u2, some (.int l), some (.ref p4), some (.ref pr5), some (.ref p), some (.int tp), some (.int bt), some (.ref p7), some (.ref p11), some (.ref pR)] ∧ Ex H12 H' ∧ H' p = some (.tup (([l', h', dn * 2 ^ j] : List Int).map V.int)) ∧ h' - l' = hi - lo ∧ l'.natAbs ≤ 64 * (dn * 2 ^ j).natAbs ∧ h'.natAbs ≤ 64 * (dn * 2 ^ j).natAbs ∧ amidR R l' h' (dn * 2 ^ j) = true ∧ j + z = 110 ∧ mq h' (dn * 2 ^ j) - mq l' (dn * 2 ^ j) ≤ mq tp bt * ((2 ^ z : Int) : Rat) ∧ ST.nar (spR R) (mq tp bt) 110 (mq lo dn) (mq hi dn) = ST.nar (spR R) (mq tp bt) z (mq l' (dn * 2 ^ j)) (mq h' (dn * 2 ^ j))) 110 ⟨D, lo, hi, 0, rfl, Evl.Ex.refl _, by rw [show dn * 2 ^ 0 = dn by rw [Int.pow_zero]; omega]; exact h6', rfl, by rw [show dn * 2 ^ 0 = dn by rw [Int.pow_zero]; omega]; exact sl, by rw [show dn * 2 ^ 0 = dn by rw [Int.pow_zero]; omega]; exact sh, by rw [show dn * 2 ^ 0 = dn by rw [Int.pow_zero]; omega]; exact am, rfl, by rw [show dn * 2 ^ 0 = dn by rw [Int.pow_zero]; omega]; exact hk, by rw [show dn * 2 ^ 0 = dn by rw [Int.pow_zero]; omega]⟩ (fun z σ' H' hw => ?_)
  obtain ⟨p, l', h', j, rfl, f1, hp, w1, w2, w3, w4, w5, w6, w7⟩ := hw
  have p2 : (0 : Int) < 2 ^ j := Int.pow_pos (by decide)
  have D0 : 0 < dn * 2 ^ j := Int.mul_pos q0 p2
  have Dn : (dn * 2 ^ j).natAbs < 2 ^ 160 := by
    have : ((2 : Int) ^ j).natAbs = 2 ^ j := by rw [Int.natAbs_pow]; rfl
    rw [Int.natAbs_mul, this]
    have h1 : (2 : Nat) ^ j ≤ 2 ^ 110 := Nat.pow_le_pow_right (by decide) (by omega)
    have h2 : dn.natAbs * 2 ^ j ≤ dn.natAbs * 2 ^ 110 := Nat.mul_le_mul_left _ h1
    have h3 : dn.natAbs * 2 ^ 110 < 2 ^ 50 * 2 ^ 110 := Nat.mul_lt_mul_of_pos_right pq (by decide)
    rw [show (2 : Nat) ^ 160 = 2 ^ 50 * 2 ^ 110 by decide]
    omega
  have k166 : (64 : Nat) * 2 ^ 160 = 2 ^ 166 := by decide
  obtain ⟨dj, edj⟩ : ∃ dj, dn * 2 ^ j = dj := ⟨_, rfl⟩
  rw [edj] at hp w2 w3 w4 w6 w7 D0 Dn
  walk_at "rd"
  refine r_ixT' (i := 1) hp rfl ?_
  walk_at "rd"
  refine r_ixT' (i := 0) hp rfl ?_
  walk_at "rd"
  refine r_mul (wide_mul (a := 168) (b := 101) (by omega) (by omega) (by decide) (by decide) (by decide)) ?_
  walk_at "rd"
  refine r_ixT' (i := 2) hp rfl ?_
  walk_at "rd"
  refine r_mul (wide_mul (a := 4) (b := 161) (by omega) (by omega) (by decide) (by decide) (by decide)) ?_
  walk_at "rd"
  have wq := wide_q (l := l') (h := h') (t := tp) D0 (show 0 < bt by omega)
  refine ite_d (fun hgt => ?_) (fun hle => ?_)
  · have hgt' := wq.mp hgt
    obtain ⟨z', rfl⟩ : ∃ z', z = z' + 1 := by
      refine ⟨z - 1, ?_⟩
      by_cases hz : z = 0
      · subst hz
        have one : ((2 ^ 0 : Int) : Rat) = 1 := rfl
        rw [one] at w6
        grind
      · omega
    obtain ⟨l2, h2, q2, eh, hq2, hw2, ha2, hc2⟩ := halfS_eq w4 ⟨11, hRS⟩ D0
    obtain ⟨hm1, hm2⟩ := mq_half l' h' dj D0
    have hm3 := (mq_half h' h' dj D0).2
    have sd := (amid_q (l := 0) (h := 0) hRS (show 0 < 2 * dj by omega)).2 (l' + h')
    rw [hm1] at sd
    have q2e : q2 = dn * 2 ^ (j + 1) := by rw [hq2, ← edj, Int.pow_succ]; grind
    refine wh_in ?_
    walk_at "rd"
    refine c__law_half (R := R) (m := 11) 170 hp (f1 _ _ hpR) hRS ⟨by omega, by omega, by omega, by decide, by decide⟩ fun p13 H13 hp13 e13 h13 => ?_
    rw [eh] at h13
    walk_at "rd"
    rw [two_cast] at w6
    obtain ⟨hf1, hf2⟩ := ST.half_eq (mq l' dj) (mq h' dj)
    subst q2e
    refine ⟨z', by omega, p13, l2, h2, j + 1, rfl, f1.trans e13, h13, by omega, ?_, ?_, ha2, by omega, ?_, ?_⟩
    · rcases hc2 with ⟨rfl, rfl, _⟩ | ⟨rfl, rfl, _⟩ <;> omega
    · rcases hc2 with ⟨rfl, rfl, _⟩ | ⟨rfl, rfl, _⟩ <;> omega
    · rw [hq2]
      rcases hc2 with ⟨rfl, rfl, _⟩ | ⟨rfl, rfl, _⟩
      · rw [hm1, hm2]; grind
      · rw [hm1, hm3]; grind
    · rw [hq2, w7]
      rcases hc2 with ⟨rfl, rfl, hs⟩ | ⟨rfl, rfl, hs⟩
      · rw [hm1, hm2, ST.nar_lo hgt' (by rw [← sd]; exact hs)]
      · rw [hm1, hm3, ST.nar_hi hgt' (by rw [← sd]; exact hs)]
  · have hst : ¬ mq h' dj - mq l' dj > mq tp bt := fun z => hle (wq.mpr z)
    rw [w7, ST.nar_stop hst] at ha12 hb12
    walk_at "rd"
    refine r_isi (.base (.tup (f1 _ _ h11'))) (.ty _) (kit_ty (r := true) (by decide +kernel)) ?_
    walk_at "rd"
    refine r_lenT (.inl (.inl (f1 _ _ h11'))) ?_
    walk_at "rd"
    refine ite_nd (fun h => absurd rfl h) (fun _ => ?_)
    walk_at "rd"
    refine r_neInts (ns := P) (ms := P) (SqL.inj (f1 _ _ (e712 _ _ h7))) (SqL.inj (f1 _ _ (e612 _ _ h4'))) ?_
    rw [decide_eq_true rfl]
    walk_at "rd"
    refine r_ixT (.inl (.inl (f1 _ _ h11'))) (atI_nat (j := 0) rfl) ?_
    walk_at "rd"
    refine r_ixT' (i := 0) hp rfl ?_
    walk_at "rd"
    refine r_ixT' (i := 2) hp rfl ?_
    walk_at "rd"
    refine c__law_same 170 (ha12.ex f1) (mq_mul (by omega)) ⟨Qz.mq (by omega) (by omega) (by omega), by omega, by omega, by decide, by decide⟩ ?_
    walk_at "rd"
    refine r_ixT (.inl (.inl (f1 _ _ h11'))) (atI_nat (j := 1) rfl) ?_
    walk_at "rd"
    refine r_ixT' (i := 1) hp rfl ?_
    walk_at "rd"
    refine r_ixT' (i := 2) hp rfl ?_
    walk_at "rd"
    exact c__law_same 170 (hb12.ex f1) (mq_mul (by omega)) ⟨Qz.mq (by omega) (by omega) (by omega), by omega, by omega, by decide, by decide⟩ (q _)
end

def topS (i : Nat) : Stmt := PySem.Challenge.pw_rootspan_k27_narrowed.main.body.getD i (.Pass ⟨0, 0, 0, 0⟩)
abbrev s_shared : Stmt := topS 6
theorem sc_shared : FnScope ["row", "found", "one", "rest"] ["row"] (defScope s_shared) := ⟨rfl, rfl, rfl, by decide +kernel, rfl, by decide +kernel, by decide +kernel⟩
abbrev s_told_order : Stmt := topS 7
theorem sc_told_order : FnScope ["left", "right"] ["left", "right"] (defScope s_told_order) := ⟨rfl, rfl, rfl, by decide +kernel, rfl, by decide +kernel, by decide +kernel⟩
abbrev s_Ratio___init__ : Stmt := inClass (topS 8) 0
theorem sc_Ratio___init__ : FnScope ["self", "top", "bottom", "part"] ["self", "top", "bottom"] (defScope s_Ratio___init__) := ⟨rfl, rfl, rfl, by decide +kernel, rfl, by decide +kernel, by decide +kernel⟩
abbrev s_Ratio_plus : Stmt := inClass (topS 8) 1
theorem sc_Ratio_plus : FnScope ["self", "other"] ["self", "other"] (defScope s_Ratio_plus) := ⟨rfl, rfl, rfl, by decide +kernel, rfl, by decide +kernel, by decide +kernel⟩
abbrev s_Ratio_minus : Stmt := inClass (topS 8) 2
theorem sc_Ratio_minus : FnScope ["self", "other"] ["self", "other"] (defScope s_Ratio_minus) := ⟨rfl, rfl, rfl, by decide +kernel, rfl, by decide +kernel, by decide +kernel⟩
abbrev s_Ratio_over : Stmt := inClass (topS 8) 4
theorem sc_Ratio_over : FnScope ["self", "other"] ["self", "other"] (defScope s_Ratio_over) := ⟨rfl, rfl, rfl, by decide +kernel, rfl, by decide +kernel, by decide +kernel⟩
abbrev s_Ratio_against : Stmt := inClass (topS 8) 5
theorem sc_Ratio_against : FnScope ["self", "other"] ["self", "other"] (defScope s_Ratio_against) := ⟨rfl, rfl, rfl, by decide +kernel, rfl, by decide +kernel, by decide +kernel⟩
abbrev s_top_at : Stmt := topS 10
theorem sc_top_at : FnScope ["P", "r", "total", "scale", "one"] ["P", "r"] (defScope s_top_at) := ⟨rfl, rfl, rfl, by decide +kernel, rfl, by decide +kernel, by decide +kernel⟩
abbrev s_sign_at : Stmt := topS 11
theorem sc_sign_at : FnScope ["P", "r"] ["P", "r"] (defScope s_sign_at) := ⟨rfl, rfl, rfl, by decide +kernel, rfl, by decide +kernel, by decide +kernel⟩
abbrev s_halfway : Stmt := topS 13
theorem sc_halfway : FnScope ["low", "high"] ["low", "high"] (defScope s_halfway) := ⟨rfl, rfl, rfl, by decide +kernel, rfl, by decide +kernel, by decide +kernel⟩
abbrev s_narrowed : Stmt := topS 14
theorem sc_narrowed : FnScope ["P", "low", "high", "width", "last", "middle", "here"] ["P", "low", "high", "width"] (defScope s_narrowed) := ⟨rfl, rfl, rfl, by decide +kernel, rfl, by decide +kernel, by decide +kernel⟩
abbrev s__law_cell_at : Stmt := topS 16
theorem sc__law_cell_at : FnScope ["_law_script", "_law_k"] ["_law_script", "_law_k"] (defScope s__law_cell_at) := ⟨rfl, rfl, rfl, by decide +kernel, rfl, by decide +kernel, by decide +kernel⟩
abbrev s__law_whole : Stmt := topS 17
theorem sc__law_whole : FnScope ["_law_found"] ["_law_found"] (defScope s__law_whole) := ⟨rfl, rfl, rfl, by decide +kernel, rfl, by decide +kernel, by decide +kernel⟩
abbrev s__law_within : Stmt := topS 18
theorem sc__law_within : FnScope ["_law_cell", "_law_most"] ["_law_cell", "_law_most"] (defScope s__law_within) := ⟨rfl, rfl, rfl, by decide +kernel, rfl, by decide +kernel, by decide +kernel⟩
abbrev s__law_mul : Stmt := topS 19
theorem sc__law_mul : FnScope ["_law_kp", "_law_kq", "_law_made", "_law_k", "_law_i", "_law_one", "_law_j", "_law_other"] ["_law_kp", "_law_kq"] (defScope s__law_mul) := ⟨rfl, rfl, rfl, by decide +kernel, rfl, by decide +kernel, by decide +kernel⟩
abbrev s__law_gcd : Stmt := topS 20
theorem sc__law_gcd : FnScope ["_law_a", "_law_b", "_law_rest"] ["_law_a", "_law_b"] (defScope s__law_gcd) := ⟨rfl, rfl, rfl, by decide +kernel, rfl, by decide +kernel, by decide +kernel⟩
abbrev s__law_shrunk : Stmt := topS 21
theorem sc__law_shrunk : FnScope ["_law_kp", "_law_most", "_law_one"] ["_law_kp"] (defScope s__law_shrunk) := ⟨rfl, rfl, rfl, by decide +kernel, rfl, by decide +kernel, by decide +kernel⟩
abbrev s__law_plain : Stmt := topS 22
theorem sc__law_plain : FnScope ["_law_kp", "_law_made", "_law_one"] ["_law_kp"] (defScope s__law_plain) := ⟨rfl, rfl, rfl, by decide +kernel, rfl, by decide +kernel, by decide +kernel⟩
abbrev s__law_factor_by : Stmt := topS 23
theorem sc__law_factor_by : FnScope ["_law_cell", "_law_most", "_law_u", "_law_b", "_law_n", "_law_e"] ["_law_cell", "_law_most"] (defScope s__law_factor_by) := ⟨rfl, rfl, rfl, by decide +kernel, rfl, by decide +kernel, by decide +kernel⟩
abbrev s__law_shape : Stmt := topS 24
theorem sc__law_shape : FnScope ["_law_factor", "_law_u", "_law_b"] ["_law_factor"] (defScope s__law_shape) := ⟨rfl, rfl, rfl, by decide +kernel, rfl, by decide +kernel, by decide +kernel⟩
abbrev s__law_factors_by : Stmt := topS 25
theorem sc__law_factors_by : FnScope ["_law_drawn", "_law_most", "_law_room", "_law_made", "_law_shapes", "_law_cell", "_law_one", "_law_shape_here"] ["_law_drawn", "_law_most", "_law_room"] (defScope s__law_factors_by) := ⟨rfl, rfl, rfl, by decide +kernel, rfl, by decide +kernel, by decide +kernel⟩
abbrev s__law_product : Stmt := topS 26
theorem sc__law_product : FnScope ["_law_factors", "_law_made", "_law_one"] ["_law_factors"] (defScope s__law_product) := ⟨rfl, rfl, rfl, by decide +kernel, rfl, by decide +kernel, by decide +kernel⟩
abbrev s__law_sure : Stmt := topS 27
theorem sc__law_sure : FnScope ["_law_square", "_law_due"] ["_law_square", "_law_due"] (defScope s__law_sure) := ⟨rfl, rfl, rfl, by decide +kernel, rfl, by decide +kernel, by decide +kernel⟩
abbrev s__law_side : Stmt := topS 28
theorem sc__law_side : FnScope ["_law_spot", "_law_top", "_law_bottom", "_law_due", "_law_square"] ["_law_spot", "_law_top", "_law_bottom"] (defScope s__law_side) := ⟨rfl, rfl, rfl, by decide +kernel, rfl, by decide +kernel, by decide +kernel⟩
abbrev s__law_roots_of : Stmt := topS 29
theorem sc__law_roots_of : FnScope ["_law_factors", "_law_made", "_law_one"] ["_law_factors"] (defScope s__law_roots_of) := ⟨rfl, rfl, rfl, by decide +kernel, rfl, by decide +kernel, by decide +kernel⟩
abbrev s__law_is_ratio : Stmt := topS 30
theorem sc__law_is_ratio : FnScope ["_law_found"] ["_law_found"] (defScope s__law_is_ratio) := ⟨rfl, rfl, rfl, by decide +kernel, rfl, by decide +kernel, by decide +kernel⟩
abbrev s__law_end : Stmt := topS 31
theorem sc__law_end : FnScope ["_law_cell", "_law_factors", "_law_known", "_law_one"] ["_law_cell", "_law_factors"] (defScope s__law_end) := ⟨rfl, rfl, rfl, by decide +kernel, rfl, by decide +kernel, by decide +kernel⟩
abbrev s__law_amid : Stmt := topS 32
theorem sc__law_amid : FnScope ["_law_spots", "_law_span_here", "_law_found", "_law_spot"] ["_law_spots", "_law_span_here"] (defScope s__law_amid) := ⟨rfl, rfl, rfl, by decide +kernel, rfl, by decide +kernel, by decide +kernel⟩
abbrev s__law_half : Stmt := topS 33
theorem sc__law_half : FnScope ["_law_span_here", "_law_spot", "_law_middle"] ["_law_span_here", "_law_spot"] (defScope s__law_half) := ⟨rfl, rfl, rfl, by decide +kernel, rfl, by decide +kernel, by decide +kernel⟩
abbrev s__law_span : Stmt := topS 34
theorem sc__law_span : FnScope ["_law_script", "_law_factors", "_law_spots", "_law_low", "_law_high", "_law_span_here", "_law_spot"] ["_law_script", "_law_factors", "_law_spots"] (defScope s__law_span) := ⟨rfl, rfl, rfl, by decide +kernel, rfl, by decide +kernel, by decide +kernel⟩
abbrev s__law_same : Stmt := topS 35
theorem sc__law_same : FnScope ["_law_found", "_law_top", "_law_bottom"] ["_law_found", "_law_top", "_law_bottom"] (defScope s__law_same) := ⟨rfl, rfl, rfl, by decide +kernel, rfl, by decide +kernel, by decide +kernel⟩
abbrev s_law : Stmt := topS 36
theorem sc_law : FnScope ["_law_script", "_law_factors", "_law_one", "_law_lead", "_law_kp", "_law_spots", "_law_span_here", "_law_top", "_law_bottom", "_law_handed", "_law_found", "_law_spot"] ["_law_script"] (defScope s_law) := ⟨rfl, rfl, rfl, by decide +kernel, rfl, by decide +kernel, by decide +kernel⟩
structure Txt (K : PySem.W.Frag) (mg : Str → Option Value) (Cof : String → Addr) (ad : Nat → Addr) (fd : Nat → FuncData) : Prop where
  z_abs : mg "abs" = none
  z_bool : mg "bool" = none
  z_enumerate : mg "enumerate" = none
  z_int : mg "int" = none
  z_isinstance : mg "isinstance" = none
  z_len : mg "len" = none
  z_list : mg "list" = none
  z_range : mg "range" = none
  z_reversed : mg "reversed" = none
  z_tuple : mg "tuple" = none
  g_shared : mg "shared" = some (.ref (ad 0))
  F_shared : Fun K "shared" "shared" s_shared (ad 0) (fd 0)
  g_told_order : mg "told_order" = some (.ref (ad 1))
  F_told_order : Fun K "told_order" "told_order" s_told_order (ad 1) (fd 1)
  F_Ratio___init__ : FunD K "__init__" "Ratio.__init__" (defArgs s_Ratio___init__) (defBody s_Ratio___init__) (defScope s_Ratio___init__) [.int 1] [] (ad 2) (fd 2)
  mk_Ratio : Mk K (Cof "Ratio") (ad 2)
  F_Ratio_plus : Fun K "plus" "Ratio.plus" s_Ratio_plus (ad 3) (fd 3)
  meth_Ratio_plus : Meth K (Cof "Ratio") "plus" (ad 3)
  F_Ratio_minus : Fun K "minus" "Ratio.minus" s_Ratio_minus (ad 4) (fd 4)
  meth_Ratio_minus : Meth K (Cof "Ratio") "minus" (ad 4)
  F_Ratio_over : Fun K "over" "Ratio.over" s_Ratio_over (ad 5) (fd 5)
  meth_Ratio_over : Meth K (Cof "Ratio") "over" (ad 5)
  F_Ratio_against : Fun K "against" "Ratio.against" s_Ratio_against (ad 6) (fd 6)
  meth_Ratio_against : Meth K (Cof "Ratio") "against" (ad 6)
  g_top_at : mg "top_at" = some (.ref (ad 7))
  F_top_at : Fun K "top_at" "top_at" s_top_at (ad 7) (fd 7)
  g_sign_at : mg "sign_at" = some (.ref (ad 8))
  F_sign_at : Fun K "sign_at" "sign_at" s_sign_at (ad 8) (fd 8)
  g_halfway : mg "halfway" = some (.ref (ad 9))
  F_halfway : Fun K "halfway" "halfway" s_halfway (ad 9) (fd 9)
  g_narrowed : mg "narrowed" = some (.ref (ad 10))
  F_narrowed : Fun K "narrowed" "narrowed" s_narrowed (ad 10) (fd 10)
  g__law_cell_at : mg "_law_cell_at" = some (.ref (ad 11))
  F__law_cell_at : Fun K "_law_cell_at" "_law_cell_at" s__law_cell_at (ad 11) (fd 11)
  g__law_whole : mg "_law_whole" = some (.ref (ad 12))
  F__law_whole : Fun K "_law_whole" "_law_whole" s__law_whole (ad 12) (fd 12)
  g__law_within : mg "_law_within" = some (.ref (ad 13))
  F__law_within : Fun K "_law_within" "_law_within" s__law_within (ad 13) (fd 13)
  g__law_mul : mg "_law_mul" = some (.ref (ad 14))
  F__law_mul : Fun K "_law_mul" "_law_mul" s__law_mul (ad 14) (fd 14)
  g__law_gcd : mg "_law_gcd" = some (.ref (ad 15))
  F__law_gcd : Fun K "_law_gcd" "_law_gcd" s__law_gcd (ad 15) (fd 15)
  g__law_shrunk : mg "_law_shrunk" = some (.ref (ad 16))
  F__law_shrunk : Fun K "_law_shrunk" "_law_shrunk" s__law_shrunk (ad 16) (fd 16)
  g__law_plain : mg "_law_plain" = some (.ref (ad 17))
  F__law_plain : Fun K "_law_plain" "_law_plain" s__law_plain (ad 17) (fd 17)
  g__law_factor_by : mg "_law_factor_by" = some (.ref (ad 18))
  F__law_factor_by : Fun K "_law_factor_by" "_law_factor_by" s__law_factor_by (ad 18) (fd 18)
  g__law_shape : mg "_law_shape" = some (.ref (ad 19))
  F__law_shape : Fun K "_law_shape" "_law_shape" s__law_shape (ad 19) (fd 19)
  g__law_factors_by : mg "_law_factors_by" = some (.ref (ad 20))
  F__law_factors_by : Fun K "_law_factors_by" "_law_factors_by" s__law_factors_by (ad 20) (fd 20)
  g__law_product : mg "_law_product" = some (.ref (ad 21))
  F__law_product : Fun K "_law_product" "_law_product" s__law_product (ad 21) (fd 21)
  g__law_sure : mg "_law_sure" = some (.ref (ad 22))
  F__law_sure : Fun K "_law_sure" "_law_sure" s__law_sure (ad 22) (fd 22)
  g__law_side : mg "_law_side" = some (.ref (ad 23))
  F__law_side : Fun K "_law_side" "_law_side" s__law_side (ad 23) (fd 23)
  g__law_roots_of : mg "_law_roots_of" = some (.ref (ad 24))
  F__law_roots_of : Fun K "_law_roots_of" "_law_roots_of" s__law_roots_of (ad 24) (fd 24)
  g__law_is_ratio : mg "_law_is_ratio" = some (.ref (ad 25))
  F__law_is_ratio : Fun K "_law_is_ratio" "_law_is_ratio" s__law_is_ratio (ad 25) (fd 25)
  g__law_end : mg "_law_end" = some (.ref (ad 26))
  F__law_end : Fun K "_law_end" "_law_end" s__law_end (ad 26) (fd 26)
  g__law_amid : mg "_law_amid" = some (.ref (ad 27))
  F__law_amid : Fun K "_law_amid" "_law_amid" s__law_amid (ad 27) (fd 27)
  g__law_half : mg "_law_half" = some (.ref (ad 28))
  F__law_half : Fun K "_law_half" "_law_half" s__law_half (ad 28) (fd 28)
  g__law_span : mg "_law_span" = some (.ref (ad 29))
  F__law_span : Fun K "_law_span" "_law_span" s__law_span (ad 29) (fd 29)
  g__law_same : mg "_law_same" = some (.ref (ad 30))
  F__law_same : Fun K "_law_same" "_law_same" s__law_same (ad 30) (fd 30)
  g_law : mg "law" = some (.ref (ad 31))
  F_law : Fun K "law" "law" s_law (ad 31) (fd 31)
  q_Ratio : mg "Ratio" = some (.ref (Cof "Ratio"))
  cls_Ratio : Cls K (Cof "Ratio")
  ex : ExT K Cof
section
variable {P : Program} {w : World} {K : PySem.W.Frag} {mg : Str → Option Value} {base : Heap} {Cof : String → Addr} {ad : Nat → Addr} {fd : Nat → FuncData}
theorem B_shared (T : Txt K mg Cof ad fd) : Binds K (fd 0) ["row"] [] := T.F_shared.binds (ps := ["row"]) fun _ _ _ _ _ _ us hl => match us, hl with | [_], _ => rfl
theorem B_told_order (T : Txt K mg Cof ad fd) : Binds K (fd 1) ["left", "right"] [] := T.F_told_order.binds (ps := ["left", "right"]) fun _ _ _ _ _ _ us hl => match us, hl with | [_, _], _ => rfl
theorem B_Ratio___init__ (T : Txt K mg Cof ad fd) : Binds K (fd 2) ["self", "top", "bottom"] [] := binds_full (T.F_Ratio___init__.binds1 (ps := ["self", "top", "bottom"]) 3 1 (by simp) rfl fun _ _ _ _ _ _ _ us its h1 h2 => match us, its, h1, h2 with | [_, _, _], [_], _, _ => ⟨_, rfl, rfl⟩)
theorem D_Ratio___init__ (T : Txt K mg Cof ad fd) : ∃ ds, Vals [.int 1] ds ∧ Binds K (fd 2) ["self", "top", "bottom"] ds := T.F_Ratio___init__.binds1 (ps := ["self", "top", "bottom"]) 2 0 (by simp) rfl fun _ _ _ _ _ _ _ us its h1 h2 => match us, its, h1, h2 with | [_, _], [_], _, _ => ⟨_, rfl, rfl⟩
theorem B_Ratio_plus (T : Txt K mg Cof ad fd) : Binds K (fd 3) ["self", "other"] [] := T.F_Ratio_plus.binds (ps := ["self", "other"]) fun _ _ _ _ _ _ us hl => match us, hl with | [_, _], _ => rfl
theorem B_Ratio_minus (T : Txt K mg Cof ad fd) : Binds K (fd 4) ["self", "other"] [] := T.F_Ratio_minus.binds (ps := ["self", "other"]) fun _ _ _ _ _ _ us hl => match us, hl with | [_, _], _ => rfl
theorem B_Ratio_over (T : Txt K mg Cof ad fd) : Binds K (fd 5) ["self", "other"] [] := T.F_Ratio_over.binds (ps := ["self", "other"]) fun _ _ _ _ _ _ us hl => match us, hl with | [_, _], _ => rfl
theorem B_Ratio_against (T : Txt K mg Cof ad fd) : Binds K (fd 6) ["self", "other"] [] := T.F_Ratio_against.binds (ps := ["self", "other"]) fun _ _ _ _ _ _ us hl => match us, hl with | [_, _], _ => rfl
theorem B_top_at (T : Txt K mg Cof ad fd) : Binds K (fd 7) ["P", "r"] [] := T.F_top_at.binds (ps := ["P", "r"]) fun _ _ _ _ _ _ us hl => match us, hl with | [_, _], _ => rfl
theorem B_sign_at (T : Txt K mg Cof ad fd) : Binds K (fd 8) ["P", "r"] [] := T.F_sign_at.binds (ps := ["P", "r"]) fun _ _ _ _ _ _ us hl => match us, hl with | [_, _], _ => rfl
theorem B_halfway (T : Txt K mg Cof ad fd) : Binds K (fd 9) ["low", "high"] [] := T.F_halfway.binds (ps := ["low", "high"]) fun _ _ _ _ _ _ us hl => match us, hl with | [_, _], _ => rfl
theorem B_narrowed (T : Txt K mg Cof ad fd) : Binds K (fd 10) ["P", "low", "high", "width"] [] := T.F_narrowed.binds (ps := ["P", "low", "high", "width"]) fun _ _ _ _ _ _ us hl => match us, hl with | [_, _, _, _], _ => rfl
theorem B__law_cell_at (T : Txt K mg Cof ad fd) : Binds K (fd 11) ["_law_script", "_law_k"] [] := T.F__law_cell_at.binds (ps := ["_law_script", "_law_k"]) fun _ _ _ _ _ _ us hl => match us, hl with | [_, _], _ => rfl
theorem B__law_whole (T : Txt K mg Cof ad fd) : Binds K (fd 12) ["_law_found"] [] := T.F__law_whole.binds (ps := ["_law_found"]) fun _ _ _ _ _ _ us hl => match us, hl with | [_], _ => rfl
theorem B__law_within (T : Txt K mg Cof ad fd) : Binds K (fd 13) ["_law_cell", "_law_most"] [] := T.F__law_within.binds (ps := ["_law_cell", "_law_most"]) fun _ _ _ _ _ _ us hl => match us, hl with | [_, _], _ => rfl
theorem B__law_mul (T : Txt K mg Cof ad fd) : Binds K (fd 14) ["_law_kp", "_law_kq"] [] := T.F__law_mul.binds (ps := ["_law_kp", "_law_kq"]) fun _ _ _ _ _ _ us hl => match us, hl with | [_, _], _ => rfl
theorem B__law_gcd (T : Txt K mg Cof ad fd) : Binds K (fd 15) ["_law_a", "_law_b"] [] := T.F__law_gcd.binds (ps := ["_law_a", "_law_b"]) fun _ _ _ _ _ _ us hl => match us, hl with | [_, _], _ => rfl
theorem B__law_shrunk (T : Txt K mg Cof ad fd) : Binds K (fd 16) ["_law_kp"] [] := T.F__law_shrunk.binds (ps := ["_law_kp"]) fun _ _ _ _ _ _ us hl => match us, hl with | [_], _ => rfl
theorem B__law_plain (T : Txt K mg Cof ad fd) : Binds K (fd 17) ["_law_kp"] [] := T.F__law_plain.binds (ps := ["_law_kp"]) fun _ _ _ _ _ _ us hl => match us, hl with | [_], _ => rfl
theorem B__law_factor_by (T : Txt K mg Cof ad fd) : Binds K (fd 18) ["_law_cell", "_law_most"] [] := T.F__law_factor_by.binds (ps := ["_law_cell", "_law_most"]) fun _ _ _ _ _ _ us hl => match us, hl with | [_, _], _ => rfl
theorem B__law_shape (T : Txt K mg Cof ad fd) : Binds K (fd 19) ["_law_factor"] [] := T.F__law_shape.binds (ps := ["_law_factor"]) fun _ _ _ _ _ _ us hl => match us, hl with | [_], _ => rfl
theorem B__law_factors_by (T : Txt K mg Cof ad fd) : Binds K (fd 20) ["_law_drawn", "_law_most", "_law_room"] [] := T.F__law_factors_by.binds (ps := ["_law_drawn", "_law_most", "_law_room"]) fun _ _ _ _ _ _ us hl => match us, hl with | [_, _, _], _ => rfl
theorem B__law_product (T : Txt K mg Cof ad fd) : Binds K (fd 21) ["_law_factors"] [] := T.F__law_product.binds (ps := ["_law_factors"]) fun _ _ _ _ _ _ us hl => match us, hl with | [_], _ => rfl
theorem B__law_sure (T : Txt K mg Cof ad fd) : Binds K (fd 22) ["_law_square", "_law_due"] [] := T.F__law_sure.binds (ps := ["_law_square", "_law_due"]) fun _ _ _ _ _ _ us hl => match us, hl with | [_, _], _ => rfl
theorem B__law_side (T : Txt K mg Cof ad fd) : Binds K (fd 23) ["_law_spot", "_law_top", "_law_bottom"] [] := T.F__law_side.binds (ps := ["_law_spot", "_law_top", "_law_bottom"]) fun _ _ _ _ _ _ us hl => match us, hl with | [_, _, _], _ => rfl
theorem B__law_roots_of (T : Txt K mg Cof ad fd) : Binds K (fd 24) ["_law_factors"] [] := T.F__law_roots_of.binds (ps := ["_law_factors"]) fun _ _ _ _ _ _ us hl => match us, hl with | [_], _ => rfl
theorem B__law_is_ratio (T : Txt K mg Cof ad fd) : Binds K (fd 25) ["_law_found"] [] := T.F__law_is_ratio.binds (ps := ["_law_found"]) fun _ _ _ _ _ _ us hl => match us, hl with | [_], _ => rfl
theorem B__law_end (T : Txt K mg Cof ad fd) : Binds K (fd 26) ["_law_cell", "_law_factors"] [] := T.F__law_end.binds (ps := ["_law_cell", "_law_factors"]) fun _ _ _ _ _ _ us hl => match us, hl with | [_, _], _ => rfl
theorem B__law_amid (T : Txt K mg Cof ad fd) : Binds K (fd 27) ["_law_spots", "_law_span_here"] [] := T.F__law_amid.binds (ps := ["_law_spots", "_law_span_here"]) fun _ _ _ _ _ _ us hl => match us, hl with | [_, _], _ => rfl
theorem B__law_half (T : Txt K mg Cof ad fd) : Binds K (fd 28) ["_law_span_here", "_law_spot"] [] := T.F__law_half.binds (ps := ["_law_span_here", "_law_spot"]) fun _ _ _ _ _ _ us hl => match us, hl with | [_, _], _ => rfl
theorem B__law_span (T : Txt K mg Cof ad fd) : Binds K (fd 29) ["_law_script", "_law_factors", "_law_spots"] [] := T.F__law_span.binds (ps := ["_law_script", "_law_factors", "_law_spots"]) fun _ _ _ _ _ _ us hl => match us, hl with | [_, _, _], _ => rfl
theorem B__law_same (T : Txt K mg Cof ad fd) : Binds K (fd 30) ["_law_found", "_law_top", "_law_bottom"] [] := T.F__law_same.binds (ps := ["_law_found", "_law_top", "_law_bottom"]) fun _ _ _ _ _ _ us hl => match us, hl with | [_, _, _], _ => rfl
theorem B_law (T : Txt K mg Cof ad fd) : Binds K (fd 31) ["_law_script"] [] := T.F_law.binds (ps := ["_law_script"]) fun _ _ _ _ _ _ us hl => match us, hl with | [_], _ => rfl
theorem ok_shared (T : Txt K mg Cof ad fd) : FnOk P w K mg base CX0 1 (ad 0) (fd 0) ["row"] (sp_shared K Cof) := by
  have nd := sc_shared.nd
  refine T.F_shared.ok sc_shared (fun vs H Q E h => len_shared h) (fun cdv A outer s H vs Q E hr h => ⟨t_shared K Cof E, ?_, rd_shared h⟩)
  exact pss_cons (ps_set (i := 1) nd rfl (by first | exact Or.inl rfl | exact Or.inr rfl) (pe_int))
       (pss_cons (ps_for PassesOwn.never rfl (pi_list (pv 0)) (pg_name (i := 2) nd rfl (by first | exact Or.inl rfl | exact Or.inr rfl)) (pss_one (ps_while PassesOwn.never (pt_cmpR op_ne (pv 2) (pe_int) (nomark _)) (pss_cons (ps_set (i := 3) nd rfl (by first | exact Or.inl rfl | exact Or.inr rfl) (pe_op op_modN (pv 1) (pv 2)))
       (pss_cons (ps_set (i := 1) nd rfl (by first | exact Or.inl rfl | exact Or.inr rfl) (pv 2))
       (pss_one (ps_set (i := 2) nd rfl (by first | exact Or.inl rfl | exact Or.inr rfl) (pv 3))))))))
       (pss_one (ps_ret (pe_callB call_abs (by rfl) T.z_abs (by decide +kernel) (pa_cons (pv 1) (pa_nil))))))
theorem ok_told_order (T : Txt K mg Cof ad fd) : FnOk P w K mg base CX0 1 (ad 1) (fd 1) ["left", "right"] (sp_told_order K Cof) := by
  have nd := sc_told_order.nd
  refine T.F_told_order.ok sc_told_order (fun vs H Q E h => len_told_order h) (fun cdv A outer s H vs Q E hr h => ⟨t_told_order K Cof E, ?_, rd_told_order h⟩)
  exact pss_cons (ps_if (pt_cmpR op_lt (pv 0) (pv 1) (nomark _)) (pss_one (ps_ret (pe_un un_neg (pe_int)))) (pss_nil))
       (pss_one (ps_ret (pe_callTy call_int1 (by rfl) T.z_int (by decide +kernel) (pa_cons (pe_cmpR op_gt (pv 0) (pv 1) (nomark _)) (pa_nil)))))
theorem ok_Ratio___init__ (T : Txt K mg Cof ad fd) : FnOk P w K mg base CX0 2 (ad 2) (fd 2) ["self", "top", "bottom"] (sp_Ratio___init__ K Cof) := by
  have G_shared := ok_shared (P := P) (w := w) (base := base) T
  have B_shared := B_shared T
  have nd := sc_Ratio___init__.nd
  refine okN T.F_Ratio___init__ sc_Ratio___init__ (fun vs H Q E h => len_Ratio___init__ h) (fun cdv A outer s H vs Q E hr h => ⟨t_Ratio___init__ K Cof E, ?_, rd_Ratio___init__ T.ex h⟩)
  exact pss_cons (ps_if (pt_cmpR op_eq (pv 2) (pe_int) (nomark _)) (pss_one (ps_never)) (pss_nil))
       (pss_cons (ps_set (i := 3) nd rfl (by first | exact Or.inl rfl | exact Or.inr rfl) (pe_call G_shared (hr.mono (by decide)) (by rfl) T.g_shared T.F_shared.kp B_shared .nil pass0 (pa_cons (pe_lst (pa_cons (pv 1) (pa_cons (pv 2) (pa_nil)))) (pa_nil))))
       (pss_cut (ps_if (pt_cmpR op_lt (pv 2) (pe_int) (nomark _)) (pss_one (ps_set (i := 3) nd rfl (by first | exact Or.inl rfl | exact Or.inr rfl) (pe_un un_neg (pv 3)))) (pss_nil))
       (pss_cons (ps_fld (pv 0) (pe_op op_fdivA (pv 1) (pv 3)) rfl)
       (pss_one (ps_fld (pv 0) (pe_op op_fdivA (pv 2) (pv 3)) rfl)))))
theorem ok_Ratio_plus (T : Txt K mg Cof ad fd) : FnOk P w K mg base CX0 4 (ad 3) (fd 3) ["self", "other"] (sp_Ratio_plus K Cof) := by
  have G_Ratio___init__ := ok_Ratio___init__ (P := P) (w := w) (base := base) T
  have B_Ratio___init__ := B_Ratio___init__ T
  have nd := sc_Ratio_plus.nd
  refine T.F_Ratio_plus.ok sc_Ratio_plus (fun vs H Q E h => len_Ratio_plus h) (fun cdv A outer s H vs Q E hr h => ⟨t_Ratio_plus K Cof E, ?_, rd_Ratio_plus T.ex h⟩)
  exact pss_one (ps_ret (pe_make T.mk_Ratio G_Ratio___init__ (hr.mono (by decide)) (by rfl) T.q_Ratio B_Ratio___init__ .nil pass0 (pa_cons (pe_op op_add (pe_op op_mulX (pe_fld (pv 0) rfl) (pe_fld (pv 1) rfl)) (pe_op op_mulX (pe_fld (pv 1) rfl) (pe_fld (pv 0) rfl))) (pa_cons (pe_op op_mulX (pe_fld (pv 0) rfl) (pe_fld (pv 1) rfl)) (pa_nil)))))
theorem ok_Ratio_minus (T : Txt K mg Cof ad fd) : FnOk P w K mg base CX0 4 (ad 4) (fd 4) ["self", "other"] (sp_Ratio_minus K Cof) := by
  have G_Ratio___init__ := ok_Ratio___init__ (P := P) (w := w) (base := base) T
  have B_Ratio___init__ := B_Ratio___init__ T
  have nd := sc_Ratio_minus.nd
  refine T.F_Ratio_minus.ok sc_Ratio_minus (fun vs H Q E h => len_Ratio_minus h) (fun cdv A outer s H vs Q E hr h => ⟨t_Ratio_minus K Cof E, ?_, rd_Ratio_minus T.ex h⟩)
  exact pss_one (ps_ret (pe_make T.mk_Ratio G_Ratio___init__ (hr.mono (by decide)) (by rfl) T.q_Ratio B_Ratio___init__ .nil pass0 (pa_cons (pe_op op_sub (pe_op op_mulX (pe_fld (pv 0) rfl) (pe_fld (pv 1) rfl)) (pe_op op_mulX (pe_fld (pv 1) rfl) (pe_fld (pv 0) rfl))) (pa_cons (pe_op op_mulX (pe_fld (pv 0) rfl) (pe_fld (pv 1) rfl)) (pa_nil)))))
theorem ok_Ratio_over (T : Txt K mg Cof ad fd) : FnOk P w K mg base CX0 4 (ad 5) (fd 5) ["self", "other"] (sp_Ratio_over K Cof) := by
  have G_Ratio___init__ := ok_Ratio___init__ (P := P) (w := w) (base := base) T
  have B_Ratio___init__ := B_Ratio___init__ T
  have nd := sc_Ratio_over.nd
  refine T.F_Ratio_over.ok sc_Ratio_over (fun vs H Q E h => len_Ratio_over h) (fun cdv A outer s H vs Q E hr h => ⟨t_Ratio_over K Cof E, ?_, rd_Ratio_over T.ex h⟩)
  exact pss_cons (ps_if (pt_cmpR op_eq (pe_fld (pv 1) rfl) (pe_int) (nomark _)) (pss_one (ps_never)) (pss_nil))
       (pss_one (ps_ret (pe_make T.mk_Ratio G_Ratio___init__ (hr.mono (by decide)) (by rfl) T.q_Ratio B_Ratio___init__ .nil pass0 (pa_cons (pe_op op_mulX (pe_fld (pv 0) rfl) (pe_fld (pv 1) rfl)) (pa_cons (pe_op op_mulX (pe_fld (pv 0) rfl) (pe_fld (pv 1) rfl)) (pa_nil))))))
theorem ok_Ratio_against (T : Txt K mg Cof ad fd) : FnOk P w K mg base CX0 2 (ad 6) (fd 6) ["self", "other"] (sp_Ratio_against K Cof) := by
  have G_told_order := ok_told_order (P := P) (w := w) (base := base) T
  have B_told_order := B_told_order T
  have nd := sc_Ratio_against.nd
  refine T.F_Ratio_against.ok sc_Ratio_against (fun vs H Q E h => len_Ratio_against h) (fun cdv A outer s H vs Q E hr h => ⟨t_Ratio_against K Cof E, ?_, rd_Ratio_against T.ex h⟩)
  exact pss_one (ps_ret (pe_call G_told_order (hr.mono (by decide)) (by rfl) T.g_told_order T.F_told_order.kp B_told_order .nil pass0 (pa_cons (pe_op op_mulX (pe_fld (pv 0) rfl) (pe_fld (pv 1) rfl)) (pa_cons (pe_op op_mulX (pe_fld (pv 1) rfl) (pe_fld (pv 0) rfl)) (pa_nil)))))
theorem ok_top_at (T : Txt K mg Cof ad fd) : FnOk P w K mg base CX0 1 (ad 7) (fd 7) ["P", "r"] (sp_top_at K Cof) := by
  have nd := sc_top_at.nd
  refine T.F_top_at.ok sc_top_at (fun vs H Q E h => len_top_at h) (fun cdv A outer s H vs Q E hr h => ⟨t_top_at K Cof E, ?_, rd_top_at T.ex h⟩)
  exact pss_cons (ps_set (i := 2) nd rfl (by first | exact Or.inl rfl | exact Or.inr rfl) (pe_int))
       (pss_cons (ps_set (i := 3) nd rfl (by first | exact Or.inl rfl | exact Or.inr rfl) (pe_int))
       (pss_cons (ps_for PassesOwn.never rfl (pi_reversed (by rfl) T.z_reversed (pa_cons (pv 0) (pa_nil))) (pg_name (i := 4) nd rfl (by first | exact Or.inl rfl | exact Or.inr rfl)) (pss_cons (ps_set (i := 2) nd rfl (by first | exact Or.inl rfl | exact Or.inr rfl) (pe_op op_add (pe_op op_mulX (pv 2) (pe_fld (pv 1) rfl)) (pe_op op_mulX (pv 4) (pv 3))))
       (pss_one (ps_set (i := 3) nd rfl (by first | exact Or.inl rfl | exact Or.inr rfl) (pe_op op_mulX (pv 3) (pe_fld (pv 1) rfl))))))
       (pss_one (ps_ret (pv 2)))))
theorem ok_sign_at (T : Txt K mg Cof ad fd) : FnOk P w K mg base CX0 2 (ad 8) (fd 8) ["P", "r"] (sp_sign_at K Cof) := by
  have G_told_order := ok_told_order (P := P) (w := w) (base := base) T
  have B_told_order := B_told_order T
  have G_top_at := ok_top_at (P := P) (w := w) (base := base) T
  have B_top_at := B_top_at T
  have nd := sc_sign_at.nd
  refine T.F_sign_at.ok sc_sign_at (fun vs H Q E h => len_sign_at h) (fun cdv A outer s H vs Q E hr h => ⟨t_sign_at K Cof E, ?_, rd_sign_at h⟩)
  exact pss_one (ps_ret (pe_call G_told_order (hr.mono (by decide)) (by rfl) T.g_told_order T.F_told_order.kp B_told_order .nil pass0 (pa_cons (pe_call G_top_at (hr.mono (by decide)) (by rfl) T.g_top_at T.F_top_at.kp B_top_at .nil pass0 (pa_cons (pv 0) (pa_cons (pv 1) (pa_nil)))) (pa_cons (pe_int) (pa_nil)))))
theorem ok_halfway (T : Txt K mg Cof ad fd) : FnOk P w K mg base CX0 5 (ad 9) (fd 9) ["low", "high"] (sp_halfway K Cof) := by
  have G_Ratio___init__ := ok_Ratio___init__ (P := P) (w := w) (base := base) T
  have B_Ratio___init__ := B_Ratio___init__ T
  have G_Ratio_over := ok_Ratio_over (P := P) (w := w) (base := base) T
  have B_Ratio_over := B_Ratio_over T
  have G_Ratio_plus := ok_Ratio_plus (P := P) (w := w) (base := base) T
  have B_Ratio_plus := B_Ratio_plus T
  obtain ⟨_, dv_Ratio___init__, db_Ratio___init__⟩ := D_Ratio___init__ T
  have nd := sc_halfway.nd
  refine T.F_halfway.ok sc_halfway (fun vs H Q E h => len_halfway h) (fun cdv A outer s H vs Q E hr h => ⟨t_halfway K Cof E, ?_, rd_halfway h⟩)
  exact pss_one (ps_ret (pe_meth (pe_meth (pv 0) T.cls_Ratio T.meth_Ratio_plus G_Ratio_plus (hr.mono (by decide)) B_Ratio_plus .nil pass0 (pa_cons (pv 1) (pa_nil))) T.cls_Ratio T.meth_Ratio_over G_Ratio_over (hr.mono (by decide)) B_Ratio_over .nil pass0 (pa_cons (pe_make T.mk_Ratio G_Ratio___init__ (hr.mono (by decide)) (by rfl) T.q_Ratio db_Ratio___init__ dv_Ratio___init__ pass0 (pa_cons (pe_int) (pa_nil))) (pa_nil))))
theorem ok_narrowed (T : Txt K mg Cof ad fd) : FnOk P w K mg base CX0 6 (ad 10) (fd 10) ["P", "low", "high", "width"] (sp_narrowed K Cof) := by
  have G_Ratio_against := ok_Ratio_against (P := P) (w := w) (base := base) T
  have B_Ratio_against := B_Ratio_against T
  have G_Ratio_minus := ok_Ratio_minus (P := P) (w := w) (base := base) T
  have B_Ratio_minus := B_Ratio_minus T
  have G_halfway := ok_halfway (P := P) (w := w) (base := base) T
  have B_halfway := B_halfway T
  have G_sign_at := ok_sign_at (P := P) (w := w) (base := base) T
  have B_sign_at := B_sign_at T
  have nd := sc_narrowed.nd
  refine T.F_narrowed.ok sc_narrowed (fun vs H Q E h => len_narrowed h) (fun cdv A outer s H vs Q E hr h => ⟨t_narrowed K Cof E, ?_, rd_narrowed T.ex h⟩)
  exact pss_cons (ps_set (i := 4) nd rfl (by first | exact Or.inl rfl | exact Or.inr rfl) (pe_call G_sign_at (hr.mono (by decide)) (by rfl) T.g_sign_at T.F_sign_at.kp B_sign_at .nil pass0 (pa_cons (pv 0) (pa_cons (pv 2) (pa_nil)))))
       (pss_cons (ps_while PassesOwn.never (pt_cmpR op_gt (pe_meth (pe_meth (pv 2) T.cls_Ratio T.meth_Ratio_minus G_Ratio_minus (hr.mono (by decide)) B_Ratio_minus .nil pass0 (pa_cons (pv 1) (pa_nil))) T.cls_Ratio T.meth_Ratio_against G_Ratio_against (hr.mono (by decide)) B_Ratio_against .nil pass0 (pa_cons (pv 3) (pa_nil))) (pe_int) (nomark _)) (pss_cons (ps_set (i := 5) nd rfl (by first | exact Or.inl rfl | exact Or.inr rfl) (pe_call G_halfway (hr.mono (by decide)) (by rfl) T.g_halfway T.F_halfway.kp B_halfway .nil pass0 (pa_cons (pv 1) (pa_cons (pv 2) (pa_nil)))))
       (pss_cons (ps_set (i := 6) nd rfl (by first | exact Or.inl rfl | exact Or.inr rfl) (pe_call G_sign_at (hr.mono (by decide)) (by rfl) T.g_sign_at T.F_sign_at.kp B_sign_at .nil pass0 (pa_cons (pv 0) (pa_cons (pv 5) (pa_nil)))))
       (pss_one (ps_if (PW.pt (pw_and (pt_cmpR op_ne (pv 4) (pe_int) (nomark _)) (pw_and1 (pt_cmpR op_ne (pv 6) (pe_op op_sub (pe_int) (pv 4)) (nomark _))))) (pss_cons (ps_set (i := 2) nd rfl (by first | exact Or.inl rfl | exact Or.inr rfl) (pv 5))
       (pss_one (ps_set (i := 4) nd rfl (by first | exact Or.inl rfl | exact Or.inr rfl) (pv 6)))) (pss_one (ps_set (i := 1) nd rfl (by first | exact Or.inl rfl | exact Or.inr rfl) (pv 5))))))))
       (pss_one (ps_ret (pe_tup (pa_cons (pv 1) (pa_cons (pv 2) (pa_nil)))))))
theorem ok__law_cell_at (T : Txt K mg Cof ad fd) : FnOk P w K mg base CX0 1 (ad 11) (fd 11) ["_law_script", "_law_k"] (sp__law_cell_at K Cof) := by
  have nd := sc__law_cell_at.nd
  refine T.F__law_cell_at.ok sc__law_cell_at (fun vs H Q E h => len__law_cell_at h) (fun cdv A outer s H vs Q E hr h => ⟨t__law_cell_at K Cof E, ?_, rd__law_cell_at h⟩)
  exact pss_cons (ps_if (pt_cmpR op_lt (pv 1) (pe_callB call_len_seq (by rfl) T.z_len (by decide +kernel) (pa_cons (pv 0) (pa_nil))) (nomark _)) (pss_one (ps_ret (pe_ix ix_list (pv 0) (pv 1) (fun _ _ => rfl)))) (pss_nil))
       (pss_one (ps_ret (pe_int)))
theorem ok__law_whole (T : Txt K mg Cof ad fd) : FnOk P w K mg base CX0 1 (ad 12) (fd 12) ["_law_found"] (sp__law_whole K Cof) := by
  have nd := sc__law_whole.nd
  refine T.F__law_whole.ok sc__law_whole (fun vs H Q E h => len__law_whole h) (fun cdv A outer s H vs Q E hr h => ⟨t__law_whole K Cof E, ?_, rd__law_whole h⟩)
  exact pss_one (ps_ret (pe_and (pe_callB call_isi (by rfl) T.z_isinstance (by decide +kernel) (pa_cons (pv 0) (pa_cons (pe_bltn (v := .ty "int") (by rfl) T.z_int (by decide +kernel) rfl) (pa_nil)))) (pe_one (pe_not (pe_callB call_isi (by rfl) T.z_isinstance (by decide +kernel) (pa_cons (pv 0) (pa_cons (pe_bltn (v := .ty "bool") (by rfl) T.z_bool (by decide +kernel) rfl) (pa_nil))))))))
theorem ok__law_within (T : Txt K mg Cof ad fd) : FnOk P w K mg base CX0 1 (ad 13) (fd 13) ["_law_cell", "_law_most"] (sp__law_within K Cof) := by
  have nd := sc__law_within.nd
  refine T.F__law_within.ok sc__law_within (fun vs H Q E h => len__law_within h) (fun cdv A outer s H vs Q E hr h => ⟨t__law_within K Cof E, ?_, rd__law_within h⟩)
  exact pss_one (ps_ret (pe_op op_sub (pe_op op_modN (pv 0) (pe_op op_add (pe_op op_mulX (pe_int) (pv 1)) (pe_int))) (pv 1)))
theorem ok__law_mul (T : Txt K mg Cof ad fd) : FnOk P w K mg base CX0 1 (ad 14) (fd 14) ["_law_kp", "_law_kq"] (sp__law_mul K Cof) := by
  have nd := sc__law_mul.nd
  refine T.F__law_mul.ok sc__law_mul (fun vs H Q E h => len__law_mul h) (fun cdv A outer s H vs Q E hr h => ⟨t__law_mul K Cof E, ?_, rd__law_mul h⟩)
  exact pss_cons (ps_if (PW.pt (pw_or (pt_cmpR op_eq (pe_callB call_len_seq (by rfl) T.z_len (by decide +kernel) (pa_cons (pv 0) (pa_nil))) (pe_int) (nomark _)) (pw_or1 (pt_cmpR op_eq (pe_callB call_len_seq (by rfl) T.z_len (by decide +kernel) (pa_cons (pv 1) (pa_nil))) (pe_int) (nomark _))))) (pss_one (ps_ret (pe_lst (pa_nil)))) (pss_nil))
       (pss_cons (ps_setLc (i := 2) (own := [("_law_k", 3)]) (by rfl) nd rfl rfl (sw_true rfl rfl rfl (by decide +kernel)) (pi_range1 (by rfl) T.z_range (pa_cons (pe_op op_sub (pe_op op_add (pe_callB call_len_seq (by rfl) T.z_len (by decide +kernel) (pa_cons (pv 0) (pa_nil))) (pe_callB call_len_seq (by rfl) T.z_len (by decide +kernel) (pa_cons (pv 1) (pa_nil)))) (pe_int)) (pa_nil))) (blkOk_by (own := [("_law_k", 3)]) (N := ["_law_kp", "_law_kq", "_law_made", "_law_k", "_law_i", "_law_one", "_law_j", "_law_other"]) (sc := defScope s__law_mul) (by decide +kernel)) (fun _ _ _ _ _ => pg_name (i := 3) nd rfl (by first | exact Or.inl rfl | exact Or.inr rfl)) (fun _ _ _ _ _ => pts_nil) (fun _ _ _ _ _ => pe_int))
       (pss_cons (ps_for PassesOwn.never rfl (pi_enum (by rfl) T.z_enumerate (pa_cons (pv 0) (pa_nil))) (pg_tup rfl (pgs_cons (pg_name (i := 4) nd rfl (by first | exact Or.inl rfl | exact Or.inr rfl)) (pgs_cons (pg_name (i := 5) nd rfl (by first | exact Or.inl rfl | exact Or.inr rfl)) (pgs_nil)))) (pss_one (ps_for PassesOwn.never rfl (pi_enum (by rfl) T.z_enumerate (pa_cons (pv 1) (pa_nil))) (pg_tup rfl (pgs_cons (pg_name (i := 6) nd rfl (by first | exact Or.inl rfl | exact Or.inr rfl)) (pgs_cons (pg_name (i := 7) nd rfl (by first | exact Or.inl rfl | exact Or.inr rfl)) (pgs_nil)))) (pss_one (ps_asg (pe_op op_add (pe_ix ix_list (pv 2) (pe_op op_add (pv 4) (pv 6)) (fun _ _ => rfl)) (pe_op op_mulX (pv 5) (pv 7))) (pg_sub (pv 2) (pe_op op_add (pv 4) (pv 6)) set_list))))))
       (pss_one (ps_ret (pv 2)))))
theorem ok__law_gcd (T : Txt K mg Cof ad fd) : FnOk P w K mg base CX0 1 (ad 15) (fd 15) ["_law_a", "_law_b"] (sp__law_gcd K Cof) := by
  have nd := sc__law_gcd.nd
  refine T.F__law_gcd.ok sc__law_gcd (fun vs H Q E h => len__law_gcd h) (fun cdv A outer s H vs Q E hr h => ⟨t__law_gcd K Cof E, ?_, rd__law_gcd h⟩)
  exact pss_cons (ps_set (i := 0) nd rfl (by first | exact Or.inl rfl | exact Or.inr rfl) (pe_callB call_abs (by rfl) T.z_abs (by decide +kernel) (pa_cons (pv 0) (pa_nil))))
       (pss_cons (ps_set (i := 1) nd rfl (by first | exact Or.inl rfl | exact Or.inr rfl) (pe_callB call_abs (by rfl) T.z_abs (by decide +kernel) (pa_cons (pv 1) (pa_nil))))
       (pss_cons (ps_while PassesOwn.never (pt_cmpR op_gt (pv 1) (pe_int) (nomark _)) (pss_cons (ps_set (i := 2) nd rfl (by first | exact Or.inl rfl | exact Or.inr rfl) (pe_op op_modN (pv 0) (pv 1)))
       (pss_cons (ps_set (i := 0) nd rfl (by first | exact Or.inl rfl | exact Or.inr rfl) (pv 1))
       (pss_one (ps_set (i := 1) nd rfl (by first | exact Or.inl rfl | exact Or.inr rfl) (pv 2))))))
       (pss_one (ps_ret (pv 0)))))
theorem ok__law_shrunk (T : Txt K mg Cof ad fd) : FnOk P w K mg base CX0 2 (ad 16) (fd 16) ["_law_kp"] (sp__law_shrunk K Cof) := by
  have G__law_gcd := ok__law_gcd (P := P) (w := w) (base := base) T
  have B__law_gcd := B__law_gcd T
  have nd := sc__law_shrunk.nd
  refine T.F__law_shrunk.ok sc__law_shrunk (fun vs H Q E h => len__law_shrunk h) (fun cdv A outer s H vs Q E hr h => ⟨t__law_shrunk K Cof E, ?_, rd__law_shrunk h⟩)
  exact pss_cons (ps_set (i := 1) nd rfl (by first | exact Or.inl rfl | exact Or.inr rfl) (pe_int))
       (pss_cons (ps_for PassesOwn.never rfl (pi_list (pv 0)) (pg_name (i := 2) nd rfl (by first | exact Or.inl rfl | exact Or.inr rfl)) (pss_one (ps_set (i := 1) nd rfl (by first | exact Or.inl rfl | exact Or.inr rfl) (pe_call G__law_gcd (hr.mono (by decide)) (by rfl) T.g__law_gcd T.F__law_gcd.kp B__law_gcd .nil pass0 (pa_cons (pv 1) (pa_cons (pv 2) (pa_nil)))))))
       (pss_cons (ps_if (pt_cmpR op_eq (pv 1) (pe_int) (nomark _)) (pss_one (ps_ret (pe_lst (pa_nil)))) (pss_nil))
       (pss_one (ps_ret (pe_lc (own := [("_law_one", 2)]) (by rfl) nd (pi_list (pv 0)) (blkOk_by (own := [("_law_one", 2)]) (N := ["_law_kp", "_law_most", "_law_one"]) (sc := defScope s__law_shrunk) (by decide +kernel)) (fun _ _ _ _ _ => pg_name (i := 2) nd rfl (by first | exact Or.inl rfl | exact Or.inr rfl)) (fun _ _ _ _ _ => pts_nil) (fun _ _ _ _ _ => pe_op op_fdivA (pv 2) (pv 1)))))))
theorem ok__law_plain (T : Txt K mg Cof ad fd) : FnOk P w K mg base CX0 3 (ad 17) (fd 17) ["_law_kp"] (sp__law_plain K Cof) := by
  have G__law_shrunk := ok__law_shrunk (P := P) (w := w) (base := base) T
  have B__law_shrunk := B__law_shrunk T
  have nd := sc__law_plain.nd
  refine T.F__law_plain.ok sc__law_plain (fun vs H Q E h => len__law_plain h) (fun cdv A outer s H vs Q E hr h => ⟨t__law_plain K Cof E, ?_, rd__law_plain h⟩)
  exact pss_cons (ps_set (i := 1) nd rfl (by first | exact Or.inl rfl | exact Or.inr rfl) (pe_call G__law_shrunk (hr.mono (by decide)) (by rfl) T.g__law_shrunk T.F__law_shrunk.kp B__law_shrunk .nil pass0 (pa_cons (pv 0) (pa_nil))))
       (pss_cons (ps_if (PW.pt (pw_and (pt_cmpR op_gt (pe_callB call_len_seq (by rfl) T.z_len (by decide +kernel) (pa_cons (pv 1) (pa_nil))) (pe_int) (nomark _)) (pw_and1 (pt_cmpR op_lt (pe_ix ix_list (pv 1) (pe_un un_neg (pe_int)) (fun _ _ => rfl)) (pe_int) (nomark _))))) (pss_one (ps_ret (pe_lc (own := [("_law_one", 2)]) (by rfl) nd (pi_list (pv 1)) (blkOk_by (own := [("_law_one", 2)]) (N := ["_law_kp", "_law_made", "_law_one"]) (sc := defScope s__law_plain) (by decide +kernel)) (fun _ _ _ _ _ => pg_name (i := 2) nd rfl (by first | exact Or.inl rfl | exact Or.inr rfl)) (fun _ _ _ _ _ => pts_nil) (fun _ _ _ _ _ => pe_op op_sub (pe_int) (pv 2))))) (pss_nil))
       (pss_one (ps_ret (pv 1))))
theorem ok__law_factor_by (T : Txt K mg Cof ad fd) : FnOk P w K mg base CX0 1 (ad 18) (fd 18) ["_law_cell", "_law_most"] (sp__law_factor_by K Cof) := by
  have nd := sc__law_factor_by.nd
  refine T.F__law_factor_by.ok sc__law_factor_by (fun vs H Q E h => len__law_factor_by h) (fun cdv A outer s H vs Q E hr h => ⟨t__law_factor_by K Cof E, ?_, rd__law_factor_by h⟩)
  exact pss_cons (ps_set (i := 2) nd rfl (by first | exact Or.inl rfl | exact Or.inr rfl) (pe_op op_sub (pe_op op_modN (pe_op op_fdivA (pv 0) (pe_int)) (pe_op op_add (pe_op op_mulX (pe_int) (pv 1)) (pe_int))) (pv 1)))
       (pss_cons (ps_set (i := 3) nd rfl (by first | exact Or.inl rfl | exact Or.inr rfl) (pe_op op_add (pe_int) (pe_op op_modN (pe_op op_modN (pe_op op_mulX (pv 0) (pe_int)) (pe_int)) (pe_int))))
       (pss_cons (ps_set (i := 4) nd rfl (by first | exact Or.inl rfl | exact Or.inr rfl) (pe_op op_add (pe_int) (pe_op op_modN (pe_op op_modN (pe_op op_mulX (pv 0) (pe_int)) (pe_int)) (pe_int))))
       (pss_cons (ps_set (i := 5) nd rfl (by first | exact Or.inl rfl | exact Or.inr rfl) (pe_op op_add (pe_op op_add (pe_op op_mulX (pv 4) (pv 4)) (pe_int)) (pe_op op_modN (pe_op op_modN (pe_op op_mulX (pv 0) (pe_int)) (pe_int)) (pe_op op_mulX (pe_int) (pv 4)))))
       (pss_cons (ps_if (pt_cmpR op_eq (pe_op op_modN (pv 0) (pe_int)) (pe_int) (nomark _)) (pss_one (ps_ret (pe_tup (pa_cons (pv 2) (pa_cons (pv 5) (pa_cons (pv 3) (pa_nil))))))) (pss_nil))
       (pss_cons (ps_if (pt_cmpR op_eq (pe_op op_modN (pv 0) (pe_int)) (pe_int) (nomark _)) (pss_one (ps_ret (pe_tup (pa_cons (pv 2) (pa_cons (pe_op op_sub (pe_int) (pv 5)) (pa_cons (pv 3) (pa_nil))))))) (pss_nil))
       (pss_one (ps_ret (pe_tup (pa_cons (pv 2) (pa_cons (pe_int) (pa_cons (pv 3) (pa_nil))))))))))))
theorem ok__law_shape (T : Txt K mg Cof ad fd) : FnOk P w K mg base CX0 4 (ad 19) (fd 19) ["_law_factor"] (sp__law_shape K Cof) := by
  have G__law_plain := ok__law_plain (P := P) (w := w) (base := base) T
  have B__law_plain := B__law_plain T
  have nd := sc__law_shape.nd
  refine T.F__law_shape.ok sc__law_shape (fun vs H Q E h => len__law_shape h) (fun cdv A outer s H vs Q E hr h => ⟨t__law_shape K Cof E, ?_, rd__law_shape h⟩)
  exact pss_cons (ps_set (i := 1) nd rfl (by first | exact Or.inl rfl | exact Or.inr rfl) (pe_ix ix_tup (pv 0) (pe_int) (fun _ _ => rfl)))
       (pss_cons (ps_set (i := 2) nd rfl (by first | exact Or.inl rfl | exact Or.inr rfl) (pe_ix ix_tup (pv 0) (pe_int) (fun _ _ => rfl)))
       (pss_cons (ps_if (pt_cmpR op_eq (pe_ix ix_tup (pv 0) (pe_int) (fun _ _ => rfl)) (pe_int) (nomark _)) (pss_one (ps_ret (pe_call G__law_plain (hr.mono (by decide)) (by rfl) T.g__law_plain T.F__law_plain.kp B__law_plain .nil pass0 (pa_cons (pe_lst (pa_cons (pe_op op_sub (pe_int) (pv 1)) (pa_cons (pv 2) (pa_nil)))) (pa_nil))))) (pss_nil))
       (pss_one (ps_ret (pe_call G__law_plain (hr.mono (by decide)) (by rfl) T.g__law_plain T.F__law_plain.kp B__law_plain .nil pass0 (pa_cons (pe_lst (pa_cons (pe_op op_sub (pe_op op_mulX (pv 1) (pv 1)) (pe_ix ix_tup (pv 0) (pe_int) (fun _ _ => rfl))) (pa_cons (pe_op op_mulX (pe_op op_mulX (pe_un un_neg (pe_int)) (pv 2)) (pv 1)) (pa_cons (pe_op op_mulX (pv 2) (pv 2)) (pa_nil))))) (pa_nil)))))))
theorem ok__law_factors_by (T : Txt K mg Cof ad fd) : FnOk P w K mg base CX0 5 (ad 20) (fd 20) ["_law_drawn", "_law_most", "_law_room"] (sp__law_factors_by K Cof) := by
  have G__law_factor_by := ok__law_factor_by (P := P) (w := w) (base := base) T
  have B__law_factor_by := B__law_factor_by T
  have G__law_shape := ok__law_shape (P := P) (w := w) (base := base) T
  have B__law_shape := B__law_shape T
  have nd := sc__law_factors_by.nd
  refine T.F__law_factors_by.ok sc__law_factors_by (fun vs H Q E h => len__law_factors_by h) (fun cdv A outer s H vs Q E hr h => ⟨t__law_factors_by K Cof E, ?_, rd__law_factors_by h⟩)
  exact pss_cons (ps_set (i := 3) nd rfl (by first | exact Or.inl rfl | exact Or.inr rfl) (pe_lst (pa_nil)))
       (pss_cons (ps_set (i := 4) nd rfl (by first | exact Or.inl rfl | exact Or.inr rfl) (pe_lst (pa_nil)))
       (pss_cons (ps_for PassesOwn.never rfl (pi_list (pv 0)) (pg_name (i := 5) nd rfl (by first | exact Or.inl rfl | exact Or.inr rfl)) (pss_cons (ps_set (i := 6) nd rfl (by first | exact Or.inl rfl | exact Or.inr rfl) (pe_call G__law_factor_by (hr.mono (by decide)) (by rfl) T.g__law_factor_by T.F__law_factor_by.kp B__law_factor_by .nil pass0 (pa_cons (pv 5) (pa_cons (pv 1) (pa_nil)))))
       (pss_cons (ps_set (i := 7) nd rfl (by first | exact Or.inl rfl | exact Or.inr rfl) (pe_call G__law_shape (hr.mono (by decide)) (by rfl) T.g__law_shape T.F__law_shape.kp B__law_shape .nil pass0 (pa_cons (pv 6) (pa_nil))))
       (pss_one (ps_if (PW.pt (pw_and (pt_cmpR (op_notInD (units1 hr)) (pv 7) (pv 4) (by rfl)) (pw_and1 (pt_cmpR op_le (pe_op op_sub (pe_callB call_len_seq (by rfl) T.z_len (by decide +kernel) (pa_cons (pv 7) (pa_nil))) (pe_int)) (pv 2) (nomark _))))) (pss_cons (ps_expr (pe_bm PySem.F.plainAttrs_list PySem.F.slot_list_append PySem.F.type_list_append mt_append (pv 3) (pa_cons (pv 6) (pa_nil))))
       (pss_cons (ps_expr (pe_bm PySem.F.plainAttrs_list PySem.F.slot_list_append PySem.F.type_list_append mt_append (pv 4) (pa_cons (pv 7) (pa_nil))))
       (pss_one (ps_set (i := 2) nd rfl (by first | exact Or.inl rfl | exact Or.inr rfl) (pe_op op_add (pe_op op_sub (pv 2) (pe_callB call_len_seq (by rfl) T.z_len (by decide +kernel) (pa_cons (pv 7) (pa_nil)))) (pe_int)))))) (pss_nil))))))
       (pss_one (ps_ret (pv 3)))))
theorem ok__law_product (T : Txt K mg Cof ad fd) : FnOk P w K mg base CX0 5 (ad 21) (fd 21) ["_law_factors"] (sp__law_product K Cof) := by
  have G__law_mul := ok__law_mul (P := P) (w := w) (base := base) T
  have B__law_mul := B__law_mul T
  have G__law_shape := ok__law_shape (P := P) (w := w) (base := base) T
  have B__law_shape := B__law_shape T
  have nd := sc__law_product.nd
  refine T.F__law_product.ok sc__law_product (fun vs H Q E h => len__law_product h) (fun cdv A outer s H vs Q E hr h => ⟨t__law_product K Cof E, ?_, rd__law_product h⟩)
  exact pss_cons (ps_set (i := 1) nd rfl (by first | exact Or.inl rfl | exact Or.inr rfl) (pe_lst (pa_cons (pe_int) (pa_nil))))
       (pss_cons (ps_for PassesOwn.never rfl (pi_list (pv 0)) (pg_name (i := 2) nd rfl (by first | exact Or.inl rfl | exact Or.inr rfl)) (pss_one (ps_set (i := 1) nd rfl (by first | exact Or.inl rfl | exact Or.inr rfl) (pe_call G__law_mul (hr.mono (by decide)) (by rfl) T.g__law_mul T.F__law_mul.kp B__law_mul .nil pass0 (pa_cons (pv 1) (pa_cons (pe_call G__law_shape (hr.mono (by decide)) (by rfl) T.g__law_shape T.F__law_shape.kp B__law_shape .nil pass0 (pa_cons (pv 2) (pa_nil))) (pa_nil)))))))
       (pss_one (ps_ret (pv 1))))
theorem ok__law_sure (T : Txt K mg Cof ad fd) : FnOk P w K mg base CX0 1 (ad 22) (fd 22) ["_law_square", "_law_due"] (sp__law_sure K Cof) := by
  have nd := sc__law_sure.nd
  refine T.F__law_sure.ok sc__law_sure (fun vs H Q E h => len__law_sure h) (fun cdv A outer s H vs Q E hr h => ⟨t__law_sure K Cof E, ?_, rd__law_sure h⟩)
  exact pss_cons (ps_if (PW.pt (pw_or (pt_cmpR op_lt (pv 1) (pe_int) (nomark _)) (pw_or1 (pt_cmpR op_gt (pv 0) (pe_op op_mulX (pv 1) (pv 1)) (nomark _))))) (pss_one (ps_ret (pe_int))) (pss_nil))
       (pss_one (ps_ret (pe_op op_sub (pe_int) (pe_callTy call_int1 (by rfl) T.z_int (by decide +kernel) (pa_cons (pe_cmpR op_lt (pv 0) (pe_op op_mulX (pv 1) (pv 1)) (nomark _)) (pa_nil))))))
theorem ok__law_side (T : Txt K mg Cof ad fd) : FnOk P w K mg base CX0 2 (ad 23) (fd 23) ["_law_spot", "_law_top", "_law_bottom"] (sp__law_side K Cof) := by
  have G__law_sure := ok__law_sure (P := P) (w := w) (base := base) T
  have B__law_sure := B__law_sure T
  have nd := sc__law_side.nd
  refine T.F__law_side.ok sc__law_side (fun vs H Q E h => len__law_side h) (fun cdv A outer s H vs Q E hr h => ⟨t__law_side K Cof E, ?_, rd__law_side h⟩)
  exact pss_cons (ps_set (i := 3) nd rfl (by first | exact Or.inl rfl | exact Or.inr rfl) (pe_op op_sub (pe_op op_mulX (pe_ix ix_tup (pv 0) (pe_int) (fun _ _ => rfl)) (pv 1)) (pe_op op_mulX (pe_ix ix_tup (pv 0) (pe_int) (fun _ _ => rfl)) (pv 2))))
       (pss_cons (ps_set (i := 4) nd rfl (by first | exact Or.inl rfl | exact Or.inr rfl) (pe_op op_mulX (pe_op op_mulX (pe_ix ix_tup (pv 0) (pe_int) (fun _ _ => rfl)) (pv 2)) (pv 2)))
       (pss_cons (ps_if (pt_cmpR op_gt (pe_ix ix_tup (pv 0) (pe_int) (fun _ _ => rfl)) (pe_int) (nomark _)) (pss_one (ps_ret (pe_call G__law_sure (hr.mono (by decide)) (by rfl) T.g__law_sure T.F__law_sure.kp B__law_sure .nil pass0 (pa_cons (pv 4) (pa_cons (pv 3) (pa_nil)))))) (pss_nil))
       (pss_one (ps_ret (pe_op op_sub (pe_int) (pe_call G__law_sure (hr.mono (by decide)) (by rfl) T.g__law_sure T.F__law_sure.kp B__law_sure .nil pass0 (pa_cons (pv 4) (pa_cons (pe_op op_sub (pe_int) (pv 3)) (pa_nil)))))))))
theorem ok__law_roots_of (T : Txt K mg Cof ad fd) : FnOk P w K mg base CX0 1 (ad 24) (fd 24) ["_law_factors"] (sp__law_roots_of K Cof) := by
  have nd := sc__law_roots_of.nd
  refine T.F__law_roots_of.ok sc__law_roots_of (fun vs H Q E h => len__law_roots_of h) (fun cdv A outer s H vs Q E hr h => ⟨t__law_roots_of K Cof E, ?_, rd__law_roots_of h⟩)
  exact pss_cons (ps_set (i := 1) nd rfl (by first | exact Or.inl rfl | exact Or.inr rfl) (pe_lst (pa_nil)))
       (pss_cons (ps_for PassesOwn.never rfl (pi_list (pv 0)) (pg_name (i := 2) nd rfl (by first | exact Or.inl rfl | exact Or.inr rfl)) (pss_cut (ps_if (pt_cmpR op_ge (pe_ix ix_tup (pv 2) (pe_int) (fun _ _ => rfl)) (pe_int) (nomark _)) (pss_one (ps_expr (pe_bm PySem.F.plainAttrs_list PySem.F.slot_list_append PySem.F.type_list_append mt_append (pv 1) (pa_cons (pe_tup (pa_cons (pe_ix ix_tup (pv 2) (pe_int) (fun _ _ => rfl)) (pa_cons (pe_ix ix_tup (pv 2) (pe_int) (fun _ _ => rfl)) (pa_cons (pe_ix ix_tup (pv 2) (pe_int) (fun _ _ => rfl)) (pa_cons (pe_int) (pa_nil)))))) (pa_nil))))) (pss_nil))
       (pss_one (ps_if (pt_cmpR op_gt (pe_ix ix_tup (pv 2) (pe_int) (fun _ _ => rfl)) (pe_int) (nomark _)) (pss_one (ps_expr (pe_bm PySem.F.plainAttrs_list PySem.F.slot_list_append PySem.F.type_list_append mt_append (pv 1) (pa_cons (pe_tup (pa_cons (pe_ix ix_tup (pv 2) (pe_int) (fun _ _ => rfl)) (pa_cons (pe_ix ix_tup (pv 2) (pe_int) (fun _ _ => rfl)) (pa_cons (pe_ix ix_tup (pv 2) (pe_int) (fun _ _ => rfl)) (pa_cons (pe_un un_neg (pe_int)) (pa_nil)))))) (pa_nil))))) (pss_nil)))))
       (pss_one (ps_ret (pv 1))))
theorem ok__law_is_ratio (T : Txt K mg Cof ad fd) : FnOk P w K mg base CX0 2 (ad 25) (fd 25) ["_law_found"] (sp__law_is_ratio K Cof) := by
  have G__law_gcd := ok__law_gcd (P := P) (w := w) (base := base) T
  have B__law_gcd := B__law_gcd T
  have G__law_whole := ok__law_whole (P := P) (w := w) (base := base) T
  have B__law_whole := B__law_whole T
  have nd := sc__law_is_ratio.nd
  refine T.F__law_is_ratio.ok sc__law_is_ratio (fun vs H Q E h => len__law_is_ratio h) (fun cdv A outer s H vs Q E hr h => ⟨t__law_is_ratio K Cof E, ?_, rd__law_is_ratio T.ex h⟩)
  exact pss_cons (ps_if (PW.pt (pw_or (pt_not (pt_val (pe_callB call_isi (by rfl) T.z_isinstance (by decide +kernel) (pa_cons (pv 0) (pa_cons (pe_glob (by rfl) T.q_Ratio rfl) (pa_nil)))))) (pw_or (pt_not (pt_val (pe_call G__law_whole (hr.mono (by decide)) (by rfl) T.g__law_whole T.F__law_whole.kp B__law_whole .nil pass0 (pa_cons (pe_fld (pv 0) rfl) (pa_nil))))) (pw_or1 (pt_not (pt_val (pe_call G__law_whole (hr.mono (by decide)) (by rfl) T.g__law_whole T.F__law_whole.kp B__law_whole .nil pass0 (pa_cons (pe_fld (pv 0) rfl) (pa_nil))))))))) (pss_one (ps_ret (pe_bl))) (pss_nil))
       (pss_one (ps_ret (pe_and (pe_cmpR op_gt (pe_fld (pv 0) rfl) (pe_int) (nomark _)) (pe_one (pe_cmpR op_eq (pe_call G__law_gcd (hr.mono (by decide)) (by rfl) T.g__law_gcd T.F__law_gcd.kp B__law_gcd .nil pass0 (pa_cons (pe_fld (pv 0) rfl) (pa_cons (pe_fld (pv 0) rfl) (pa_nil)))) (pe_int) (nomark _))))))
theorem ok__law_end (T : Txt K mg Cof ad fd) : FnOk P w K mg base CX0 2 (ad 26) (fd 26) ["_law_cell", "_law_factors"] (sp__law_end K Cof) := by
  have G__law_within := ok__law_within (P := P) (w := w) (base := base) T
  have B__law_within := B__law_within T
  have nd := sc__law_end.nd
  refine T.F__law_end.ok sc__law_end (fun vs H Q E h => len__law_end h) (fun cdv A outer s H vs Q E hr h => ⟨t__law_end K Cof E, ?_, rd__law_end h⟩)
  exact pss_cons (ps_setLc (i := 2) (own := [("_law_one", 3)]) (by rfl) nd rfl rfl (sw_true rfl rfl rfl (by decide +kernel)) (pi_list (pv 1)) (blkOk_by (own := [("_law_one", 3)]) (N := ["_law_cell", "_law_factors", "_law_known", "_law_one"]) (sc := defScope s__law_end) (by decide +kernel)) (fun _ _ _ _ _ => pg_name (i := 3) nd rfl (by first | exact Or.inl rfl | exact Or.inr rfl)) (fun _ _ _ _ _ => pts_one (pt_cmpR op_eq (pe_ix ix_tup (pv 3) (pe_int) (fun _ _ => rfl)) (pe_int) (nomark _))) (fun _ _ _ _ _ => pv 3))
       (pss_cons (ps_if (pt_cmpR op_lt (pe_op op_modN (pv 0) (pe_int)) (pe_int) (nomark _)) (pss_cons (ps_set (i := 3) nd rfl (by first | exact Or.inl rfl | exact Or.inr rfl) (pe_ix ix_list (pv 2) (pe_op op_modN (pe_op op_fdivA (pv 0) (pe_int)) (pe_callB call_len_seq (by rfl) T.z_len (by decide +kernel) (pa_cons (pv 2) (pa_nil)))) (fun _ _ => rfl)))
       (pss_one (ps_ret (pe_tup (pa_cons (pe_ix ix_tup (pv 3) (pe_int) (fun _ _ => rfl)) (pa_cons (pe_ix ix_tup (pv 3) (pe_int) (fun _ _ => rfl)) (pa_nil))))))) (pss_nil))
       (pss_one (ps_ret (pe_tup (pa_cons (pe_call G__law_within (hr.mono (by decide)) (by rfl) T.g__law_within T.F__law_within.kp B__law_within .nil pass0 (pa_cons (pe_op op_fdivA (pv 0) (pe_int)) (pa_cons (pe_int) (pa_nil)))) (pa_cons (pe_op op_add (pe_int) (pe_op op_modN (pe_op op_modN (pe_op op_mulX (pv 0) (pe_int)) (pe_int)) (pe_int))) (pa_nil)))))))
theorem ok__law_amid (T : Txt K mg Cof ad fd) : FnOk P w K mg base CX0 3 (ad 27) (fd 27) ["_law_spots", "_law_span_here"] (sp__law_amid K Cof) := by
  have G__law_side := ok__law_side (P := P) (w := w) (base := base) T
  have B__law_side := B__law_side T
  have nd := sc__law_amid.nd
  refine T.F__law_amid.ok sc__law_amid (fun vs H Q E h => len__law_amid h) (fun cdv A outer s H vs Q E hr h => ⟨t__law_amid K Cof E, ?_, rd__law_amid h⟩)
  exact pss_cons (ps_set (i := 2) nd rfl (by first | exact Or.inl rfl | exact Or.inr rfl) (pe_lst (pa_nil)))
       (pss_cons (ps_for PassesOwn.never rfl (pi_list (pv 0)) (pg_name (i := 3) nd rfl (by first | exact Or.inl rfl | exact Or.inr rfl)) (pss_one (ps_if (PW.pt (pw_and (pt_cmpR op_gt (pe_call G__law_side (hr.mono (by decide)) (by rfl) T.g__law_side T.F__law_side.kp B__law_side .nil pass0 (pa_cons (pv 3) (pa_cons (pe_ix ix_tup (pv 1) (pe_int) (fun _ _ => rfl)) (pa_cons (pe_ix ix_tup (pv 1) (pe_int) (fun _ _ => rfl)) (pa_nil))))) (pe_int) (nomark _)) (pw_and1 (pt_cmpR op_le (pe_call G__law_side (hr.mono (by decide)) (by rfl) T.g__law_side T.F__law_side.kp B__law_side .nil pass0 (pa_cons (pv 3) (pa_cons (pe_ix ix_tup (pv 1) (pe_int) (fun _ _ => rfl)) (pa_cons (pe_ix ix_tup (pv 1) (pe_int) (fun _ _ => rfl)) (pa_nil))))) (pe_int) (nomark _))))) (pss_one (ps_expr (pe_bm PySem.F.plainAttrs_list PySem.F.slot_list_append PySem.F.type_list_append mt_append (pv 2) (pa_cons (pv 3) (pa_nil))))) (pss_nil))))
       (pss_one (ps_ret (pv 2))))
theorem ok__law_half (T : Txt K mg Cof ad fd) : FnOk P w K mg base CX0 3 (ad 28) (fd 28) ["_law_span_here", "_law_spot"] (sp__law_half K Cof) := by
  have G__law_side := ok__law_side (P := P) (w := w) (base := base) T
  have B__law_side := B__law_side T
  have nd := sc__law_half.nd
  refine T.F__law_half.ok sc__law_half (fun vs H Q E h => len__law_half h) (fun cdv A outer s H vs Q E hr h => ⟨t__law_half K Cof E, ?_, rd__law_half h⟩)
  exact pss_cons (ps_set (i := 2) nd rfl (by first | exact Or.inl rfl | exact Or.inr rfl) (pe_op op_add (pe_ix ix_tup (pv 0) (pe_int) (fun _ _ => rfl)) (pe_ix ix_tup (pv 0) (pe_int) (fun _ _ => rfl))))
       (pss_cons (ps_if (pt_cmpR op_le (pe_call G__law_side (hr.mono (by decide)) (by rfl) T.g__law_side T.F__law_side.kp B__law_side .nil pass0 (pa_cons (pv 1) (pa_cons (pv 2) (pa_cons (pe_op op_mulX (pe_int) (pe_ix ix_tup (pv 0) (pe_int) (fun _ _ => rfl))) (pa_nil))))) (pe_int) (nomark _)) (pss_one (ps_ret (pe_tup (pa_cons (pe_op op_mulX (pe_int) (pe_ix ix_tup (pv 0) (pe_int) (fun _ _ => rfl))) (pa_cons (pv 2) (pa_cons (pe_op op_mulX (pe_int) (pe_ix ix_tup (pv 0) (pe_int) (fun _ _ => rfl))) (pa_nil))))))) (pss_nil))
       (pss_one (ps_ret (pe_tup (pa_cons (pv 2) (pa_cons (pe_op op_mulX (pe_int) (pe_ix ix_tup (pv 0) (pe_int) (fun _ _ => rfl))) (pa_cons (pe_op op_mulX (pe_int) (pe_ix ix_tup (pv 0) (pe_int) (fun _ _ => rfl))) (pa_nil))))))))
theorem ok__law_span (T : Txt K mg Cof ad fd) : FnOk P w K mg base CX0 4 (ad 29) (fd 29) ["_law_script", "_law_factors", "_law_spots"] (sp__law_span K Cof) := by
  have G__law_amid := ok__law_amid (P := P) (w := w) (base := base) T
  have B__law_amid := B__law_amid T
  have G__law_cell_at := ok__law_cell_at (P := P) (w := w) (base := base) T
  have B__law_cell_at := B__law_cell_at T
  have G__law_end := ok__law_end (P := P) (w := w) (base := base) T
  have B__law_end := B__law_end T
  have G__law_half := ok__law_half (P := P) (w := w) (base := base) T
  have B__law_half := B__law_half T
  have nd := sc__law_span.nd
  refine T.F__law_span.ok sc__law_span (fun vs H Q E h => len__law_span h) (fun cdv A outer s H vs Q E hr h => ⟨t__law_span K Cof E, ?_, rd__law_span h⟩)
  exact pss_cons (ps_set (i := 3) nd rfl (by first | exact Or.inl rfl | exact Or.inr rfl) (pe_call G__law_end (hr.mono (by decide)) (by rfl) T.g__law_end T.F__law_end.kp B__law_end .nil pass0 (pa_cons (pe_call G__law_cell_at (hr.mono (by decide)) (by rfl) T.g__law_cell_at T.F__law_cell_at.kp B__law_cell_at .nil pass0 (pa_cons (pv 0) (pa_cons (pe_int) (pa_nil)))) (pa_cons (pv 1) (pa_nil)))))
       (pss_cons (ps_set (i := 4) nd rfl (by first | exact Or.inl rfl | exact Or.inr rfl) (pe_call G__law_end (hr.mono (by decide)) (by rfl) T.g__law_end T.F__law_end.kp B__law_end .nil pass0 (pa_cons (pe_call G__law_cell_at (hr.mono (by decide)) (by rfl) T.g__law_cell_at T.F__law_cell_at.kp B__law_cell_at .nil pass0 (pa_cons (pv 0) (pa_cons (pe_int) (pa_nil)))) (pa_cons (pv 1) (pa_nil)))))
       (pss_cons (ps_set (i := 5) nd rfl (by first | exact Or.inl rfl | exact Or.inr rfl) (pe_tup (pa_cons (pe_op op_mulX (pe_ix ix_tup (pv 3) (pe_int) (fun _ _ => rfl)) (pe_ix ix_tup (pv 4) (pe_int) (fun _ _ => rfl))) (pa_cons (pe_op op_mulX (pe_ix ix_tup (pv 4) (pe_int) (fun _ _ => rfl)) (pe_ix ix_tup (pv 3) (pe_int) (fun _ _ => rfl))) (pa_cons (pe_op op_mulX (pe_ix ix_tup (pv 3) (pe_int) (fun _ _ => rfl)) (pe_ix ix_tup (pv 4) (pe_int) (fun _ _ => rfl))) (pa_nil))))))
       (pss_cons (ps_if (PW.pt (pw_and (pt_cmpR op_lt (pe_ix ix_tup (pv 5) (pe_int) (fun _ _ => rfl)) (pe_ix ix_tup (pv 5) (pe_int) (fun _ _ => rfl)) (nomark _)) (pw_and1 (pt_cmpR op_eq (pe_callB call_len_seq (by rfl) T.z_len (by decide +kernel) (pa_cons (pe_call G__law_amid (hr.mono (by decide)) (by rfl) T.g__law_amid T.F__law_amid.kp B__law_amid .nil pass0 (pa_cons (pv 2) (pa_cons (pv 5) (pa_nil)))) (pa_nil))) (pe_int) (nomark _))))) (pss_one (ps_ret (pv 5))) (pss_nil))
       (pss_cons (ps_set (i := 5) nd rfl (by first | exact Or.inl rfl | exact Or.inr rfl) (pe_tup (pa_cons (pe_un un_neg (pe_int)) (pa_cons (pe_int) (pa_cons (pe_int) (pa_nil))))))
       (pss_cons (ps_set (i := 6) nd rfl (by first | exact Or.inl rfl | exact Or.inr rfl) (pe_ix ix_list (pv 2) (pe_op op_modN (pe_call G__law_cell_at (hr.mono (by decide)) (by rfl) T.g__law_cell_at T.F__law_cell_at.kp B__law_cell_at .nil pass0 (pa_cons (pv 0) (pa_cons (pe_int) (pa_nil)))) (pe_callB call_len_seq (by rfl) T.z_len (by decide +kernel) (pa_cons (pv 2) (pa_nil)))) (fun _ _ => rfl)))
       (pss_cons (ps_while PassesOwn.never (pt_cmpR op_ne (pe_callB call_len_seq (by rfl) T.z_len (by decide +kernel) (pa_cons (pe_call G__law_amid (hr.mono (by decide)) (by rfl) T.g__law_amid T.F__law_amid.kp B__law_amid .nil pass0 (pa_cons (pv 2) (pa_cons (pv 5) (pa_nil)))) (pa_nil))) (pe_int) (nomark _)) (pss_one (ps_set (i := 5) nd rfl (by first | exact Or.inl rfl | exact Or.inr rfl) (pe_call G__law_half (hr.mono (by decide)) (by rfl) T.g__law_half T.F__law_half.kp B__law_half .nil pass0 (pa_cons (pv 5) (pa_cons (pv 6) (pa_nil)))))))
       (pss_one (ps_ret (pv 5)))))))))
theorem ok__law_same (T : Txt K mg Cof ad fd) : FnOk P w K mg base CX0 3 (ad 30) (fd 30) ["_law_found", "_law_top", "_law_bottom"] (sp__law_same K Cof) := by
  have G__law_is_ratio := ok__law_is_ratio (P := P) (w := w) (base := base) T
  have B__law_is_ratio := B__law_is_ratio T
  have nd := sc__law_same.nd
  refine T.F__law_same.ok sc__law_same (fun vs H Q E h => len__law_same h) (fun cdv A outer s H vs Q E hr h => ⟨t__law_same K Cof E, ?_, rd__law_same T.ex h⟩)
  exact pss_one (ps_ret (pe_and (pe_call G__law_is_ratio (hr.mono (by decide)) (by rfl) T.g__law_is_ratio T.F__law_is_ratio.kp B__law_is_ratio .nil pass0 (pa_cons (pv 0) (pa_nil))) (pe_one (pe_cmpR op_eq (pe_op op_mulX (pe_fld (pv 0) rfl) (pv 2)) (pe_op op_mulX (pe_fld (pv 0) rfl) (pv 1)) (nomark _)))))
theorem ok_law (T : Txt K mg Cof ad fd) : FnOk P w K mg base CX0 7 (ad 31) (fd 31) ["_law_script"] (sp_law K Cof) := by
  have G_Ratio___init__ := ok_Ratio___init__ (P := P) (w := w) (base := base) T
  have B_Ratio___init__ := B_Ratio___init__ T
  have G__law_amid := ok__law_amid (P := P) (w := w) (base := base) T
  have B__law_amid := B__law_amid T
  have G__law_cell_at := ok__law_cell_at (P := P) (w := w) (base := base) T
  have B__law_cell_at := B__law_cell_at T
  have G__law_factors_by := ok__law_factors_by (P := P) (w := w) (base := base) T
  have B__law_factors_by := B__law_factors_by T
  have G__law_half := ok__law_half (P := P) (w := w) (base := base) T
  have B__law_half := B__law_half T
  have G__law_mul := ok__law_mul (P := P) (w := w) (base := base) T
  have B__law_mul := B__law_mul T
  have G__law_product := ok__law_product (P := P) (w := w) (base := base) T
  have B__law_product := B__law_product T
  have G__law_roots_of := ok__law_roots_of (P := P) (w := w) (base := base) T
  have B__law_roots_of := B__law_roots_of T
  have G__law_same := ok__law_same (P := P) (w := w) (base := base) T
  have B__law_same := B__law_same T
  have G__law_shape := ok__law_shape (P := P) (w := w) (base := base) T
  have B__law_shape := B__law_shape T
  have G__law_span := ok__law_span (P := P) (w := w) (base := base) T
  have B__law_span := B__law_span T
  have G_narrowed := ok_narrowed (P := P) (w := w) (base := base) T
  have B_narrowed := B_narrowed T
  have nd := sc_law.nd
  refine T.F_law.ok sc_law (fun vs H Q E h => len_law h) (fun cdv A outer s H vs Q E hr h => ⟨t_law K Cof E, ?_, rd_law h⟩)
  exact pss_cons (ps_set (i := 1) nd rfl (by first | exact Or.inl rfl | exact Or.inr rfl) (pe_call G__law_factors_by (hr.mono (by decide)) (by rfl) T.g__law_factors_by T.F__law_factors_by.kp B__law_factors_by .nil pass0 (pa_cons (pe_slice sl_list (pv 0) (po_some (pe_int)) (po_none)) (pa_cons (pe_int) (pa_cons (pe_ix ix_list (pe_lst (pa_cons (pe_int) (pa_cons (pe_int) (pa_cons (pe_int) (pa_cons (pe_int) (pa_nil)))))) (pe_op op_modN (pe_op op_fdivA (pe_call G__law_cell_at (hr.mono (by decide)) (by rfl) T.g__law_cell_at T.F__law_cell_at.kp B__law_cell_at .nil pass0 (pa_cons (pv 0) (pa_cons (pe_int) (pa_nil)))) (pe_int)) (pe_int)) (fun _ _ => rfl)) (pa_nil))))))
       (pss_cut (ps_if (pt_cmpR (op_notInD (units1 hr)) (pe_lst (pa_cons (pe_un un_neg (pe_int)) (pa_cons (pe_int) (pa_nil)))) (pe_lc (own := [("_law_one", 2)]) (by rfl) nd (pi_list (pv 1)) (blkOk_by (own := [("_law_one", 2)]) (N := ["_law_script", "_law_factors", "_law_one", "_law_lead", "_law_kp", "_law_spots", "_law_span_here", "_law_top", "_law_bottom", "_law_handed", "_law_found", "_law_spot"]) (sc := defScope s_law) (by decide +kernel)) (fun _ _ _ _ _ => pg_name (i := 2) nd rfl (by first | exact Or.inl rfl | exact Or.inr rfl)) (fun _ _ _ _ _ => pts_nil) (fun _ _ _ _ _ => pe_call G__law_shape (hr.mono (by decide)) (by rfl) T.g__law_shape T.F__law_shape.kp B__law_shape .nil pass0 (pa_cons (pv 2) (pa_nil)))) (by rfl)) (pss_one (ps_expr (pe_bm PySem.F.plainAttrs_list PySem.F.slot_list_append PySem.F.type_list_append mt_append (pv 1) (pa_cons (pe_tup (pa_cons (pe_int) (pa_cons (pe_int) (pa_cons (pe_int) (pa_nil))))) (pa_nil))))) (pss_nil))
       (pss_cons (ps_set (i := 3) nd rfl (by first | exact Or.inl rfl | exact Or.inr rfl) (pe_op op_mulX (pe_op op_add (pe_int) (pe_op op_modN (pe_op op_fdivA (pe_call G__law_cell_at (hr.mono (by decide)) (by rfl) T.g__law_cell_at T.F__law_cell_at.kp B__law_cell_at .nil pass0 (pa_cons (pv 0) (pa_cons (pe_int) (pa_nil)))) (pe_int)) (pe_op op_pow (pe_int) (pe_int)))) (pe_op op_sub (pe_int) (pe_op op_mulX (pe_int) (pe_op op_modN (pe_call G__law_cell_at (hr.mono (by decide)) (by rfl) T.g__law_cell_at T.F__law_cell_at.kp B__law_cell_at .nil pass0 (pa_cons (pv 0) (pa_cons (pe_int) (pa_nil)))) (pe_int))))))
       (pss_cons (ps_set (i := 4) nd rfl (by first | exact Or.inl rfl | exact Or.inr rfl) (pe_call G__law_mul (hr.mono (by decide)) (by rfl) T.g__law_mul T.F__law_mul.kp B__law_mul .nil pass0 (pa_cons (pe_lst (pa_cons (pv 3) (pa_nil))) (pa_cons (pe_call G__law_product (hr.mono (by decide)) (by rfl) T.g__law_product T.F__law_product.kp B__law_product .nil pass0 (pa_cons (pv 1) (pa_nil))) (pa_nil)))))
       (pss_cons (ps_set (i := 5) nd rfl (by first | exact Or.inl rfl | exact Or.inr rfl) (pe_call G__law_roots_of (hr.mono (by decide)) (by rfl) T.g__law_roots_of T.F__law_roots_of.kp B__law_roots_of .nil pass0 (pa_cons (pv 1) (pa_nil))))
       (pss_cons (ps_set (i := 6) nd rfl (by first | exact Or.inl rfl | exact Or.inr rfl) (pe_call G__law_span (hr.mono (by decide)) (by rfl) T.g__law_span T.F__law_span.kp B__law_span .nil pass0 (pa_cons (pv 0) (pa_cons (pv 1) (pa_cons (pv 5) (pa_nil))))))
       (pss_cons (ps_set (i := 7) nd rfl (by first | exact Or.inl rfl | exact Or.inr rfl) (pe_op op_add (pe_int) (pe_op op_modN (pe_call G__law_cell_at (hr.mono (by decide)) (by rfl) T.g__law_cell_at T.F__law_cell_at.kp B__law_cell_at .nil pass0 (pa_cons (pv 0) (pa_cons (pe_int) (pa_nil)))) (pe_int))))
       (pss_cons (ps_set (i := 8) nd rfl (by first | exact Or.inl rfl | exact Or.inr rfl) (pe_op op_add (pe_int) (pe_op op_modN (pe_call G__law_cell_at (hr.mono (by decide)) (by rfl) T.g__law_cell_at T.F__law_cell_at.kp B__law_cell_at .nil pass0 (pa_cons (pv 0) (pa_cons (pe_int) (pa_nil)))) (pe_op op_pow (pe_int) (pe_int)))))
       (pss_cons (ps_set (i := 9) nd rfl (by first | exact Or.inl rfl | exact Or.inr rfl) (pe_callTy call_list_of (by rfl) T.z_list (by decide +kernel) (pa_cons (pv 4) (pa_nil))))
       (pss_cons (ps_set (i := 10) nd rfl (by first | exact Or.inl rfl | exact Or.inr rfl) (pe_call G_narrowed (hr.mono (by decide)) (by rfl) T.g_narrowed T.F_narrowed.kp B_narrowed .nil pass0 (pa_cons (pv 9) (pa_cons (pe_make T.mk_Ratio G_Ratio___init__ (hr.mono (by decide)) (by rfl) T.q_Ratio B_Ratio___init__ .nil pass0 (pa_cons (pe_ix ix_tup (pv 6) (pe_int) (fun _ _ => rfl)) (pa_cons (pe_ix ix_tup (pv 6) (pe_int) (fun _ _ => rfl)) (pa_nil)))) (pa_cons (pe_make T.mk_Ratio G_Ratio___init__ (hr.mono (by decide)) (by rfl) T.q_Ratio B_Ratio___init__ .nil pass0 (pa_cons (pe_ix ix_tup (pv 6) (pe_int) (fun _ _ => rfl)) (pa_cons (pe_ix ix_tup (pv 6) (pe_int) (fun _ _ => rfl)) (pa_nil)))) (pa_cons (pe_make T.mk_Ratio G_Ratio___init__ (hr.mono (by decide)) (by rfl) T.q_Ratio B_Ratio___init__ .nil pass0 (pa_cons (pv 7) (pa_cons (pv 8) (pa_nil)))) (pa_nil)))))))
       (pss_cons (ps_set (i := 11) nd rfl (by first | exact Or.inl rfl | exact Or.inr rfl) (pe_ix ix_list (pe_call G__law_amid (hr.mono (by decide)) (by rfl) T.g__law_amid T.F__law_amid.kp B__law_amid .nil pass0 (pa_cons (pv 5) (pa_cons (pv 6) (pa_nil)))) (pe_int) (fun _ _ => rfl)))
       (pss_cons (ps_while PassesOwn.never (pt_cmpR op_gt (pe_op op_mulX (pe_op op_sub (pe_ix ix_tup (pv 6) (pe_int) (fun _ _ => rfl)) (pe_ix ix_tup (pv 6) (pe_int) (fun _ _ => rfl))) (pv 8)) (pe_op op_mulX (pv 7) (pe_ix ix_tup (pv 6) (pe_int) (fun _ _ => rfl))) (nomark _)) (pss_one (ps_set (i := 6) nd rfl (by first | exact Or.inl rfl | exact Or.inr rfl) (pe_call G__law_half (hr.mono (by decide)) (by rfl) T.g__law_half T.F__law_half.kp B__law_half .nil pass0 (pa_cons (pv 6) (pa_cons (pv 11) (pa_nil)))))))
       (pss_cons (ps_if (PW.pt (pw_or (pt_not (pt_val (pe_callB call_isi (by rfl) T.z_isinstance (by decide +kernel) (pa_cons (pv 10) (pa_cons (pe_bltn (v := .ty "tuple") (by rfl) T.z_tuple (by decide +kernel) rfl) (pa_nil)))))) (pw_or (pt_cmpR op_ne (pe_callB call_len_seq (by rfl) T.z_len (by decide +kernel) (pa_cons (pv 10) (pa_nil))) (pe_int) (nomark _)) (pw_or1 (pt_cmpR (op_neD hr.units) (pv 9) (pv 4) (nomark _)))))) (pss_one (ps_ret (pe_bl))) (pss_nil))
       (pss_one (ps_ret (pe_and (pe_call G__law_same (hr.mono (by decide)) (by rfl) T.g__law_same T.F__law_same.kp B__law_same .nil pass0 (pa_cons (pe_ix ix_tup (pv 10) (pe_int) (fun _ _ => rfl)) (pa_cons (pe_ix ix_tup (pv 6) (pe_int) (fun _ _ => rfl)) (pa_cons (pe_ix ix_tup (pv 6) (pe_int) (fun _ _ => rfl)) (pa_nil))))) (pe_one (pe_call G__law_same (hr.mono (by decide)) (by rfl) T.g__law_same T.F__law_same.kp B__law_same .nil pass0 (pa_cons (pe_ix ix_tup (pv 10) (pe_int) (fun _ _ => rfl)) (pa_cons (pe_ix ix_tup (pv 6) (pe_int) (fun _ _ => rfl)) (pa_cons (pe_ix ix_tup (pv 6) (pe_int) (fun _ _ => rfl)) (pa_nil)))))))))))))))))))))
end
theorem all_mk {l : PySem.W.OpenLaw} {w : World} {K : PySem.W.Frag} {h : Heap} {mg : Str → Option Value} {fa : Addr} (X : K.In h) (G : h.Ns mainGlobals mg) (hfa : mg "law" = some (.ref fa))
    {CRatio : Addr} (aCRatio : PySem.W.nsIn K mainGlobals "Ratio" = some (some (.ref CRatio))) (kCRatio : PySem.W.keepIn K (.ref CRatio) = true)
    (pCRatio : PySem.W.plainGet K CRatio Str.empty = true) (hCRatio : PySem.W.hasDictIn K CRatio = true) (oCRatio : PySem.W.plainOver K CRatio = true) (yCRatio : PySem.W.findIn K (.ref CRatio) "__setattr__" = some (some (.builtin "object.__setattr__"))) (wCRatio : PySem.W.makesIn K CRatio = true)
    (lCRatio : PySem.W.findIn K (.ref CRatio) "__class__" = some (some (.builtin "object.__class__"))) (mCRatio : PySem.W.mroIn K CRatio (.type "object") = some true)
    (nRatio_bottom : PySem.W.findIn K (.ref CRatio) "bottom" = some none)
    (nRatio_top : PySem.W.findIn K (.ref CRatio) "top" = some none)
    {f0 : Addr} {od0 an0 : Option Addr} {sl0 : Array (Option Value)} {oc0 kV0 dc0 pm0 cd0 ct0 : Value}
    {f1 : Addr} {od1 an1 : Option Addr} {sl1 : Array (Option Value)} {oc1 kV1 dc1 pm1 cd1 ct1 : Value}
    {f2 : Addr} {od2 an2 : Option Addr} {sl2 : Array (Option Value)} {oc2 kV2 dc2 pm2 cd2 ct2 : Value}
    {f3 : Addr} {od3 an3 : Option Addr} {sl3 : Array (Option Value)} {oc3 kV3 dc3 pm3 cd3 ct3 : Value}
    {f4 : Addr} {od4 an4 : Option Addr} {sl4 : Array (Option Value)} {oc4 kV4 dc4 pm4 cd4 ct4 : Value}
    {f5 : Addr} {od5 an5 : Option Addr} {sl5 : Array (Option Value)} {oc5 kV5 dc5 pm5 cd5 ct5 : Value}
    {f6 : Addr} {od6 an6 : Option Addr} {sl6 : Array (Option Value)} {oc6 kV6 dc6 pm6 cd6 ct6 : Value}
    {f7 : Addr} {od7 an7 : Option Addr} {sl7 : Array (Option Value)} {oc7 kV7 dc7 pm7 cd7 ct7 : Value}
    {f8 : Addr} {od8 an8 : Option Addr} {sl8 : Array (Option Value)} {oc8 kV8 dc8 pm8 cd8 ct8 : Value}
    {f9 : Addr} {od9 an9 : Option Addr} {sl9 : Array (Option Value)} {oc9 kV9 dc9 pm9 cd9 ct9 : Value}
    {f10 : Addr} {od10 an10 : Option Addr} {sl10 : Array (Option Value)} {oc10 kV10 dc10 pm10 cd10 ct10 : Value}
    {f11 : Addr} {od11 an11 : Option Addr} {sl11 : Array (Option Value)} {oc11 kV11 dc11 pm11 cd11 ct11 : Value}
    {f12 : Addr} {od12 an12 : Option Addr} {sl12 : Array (Option Value)} {oc12 kV12 dc12 pm12 cd12 ct12 : Value}
    {f13 : Addr} {od13 an13 : Option Addr} {sl13 : Array (Option Value)} {oc13 kV13 dc13 pm13 cd13 ct13 : Value}
    {f14 : Addr} {od14 an14 : Option Addr} {sl14 : Array (Option Value)} {oc14 kV14 dc14 pm14 cd14 ct14 : Value}
    {f15 : Addr} {od15 an15 : Option Addr} {sl15 : Array (Option Value)} {oc15 kV15 dc15 pm15 cd15 ct15 : Value}
    {f16 : Addr} {od16 an16 : Option Addr} {sl16 : Array (Option Value)} {oc16 kV16 dc16 pm16 cd16 ct16 : Value}
    {f17 : Addr} {od17 an17 : Option Addr} {sl17 : Array (Option Value)} {oc17 kV17 dc17 pm17 cd17 ct17 : Value}
    {f18 : Addr} {od18 an18 : Option Addr} {sl18 : Array (Option Value)} {oc18 kV18 dc18 pm18 cd18 ct18 : Value}
    {f19 : Addr} {od19 an19 : Option Addr} {sl19 : Array (Option Value)} {oc19 kV19 dc19 pm19 cd19 ct19 : Value}
    {f20 : Addr} {od20 an20 : Option Addr} {sl20 : Array (Option Value)} {oc20 kV20 dc20 pm20 cd20 ct20 : Value}
    {f21 : Addr} {od21 an21 : Option Addr} {sl21 : Array (Option Value)} {oc21 kV21 dc21 pm21 cd21 ct21 : Value}
    {f22 : Addr} {od22 an22 : Option Addr} {sl22 : Array (Option Value)} {oc22 kV22 dc22 pm22 cd22 ct22 : Value}
    {f23 : Addr} {od23 an23 : Option Addr} {sl23 : Array (Option Value)} {oc23 kV23 dc23 pm23 cd23 ct23 : Value}
    {f24 : Addr} {od24 an24 : Option Addr} {sl24 : Array (Option Value)} {oc24 kV24 dc24 pm24 cd24 ct24 : Value}
    {f25 : Addr} {od25 an25 : Option Addr} {sl25 : Array (Option Value)} {oc25 kV25 dc25 pm25 cd25 ct25 : Value}
    {f26 : Addr} {od26 an26 : Option Addr} {sl26 : Array (Option Value)} {oc26 kV26 dc26 pm26 cd26 ct26 : Value}
    {f27 : Addr} {od27 an27 : Option Addr} {sl27 : Array (Option Value)} {oc27 kV27 dc27 pm27 cd27 ct27 : Value}
    {f28 : Addr} {od28 an28 : Option Addr} {sl28 : Array (Option Value)} {oc28 kV28 dc28 pm28 cd28 ct28 : Value}
    {f29 : Addr} {od29 an29 : Option Addr} {sl29 : Array (Option Value)} {oc29 kV29 dc29 pm29 cd29 ct29 : Value}
    {f30 : Addr} {od30 an30 : Option Addr} {sl30 : Array (Option Value)} {oc30 kV30 dc30 pm30 cd30 ct30 : Value}
    {f31 : Addr} {od31 an31 : Option Addr} {sl31 : Array (Option Value)} {oc31 kV31 dc31 pm31 cd31 ct31 : Value}
    (a0 : PySem.W.nsIn K mainGlobals "shared" = some (some (.ref f0))) (l0 : K.lookup f0 = some ⟨oc0, od0, .func (PySem.W.fnOf "shared" "shared" (defArgs s_shared) (defBody s_shared) (defScope s_shared) .none kV0 dc0 pm0 an0 cd0 ct0), sl0⟩) (c0 : PySem.W.codeIn K cd0 "shared" = true) (k0 : PySem.W.keepIn K (.ref f0) = true)
    (a1 : PySem.W.nsIn K mainGlobals "told_order" = some (some (.ref f1))) (l1 : K.lookup f1 = some ⟨oc1, od1, .func (PySem.W.fnOf "told_order" "told_order" (defArgs s_told_order) (defBody s_told_order) (defScope s_told_order) .none kV1 dc1 pm1 an1 cd1 ct1), sl1⟩) (c1 : PySem.W.codeIn K cd1 "told_order" = true) (k1 : PySem.W.keepIn K (.ref f1) = true)
    {T2 : Addr} {ocd2 : Value} {odd2 : Option Addr} {nd2 : Nat} {sld2 : Array (Option Value)}
    {tkd2_0 : Tok}
    (a2 : PySem.W.findIn K (.ref CRatio) "__init__" = some (some (.ref f2))) (i2 : PySem.W.isFn K (.ref f2) = true) (l2 : K.lookup f2 = some ⟨oc2, od2, .func (PySem.W.fnOf "__init__" "Ratio.__init__" (defArgs s_Ratio___init__) (defBody s_Ratio___init__) (defScope s_Ratio___init__) (.ref T2) kV2 dc2 pm2 an2 cd2 ct2), sl2⟩) (c2 : PySem.W.codeIn K cd2 "Ratio.__init__" = true) (k2 : PySem.W.keepIn K (.ref f2) = true)
    (d2 : K.lookup T2 = some ⟨ocd2, odd2, .seq #[.int 1 tkd2_0] nd2, sld2⟩)
    (a3 : PySem.W.findIn K (.ref CRatio) "plus" = some (some (.ref f3))) (i3 : PySem.W.isFn K (.ref f3) = true) (l3 : K.lookup f3 = some ⟨oc3, od3, .func (PySem.W.fnOf "plus" "Ratio.plus" (defArgs s_Ratio_plus) (defBody s_Ratio_plus) (defScope s_Ratio_plus) .none kV3 dc3 pm3 an3 cd3 ct3), sl3⟩) (c3 : PySem.W.codeIn K cd3 "Ratio.plus" = true) (k3 : PySem.W.keepIn K (.ref f3) = true)
    (a4 : PySem.W.findIn K (.ref CRatio) "minus" = some (some (.ref f4))) (i4 : PySem.W.isFn K (.ref f4) = true) (l4 : K.lookup f4 = some ⟨oc4, od4, .func (PySem.W.fnOf "minus" "Ratio.minus" (defArgs s_Ratio_minus) (defBody s_Ratio_minus) (defScope s_Ratio_minus) .none kV4 dc4 pm4 an4 cd4 ct4), sl4⟩) (c4 : PySem.W.codeIn K cd4 "Ratio.minus" = true) (k4 : PySem.W.keepIn K (.ref f4) = true)
    (a5 : PySem.W.findIn K (.ref CRatio) "over" = some (some (.ref f5))) (i5 : PySem.W.isFn K (.ref f5) = true) (l5 : K.lookup f5 = some ⟨oc5, od5, .func (PySem.W.fnOf "over" "Ratio.over" (defArgs s_Ratio_over) (defBody s_Ratio_over) (defScope s_Ratio_over) .none kV5 dc5 pm5 an5 cd5 ct5), sl5⟩) (c5 : PySem.W.codeIn K cd5 "Ratio.over" = true) (k5 : PySem.W.keepIn K (.ref f5) = true)
    (a6 : PySem.W.findIn K (.ref CRatio) "against" = some (some (.ref f6))) (i6 : PySem.W.isFn K (.ref f6) = true) (l6 : K.lookup f6 = some ⟨oc6, od6, .func (PySem.W.fnOf "against" "Ratio.against" (defArgs s_Ratio_against) (defBody s_Ratio_against) (defScope s_Ratio_against) .none kV6 dc6 pm6 an6 cd6 ct6), sl6⟩) (c6 : PySem.W.codeIn K cd6 "Ratio.against" = true) (k6 : PySem.W.keepIn K (.ref f6) = true)
    (a7 : PySem.W.nsIn K mainGlobals "top_at" = some (some (.ref f7))) (l7 : K.lookup f7 = some ⟨oc7, od7, .func (PySem.W.fnOf "top_at" "top_at" (defArgs s_top_at) (defBody s_top_at) (defScope s_top_at) .none kV7 dc7 pm7 an7 cd7 ct7), sl7⟩) (c7 : PySem.W.codeIn K cd7 "top_at" = true) (k7 : PySem.W.keepIn K (.ref f7) = true)
    (a8 : PySem.W.nsIn K mainGlobals "sign_at" = some (some (.ref f8))) (l8 : K.lookup f8 = some ⟨oc8, od8, .func (PySem.W.fnOf "sign_at" "sign_at" (defArgs s_sign_at) (defBody s_sign_at) (defScope s_sign_at) .none kV8 dc8 pm8 an8 cd8 ct8), sl8⟩) (c8 : PySem.W.codeIn K cd8 "sign_at" = true) (k8 : PySem.W.keepIn K (.ref f8) = true)
    (a9 : PySem.W.nsIn K mainGlobals "halfway" = some (some (.ref f9))) (l9 : K.lookup f9 = some ⟨oc9, od9, .func (PySem.W.fnOf "halfway" "halfway" (defArgs s_halfway) (defBody s_halfway) (defScope s_halfway) .none kV9 dc9 pm9 an9 cd9 ct9), sl9⟩) (c9 : PySem.W.codeIn K cd9 "halfway" = true) (k9 : PySem.W.keepIn K (.ref f9) = true)
    (a10 : PySem.W.nsIn K mainGlobals "narrowed" = some (some (.ref f10))) (l10 : K.lookup f10 = some ⟨oc10, od10, .func (PySem.W.fnOf "narrowed" "narrowed" (defArgs s_narrowed) (defBody s_narrowed) (defScope s_narrowed) .none kV10 dc10 pm10 an10 cd10 ct10), sl10⟩) (c10 : PySem.W.codeIn K cd10 "narrowed" = true) (k10 : PySem.W.keepIn K (.ref f10) = true)
    (a11 : PySem.W.nsIn K mainGlobals "_law_cell_at" = some (some (.ref f11))) (l11 : K.lookup f11 = some ⟨oc11, od11, .func (PySem.W.fnOf "_law_cell_at" "_law_cell_at" (defArgs s__law_cell_at) (defBody s__law_cell_at) (defScope s__law_cell_at) .none kV11 dc11 pm11 an11 cd11 ct11), sl11⟩) (c11 : PySem.W.codeIn K cd11 "_law_cell_at" = true) (k11 : PySem.W.keepIn K (.ref f11) = true)
    (a12 : PySem.W.nsIn K mainGlobals "_law_whole" = some (some (.ref f12))) (l12 : K.lookup f12 = some ⟨oc12, od12, .func (PySem.W.fnOf "_law_whole" "_law_whole" (defArgs s__law_whole) (defBody s__law_whole) (defScope s__law_whole) .none kV12 dc12 pm12 an12 cd12 ct12), sl12⟩) (c12 : PySem.W.codeIn K cd12 "_law_whole" = true) (k12 : PySem.W.keepIn K (.ref f12) = true)
    (a13 : PySem.W.nsIn K mainGlobals "_law_within" = some (some (.ref f13))) (l13 : K.lookup f13 = some ⟨oc13, od13, .func (PySem.W.fnOf "_law_within" "_law_within" (defArgs s__law_within) (defBody s__law_within) (defScope s__law_within) .none kV13 dc13 pm13 an13 cd13 ct13), sl13⟩) (c13 : PySem.W.codeIn K cd13 "_law_within" = true) (k13 : PySem.W.keepIn K (.ref f13) = true)
    (a14 : PySem.W.nsIn K mainGlobals "_law_mul" = some (some (.ref f14))) (l14 : K.lookup f14 = some ⟨oc14, od14, .func (PySem.W.fnOf "_law_mul" "_law_mul" (defArgs s__law_mul) (defBody s__law_mul) (defScope s__law_mul) .none kV14 dc14 pm14 an14 cd14 ct14), sl14⟩) (c14 : PySem.W.codeIn K cd14 "_law_mul" = true) (k14 : PySem.W.keepIn K (.ref f14) = true)
    (a15 : PySem.W.nsIn K mainGlobals "_law_gcd" = some (some (.ref f15))) (l15 : K.lookup f15 = some ⟨oc15, od15, .func (PySem.W.fnOf "_law_gcd" "_law_gcd" (defArgs s__law_gcd) (defBody s__law_gcd) (defScope s__law_gcd) .none kV15 dc15 pm15 an15 cd15 ct15), sl15⟩) (c15 : PySem.W.codeIn K cd15 "_law_gcd" = true) (k15 : PySem.W.keepIn K (.ref f15) = true)
    (a16 : PySem.W.nsIn K mainGlobals "_law_shrunk" = some (some (.ref f16))) (l16 : K.lookup f16 = some ⟨oc16, od16, .func (PySem.W.fnOf "_law_shrunk" "_law_shrunk" (defArgs s__law_shrunk) (defBody s__law_shrunk) (defScope s__law_shrunk) .none kV16 dc16 pm16 an16 cd16 ct16), sl16⟩) (c16 : PySem.W.codeIn K cd16 "_law_shrunk" = true) (k16 : PySem.W.keepIn K (.ref f16) = true)
    (a17 : PySem.W.nsIn K mainGlobals "_law_plain" = some (some (.ref f17))) (l17 : K.lookup f17 = some ⟨oc17, od17, .func (PySem.W.fnOf "_law_plain" "_law_plain" (defArgs s__law_plain) (defBody s__law_plain) (defScope s__law_plain) .none kV17 dc17 pm17 an17 cd17 ct17), sl17⟩) (c17 : PySem.W.codeIn K cd17 "_law_plain" = true) (k17 : PySem.W.keepIn K (.ref f17) = true)
    (a18 : PySem.W.nsIn K mainGlobals "_law_factor_by" = some (some (.ref f18))) (l18 : K.lookup f18 = some ⟨oc18, od18, .func (PySem.W.fnOf "_law_factor_by" "_law_factor_by" (defArgs s__law_factor_by) (defBody s__law_factor_by) (defScope s__law_factor_by) .none kV18 dc18 pm18 an18 cd18 ct18), sl18⟩) (c18 : PySem.W.codeIn K cd18 "_law_factor_by" = true) (k18 : PySem.W.keepIn K (.ref f18) = true)
    (a19 : PySem.W.nsIn K mainGlobals "_law_shape" = some (some (.ref f19))) (l19 : K.lookup f19 = some ⟨oc19, od19, .func (PySem.W.fnOf "_law_shape" "_law_shape" (defArgs s__law_shape) (defBody s__law_shape) (defScope s__law_shape) .none kV19 dc19 pm19 an19 cd19 ct19), sl19⟩) (c19 : PySem.W.codeIn K cd19 "_law_shape" = true) (k19 : PySem.W.keepIn K (.ref f19) = true)
    (a20 : PySem.W.nsIn K mainGlobals "_law_factors_by" = some (some (.ref f20))) (l20 : K.lookup f20 = some ⟨oc20, od20, .func (PySem.W.fnOf "_law_factors_by" "_law_factors_by" (defArgs s__law_factors_by) (defBody s__law_factors_by) (defScope s__law_factors_by) .none kV20 dc20 pm20 an20 cd20 ct20), sl20⟩) (c20 : PySem.W.codeIn K cd20 "_law_factors_by" = true) (k20 : PySem.W.keepIn K (.ref f20) = true)
    (a21 : PySem.W.nsIn K mainGlobals "_law_product" = some (some (.ref f21))) (l21 : K.lookup f21 = some ⟨oc21, od21, .func (PySem.W.fnOf "_law_product" "_law_product" (defArgs s__law_product) (defBody s__law_product) (defScope s__law_product) .none kV21 dc21 pm21 an21 cd21 ct21), sl21⟩) (c21 : PySem.W.codeIn K cd21 "_law_product" = true) (k21 : PySem.W.keepIn K (.ref f21) = true)
    (a22 : PySem.W.nsIn K mainGlobals "_law_sure" = some (some (.ref f22))) (l22 : K.lookup f22 = some ⟨oc22, od22, .func (PySem.W.fnOf "_law_sure" "_law_sure" (defArgs s__law_sure) (defBody s__law_sure) (defScope s__law_sure) .none kV22 dc22 pm22 an22 cd22 ct22), sl22⟩) (c22 : PySem.W.codeIn K cd22 "_law_sure" = true) (k22 : PySem.W.keepIn K (.ref f22) = true)
    (a23 : PySem.W.nsIn K mainGlobals "_law_side" = some (some (.ref f23))) (l23 : K.lookup f23 = some ⟨oc23, od23, .func (PySem.W.fnOf "_law_side" "_law_side" (defArgs s__law_side) (defBody s__law_side) (defScope s__law_side) .none kV23 dc23 pm23 an23 cd23 ct23), sl23⟩) (c23 : PySem.W.codeIn K cd23 "_law_side" = true) (k23 : PySem.W.keepIn K (.ref f23) = true)
    (a24 : PySem.W.nsIn K mainGlobals "_law_roots_of" = some (some (.ref f24))) (l24 : K.lookup f24 = some ⟨oc24, od24, .func (PySem.W.fnOf "_law_roots_of" "_law_roots_of" (defArgs s__law_roots_of) (defBody s__law_roots_of) (defScope s__law_roots_of) .none kV24 dc24 pm24 an24 cd24 ct24), sl24⟩) (c24 : PySem.W.codeIn K cd24 "_law_roots_of" = true) (k24 : PySem.W.keepIn K (.ref f24) = true)
    (a25 : PySem.W.nsIn K mainGlobals "_law_is_ratio" = some (some (.ref f25))) (l25 : K.lookup f25 = some ⟨oc25, od25, .func (PySem.W.fnOf "_law_is_ratio" "_law_is_ratio" (defArgs s__law_is_ratio) (defBody s__law_is_ratio) (defScope s__law_is_ratio) .none kV25 dc25 pm25 an25 cd25 ct25), sl25⟩) (c25 : PySem.W.codeIn K cd25 "_law_is_ratio" = true) (k25 : PySem.W.keepIn K (.ref f25) = true)
    (a26 : PySem.W.nsIn K mainGlobals "_law_end" = some (some (.ref f26))) (l26 : K.lookup f26 = some ⟨oc26, od26, .func (PySem.W.fnOf "_law_end" "_law_end" (defArgs s__law_end) (defBody s__law_end) (defScope s__law_end) .none kV26 dc26 pm26 an26 cd26 ct26), sl26⟩) (c26 : PySem.W.codeIn K cd26 "_law_end" = true) (k26 : PySem.W.keepIn K (.ref f26) = true)
    (a27 : PySem.W.nsIn K mainGlobals "_law_amid" = some (some (.ref f27))) (l27 : K.lookup f27 = some ⟨oc27, od27, .func (PySem.W.fnOf "_law_amid" "_law_amid" (defArgs s__law_amid) (defBody s__law_amid) (defScope s__law_amid) .none kV27 dc27 pm27 an27 cd27 ct27), sl27⟩) (c27 : PySem.W.codeIn K cd27 "_law_amid" = true) (k27 : PySem.W.keepIn K (.ref f27) = true)
    (a28 : PySem.W.nsIn K mainGlobals "_law_half" = some (some (.ref f28))) (l28 : K.lookup f28 = some ⟨oc28, od28, .func (PySem.W.fnOf "_law_half" "_law_half" (defArgs s__law_half) (defBody s__law_half) (defScope s__law_half) .none kV28 dc28 pm28 an28 cd28 ct28), sl28⟩) (c28 : PySem.W.codeIn K cd28 "_law_half" = true) (k28 : PySem.W.keepIn K (.ref f28) = true)
    (a29 : PySem.W.nsIn K mainGlobals "_law_span" = some (some (.ref f29))) (l29 : K.lookup f29 = some ⟨oc29, od29, .func (PySem.W.fnOf "_law_span" "_law_span" (defArgs s__law_span) (defBody s__law_span) (defScope s__law_span) .none kV29 dc29 pm29 an29 cd29 ct29), sl29⟩) (c29 : PySem.W.codeIn K cd29 "_law_span" = true) (k29 : PySem.W.keepIn K (.ref f29) = true)
    (a30 : PySem.W.nsIn K mainGlobals "_law_same" = some (some (.ref f30))) (l30 : K.lookup f30 = some ⟨oc30, od30, .func (PySem.W.fnOf "_law_same" "_law_same" (defArgs s__law_same) (defBody s__law_same) (defScope s__law_same) .none kV30 dc30 pm30 an30 cd30 ct30), sl30⟩) (c30 : PySem.W.codeIn K cd30 "_law_same" = true) (k30 : PySem.W.keepIn K (.ref f30) = true)
    (a31 : PySem.W.nsIn K mainGlobals "law" = some (some (.ref f31))) (l31 : K.lookup f31 = some ⟨oc31, od31, .func (PySem.W.fnOf "law" "law" (defArgs s_law) (defBody s_law) (defScope s_law) .none kV31 dc31 pm31 an31 cd31 ct31), sl31⟩) (c31 : PySem.W.codeIn K cd31 "law" = true) (k31 : PySem.W.keepIn K (.ref f31) = true)
    (spC : PySem.W.specialIn K (.builtin "object.__class__") "__get__" = some (some (.builtin "getset_descriptor.__get__"))) (tkC : PySem.W.takesIn K (.builtin "object.__class__") = some true)
    (z_abs : PySem.W.nsIn K mainGlobals "abs" = some none)
    (z_bool : PySem.W.nsIn K mainGlobals "bool" = some none)
    (z_enumerate : PySem.W.nsIn K mainGlobals "enumerate" = some none)
    (z_int : PySem.W.nsIn K mainGlobals "int" = some none)
    (z_isinstance : PySem.W.nsIn K mainGlobals "isinstance" = some none)
    (z_len : PySem.W.nsIn K mainGlobals "len" = some none)
    (z_list : PySem.W.nsIn K mainGlobals "list" = some none)
    (z_range : PySem.W.nsIn K mainGlobals "range" = some none)
    (z_reversed : PySem.W.nsIn K mainGlobals "reversed" = some none)
    (z_tuple : PySem.W.nsIn K mainGlobals "tuple" = some none)
    : ∃ fd : FuncData, (∀ (s : Shared) (v : Value), BindsTo s fd ⟨[v], []⟩ [("_law_script", v)]) ∧ ∀ base : Heap, K.In base → base.Ns mainGlobals mg → FnOk l.prog w K mg base CX0 7 fa fd ["_law_script"] (sp_law K (fun _ => 0)) := by
  have e := hfa.symm.trans (PySem.W.mg_of X G a31)
  cases e
  have T : Txt K mg (fun s => if s = "Ratio" then CRatio else 0) (fun i => [f0, f1, f2, f3, f4, f5, f6, f7, f8, f9, f10, f11, f12, f13, f14, f15, f16, f17, f18, f19, f20, f21, f22, f23, f24, f25, f26, f27, f28, f29, f30, fa].getD i 0) (fun i => [PySem.W.fnOf "shared" "shared" (defArgs s_shared) (defBody s_shared) (defScope s_shared) .none kV0 dc0 pm0 an0 cd0 ct0, PySem.W.fnOf "told_order" "told_order" (defArgs s_told_order) (defBody s_told_order) (defScope s_told_order) .none kV1 dc1 pm1 an1 cd1 ct1, PySem.W.fnOf "__init__" "Ratio.__init__" (defArgs s_Ratio___init__) (defBody s_Ratio___init__) (defScope s_Ratio___init__) (.ref T2) kV2 dc2 pm2 an2 cd2 ct2, PySem.W.fnOf "plus" "Ratio.plus" (defArgs s_Ratio_plus) (defBody s_Ratio_plus) (defScope s_Ratio_plus) .none kV3 dc3 pm3 an3 cd3 ct3, PySem.W.fnOf "minus" "Ratio.minus" (defArgs s_Ratio_minus) (defBody s_Ratio_minus) (defScope s_Ratio_minus) .none kV4 dc4 pm4 an4 cd4 ct4, PySem.W.fnOf "over" "Ratio.over" (defArgs s_Ratio_over) (defBody s_Ratio_over) (defScope s_Ratio_over) .none kV5 dc5 pm5 an5 cd5 ct5, PySem.W.fnOf "against" "Ratio.against" (defArgs s_Ratio_against) (defBody s_Ratio_against) (defScope s_Ratio_against) .none kV6 dc6 pm6 an6 cd6 ct6, PySem.W.fnOf "top_at" "top_at" (defArgs s_top_at) (defBody s_top_at) (defScope s_top_at) .none kV7 dc7 pm7 an7 cd7 ct7, PySem.W.fnOf "sign_at" "sign_at" (defArgs s_sign_at) (defBody s_sign_at) (defScope s_sign_at) .none kV8 dc8 pm8 an8 cd8 ct8, PySem.W.fnOf "halfway" "halfway" (defArgs s_halfway) (defBody s_halfway) (defScope s_halfway) .none kV9 dc9 pm9 an9 cd9 ct9, PySem.W.fnOf "narrowed" "narrowed" (defArgs s_narrowed) (defBody s_narrowed) (defScope s_narrowed) .none kV10 dc10 pm10 an10 cd10 ct10, PySem.W.fnOf "_law_cell_at" "_law_cell_at" (defArgs s__law_cell_at) (defBody s__law_cell_at) (defScope s__law_cell_at) .none kV11 dc11 pm11 an11 cd11 ct11, PySem.W.fnOf "_law_whole" "_law_whole" (defArgs s__law_whole) (defBody s__law_whole) (defScope s__law_whole) .none kV12 dc12 pm12 an12 cd12 ct12, PySem.W.fnOf "_law_within" "_law_within" (defArgs s__law_within) (defBody s__law_within) (defScope s__law_within) .none kV13 dc13 pm13 an13 cd13 ct13, PySem.W.fnOf "_law_mul" "_law_mul" (defArgs s__law_mul) (defBody s__law_mul) (defScope s__law_mul) .none kV14 dc14 pm14 an14 cd14 ct14, PySem.W.fnOf "_law_gcd" "_law_gcd" (defArgs s__law_gcd) (defBody s__law_gcd) (defScope s__law_gcd) .none kV15 dc15 pm15 an15 cd15 ct15, PySem.W.fnOf "_law_shrunk" "_law_shrunk" (defArgs s__law_shrunk) (defBody s__law_shrunk) (defScope s__law_shrunk) .none kV16 dc16 pm16 an16 cd16 ct16, PySem.W.fnOf "_law_plain" "_law_plain" (defArgs s__law_plain) (defBody s__law_plain) (defScope s__law_plain) .none kV17 dc17 pm17 an17 cd17 ct17, PySem.W.fnOf "_law_factor_by" "_law_factor_by" (defArgs s__law_factor_by) (defBody s__law_factor_by) (defScope s__law_factor_by) .none kV18 dc18 pm18 an18 cd18 ct18, PySem.W.fnOf "_law_shape" "_law_shape" (defArgs s__law_shape) (defBody s__law_shape) (defScope s__law_shape) .none kV19 dc19 pm19 an19 cd19 ct19, PySem.W.fnOf "_law_factors_by" "_law_factors_by" (defArgs s__law_factors_by) (defBody s__law_factors_by) (defScope s__law_factors_by) .none kV20 dc20 pm20 an20 cd20 ct20, PySem.W.fnOf "_law_product" "_law_product" (defArgs s__law_product) (defBody s__law_product) (defScope s__law_product) .none kV21 dc21 pm21 an21 cd21 ct21, PySem.W.fnOf "_law_sure" "_law_sure" (defArgs s__law_sure) (defBody s__law_sure) (defScope s__law_sure) .none kV22 dc22 pm22 an22 cd22 ct22, PySem.W.fnOf "_law_side" "_law_side" (defArgs s__law_side) (defBody s__law_side) (defScope s__law_side) .none kV23 dc23 pm23 an23 cd23 ct23, PySem.W.fnOf "_law_roots_of" "_law_roots_of" (defArgs s__law_roots_of) (defBody s__law_roots_of) (defScope s__law_roots_of) .none kV24 dc24 pm24 an24 cd24 ct24, PySem.W.fnOf "_law_is_ratio" "_law_is_ratio" (defArgs s__law_is_ratio) (defBody s__law_is_ratio) (defScope s__law_is_ratio) .none kV25 dc25 pm25 an25 cd25 ct25, PySem.W.fnOf "_law_end" "_law_end" (defArgs s__law_end) (defBody s__law_end) (defScope s__law_end) .none kV26 dc26 pm26 an26 cd26 ct26, PySem.W.fnOf "_law_amid" "_law_amid" (defArgs s__law_amid) (defBody s__law_amid) (defScope s__law_amid) .none kV27 dc27 pm27 an27 cd27 ct27, PySem.W.fnOf "_law_half" "_law_half" (defArgs s__law_half) (defBody s__law_half) (defScope s__law_half) .none kV28 dc28 pm28 an28 cd28 ct28, PySem.W.fnOf "_law_span" "_law_span" (defArgs s__law_span) (defBody s__law_span) (defScope s__law_span) .none kV29 dc29 pm29 an29 cd29 ct29, PySem.W.fnOf "_law_same" "_law_same" (defArgs s__law_same) (defBody s__law_same) (defScope s__law_same) .none kV30 dc30 pm30 an30 cd30 ct30, PySem.W.fnOf "law" "law" (defArgs s_law) (defBody s_law) (defScope s_law) .none kV31 dc31 pm31 an31 cd31 ct31].getD i (PySem.W.fnOf "law" "law" (defArgs s_law) (defBody s_law) (defScope s_law) .none kV31 dc31 pm31 an31 cd31 ct31)) :=
    { z_abs := PySem.W.mg_none_of X G z_abs, z_bool := PySem.W.mg_none_of X G z_bool, z_enumerate := PySem.W.mg_none_of X G z_enumerate, z_int := PySem.W.mg_none_of X G z_int, z_isinstance := PySem.W.mg_none_of X G z_isinstance, z_len := PySem.W.mg_none_of X G z_len, z_list := PySem.W.mg_none_of X G z_list, z_range := PySem.W.mg_none_of X G z_range, z_reversed := PySem.W.mg_none_of X G z_reversed, z_tuple := PySem.W.mg_none_of X G z_tuple, g_shared := PySem.W.mg_of X G a0, F_shared := fun_mk (st := s_shared) l0 c0 k0, g_told_order := PySem.W.mg_of X G a1, F_told_order := fun_mk (st := s_told_order) l1 c1 k1, F_Ratio___init__ := funD_mkV (dvs := [.int 1]) (its := [.int 1 tkd2_0]) l2 d2 c2 k2 (by simp) (.cons ⟨_, rfl⟩ .nil), mk_Ratio := ⟨wCRatio, a2, i2, kCRatio⟩, F_Ratio_plus := fun_mk (st := s_Ratio_plus) l3 c3 k3, meth_Ratio_plus := ⟨a3, i3, k3⟩, F_Ratio_minus := fun_mk (st := s_Ratio_minus) l4 c4 k4, meth_Ratio_minus := ⟨a4, i4, k4⟩, F_Ratio_over := fun_mk (st := s_Ratio_over) l5 c5 k5, meth_Ratio_over := ⟨a5, i5, k5⟩, F_Ratio_against := fun_mk (st := s_Ratio_against) l6 c6 k6, meth_Ratio_against := ⟨a6, i6, k6⟩, g_top_at := PySem.W.mg_of X G a7, F_top_at := fun_mk (st := s_top_at) l7 c7 k7, g_sign_at := PySem.W.mg_of X G a8, F_sign_at := fun_mk (st := s_sign_at) l8 c8 k8, g_halfway := PySem.W.mg_of X G a9, F_halfway := fun_mk (st := s_halfway) l9 c9 k9, g_narrowed := PySem.W.mg_of X G a10, F_narrowed := fun_mk (st := s_narrowed) l10 c10 k10, g__law_cell_at := PySem.W.mg_of X G a11, F__law_cell_at := fun_mk (st := s__law_cell_at) l11 c11 k11, g__law_whole := PySem.W.mg_of X G a12, F__law_whole := fun_mk (st := s__law_whole) l12 c12 k12, g__law_within := PySem.W.mg_of X G a13, F__law_within := fun_mk (st := s__law_within) l13 c13 k13, g__law_mul := PySem.W.mg_of X G a14, F__law_mul := fun_mk (st := s__law_mul) l14 c14 k14, g__law_gcd := PySem.W.mg_of X G a15, F__law_gcd := fun_mk (st := s__law_gcd) l15 c15 k15, g__law_shrunk := PySem.W.mg_of X G a16, F__law_shrunk := fun_mk (st := s__law_shrunk) l16 c16 k16, g__law_plain := PySem.W.mg_of X G a17, F__law_plain := fun_mk (st := s__law_plain) l17 c17 k17, g__law_factor_by := PySem.W.mg_of X G a18, F__law_factor_by := fun_mk (st := s__law_factor_by) l18 c18 k18, g__law_shape := PySem.W.mg_of X G a19, F__law_shape := fun_mk (st := s__law_shape) l19 c19 k19, g__law_factors_by := PySem.W.mg_of X G a20, F__law_factors_by := fun_mk (st := s__law_factors_by) l20 c20 k20, g__law_product := PySem.W.mg_of X G a21, F__law_product := fun_mk (st := s__law_product) l21 c21 k21, g__law_sure := PySem.W.mg_of X G a22, F__law_sure := fun_mk (st := s__law_sure) l22 c22 k22, g__law_side := PySem.W.mg_of X G a23, F__law_side := fun_mk (st := s__law_side) l23 c23 k23, g__law_roots_of := PySem.W.mg_of X G a24, F__law_roots_of := fun_mk (st := s__law_roots_of) l24 c24 k24, g__law_is_ratio := PySem.W.mg_of X G a25, F__law_is_ratio := fun_mk (st := s__law_is_ratio) l25 c25 k25, g__law_end := PySem.W.mg_of X G a26, F__law_end := fun_mk (st := s__law_end) l26 c26 k26, g__law_amid := PySem.W.mg_of X G a27, F__law_amid := fun_mk (st := s__law_amid) l27 c27 k27, g__law_half := PySem.W.mg_of X G a28, F__law_half := fun_mk (st := s__law_half) l28 c28 k28, g__law_span := PySem.W.mg_of X G a29, F__law_span := fun_mk (st := s__law_span) l29 c29 k29, g__law_same := PySem.W.mg_of X G a30, F__law_same := fun_mk (st := s__law_same) l30 c30 k30, g_law := PySem.W.mg_of X G a31, F_law := fun_mk (st := s_law) l31 c31 k31, q_Ratio := PySem.W.mg_of X G aCRatio, cls_Ratio := ⟨pCRatio, hCRatio, oCRatio, yCRatio⟩, ex := { cl_Ratio := ⟨pCRatio, hCRatio, oCRatio, yCRatio⟩, is_Ratio := ⟨lCRatio, spC, tkC, mCRatio⟩, n_Ratio_bottom := nRatio_bottom, n_Ratio_top := nRatio_top } }
  exact ⟨PySem.W.fnOf "law" "law" (defArgs s_law) (defBody s_law) (defScope s_law) .none kV31 dc31 pm31 an31 cd31 ct31, fun s v => .of_eq rfl, fun base _ _ => ok_law T⟩
end RP
open PySem PySem.W PyProof.Rows
set_option maxHeartbeats 0 in
theorem PySem.Challenge.cw_rootspan_k27_narrowed_holds : PySem.Challenge.rw_rootspan_k27_narrowed.Holds := by
  w_on; o_law; k_head; (case hw => w_witness2)
  k_fill
  refine L2.walk_of (l := PySem.Challenge.rw_rootspan_k27_narrowed) (n := 63) (k := 7) (x := "_law_script") (CX := fun _ => L2.CX0) (sp := fun w => RP.sp_law _ (fun _ => 0)) rfl (by decide) rfl ⟨rfl, by decide, by decide⟩ (fun w h Y => PySem.W.kIn_of Y) ?F (fun _ _ a ns hl _ hS => ⟨a, ns, rfl, hS, hl, fun _ => rfl⟩) (fun _ _ _ _ _ h => h)
  case F =>
    intro w mg fa h KX G hmg
    refine' RP.all_mk KX G hmg ?aCRatio ?kCRatio ?pCRatio ?hCRatio ?oCRatio ?yCRatio ?wCRatio ?lCRatio ?mCRatio ?nRatio_bottom ?nRatio_top ?a0 ?l0 ?c0 ?k0 ?a1 ?l1 ?c1 ?k1 ?a2 ?i2 ?l2 ?c2 ?k2 ?d2 ?a3 ?i3 ?l3 ?c3 ?k3 ?a4 ?i4 ?l4 ?c4 ?k4 ?a5 ?i5 ?l5 ?c5 ?k5 ?a6 ?i6 ?l6 ?c6 ?k6 ?a7 ?l7 ?c7 ?k7 ?a8 ?l8 ?c8 ?k8 ?a9 ?l9 ?c9 ?k9 ?a10 ?l10 ?c10 ?k10 ?a11 ?l11 ?c11 ?k11 ?a12 ?l12 ?c12 ?k12 ?a13 ?l13 ?c13 ?k13 ?a14 ?l14 ?c14 ?k14 ?a15 ?l15 ?c15 ?k15 ?a16 ?l16 ?c16 ?k16 ?a17 ?l17 ?c17 ?k17 ?a18 ?l18 ?c18 ?k18 ?a19 ?l19 ?c19 ?k19 ?a20 ?l20 ?c20 ?k20 ?a21 ?l21 ?c21 ?k21 ?a22 ?l22 ?c22 ?k22 ?a23 ?l23 ?c23 ?k23 ?a24 ?l24 ?c24 ?k24 ?a25 ?l25 ?c25 ?k25 ?a26 ?l26 ?c26 ?k26 ?a27 ?l27 ?c27 ?k27 ?a28 ?l28 ?c28 ?k28 ?a29 ?l29 ?c29 ?k29 ?a30 ?l30 ?c30 ?k30 ?a31 ?l31 ?c31 ?k31 ?spC ?tkC ?z_abs ?z_bool ?z_enumerate ?z_int ?z_isinstance ?z_len ?z_list ?z_range ?z_reversed ?z_tuple
    (case aCRatio => k_is); (case kCRatio => k_is); (case pCRatio => k_is); (case hCRatio => k_is); (case oCRatio => k_is); (case yCRatio => k_is); (case wCRatio => k_is); (case lCRatio => k_is); (case mCRatio => k_is); (case nRatio_bottom => k_is); (case nRatio_top => k_is); (case a0 => k_is); (case l0 => k_is); (case c0 => k_is); (case k0 => k_is); (case a1 => k_is); (case l1 => k_is); (case c1 => k_is); (case k1 => k_is); (case a2 => k_is); (case i2 => k_is); (case l2 => k_is); (case c2 => k_is); (case k2 => k_is); (case d2 => k_is); (case a3 => k_is); (case i3 => k_is); (case l3 => k_is); (case c3 => k_is); (case k3 => k_is); (case a4 => k_is); (case i4 => k_is); (case l4 => k_is); (case c4 => k_is); (case k4 => k_is); (case a5 => k_is); (case i5 => k_is); (case l5 => k_is); (case c5 => k_is); (case k5 => k_is); (case a6 => k_is); (case i6 => k_is); (case l6 => k_is); (case c6 => k_is); (case k6 => k_is); (case a7 => k_is); (case l7 => k_is); (case c7 => k_is); (case k7 => k_is); (case a8 => k_is); (case l8 => k_is); (case c8 => k_is); (case k8 => k_is); (case a9 => k_is); (case l9 => k_is); (case c9 => k_is); (case k9 => k_is); (case a10 => k_is); (case l10 => k_is); (case c10 => k_is); (case k10 => k_is); (case a11 => k_is); (case l11 => k_is); (case c11 => k_is); (case k11 => k_is); (case a12 => k_is); (case l12 => k_is); (case c12 => k_is); (case k12 => k_is); (case a13 => k_is); (case l13 => k_is); (case c13 => k_is); (case k13 => k_is); (case a14 => k_is); (case l14 => k_is); (case c14 => k_is); (case k14 => k_is); (case a15 => k_is); (case l15 => k_is); (case c15 => k_is); (case k15 => k_is); (case a16 => k_is); (case l16 => k_is); (case c16 => k_is); (case k16 => k_is); (case a17 => k_is); (case l17 => k_is); (case c17 => k_is); (case k17 => k_is); (case a18 => k_is); (case l18 => k_is); (case c18 => k_is); (case k18 => k_is); (case a19 => k_is); (case l19 => k_is); (case c19 => k_is); (case k19 => k_is); (case a20 => k_is); (case l20 => k_is); (case c20 => k_is); (case k20 => k_is); (case a21 => k_is); (case l21 => k_is); (case c21 => k_is); (case k21 => k_is); (case a22 => k_is); (case l22 => k_is); (case c22 => k_is); (case k22 => k_is); (case a23 => k_is); (case l23 => k_is); (case c23 => k_is); (case k23 => k_is); (case a24 => k_is); (case l24 => k_is); (case c24 => k_is); (case k24 => k_is); (case a25 => k_is); (case l25 => k_is); (case c25 => k_is); (case k25 => k_is); (case a26 => k_is); (case l26 => k_is); (case c26 => k_is); (case k26 => k_is); (case a27 => k_is); (case l27 => k_is); (case c27 => k_is); (case k27 => k_is); (case a28 => k_is); (case l28 => k_is); (case c28 => k_is); (case k28 => k_is); (case a29 => k_is); (case l29 => k_is); (case c29 => k_is); (case k29 => k_is); (case a30 => k_is); (case l30 => k_is); (case c30 => k_is); (case k30 => k_is); (case a31 => k_is); (case l31 => k_is); (case c31 => k_is); (case k31 => k_is); (case spC => first | k_is | rfl | decide +kernel); (case tkC => first | k_is | rfl | decide +kernel); (case z_abs => k_is); (case z_bool => k_is); (case z_enumerate => k_is); (case z_int => k_is); (case z_isinstance => k_is); (case z_len => k_is); (case z_list => k_is); (case z_range => k_is); (case z_reversed => k_is); (case z_tuple => k_is)
